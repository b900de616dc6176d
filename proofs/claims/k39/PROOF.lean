import PyProof.Rows.All
import HandS.ForMost
import HandS.ForExc
import HandS.CallSlots
import HandS.Wide
import HandS.Deep
import HandS.TupMul
import HandS.TupAny
import HandS.IsInst
import HandS.Walk
import HandS.Zip
import KE.GoesEnum
import KE.GoesMore
import HandS.DictComp
import HandS.TupLen
import HandS.WordsDict
import KE.SortData
import KE.DataCmp
import HandS.GenBody
import HandS.GenYield
import HandS.GenCall
import HandS.GenList
import PyProof.Rows.Chain
import HandS.Iter
import HandS.Strs
import HandS.SetFor
import HandS.Dict
import HandS.More
import HandS.Conv
import PySem.Challenge.RW_meetwide_k39_news_tables_met
set_option Elab.async false
set_option linter.all false
set_option maxRecDepth 100000
/-! FwCore: tree values, the abstract store, how they lie over the hand layer's heap; denotations. -/
namespace Fw
open PySem PySem.Spec PyProof.Rows L2

/-- a value as a tree; ref n: the n-th mutable object of the store -/
inductive T where
  | non | bl (b : Bool) | int (i : Int) | str (x : Str) | tup (xs : List T) | lst (xs : List T) | dic (kvs : List (T × T))
  | ref (n : Nat) | ty (n : String) | own (x : Str) | obj (c : Str) (fs : List (Str × T))
  /-- the script -/
  | scr (ns : List Int)
/-- a mutable object -/
inductive Cell where
  | lst (xs : List T) | dic (kvs : List (T × T)) | ins (c : Str) (fs : List (Str × T))
abbrev Store := List (Option Cell)
abbrev Slots := List (Option T)
/-- an exception of a class of the module, with its fields -/
structure Exc where
  cls : Str
  fs : List (Str × T)
inductive Out (α : Type) where
  | ok (a : α) (S : Store) | exc (e : Exc) (S : Store) | bad
abbrev M (α : Type) := Store → Out α
def ret {α : Type} (a : α) : M α := fun S => .ok a S
def bad {α : Type} : M α := fun _ => .bad
def bnd {α β : Type} (m : M α) (k : α → M β) : M β := fun S => match m S with
  | .ok a S' => k a S'
  | .exc e S' => .exc e S'
  | .bad => .bad
theorem bnd_ok {α β : Type} {m : M α} {k : α → M β} {S S' : Store} {a : α} (h : m S = .ok a S') : bnd m k S = k a S' := by unfold bnd; rw [h]
theorem bnd_ret {α β : Type} (a : α) (k : α → M β) : bnd (ret a) k = k a := rfl
theorem bnd_bad {α β : Type} (k : α → M β) : bnd bad k = bad := rfl
theorem bnd_assoc {α β γ : Type} (m : M α) (k : α → M β) (l : β → M γ) : bnd (bnd m k) l = bnd m fun a => bnd (k a) l := by
  funext S
  unfold bnd
  cases m S <;> rfl

section
variable (K : PySem.W.Frag) (mg : Str → Option Value)

abbrev Gr := Addr → HO → Prop
/-- read as a tuple, a list -/
def RdT (g : Gr) (a : Addr) (vs : List V) : Prop := (g a (.tup vs) ∨ ∃ o, g a (.frz o (.tup vs))) ∨
  ∃ (o : Obj) (its : Array Value) (n : Nat), K.lookup a = some o ∧ o.cls = .type "tuple" ∧ o.data = .seq its n ∧ its.size ≤ sizeLine ∧ Vals vs its.toList
/-- the script: locked, or one of the module's own lists -/
def RdS (g : Gr) (a : Addr) (vs : List V) : Prop := (∃ o, g a (.frz o (.lst vs))) ∨
  ∃ (o : Obj) (its : Array Value) (n : Nat), K.lookup a = some o ∧ o.cls = .type "list" ∧ o.dict = none ∧ o.data = .seq its n ∧ its.size ≤ sizeLine ∧ Vals vs its.toList
def keyT : Key → T
  | .inl i => .int i
  | .inr x => .str x

mutual
inductive Rep (g : Gr) (φ : List Addr) : V → T → Prop
  | non : Rep g φ .non .non
  | bl (b : Bool) : Rep g φ (.bl b) (.bl b)
  | int (i : Int) : Rep g φ (.int i) (.int i)
  | str (x : Str) : Rep g φ (.str x) (.str x)
  | ty (n : String) : Rep g φ (.ty n) (.ty n)
  | tup {a : Addr} {vs : List V} {ts : List T} : RdT K g a vs → RepAll g φ vs ts → ts.length ≤ sizeLine → Rep g φ (.ref a) (.tup ts)
  | lst {a : Addr} {vs : List V} {ts : List T} : g a (.lst vs) → RepAll g φ vs ts → ts.length ≤ sizeLine → Rep g φ (.ref a) (.lst ts)
  | scr {a : Addr} {ns : List Int} : RdS K g a (ns.map V.int) → ns.length ≤ 63 → Rep g φ (.ref a) (.scr ns)
  | dicK {a : Addr} {kvs : List (Key × V)} {qs : List (T × T)} : g a (.dK kvs) → RepK g φ kvs qs → qs.length ≤ sizeLine → Rep g φ (.ref a) (.dic qs)
  | dicT {a : Addr} {kvs : List (List Key × V)} {qs : List (T × T)} : g a (.dT kvs) → RepKT g φ kvs qs → qs.length ≤ sizeLine → Rep g φ (.ref a) (.dic qs)
  | ref {n : Nat} {a : Addr} : φ[n]? = some a → Rep g φ (.ref a) (.ref n)
  | own {x : Str} {a : Addr} : mg x = some (.ref a) → Rep g φ (.ref a) (.own x)
  | obj {a C dx : Addr} {c : Str} {fs : List (Str × V)} {qs : List (Str × T)} : mg c = some (.ref C) → g a (.ins C dx fs) → g dx (.own a) → RepF g φ fs qs → Rep g φ (.ref a) (.obj c qs)
inductive RepAll (g : Gr) (φ : List Addr) : List V → List T → Prop
  | nil : RepAll g φ [] []
  | cons {v : V} {vs : List V} {t : T} {ts : List T} : Rep g φ v t → RepAll g φ vs ts → RepAll g φ (v :: vs) (t :: ts)
inductive RepK (g : Gr) (φ : List Addr) : List (Key × V) → List (T × T) → Prop
  | nil : RepK g φ [] []
  | cons {k : Key} {v : V} {vs : List (Key × V)} {t : T} {ts : List (T × T)} : Rep g φ v t → RepK g φ vs ts → RepK g φ ((k, v) :: vs) ((keyT k, t) :: ts)
inductive RepKT (g : Gr) (φ : List Addr) : List (List Key × V) → List (T × T) → Prop
  | one {k : List Key} {v : V} {t : T} : Rep g φ v t → RepKT g φ [(k, v)] [(.tup (k.map keyT), t)]
  | cons {k : List Key} {v : V} {vs : List (List Key × V)} {t : T} {ts : List (T × T)} : Rep g φ v t → RepKT g φ vs ts → RepKT g φ ((k, v) :: vs) ((.tup (k.map keyT), t) :: ts)
inductive RepF (g : Gr) (φ : List Addr) : List (Str × V) → List (Str × T) → Prop
  | nil : RepF g φ [] []
  | cons {f : Str} {v : V} {vs : List (Str × V)} {t : T} {ts : List (Str × T)} : Rep g φ v t → RepF g φ vs ts → RepF g φ ((f, v) :: vs) ((f, t) :: ts)
end
end

section
variable {K : PySem.W.Frag} {mg : Str → Option Value} {g g' : Gr} {φ φ' : List Addr}
theorem RdT.mono {a : Addr} {vs : List V} (h : RdT K g a vs) (k : ∀ b o, g b o → g' b o) : RdT K g' a vs := by
  rcases h with (h | ⟨o, h⟩) | h
  · exact .inl (.inl (k _ _ h))
  · exact .inl (.inr ⟨o, k _ _ h⟩)
  · exact .inr h
theorem RdS.mono {a : Addr} {vs : List V} (h : RdS K g a vs) (k : ∀ b o, g b o → g' b o) : RdS K g' a vs := by
  rcases h with ⟨o, h⟩ | h
  · exact .inl ⟨o, k _ _ h⟩
  · exact .inr h
theorem pre_get {n : Nat} {a : Addr} (h : φ[n]? = some a) (p : φ <+: φ') : φ'[n]? = some a := by
  obtain ⟨r, rfl⟩ := p
  have hl := (List.getElem?_eq_some_iff.mp h).1
  rw [List.getElem?_append_left hl]
  exact h
mutual
theorem Rep.mono (k : ∀ b o, g b o → g' b o) (p : φ <+: φ') : ∀ {v : V} {t : T}, Rep K mg g φ v t → Rep K mg g' φ' v t
  | _, _, .non => .non
  | _, _, .bl b => .bl b
  | _, _, .int i => .int i
  | _, _, .str x => .str x
  | _, _, .ty n => .ty n
  | _, _, .tup h r l => .tup (h.mono k) (RepAll.mono k p r) l
  | _, _, .lst h r l => .lst (k _ _ h) (RepAll.mono k p r) l
  | _, _, .scr h l => .scr (h.mono k) l
  | _, _, .dicK h r l => .dicK (k _ _ h) (RepK.mono k p r) l
  | _, _, .dicT h r l => .dicT (k _ _ h) (RepKT.mono k p r) l
  | _, _, .ref h => .ref (pre_get h p)
  | _, _, .own h => .own h
  | _, _, .obj h1 h2 h3 r => .obj h1 (k _ _ h2) (k _ _ h3) (RepF.mono k p r)
theorem RepAll.mono (k : ∀ b o, g b o → g' b o) (p : φ <+: φ') : ∀ {v : List V} {t : List T}, RepAll K mg g φ v t → RepAll K mg g' φ' v t
  | _, _, .nil => .nil
  | _, _, .cons h r => .cons (Rep.mono k p h) (RepAll.mono k p r)
theorem RepK.mono (k : ∀ b o, g b o → g' b o) (p : φ <+: φ') : ∀ {v : List (Key × V)} {t : List (T × T)}, RepK K mg g φ v t → RepK K mg g' φ' v t
  | _, _, .nil => .nil
  | _, _, .cons h r => .cons (Rep.mono k p h) (RepK.mono k p r)
theorem RepKT.mono (k : ∀ b o, g b o → g' b o) (p : φ <+: φ') : ∀ {v : List (List Key × V)} {t : List (T × T)}, RepKT K mg g φ v t → RepKT K mg g' φ' v t
  | _, _, .one h => .one (Rep.mono k p h)
  | _, _, .cons h r => .cons (Rep.mono k p h) (RepKT.mono k p r)
theorem RepF.mono (k : ∀ b o, g b o → g' b o) (p : φ <+: φ') : ∀ {v : List (Str × V)} {t : List (Str × T)}, RepF K mg g φ v t → RepF K mg g' φ' v t
  | _, _, .nil => .nil
  | _, _, .cons h r => .cons (Rep.mono k p h) (RepF.mono k p r)
end
theorem RepAll.length : ∀ {vs : List V} {ts : List T}, RepAll K mg g φ vs ts → vs.length = ts.length
  | _, _, .nil => rfl
  | _, _, .cons _ r => congrArg (· + 1) (RepAll.length r)
theorem RepAll.get : ∀ {vs : List V} {ts : List T} {i : Nat} {t : T}, RepAll K mg g φ vs ts → ts[i]? = some t → ∃ v, vs[i]? = some v ∧ Rep K mg g φ v t
  | _, _, _, _, .nil, e => by simp at e
  | _, _, 0, _, .cons h _, e => by simp at e; subst e; exact ⟨_, rfl, h⟩
  | _, _, i + 1, _, .cons _ r, e => by
    obtain ⟨v, h1, h2⟩ := RepAll.get (i := i) r (by simpa using e)
    exact ⟨v, by simpa using h1, h2⟩
theorem RepAll.getV : ∀ {vs : List V} {ts : List T} {i : Nat} {v : V}, RepAll K mg g φ vs ts → vs[i]? = some v → ∃ t, ts[i]? = some t ∧ Rep K mg g φ v t
  | _, _, _, _, .nil, e => by simp at e
  | _, _, 0, _, .cons h _, e => by simp at e; subst e; exact ⟨_, rfl, h⟩
  | _, _, i + 1, _, .cons _ r, e => by
    obtain ⟨v, h1, h2⟩ := RepAll.getV (i := i) r (by simpa using e)
    exact ⟨v, by simpa using h1, h2⟩
theorem RepAll.append : ∀ {vs ws : List V} {ts us : List T}, RepAll K mg g φ vs ts → RepAll K mg g φ ws us → RepAll K mg g φ (vs ++ ws) (ts ++ us)
  | _, _, _, _, .nil, s => s
  | _, _, _, _, .cons h r, s => .cons h (RepAll.append r s)
theorem RepAll.set {v : V} {t : T} (h : Rep K mg g φ v t) : ∀ {vs : List V} {ts : List T} (i : Nat), RepAll K mg g φ vs ts → RepAll K mg g φ (vs.set i v) (ts.set i t)
  | _, _, _, .nil => .nil
  | _, _, 0, .cons _ r => .cons h r
  | _, _, i + 1, .cons q r => .cons q (RepAll.set h i r)
theorem RepAll.take : ∀ {vs : List V} {ts : List T} (n : Nat), RepAll K mg g φ vs ts → RepAll K mg g φ (vs.take n) (ts.take n)
  | _, _, 0, _ => .nil
  | _, _, _ + 1, .nil => .nil
  | _, _, n + 1, .cons h r => .cons h (RepAll.take n r)
theorem RepAll.drop : ∀ {vs : List V} {ts : List T} (n : Nat), RepAll K mg g φ vs ts → RepAll K mg g φ (vs.drop n) (ts.drop n)
  | _, _, 0, r => r
  | _, _, _ + 1, .nil => .nil
  | _, _, n + 1, .cons _ r => RepAll.drop n r
theorem RepAll.reverse : ∀ {vs : List V} {ts : List T}, RepAll K mg g φ vs ts → RepAll K mg g φ vs.reverse ts.reverse
  | _, _, .nil => .nil
  | _, _, .cons h r => by
    rw [List.reverse_cons, List.reverse_cons]
    exact (RepAll.reverse r).append (.cons h .nil)
end

/-! ### the store over the heap -/
/-- b is a live mutable object -/
def Live (φ : List Addr) (S : Store) (b : Addr) : Prop := ∃ (n : Nat) (c : Cell), S[n]? = some (some c) ∧ φ[n]? = some b
/-- what stands still: tracked, not live, not hidden -/
def G (φ : List Addr) (S : Store) (Mk : List Addr) (H : Hp) : Gr := fun b o => H b = some o ∧ ¬ Live φ S b ∧ b ∉ Mk
section
variable (K : PySem.W.Frag) (mg : Str → Option Value)
def CellR (g : Gr) (φ : List Addr) (H : Hp) (a : Addr) : Cell → Prop
  | .lst ts => ts.length ≤ sizeLine ∧ ∃ vs, H a = some (.lst vs) ∧ RepAll K mg g φ vs ts
  | .dic qs => qs.length ≤ sizeLine ∧ ((∃ kvs, H a = some (.dK kvs) ∧ RepK K mg g φ kvs qs) ∨ (∃ kvs, H a = some (.dT kvs) ∧ RepKT K mg g φ kvs qs))
  | .ins c qs => ∃ C dx fs, mg c = some (.ref C) ∧ H a = some (.ins C dx fs) ∧ g dx (.own a) ∧ RepF K mg g φ fs qs
structure Rel (φ : List Addr) (S : Store) (Mk : List Addr) (H : Hp) : Prop where
  len : φ.length = S.length
  cell : ∀ (n : Nat) (c : Cell), S[n]? = some (some c) → ∃ a, φ[n]? = some a ∧ CellR K mg (G φ S Mk H) φ H a c
  inj : ∀ (n m : Nat) (a : Addr) (c c' : Cell), S[n]? = some (some c) → S[m]? = some (some c') → φ[n]? = some a → φ[m]? = some a → n = m
  msk : ∀ b ∈ Mk, (∃ o, H b = some o) ∧ ¬ Live φ S b
structure Step (φ : List Addr) (S : Store) (Mk : List Addr) (H : Hp) (φ' : List Addr) (S' : Store) (H' : Hp) : Prop where
  pre : φ <+: φ'
  keep : ∀ b o, G φ S Mk H b o → G φ' S' Mk H' b o
  msk : ∀ b ∈ Mk, H' b = H b
  rel : Rel K mg φ' S' Mk H'
structure SlotR (g : Gr) (φ : List Addr) (σ : L2.St) (τ : Slots) : Prop where
  len : σ.length = τ.length
  get : ∀ (i : Nat) (t : T), τ[i]? = some (some t) → ∃ v, σ[i]? = some (some v) ∧ Rep K mg g φ v t
/-- an exception in flight -/
def RepX (g : Gr) (φ : List Addr) (c : Value) (d : Option Addr) (e : Exc) : Prop :=
  ∃ C, mg e.cls = some (.ref C) ∧ c = .ref C ∧ ((e.fs = [] ∧ d = none) ∨ ∃ dd fs, d = some dd ∧ g dd (.xd fs) ∧ RepF K mg g φ fs e.fs)
end

section
variable {K : PySem.W.Frag} {mg : Str → Option Value} {φ φ' φ2 : List Addr} {S S' S2 : Store} {Mk : List Addr} {H H' H2 : Hp} {σ : L2.St} {τ : Slots} {a p : Addr} {o : HO} {v : V} {t : T}
theorem CellR.mono {g g' : Gr} {c : Cell} (h : CellR K mg g φ H a c) (k : ∀ b o, g b o → g' b o) (p : φ <+: φ') (e : H' a = H a) : CellR K mg g' φ' H' a c := by
  cases c with
  | lst ts => obtain ⟨l, vs, h1, h2⟩ := h; exact ⟨l, vs, e.trans h1, h2.mono k p⟩
  | dic qs =>
    obtain ⟨l, ⟨kvs, h1, h2⟩ | ⟨kvs, h1, h2⟩⟩ := h
    · exact ⟨l, .inl ⟨kvs, e.trans h1, h2.mono k p⟩⟩
    · exact ⟨l, .inr ⟨kvs, e.trans h1, h2.mono k p⟩⟩
  | ins c qs => obtain ⟨C, dx, fs, h1, h2, h3, h4⟩ := h; exact ⟨C, dx, fs, h1, e.trans h2, k _ _ h3, h4.mono k p⟩
theorem CellR.there {g : Gr} {c : Cell} (h : CellR K mg g φ H a c) : ∃ o, H a = some o := by
  cases c with
  | lst ts => obtain ⟨l, vs, h1, h2⟩ := h; exact ⟨_, h1⟩
  | dic qs =>
    obtain ⟨l, ⟨kvs, h1, h2⟩ | ⟨kvs, h1, h2⟩⟩ := h
    · exact ⟨_, h1⟩
    · exact ⟨_, h1⟩
  | ins c qs => obtain ⟨C, dx, fs, h1, h2, h3, h4⟩ := h; exact ⟨_, h2⟩
theorem Rel.live (R : Rel K mg φ S Mk H) (h : Live φ S a) : ∃ o, H a = some o := by
  obtain ⟨n, c, h1, h2⟩ := h
  obtain ⟨b, e, q⟩ := R.cell n c h1
  rw [h2] at e
  cases e
  exact q.there
theorem Step.refl (R : Rel K mg φ S Mk H) : Step K mg φ S Mk H φ S H := ⟨⟨[], by simp⟩, fun _ _ h => h, fun _ _ => rfl, R⟩
theorem Step.trans (s : Step K mg φ S Mk H φ' S' H') (u : Step K mg φ' S' Mk H' φ2 S2 H2) : Step K mg φ S Mk H φ2 S2 H2 :=
  ⟨s.pre.trans u.pre, fun b o h => u.keep b o (s.keep b o h), fun b hb => (u.msk b hb).trans (s.msk b hb), u.rel⟩
theorem Step.rep (s : Step K mg φ S Mk H φ' S' H') (h : Rep K mg (G φ S Mk H) φ v t) : Rep K mg (G φ' S' Mk H') φ' v t := h.mono s.keep s.pre
theorem Step.all {vs : List V} {ts : List T} (s : Step K mg φ S Mk H φ' S' H') (h : RepAll K mg (G φ S Mk H) φ vs ts) : RepAll K mg (G φ' S' Mk H') φ' vs ts := h.mono s.keep s.pre
theorem Step.slots (s : Step K mg φ S Mk H φ' S' H') (h : SlotR K mg (G φ S Mk H) φ σ τ) : SlotR K mg (G φ' S' Mk H') φ' σ τ :=
  ⟨h.len, fun i t e => let ⟨v, e1, r⟩ := h.get i t e; ⟨v, e1, s.rep r⟩⟩
theorem SlotR.mono {g g' : Gr} (h : SlotR K mg g φ σ τ) (k : ∀ b o, g b o → g' b o) (p : φ <+: φ') : SlotR K mg g' φ' σ τ :=
  ⟨h.len, fun i t e => let ⟨v, e1, r⟩ := h.get i t e; ⟨v, e1, r.mono k p⟩⟩
/-- a new object is laid, standing still -/
theorem Step.new (R : Rel K mg φ S Mk H) (hp : H p = none) : Step K mg φ S Mk H φ S (upd H p o) ∧ G φ S Mk (upd H p o) p o := by
  have nl : ¬ Live φ S p := fun h => by obtain ⟨o, e⟩ := R.live h; rw [hp] at e; cases e
  have nm : p ∉ Mk := fun h => by obtain ⟨⟨o, e⟩, _⟩ := R.msk p h; rw [hp] at e; cases e
  have kp : ∀ b u, G φ S Mk H b u → G φ S Mk (upd H p o) b u := fun b u ⟨h1, h2, h3⟩ => ⟨by rw [upd_ne (ne_of_none h1 hp)]; exact h1, h2, h3⟩
  refine ⟨⟨⟨[], by simp⟩, kp, fun b hb => upd_ne fun e => nm (e ▸ hb), ⟨R.len, fun n c h => ?_, R.inj, fun b hb => ?_⟩⟩, upd_same, nl, nm⟩
  · obtain ⟨a, e, q⟩ := R.cell n c h
    refine ⟨a, e, q.mono kp ⟨[], by simp⟩ (upd_ne fun z => ?_)⟩
    subst z
    exact nl ⟨n, c, h, e⟩
  · obtain ⟨⟨u, e⟩, q⟩ := R.msk b hb
    exact ⟨⟨u, (upd_ne (fun (z : b = p) => nm (z ▸ hb))).trans e⟩, q⟩
theorem live_push (hl : φ.length = S.length) {c : Cell} {b : Addr} : Live (φ ++ [p]) (S ++ [some c]) b ↔ Live φ S b ∨ b = p := by
  constructor
  · rintro ⟨n, c', h1, h2⟩
    by_cases hn : n < S.length
    · rw [List.getElem?_append_left hn] at h1
      rw [List.getElem?_append_left (by omega)] at h2
      exact .inl ⟨n, c', h1, h2⟩
    · by_cases e : n = S.length
      · subst e
        rw [← hl, List.getElem?_concat_length] at h2
        exact .inr (Option.some.inj h2).symm
      · rw [List.getElem?_eq_none (by simp; omega)] at h1
        cases h1
  · rintro (⟨n, c', h1, h2⟩ | rfl)
    · refine ⟨n, c', ?_, ?_⟩
      · rw [List.getElem?_append_left (List.getElem?_eq_some_iff.mp h1).1]; exact h1
      · rw [List.getElem?_append_left (List.getElem?_eq_some_iff.mp h2).1]; exact h2
    · exact ⟨S.length, c, List.getElem?_concat_length, by rw [← hl]; exact List.getElem?_concat_length⟩
/-- a new mutable object -/
theorem Step.alloc (R : Rel K mg φ S Mk H) (hp : H p = none) {c : Cell} (hc : ∀ g', (∀ b o, G φ S Mk H b o → g' b o) → CellR K mg g' (φ ++ [p]) (upd H p o) p c) : Step K mg φ S Mk H (φ ++ [p]) (S ++ [some c]) (upd H p o) := by
  have nl : ¬ Live φ S p := fun h => by obtain ⟨o, e⟩ := R.live h; rw [hp] at e; cases e
  have nm : p ∉ Mk := fun h => by obtain ⟨⟨o, e⟩, _⟩ := R.msk p h; rw [hp] at e; cases e
  have kp : ∀ b u, G φ S Mk H b u → G (φ ++ [p]) (S ++ [some c]) Mk (upd H p o) b u := fun b u ⟨h1, h2, h3⟩ => by
    have ne := ne_of_none h1 hp
    refine ⟨by rw [upd_ne ne]; exact h1, fun z => ?_, h3⟩
    rcases (live_push R.len).mp z with z | z
    · exact h2 z
    · exact ne z
  have pre : φ <+: φ ++ [p] := ⟨[p], rfl⟩
  refine ⟨pre, kp, fun b hb => upd_ne fun e => nm (e ▸ hb), ⟨by simp [R.len], fun n c' h => ?_, fun n m a c1 c2 h1 h2 e1 e2 => ?_, fun b hb => ?_⟩⟩
  · by_cases hn : n < S.length
    · rw [List.getElem?_append_left hn] at h
      obtain ⟨a, e, q⟩ := R.cell n c' h
      refine ⟨a, pre_get e pre, q.mono kp pre (upd_ne fun z => ?_)⟩
      subst z
      exact nl ⟨n, c', h, e⟩
    · have e : n = S.length := by
        have := (List.getElem?_eq_some_iff.mp h).1
        simp at this
        omega
      subst e
      rw [List.getElem?_concat_length] at h
      cases h
      exact ⟨p, by rw [← R.len]; exact List.getElem?_concat_length, hc _ kp⟩
  · by_cases hn : n < S.length
    · rw [List.getElem?_append_left hn] at h1
      rw [List.getElem?_append_left (by rw [R.len]; exact hn)] at e1
      by_cases hm : m < S.length
      · rw [List.getElem?_append_left hm] at h2
        rw [List.getElem?_append_left (by rw [R.len]; exact hm)] at e2
        exact R.inj n m a c1 c2 h1 h2 e1 e2
      · have em : m = S.length := by
          have := (List.getElem?_eq_some_iff.mp h2).1
          simp at this
          omega
        subst em
        rw [← R.len, List.getElem?_concat_length] at e2
        cases e2
        exact absurd ⟨n, c1, h1, e1⟩ nl
    · have en : n = S.length := by
        have := (List.getElem?_eq_some_iff.mp h1).1
        simp at this
        omega
      subst en
      rw [← R.len, List.getElem?_concat_length] at e1
      cases e1
      by_cases hm : m < S.length
      · rw [List.getElem?_append_left hm] at h2
        rw [List.getElem?_append_left (by rw [R.len]; exact hm)] at e2
        exact absurd ⟨m, c2, h2, e2⟩ nl
      · have := (List.getElem?_eq_some_iff.mp h2).1
        simp at this
        omega
  · obtain ⟨⟨u, e⟩, q⟩ := R.msk b hb
    refine ⟨⟨u, (upd_ne (fun (z : b = p) => nm (z ▸ hb))).trans e⟩, fun z => ?_⟩
    rcases (live_push R.len).mp z with z | z
    · exact q z
    · exact nm (z ▸ hb)
theorem live_set {n : Nat} {c c' : Cell} {b : Addr} (h : S[n]? = some (some c)) : Live φ (S.set n (some c')) b ↔ Live φ S b := by
  have hn := (List.getElem?_eq_some_iff.mp h).1
  constructor
  · rintro ⟨m, c2, h1, h2⟩
    by_cases e : n = m
    · subst e; exact ⟨n, c, h, h2⟩
    · rw [List.getElem?_set_ne e] at h1; exact ⟨m, c2, h1, h2⟩
  · rintro ⟨m, c2, h1, h2⟩
    by_cases e : n = m
    · subst e; exact ⟨n, c', List.getElem?_set_self hn, h2⟩
    · exact ⟨m, c2, by rw [List.getElem?_set_ne e]; exact h1, h2⟩
/-- a live object is written -/
theorem Step.write (R : Rel K mg φ S Mk H) {n : Nat} {c c' : Cell} (hs : S[n]? = some (some c)) (ha : φ[n]? = some a) (hc : ∀ g', (∀ b o, G φ S Mk H b o → g' b o) → CellR K mg g' φ (upd H a o) a c') : Step K mg φ S Mk H φ (S.set n (some c')) (upd H a o) := by
  have lv : Live φ S a := ⟨n, c, hs, ha⟩
  have nm : a ∉ Mk := fun h => (R.msk a h).2 lv
  have hn := (List.getElem?_eq_some_iff.mp hs).1
  have kp : ∀ b u, G φ S Mk H b u → G φ (S.set n (some c')) Mk (upd H a o) b u := fun b u ⟨h1, h2, h3⟩ =>
    ⟨by rw [upd_ne fun (z : b = a) => h2 (z ▸ lv)]; exact h1, fun z => h2 ((live_set hs).mp z), h3⟩
  refine ⟨⟨[], by simp⟩, kp, fun b hb => upd_ne fun e => nm (e ▸ hb), ⟨by simp [R.len], fun m c2 h => ?_, fun m k b c1 c2 h1 h2 e1 e2 => ?_, fun b hb => ?_⟩⟩
  · by_cases e : n = m
    · subst e
      rw [List.getElem?_set_self hn] at h
      cases h
      exact ⟨a, ha, hc _ kp⟩
    · rw [List.getElem?_set_ne e] at h
      obtain ⟨b, e1, q⟩ := R.cell m c2 h
      refine ⟨b, e1, q.mono kp ⟨[], by simp⟩ (upd_ne fun z => e ?_)⟩
      subst z
      exact R.inj n m b c c2 hs h ha e1
  · have q1 : ∃ c, S[m]? = some (some c) := by
      by_cases e : n = m
      · subst e; exact ⟨c, hs⟩
      · rw [List.getElem?_set_ne e] at h1; exact ⟨c1, h1⟩
    have q2 : ∃ c, S[k]? = some (some c) := by
      by_cases e : n = k
      · subst e; exact ⟨c, hs⟩
      · rw [List.getElem?_set_ne e] at h2; exact ⟨c2, h2⟩
    obtain ⟨d1, q1⟩ := q1
    obtain ⟨d2, q2⟩ := q2
    exact R.inj m k b d1 d2 q1 q2 e1 e2
  · obtain ⟨⟨u, e⟩, q⟩ := R.msk b hb
    exact ⟨⟨u, (upd_ne (fun (z : b = a) => nm (z ▸ hb))).trans e⟩, fun z => q ((live_set hs).mp z)⟩
end

/-! ### denotations -/
/-- what must hold behind a denotation's outcome -/
def Post {α β : Type} (K : PySem.W.Frag) (mg : Str → Option Value) (RR : Gr → List Addr → β → α → Prop) (φ : List Addr) (S : Store) (Mk : List Addr) (H : Hp) (o : Out α) (Wx : Value → Option Addr → Hp → Prop) (Q : β → Hp → Prop) : Prop :=
  match o with
  | .ok t S' => ∀ φ' v H', Step K mg φ S Mk H φ' S' H' → RR (G φ' S' Mk H') φ' v t → Q v H'
  | .exc e S' => ∀ φ' c d H', Step K mg φ S Mk H φ' S' H' → RepX K mg (G φ' S' Mk H') φ' c d e → Wx c d H'
  | .bad => False
/-- the reading of a denotation -/
def dn {α β : Type} (K : PySem.W.Frag) (mg : Str → Option Value) (RR : Gr → List Addr → β → α → Prop) (W : WX) (f : Slots → M α)  : L2.St → Hp → (β → Hp → Prop) → Prop := fun σ H Q =>
  ∃ φ S Mk τ, Rel K mg φ S Mk H ∧ SlotR K mg (G φ S Mk H) φ σ τ ∧ Post K mg RR φ S Mk H (f τ S) (fun c d H' => W c d σ H') Q
abbrev RB : Gr → List Addr → Bool → Bool → Prop := fun _ _ b c => b = c

section
variable {K : PySem.W.Frag} {mg : Str → Option Value} {α β γ δ : Type} {RR : Gr → List Addr → β → α → Prop} {RC : Gr → List Addr → δ → γ → Prop} {φ φ' : List Addr} {S S' : Store} {Mk : List Addr} {H H' : Hp} {o : Out α} {Wx : Value → Option Addr → Hp → Prop} {Q : β → Hp → Prop}
theorem Post.step (h : Post K mg RR φ S Mk H o Wx Q) (s : Step K mg φ S Mk H φ' S' H') : Post K mg RR φ' S' Mk H' o Wx Q := by
  cases o with
  | ok t S2 => exact fun φ2 v H2 u r => h φ2 v H2 (s.trans u) r
  | exc e S2 => exact fun φ2 c d H2 u r => h φ2 c d H2 (s.trans u) r
  | bad => exact h
theorem Post.ok {t : α} {v : β} (h : Post K mg RR φ S Mk H (.ok t S') Wx Q) (s : Step K mg φ S Mk H φ' S' H') (r : RR (G φ' S' Mk H') φ' v t) : Q v H' := h φ' v H' s r
theorem Post.here {t : α} {v : β} (h : Post K mg RR φ S Mk H (.ok t S) Wx Q) (R : Rel K mg φ S Mk H) (r : RR (G φ S Mk H) φ v t) : Q v H := h φ v H (Step.refl R) r
/-- a part, then the rest -/
theorem Post.bnd {m : M α} {k : α → M γ} {Qc : δ → Hp → Prop} (R : Rel K mg φ S Mk H) (h : Post K mg RC φ S Mk H (Fw.bnd m k S) Wx Qc) :
    Post K mg RR φ S Mk H (m S) Wx (fun x H1 => ∃ φ1 S1 t, Step K mg φ S Mk H φ1 S1 H1 ∧ RR (G φ1 S1 Mk H1) φ1 x t ∧ m S = .ok t S1 ∧ Post K mg RC φ1 S1 Mk H1 (k t S1) Wx Qc) := by
  unfold Fw.bnd at h
  cases e : m S with
  | ok t S1 =>
    rw [e] at h
    intro φ' v H' s r
    exact ⟨φ', S1, t, s, r, rfl, h.step s⟩
  | exc e1 S1 =>
    rw [e] at h
    exact h
  | bad =>
    rw [e] at h
    exact h
/-- .. of a reading -/
theorem dn_bnd {W : WX} {f : Slots → M α} {k : Slots → α → M γ} {σ : L2.St} {Qc : δ → Hp → Prop} (h : dn K mg RC W (fun τ => Fw.bnd (f τ) (k τ)) σ H Qc) :
    dn K mg RR W f σ H (fun x H1 => ∃ φ S Mk τ t, Rel K mg φ S Mk H1 ∧ SlotR K mg (G φ S Mk H1) φ σ τ ∧ RR (G φ S Mk H1) φ x t ∧ Post K mg RC φ S Mk H1 (k τ t S) (fun c d H' => W c d σ H') Qc) := by
  obtain ⟨φ, S, Mk, τ, R, sl, h⟩ := h
  refine ⟨φ, S, Mk, τ, R, sl, ?_⟩
  have q := Post.bnd (RR := RR) R h
  revert q
  cases f τ S with
  | ok t S1 =>
    intro q φ' v H' s r
    obtain ⟨φ1, S1, t', s1, r1, _, p⟩ := q φ' v H' s r
    exact ⟨φ1, S1, Mk, τ, t', s1.rel, s1.slots sl, r1, p⟩
  | exc e S1 => exact fun q => q
  | bad => exact fun q => q
end
end Fw

namespace Fw
open PySem PySem.Spec PyProof.Rows L2
section
variable {K : PySem.W.Frag} {mg : Str → Option Value} {α β γ δ : Type} {RR : Gr → List Addr → β → α → Prop} {RC : Gr → List Addr → δ → γ → Prop} {φ φ' : List Addr} {S S' : Store} {Mk : List Addr} {H H' : Hp} {o : Out α} {Wx : Value → Option Addr → Hp → Prop} {Q Q' : β → Hp → Prop}
theorem Post.mono (h : Post K mg RR φ S Mk H o Wx Q) (hq : ∀ x H1, Q x H1 → Q' x H1) : Post K mg RR φ S Mk H o Wx Q' := by
  cases o with
  | ok t S2 => exact fun φ2 v H2 u r => hq _ _ (h φ2 v H2 u r)
  | exc e S2 => exact h
  | bad => exact h
/-- a part, then the rest: what is to be shown of the part -/
theorem Post.part {m : M α} {k : α → M γ} {Qc : δ → Hp → Prop} (R : Rel K mg φ S Mk H) (h : Post K mg RC φ S Mk H (Fw.bnd m k S) Wx Qc)
    (go : ∀ φ1 S1 H1 x t, Step K mg φ S Mk H φ1 S1 H1 → RR (G φ1 S1 Mk H1) φ1 x t → Post K mg RC φ1 S1 Mk H1 (k t S1) Wx Qc → Q x H1) : Post K mg RR φ S Mk H (m S) Wx Q :=
  (Post.bnd R h).mono fun x H1 ⟨φ1, S1, t, s, r, _, p⟩ => go φ1 S1 H1 x t s r p
end
/-- the readings of this layer -/
abbrev dT (X : Cx) (W : WX) (f : Slots → M T) : TE := dn X.K X.mg (Rep X.K X.mg) W f
abbrev dA (X : Cx) (W : WX) (f : Slots → M (List T)) : TA := dn X.K X.mg (RepAll X.K X.mg) W f
abbrev dB (X : Cx) (W : WX) (f : Slots → M Bool) : TT := dn X.K X.mg RB W f
theorem PE.weak {X : Cx} {e : Expr} {t t' : TE} (h : PE X e t) (w : ∀ σ H Q, t' σ H Q → t σ H Q) : PE X e t' := ⟨fun pins s σ H Q I q => h.run pins s σ H Q I (w σ H Q q)⟩
theorem PT.weak {X : Cx} {e : Expr} {t t' : TT} (h : PT X e t) (w : ∀ σ H Q, t' σ H Q → t σ H Q) : PT X e t' := ⟨fun pins s σ H Q I q => h.run pins s σ H Q I (w σ H Q q)⟩
theorem PW.weak {X : Cx} {e : Expr} {t t' : TT} (h : PW X e t) (w : ∀ σ H Q, t' σ H Q → t σ H Q) : PW X e t' := ⟨fun whole pins s σ H Q I q => h.run whole pins s σ H Q I (w σ H Q q)⟩
theorem PA.weak {X : Cx} {e : List Expr} {t t' : TA} (h : PA X e t) (w : ∀ σ H Q, t' σ H Q → t σ H Q) : PA X e t' := ⟨fun pos pins s σ H Q I q => h.run pos pins s σ H Q I (w σ H Q q)⟩
theorem PS.weak {X : Cx} {e : Stmt} {t t' : TS} (h : PS X e t) (w : ∀ D σ H, t' D σ H → t D σ H) : PS X e t' := ⟨fun pins s σ H Q I q => h.run pins s σ H Q I (w Q σ H q)⟩
theorem PSs.weak {X : Cx} {e : List Stmt} {t t' : TS} (h : PSs X e t) (w : ∀ D σ H, t' D σ H → t D σ H) : PSs X e t' := ⟨fun pins s σ H Q I q => h.run pins s σ H Q I (w Q σ H q)⟩
theorem PE.or {X : Cx} {e : Expr} {t t' : TE} (h : PE X e t) (h' : PE X e t') : PE X e (fun σ H Q => t σ H Q ∨ t' σ H Q) := ⟨fun pins s σ H Q I q => q.elim (h.run pins s σ H Q I) (h'.run pins s σ H Q I)⟩

/-! ### values by their trees, mutable ones by the store -/
def res (S : Store) : T → T
  | .ref n => match S[n]? with
    | some (some (.lst xs)) => .lst xs
    | some (some (.dic q)) => .dic q
    | some (some (.ins c q)) => .obj c q
    | _ => .ref n
  | t => t
section
variable {K : PySem.W.Frag} {mg : Str → Option Value} {φ : List Addr} {S : Store} {Mk : List Addr} {H : Hp} {v : V} {t : T}
theorem rep_str {x : Str} (R : Rel K mg φ S Mk H) (h : Rep K mg (G φ S Mk H) φ v t) (e : res S t = .str x) : v = .str x := by
  cases h <;> first | (simp only [res] at e; cases e; rfl) | (simp only [res] at e; cases e) | (simp only [res] at e; split at e <;> cases e)
theorem rep_int {i : Int} (R : Rel K mg φ S Mk H) (h : Rep K mg (G φ S Mk H) φ v t) (e : res S t = .int i) : v = .int i := by
  cases h <;> first | (simp only [res] at e; cases e; rfl) | (simp only [res] at e; cases e) | (simp only [res] at e; split at e <;> cases e)
theorem rep_bl {b : Bool} (R : Rel K mg φ S Mk H) (h : Rep K mg (G φ S Mk H) φ v t) (e : res S t = .bl b) : v = .bl b := by
  cases h <;> first | (simp only [res] at e; cases e; rfl) | (simp only [res] at e; cases e) | (simp only [res] at e; split at e <;> cases e)
theorem rep_non (R : Rel K mg φ S Mk H) (h : Rep K mg (G φ S Mk H) φ v t) (e : res S t = .non) : v = .non := by
  cases h <;> first | (simp only [res] at e; cases e; rfl) | (simp only [res] at e; cases e) | (simp only [res] at e; split at e <;> cases e)
theorem RdT.sq {a : Addr} {vs : List V} (h : RdT K (G φ S Mk H) a vs) : SqT K H a vs := by
  rcases h with (h | ⟨o, h⟩) | h
  · exact .inl (.inl h.1)
  · exact .inl (.inr ⟨o, h.1⟩)
  · exact .inr h
theorem RdS.sq {a : Addr} {vs : List V} (h : RdS K (G φ S Mk H) a vs) : SqL K H a vs := by
  rcases h with ⟨o, h⟩ | h
  · exact .inl (.inr ⟨o, h.1⟩)
  · exact .inr h
theorem rep_tup {ts : List T} (R : Rel K mg φ S Mk H) (h : Rep K mg (G φ S Mk H) φ v t) (e : res S t = .tup ts) : ∃ a vs, v = .ref a ∧ SqT K H a vs ∧ RepAll K mg (G φ S Mk H) φ vs ts ∧ ts.length ≤ sizeLine := by
  cases h <;> first | (simp only [res] at e; cases e; done) | (simp only [res] at e; split at e <;> cases e; done) | skip
  case tup a vs ts' h r l =>
    simp only [res] at e
    cases e
    exact ⟨a, vs, rfl, h.sq, r, l⟩
theorem rep_lst {ts : List T} (R : Rel K mg φ S Mk H) (h : Rep K mg (G φ S Mk H) φ v t) (e : res S t = .lst ts) : ∃ a vs, v = .ref a ∧ H a = some (.lst vs) ∧ RepAll K mg (G φ S Mk H) φ vs ts ∧ ts.length ≤ sizeLine := by
  cases h <;> first | (simp only [res] at e; cases e; done) | skip
  case lst a vs ts' h r l =>
    simp only [res] at e
    cases e
    exact ⟨a, vs, rfl, h.1, r, l⟩
  case ref n a h =>
    simp only [res] at e
    split at e
    · rename_i xs hs
      cases e
      obtain ⟨b, e1, l, vs, h1, h2⟩ := R.cell n _ hs
      rw [h] at e1
      cases e1
      exact ⟨a, vs, rfl, h1, h2, l⟩
    · cases e
    · cases e
    · cases e
theorem rep_dic {qs : List (T × T)} (R : Rel K mg φ S Mk H) (h : Rep K mg (G φ S Mk H) φ v t) (e : res S t = .dic qs) : qs.length ≤ sizeLine ∧ ∃ a, v = .ref a ∧
    ((∃ kvs, H a = some (.dK kvs) ∧ RepK K mg (G φ S Mk H) φ kvs qs) ∨ (∃ kvs, H a = some (.dT kvs) ∧ RepKT K mg (G φ S Mk H) φ kvs qs)) := by
  cases h <;> first | (simp only [res] at e; cases e; done) | skip
  case dicK a kvs qs' h r l =>
    simp only [res] at e
    cases e
    exact ⟨l, a, rfl, .inl ⟨kvs, h.1, r⟩⟩
  case dicT a kvs qs' h r l =>
    simp only [res] at e
    cases e
    exact ⟨l, a, rfl, .inr ⟨kvs, h.1, r⟩⟩
  case ref n a h =>
    simp only [res] at e
    split at e
    · cases e
    · rename_i q hs
      cases e
      obtain ⟨b, e1, l, h1⟩ := R.cell n _ hs
      rw [h] at e1
      cases e1
      exact ⟨l, a, rfl, h1⟩
    · cases e
    · cases e
theorem rep_scr {ns : List Int} (R : Rel K mg φ S Mk H) (h : Rep K mg (G φ S Mk H) φ v t) (e : res S t = .scr ns) : ∃ a, v = .ref a ∧ SqL K H a (ns.map V.int) ∧ ns.length ≤ 63 := by
  cases h <;> first | (simp only [res] at e; cases e; done) | (simp only [res] at e; split at e <;> cases e; done) | skip
  case scr a ns' h l =>
    simp only [res] at e
    cases e
    exact ⟨a, rfl, h.sq, l⟩
theorem rep_ty {n : String} (R : Rel K mg φ S Mk H) (h : Rep K mg (G φ S Mk H) φ v t) (e : t = .ty n) : v = .ty n := by
  subst e
  cases h
  rfl
theorem rep_own {x : Str} (R : Rel K mg φ S Mk H) (h : Rep K mg (G φ S Mk H) φ v (.own x)) : ∃ a, v = .ref a ∧ mg x = some (.ref a) := by
  cases h with
  | own h => exact ⟨_, rfl, h⟩
end
end Fw
set_option Elab.async false
set_option linter.all false
set_option maxRecDepth 100000
/-! FwExpr: expressions' denotations: names, constants, operators, comparisons, tests, displays, subscripts, slices. -/
namespace Fw
open PySem PySem.Spec PyProof.Rows L2

/-! ### data -/
mutual
def data : T → PyData
  | .bl b => .bool b
  | .int i => .int i
  | .str x => .str x
  | .tup ts => .tuple (dataAll ts)
  | .lst ts => .list (dataAll ts)
  | .dic q => .dict (dataKv q)
  | _ => .none
def dataAll : List T → List PyData
  | [] => []
  | t :: ts => data t :: dataAll ts
def dataKv : List (T × T) → List (PyData × PyData)
  | [] => []
  | (a, b) :: r => (data a, data b) :: dataKv r
end
mutual
/-- nothing but data without dicts -/
def pureT : T → Bool
  | .non | .bl _ | .int _ | .str _ => true
  | .tup ts => pureAll ts
  | .lst ts => pureAll ts
  | _ => false
def pureAll : List T → Bool
  | [] => true
  | t :: ts => pureT t && pureAll ts
end
def shp (t : T) : Bool := pureT t && SeqAt.shaped (data t)
theorem dataAll_map : ∀ ts : List T, dataAll ts = ts.map data
  | [] => rfl
  | t :: ts => congrArg (data t :: ·) (dataAll_map ts)
theorem pureAll_all : ∀ ts : List T, pureAll ts = ts.all pureT
  | [] => rfl
  | t :: ts => congrArg (pureT t && ·) (pureAll_all ts)
section
variable {K : PySem.W.Frag} {mg : Str → Option Value} {φ : List Addr} {S : Store} {Mk : List Addr} {H : Hp}
theorem pureAll_cons {t : T} {ts : List T} (p : pureAll (t :: ts) = true) : pureT t = true ∧ pureAll ts = true := by
  unfold pureAll at p
  exact Bool.and_eq_true_iff.mp p
mutual
theorem Rep.dp : ∀ (t : T) (v : V), Rep K mg (G φ S Mk H) φ v t → pureT t = true → Dp K H v (data t)
  | .non, _, h, _ => by cases h; exact .non
  | .bl b, _, h, _ => by cases h; exact .bl b
  | .int i, _, h, _ => by cases h; exact .int i
  | .str x, _, h, _ => by cases h; exact .str x
  | .tup ts, _, h, p => by
    cases h with
    | tup h r l => exact .tup h.sq (RepAll.dp ts _ r (by unfold pureT at p; exact p))
  | .lst ts, _, h, p => by
    cases h with
    | lst h r l => exact .lst (.inl (.inl h.1)) (RepAll.dp ts _ r (by unfold pureT at p; exact p))
  | .dic _, _, _, p => by unfold pureT at p; cases p
  | .ref _, _, _, p => by unfold pureT at p; cases p
  | .ty _, _, _, p => by unfold pureT at p; cases p
  | .own _, _, _, p => by unfold pureT at p; cases p
  | .obj _ _, _, _, p => by unfold pureT at p; cases p
  | .scr _, _, _, p => by unfold pureT at p; cases p
theorem RepAll.dp : ∀ (ts : List T) (vs : List V), RepAll K mg (G φ S Mk H) φ vs ts → pureAll ts = true → DpAll K H vs (dataAll ts)
  | [], _, h, _ => by cases h; exact .nil
  | t :: ts, _, h, p => by
    cases h with
    | cons h r => exact .cons (Rep.dp t _ h (pureAll_cons p).1) (RepAll.dp ts _ r (pureAll_cons p).2)
end
/-- .. of a value by the store -/
theorem rep_dp {v : V} {t : T} (R : Rel K mg φ S Mk H) (h : Rep K mg (G φ S Mk H) φ v t) (p : pureT (res S t) = true) : Dp K H v (data (res S t)) := by
  have key : ∀ u, res S t = u → pureT u = true → Dp K H v (data u) := fun u e p => by
    cases u with
    | non => rw [rep_non R h e]; exact .non
    | bl b => rw [rep_bl R h e]; exact .bl b
    | int i => rw [rep_int R h e]; exact .int i
    | str x => rw [rep_str R h e]; exact .str x
    | tup ts =>
      obtain ⟨a, vs, rfl, hs, r, _⟩ := rep_tup R h e
      exact .tup hs (RepAll.dp ts vs r (by unfold pureT at p; exact p))
    | lst ts =>
      obtain ⟨a, vs, rfl, hs, r, _⟩ := rep_lst R h e
      exact .lst (.inl (.inl hs)) (RepAll.dp ts vs r (by unfold pureT at p; exact p))
    | _ => cases p
  exact key _ rfl p
end

/-! ### rules by values -/
def VOp1 (X : Cx) (f : Value → Sem Value) (g : T → M T) : Prop :=
  ∀ (pins : List (Addr × Obj)) (s : Shared) (σ : L2.St) (H : Hp) (x : V) (u : Value) (φ : List Addr) (S : Store) (Mk : List Addr) (t : T) (Wx : Value → Option Addr → Hp → Prop) (Q : VK), Inv X pins σ H s → RelV x u → Rel X.K X.mg φ S Mk H → Rep X.K X.mg (G φ S Mk H) φ x t →
    Post X.K X.mg (Rep X.K X.mg) φ S Mk H (g t S) Wx Q → wpAny (model X.prog X.w) X.A (f u) (EP X pins σ Q) X.xe s
def VOp2 (X : Cx) (f : Value → Value → Sem Value) (g : T → T → M T) : Prop :=
  ∀ (pins : List (Addr × Obj)) (s : Shared) (σ : L2.St) (H : Hp) (x y : V) (u v : Value) (φ : List Addr) (S : Store) (Mk : List Addr) (tx ty : T) (Wx : Value → Option Addr → Hp → Prop) (Q : VK), Inv X pins σ H s → RelV x u → RelV y v → Rel X.K X.mg φ S Mk H →
    Rep X.K X.mg (G φ S Mk H) φ x tx → Rep X.K X.mg (G φ S Mk H) φ y ty → Post X.K X.mg (Rep X.K X.mg) φ S Mk H (g tx ty S) Wx Q → wpAny (model X.prog X.w) X.A (f u v) (EP X pins σ Q) X.xe s
/-- a call of a value by values -/
def VCall (X : Cx) (f : Value) (g : List T → M T) : Prop :=
  ∀ (pins : List (Addr × Obj)) (s : Shared) (σ : L2.St) (H : Hp) (xs : List V) (us : List Value) (φ : List Addr) (S : Store) (Mk : List Addr) (ts : List T) (Wx : Value → Option Addr → Hp → Prop) (Q : VK), Inv X pins σ H s → Vals xs us → Rel X.K X.mg φ S Mk H →
    RepAll X.K X.mg (G φ S Mk H) φ xs ts → Post X.K X.mg (Rep X.K X.mg) φ S Mk H (g ts S) Wx Q → wpAny (model X.prog X.w) X.A (call f us) (EP X pins σ Q) X.xe s
/-- what the layer's readings get -/
def pk1 (X : Cx) (g : T → M T) : V → Hp → VK → Prop := fun x H Q => ∃ φ S Mk t Wx, Rel X.K X.mg φ S Mk H ∧ Rep X.K X.mg (G φ S Mk H) φ x t ∧ Post X.K X.mg (Rep X.K X.mg) φ S Mk H (g t S) Wx Q
def pk2 (X : Cx) (g : T → T → M T) : R2 := fun x y H Q => ∃ φ S Mk tx ty Wx, Rel X.K X.mg φ S Mk H ∧ Rep X.K X.mg (G φ S Mk H) φ x tx ∧ Rep X.K X.mg (G φ S Mk H) φ y ty ∧ Post X.K X.mg (Rep X.K X.mg) φ S Mk H (g tx ty S) Wx Q
def pkA (X : Cx) (g : List T → M T) : List V → Hp → VK → Prop := fun xs H Q => ∃ φ S Mk ts Wx, Rel X.K X.mg φ S Mk H ∧ RepAll X.K X.mg (G φ S Mk H) φ xs ts ∧ Post X.K X.mg (Rep X.K X.mg) φ S Mk H (g ts S) Wx Q
section
variable {X : Cx} {W : WX} {f1 : Value → Sem Value} {f2 : Value → Value → Sem Value} {fv : Value} {g1 : T → M T} {g2 : T → T → M T} {gA : List T → M T}
theorem VOp1.opr (h : VOp1 X f1 g1) : UnR X f1 (pk1 X g1) := fun pins s σ H x u Q I r ⟨φ, S, Mk, t, Wx, R, rt, p⟩ => h pins s σ H x u φ S Mk t Wx Q I r R rt p
theorem VOp2.opr (h : VOp2 X f2 g2) : OpR X f2 (pk2 X g2) := fun pins s σ H x y u v Q I r r' ⟨φ, S, Mk, tx, ty, Wx, R, rt, rt', p⟩ => h pins s σ H x y u v φ S Mk tx ty Wx Q I r r' R rt rt' p
theorem VCall.opr (h : VCall X fv gA) : CallR X fv (pkA X gA) := fun pins s σ H xs us Q I r ⟨φ, S, Mk, ts, Wx, R, rt, p⟩ => h pins s σ H xs us φ S Mk ts Wx Q I r R rt p
theorem VOp2.of {r : R2} (h : OpR X f2 r) (hr : ∀ (φ : List Addr) (S : Store) (Mk : List Addr) (H : Hp) (x y : V) (tx ty : T) (Wx : Value → Option Addr → Hp → Prop) (Q : VK), Rel X.K X.mg φ S Mk H → Rep X.K X.mg (G φ S Mk H) φ x tx → Rep X.K X.mg (G φ S Mk H) φ y ty →
    Post X.K X.mg (Rep X.K X.mg) φ S Mk H (g2 tx ty S) Wx Q → r x y H Q) : VOp2 X f2 g2 := fun pins s σ H x y u v φ S Mk tx ty Wx Q I r1 r2 R h1 h2 p => h pins s σ H x y u v Q I r1 r2 (hr φ S Mk H x y tx ty Wx Q R h1 h2 p)
theorem VCall.of {r : List V → Hp → VK → Prop} (h : CallR X fv r) (hr : ∀ (φ : List Addr) (S : Store) (Mk : List Addr) (H : Hp) (xs : List V) (ts : List T) (Wx : Value → Option Addr → Hp → Prop) (Q : VK), Rel X.K X.mg φ S Mk H → RepAll X.K X.mg (G φ S Mk H) φ xs ts →
    Post X.K X.mg (Rep X.K X.mg) φ S Mk H (gA ts S) Wx Q → r xs H Q) : VCall X fv gA := fun pins s σ H xs us φ S Mk ts Wx Q I r1 R h1 p => h pins s σ H xs us Q I r1 (hr φ S Mk H xs ts Wx Q R h1 p)
end

/-! ### denotations of expressions -/
def eVar (i : Nat) : Slots → M T := fun τ => match τ[i]? with
  | some (some t) => ret t
  | _ => bad
def eC (t : T) : Slots → M T := fun _ => ret t
def eBin (g : T → T → M T) (a b : Slots → M T) : Slots → M T := fun τ => bnd (a τ) fun x => bnd (b τ) fun y => g x y
def eUn (g : T → M T) (a : Slots → M T) : Slots → M T := fun τ => bnd (a τ) g
def eNil : Slots → M (List T) := fun _ => ret []
def eCons (a : Slots → M T) (r : Slots → M (List T)) : Slots → M (List T) := fun τ => bnd (a τ) fun x => bnd (r τ) fun xs => ret (x :: xs)
def eCall (g : List T → M T) (r : Slots → M (List T)) : Slots → M T := fun τ => bnd (r τ) g
def tB1 : T → M Bool
  | .bl b => ret b
  | _ => bad
/-- a test by a value that is a bool -/
def eB (a : Slots → M T) : Slots → M Bool := fun τ => bnd (a τ) tB1
def truT (t : T) : M Bool := fun S => match res S t with
  | .non => .ok false S
  | .bl b => .ok b S
  | .int i => .ok (i != 0) S
  | .str x => if x.length ≤ sizeLine then .ok ((x.length : Int) != 0) S else .bad
  | .lst xs => .ok (!xs.isEmpty) S
  | .tup xs => .ok (!xs.isEmpty) S
  | .scr xs => .ok (!xs.isEmpty) S
  | _ => .bad
/-- a test by a value's truth -/
def eTru (a : Slots → M T) : Slots → M Bool := fun τ => bnd (a τ) truT
def bAnd (a b : Slots → M Bool) : Slots → M Bool := fun τ => bnd (a τ) fun c => if c = true then b τ else ret false
def bOr (a b : Slots → M Bool) : Slots → M Bool := fun τ => bnd (a τ) fun c => if c = true then ret true else b τ
def bNot (a : Slots → M Bool) : Slots → M Bool := fun τ => bnd (a τ) fun c => ret (!c)
def eAnd (a b : Slots → M T) : Slots → M T := fun τ => bnd (a τ) fun x => bnd (tB1 x) fun c => if c = true then b τ else ret (.bl false)
def eOr (a b : Slots → M T) : Slots → M T := fun τ => bnd (a τ) fun x => bnd (tB1 x) fun c => if c = true then ret (.bl true) else b τ
def eNot (a : Slots → M T) : Slots → M T := fun τ => bnd (a τ) fun x => bnd (tB1 x) fun c => ret (.bl (!c))
def eIf (c : Slots → M Bool) (a b : Slots → M T) : Slots → M T := fun τ => bnd (c τ) fun b' => if b' = true then a τ else b τ
def mkTup (xs : List T) : M T := if xs.length ≤ sizeLine then ret (.tup xs) else bad
def mkLst (xs : List T) : M T := if xs.length ≤ sizeLine then ret (.lst xs) else bad
/-- a new mutable list -/
def mkRef (xs : List T) : M T := fun S => if xs.length ≤ sizeLine then .ok (.ref S.length) (S ++ [some (.lst xs)]) else .bad
def eTup (r : Slots → M (List T)) : Slots → M T := eCall mkTup r
def eLst (r : Slots → M (List T)) : Slots → M T := eCall mkLst r
def eRef (r : Slots → M (List T)) : Slots → M T := eCall mkRef r

section
variable {X : Cx} {W : WX} {a b c : Expr} {fa fb : Slots → M T} {fc : Slots → M Bool} {pos : Pos}
theorem pe_varF {i : Nat} {x : Str} (hN : X.N[i]? = some x := by rfl) (hv : Vis X.env.scope x := by first | exact Or.inl rfl | exact Or.inr (Or.inl rfl) | exact Or.inr (Or.inr rfl)) (hd : (x == ("__debug__" : Str)) = false := by decide)
    (hcd : (x == ("__classdict__" : Str)) = false := by decide) : PE X (.Name x pos) (dT X W (eVar i)) := by
  refine PE.weak (pe_var hN hv hd hcd) fun σ H Q ⟨φ, S, Mk, τ, R, sl, h⟩ => ?_
  unfold eVar at h
  cases e : τ[i]? with
  | none => rw [e] at h; exact h.elim
  | some o =>
    rw [e] at h
    cases o with
    | none => exact h.elim
    | some t =>
      obtain ⟨v, e1, r⟩ := sl.get i t e
      exact ⟨v, e1, Post.here (t := t) (v := v) h R r⟩
theorem pe_C {e : Expr} {v : V} {t : T} (h : PE X e (tC v)) (r : ∀ g φ, Rep X.K X.mg g φ v t) : PE X e (dT X W (eC t)) := PE.weak h fun σ H Q ⟨φ, S, Mk, τ, R, sl, h⟩ => Post.here (t := t) (v := v) h R (r _ _)
theorem pe_intF {i j} : PE X (.Constant (.int i) j pos) (dT X W (eC (.int i))) := pe_C pe_int fun _ _ => .int i
theorem pe_blF {i j} : PE X (.Constant (.bool i) j pos) (dT X W (eC (.bl i))) := pe_C pe_bl fun _ _ => .bl i
theorem pe_nonF {j} : PE X (.Constant .none j pos) (dT X W (eC .non)) := pe_C pe_non fun _ _ => .non
theorem pe_strF {i j} : PE X (.Constant (.str i) j pos) (dT X W (eC (.str i))) := pe_C pe_str fun _ _ => .str i
/-- a module's constant -/
theorem pe_globF {x : Str} {v : V} {u : Value} {t : T} (hg : Gl X x) (hm : X.mg x = some u) (r : RelV v u) (rt : ∀ g φ, Rep X.K X.mg g φ v t) (hd : (x == ("__debug__" : Str)) = false := by decide) : PE X (.Name x pos) (dT X W (eC t)) := pe_C (pe_glob hg hm r hd) rt
theorem pe_bltnF {x : Str} {v : V} {u : Value} {t : T} (hg : Gl X x) (hm : X.mg x = none) (hv : bootBuiltins x = some u) (r : RelV v u) (rt : ∀ g φ, Rep X.K X.mg g φ v t) (hn : x ≠ "__name__" := by decide) (hd : (x == ("__debug__" : Str)) = false := by decide) :
    PE X (.Name x pos) (dT X W (eC t)) := pe_C (pe_bltn hg hm hv r hn hd) rt
/-- two parts, then a rule by values -/
theorem two_parts {g : T → T → M T} (σ : L2.St) (H : Hp) (Q : VK) (h : dT X W (eBin g fa fb) σ H Q) : dT X W fa σ H fun x H1 => dT X W fb σ H1 fun y H2 => pk2 X g x y H2 Q := by
  obtain ⟨φ, S, Mk, τ, R, sl, h⟩ := h
  refine ⟨φ, S, Mk, τ, R, sl, Post.part R h fun φ1 S1 H1 x t s1 r1 p1 => ?_⟩
  refine ⟨φ1, S1, Mk, τ, s1.rel, s1.slots sl, Post.part s1.rel p1 fun φ2 S2 H2 y u s2 r2 p2 => ?_⟩
  exact ⟨φ2, S2, Mk, t, u, _, s2.rel, s2.rep r1, r2, p2⟩
theorem one_part {g : T → M T} (σ : L2.St) (H : Hp) (Q : VK) (h : dT X W (eUn g fa) σ H Q) : dT X W fa σ H fun x H1 => pk1 X g x H1 Q := by
  obtain ⟨φ, S, Mk, τ, R, sl, h⟩ := h
  exact ⟨φ, S, Mk, τ, R, sl, Post.part R h fun φ1 S1 H1 x t s1 r1 p1 => ⟨φ1, S1, Mk, t, _, s1.rel, r1, p1⟩⟩
theorem arg_part {g : List T → M T} {fr : Slots → M (List T)} (σ : L2.St) (H : Hp) (Q : VK) (h : dT X W (eCall g fr) σ H Q) : dA X W fr σ H fun x H1 => pkA X g x H1 Q := by
  obtain ⟨φ, S, Mk, τ, R, sl, h⟩ := h
  exact ⟨φ, S, Mk, τ, R, sl, Post.part R h fun φ1 S1 H1 x t s1 r1 p1 => ⟨φ1, S1, Mk, t, _, s1.rel, r1, p1⟩⟩
theorem pe_binF {op : Operator} {g : T → T → M T} (ho : VOp2 X (binaryOp op) g) (ha : PE X a (dT X W fa)) (hb : PE X b (dT X W fb)) : PE X (.BinOp a op b pos) (dT X W (eBin g fa fb)) := PE.weak (pe_op ho.opr ha hb) two_parts
theorem pe_unF {op : UnaryOp} {g : T → M T} (ho : VOp1 X (unaryOp op) g) (ha : PE X a (dT X W fa)) : PE X (.UnaryOp op a pos) (dT X W (eUn g fa)) := PE.weak (pe_un ho.opr ha) one_part
theorem pe_cmpF {op : CmpOp} {g : T → T → M T} (ho : VOp2 X (compareOp op) g) (ha : PE X a (dT X W fa)) (hb : PE X b (dT X W fb)) (hm : behindInMarks op b = false) : PE X (.Compare a [op] [b] pos) (dT X W (eBin g fa fb)) := PE.weak (pe_cmpR ho.opr ha hb hm) two_parts
theorem dT_mono {f : Slots → M T} {σ : L2.St} {H : Hp} {Q Q' : VK} (h : dT X W f σ H Q) (hq : ∀ x H1, Q x H1 → Q' x H1) : dT X W f σ H Q' := by
  obtain ⟨φ, S, Mk, τ, R, sl, h⟩ := h
  exact ⟨φ, S, Mk, τ, R, sl, h.mono hq⟩
theorem dA_mono {f : Slots → M (List T)} {σ : L2.St} {H : Hp} {Q Q' : List V → Hp → Prop} (h : dA X W f σ H Q) (hq : ∀ x H1, Q x H1 → Q' x H1) : dA X W f σ H Q' := by
  obtain ⟨φ, S, Mk, τ, R, sl, h⟩ := h
  exact ⟨φ, S, Mk, τ, R, sl, h.mono hq⟩
theorem eB_part (σ : L2.St) (H : Hp) (Q : Bool → Hp → Prop) (h : dB X W (eB fa) σ H Q) : dT X W fa σ H fun x H1 => ∃ c, x = .bl c ∧ Q c H1 := by
  obtain ⟨φ, S, Mk, τ, R, sl, h⟩ := h
  refine ⟨φ, S, Mk, τ, R, sl, Post.part R h fun φ1 S1 H1 x t s1 r1 p1 => ?_⟩
  cases t <;> first | exact p1.elim | skip
  case bl b =>
    cases r1
    exact ⟨b, rfl, Post.here (t := b) (v := b) p1 s1.rel rfl⟩
theorem pt_cmpF {op : CmpOp} {g : T → T → M T} (ho : VOp2 X (compareOp op) g) (ha : PE X a (dT X W fa)) (hb : PE X b (dT X W fb)) (hm : behindInMarks op b = false) : PT X (.Compare a [op] [b] pos) (dB X W (eB (eBin g fa fb))) :=
  PT.weak (pt_cmpR ho.opr ha hb hm) fun σ H Q h => two_parts' (eB_part σ H Q h)
where
  two_parts' {g : T → T → M T} {σ : L2.St} {H : Hp} {Q : VK} (h : dT X W (eBin g fa fb) σ H Q) : dT X W fa σ H fun x H1 => dT X W fb σ H1 fun y H2 => pk2 X g x y H2 Q := two_parts σ H Q h
theorem pt_valF {e : Expr} (h : PE X e (dT X W fa)) (he : ∀ whole, isTrue e X.env whole = (do let v ← whole; standAt e.pos; holding [v] (truthy v)) := by intro _; rfl) : PT X e (dB X W (eB fa)) := PT.weak (pt_val h he) eB_part
theorem pt_truF {e : Expr} (h : PE X e (dT X W fa)) (he : ∀ whole, isTrue e X.env whole = (do let v ← whole; standAt e.pos; holding [v] (truthy v)) := by intro _; rfl) : PT X e (dB X W (eTru fa)) := by
  refine PT.weak (pt_truth h he) fun σ H Q ⟨φ, S, Mk, τ, R, sl, h⟩ => ⟨φ, S, Mk, τ, R, sl, Post.part R h fun φ1 S1 H1 x t s1 r1 p1 => ?_⟩
  unfold truT at p1
  split at p1
  · rename_i e
    rw [rep_non s1.rel r1 e]
    exact ⟨false, rfl, Post.here (v := false) p1 s1.rel rfl⟩
  · rename_i b e
    rw [rep_bl s1.rel r1 e]
    exact ⟨b, rfl, Post.here (v := b) p1 s1.rel rfl⟩
  · rename_i i e
    rw [rep_int s1.rel r1 e]
    exact ⟨_, rfl, Post.here (v := i != 0) p1 s1.rel rfl⟩
  · rename_i y e
    rw [rep_str s1.rel r1 e]
    split at p1
    · rename_i hl
      exact ⟨_, ⟨hl, rfl⟩, Post.here (v := (y.length : Int) != 0) p1 s1.rel rfl⟩
    · exact p1.elim
  · rename_i ts e
    obtain ⟨p, vs, rfl, hs, r, _⟩ := rep_lst s1.rel r1 e
    refine ⟨!ts.isEmpty, .inl ⟨vs, .inl (.inl hs), ?_⟩, Post.here (v := !ts.isEmpty) p1 s1.rel rfl⟩
    cases r <;> rfl
  · rename_i ts e
    obtain ⟨p, vs, rfl, hs, r, _⟩ := rep_tup s1.rel r1 e
    refine ⟨!ts.isEmpty, .inr (.inl ⟨vs, hs, ?_⟩), Post.here (v := !ts.isEmpty) p1 s1.rel rfl⟩
    cases r <;> rfl
  · rename_i ns e
    obtain ⟨p, rfl, hs, _⟩ := rep_scr s1.rel r1 e
    refine ⟨!ns.isEmpty, .inl ⟨_, hs, ?_⟩, Post.here (v := !ns.isEmpty) p1 s1.rel rfl⟩
    cases ns <;> rfl
  · exact p1.elim
theorem dB_bind {f1 f2 : Slots → M Bool} {k : Slots → Bool → M Bool} {σ : L2.St} {H : Hp} {Q Q' : Bool → Hp → Prop} (h : dB X W (fun τ => bnd (f1 τ) (k τ)) σ H Q)
    (go : ∀ b H1, (∀ c, b = c → dB X W (fun τ => k τ c) σ H1 Q) → Q' b H1) : dB X W f1 σ H Q' := by
  obtain ⟨φ, S, Mk, τ, R, sl, h⟩ := h
  refine ⟨φ, S, Mk, τ, R, sl, Post.part R h fun φ1 S1 H1 x t s1 r1 p1 => go x H1 fun c e => ?_⟩
  have e2 : t = c := r1.symm.trans e
  subst e2
  exact ⟨φ1, S1, Mk, τ, s1.rel, s1.slots sl, p1⟩
theorem dB_ret {b : Bool} {σ : L2.St} {H : Hp} {Q : Bool → Hp → Prop} (h : dB X W (fun _ => ret b) σ H Q) : Q b H := by
  obtain ⟨φ, S, Mk, τ, R, sl, h⟩ := h
  exact Post.here (t := b) (v := b) h R rfl
variable {tA tB' : Slots → M Bool} {rest : List Expr}
theorem pw_andF (ha : PT X a (dB X W tA)) (hb : PW X (.BoolOp .And (b :: rest) pos) (dB X W tB')) : PW X (.BoolOp .And (a :: b :: rest) pos) (dB X W (bAnd tA tB')) := by
  refine PW.weak (pw_and ha hb) fun σ H Q h => dB_bind (f2 := tB') h fun c H1 k => ?_
  cases c with
  | true => exact k true rfl
  | false => exact dB_ret (k false rfl)
theorem pw_orF (ha : PT X a (dB X W tA)) (hb : PW X (.BoolOp .Or (b :: rest) pos) (dB X W tB')) : PW X (.BoolOp .Or (a :: b :: rest) pos) (dB X W (bOr tA tB')) := by
  refine PW.weak (pw_or ha hb) fun σ H Q h => dB_bind (f2 := tB') h fun c H1 k => ?_
  cases c with
  | true => exact dB_ret (k true rfl)
  | false => exact k false rfl
theorem pt_notF (ha : PT X a (dB X W tA)) : PT X (.UnaryOp .Not a pos) (dB X W (bNot tA)) := by
  refine PT.weak (pt_not ha) fun σ H Q h => dB_bind (f2 := tA) h fun c H1 k => ?_
  exact dB_ret (b := !c) (k c rfl)
/-- a bool, then the rest -/
theorem dT_bool {k : Slots → Bool → M T} {σ : L2.St} {H : Hp} {Q Q' : VK} (h : dT X W (fun τ => bnd (fa τ) fun x => bnd (tB1 x) (k τ)) σ H Q)
    (go : ∀ c H1, dT X W (fun τ => k τ c) σ H1 Q → Q' (.bl c) H1) : dT X W fa σ H Q' := by
  obtain ⟨φ, S, Mk, τ, R, sl, h⟩ := h
  refine ⟨φ, S, Mk, τ, R, sl, Post.part R h fun φ1 S1 H1 x t s1 r1 p1 => ?_⟩
  cases t <;> first | exact p1.elim | skip
  case bl b =>
    cases r1
    exact go b H1 ⟨φ1, S1, Mk, τ, s1.rel, s1.slots sl, p1⟩
theorem dT_ret {t : T} {v : V} {σ : L2.St} {H : Hp} {Q : VK} (h : dT X W (fun _ => ret t) σ H Q) (r : ∀ g φ, Rep X.K X.mg g φ v t) : Q v H := by
  obtain ⟨φ, S, Mk, τ, R, sl, h⟩ := h
  exact Post.here (t := t) (v := v) h R (r _ _)
theorem pe_andF (ha : PE X a (dT X W fa)) (hb : PE X (.BoolOp .And (b :: rest) pos) (dT X W fb)) : PE X (.BoolOp .And (a :: b :: rest) pos) (dT X W (eAnd fa fb)) := by
  refine PE.weak (pe_and ha hb) fun σ H Q h => dT_bool h fun c H1 k => ⟨c, rfl, ?_⟩
  cases c with
  | true => exact k
  | false => exact dT_ret (v := .bl false) k fun _ _ => .bl false
theorem pe_orF (ha : PE X a (dT X W fa)) (hb : PE X (.BoolOp .Or (b :: rest) pos) (dT X W fb)) : PE X (.BoolOp .Or (a :: b :: rest) pos) (dT X W (eOr fa fb)) := by
  refine PE.weak (pe_or ha hb) fun σ H Q h => dT_bool h fun c H1 k => ⟨c, rfl, ?_⟩
  cases c with
  | true => exact dT_ret (v := .bl true) k fun _ _ => .bl true
  | false => exact k
theorem pe_notF (ha : PE X a (dT X W fa)) : PE X (.UnaryOp .Not a pos) (dT X W (eNot fa)) := by
  refine PE.weak (pe_not ha) fun σ H Q h => dT_bool h fun c H1 k => ⟨c, rfl, ?_⟩
  exact dT_ret (v := .bl (!c)) k fun _ _ => .bl (!c)
theorem pe_ifF (hc : PT X c (dB X W fc)) (ha : PE X a (dT X W fa)) (hb : PE X b (dT X W fb)) : PE X (.IfExp c a b pos) (dT X W (eIf fc fa fb)) := by
  refine PE.weak (pe_ifExp hc ha hb) fun σ H Q h => ?_
  obtain ⟨φ, S, Mk, τ, R, sl, h⟩ := h
  refine ⟨φ, S, Mk, τ, R, sl, Post.part R h fun φ1 S1 H1 x t s1 r1 p1 => ?_⟩
  have e : x = t := r1
  subst e
  cases x with
  | true => exact ⟨φ1, S1, Mk, τ, s1.rel, s1.slots sl, p1⟩
  | false => exact ⟨φ1, S1, Mk, τ, s1.rel, s1.slots sl, p1⟩
/-! ### arguments, displays -/
variable {es : List Expr} {fr : Slots → M (List T)} {e : Expr}
theorem pa_nilF : PA X [] (dA X W eNil) := PA.weak pa_nil fun σ H Q ⟨φ, S, Mk, τ, R, sl, h⟩ => Post.here (t := ([] : List T)) (v := ([] : List V)) h R .nil
theorem pa_consF (he : PE X e (dT X W fa)) (hr : PA X es (dA X W fr)) (hs : starEach (e :: es) X.env = (false, eval e X.env) :: starEach es X.env := by rfl) : PA X (e :: es) (dA X W (eCons fa fr)) := by
  refine PA.weak (pa_cons he hr hs) fun σ H Q ⟨φ, S, Mk, τ, R, sl, h⟩ => ?_
  refine ⟨φ, S, Mk, τ, R, sl, Post.part R h fun φ1 S1 H1 x t s1 r1 p1 => ?_⟩
  refine ⟨φ1, S1, Mk, τ, s1.rel, s1.slots sl, Post.part s1.rel p1 fun φ2 S2 H2 xs ts s2 r2 p2 => ?_⟩
  exact Post.here (t := t :: ts) (v := x :: xs) p2 s2.rel (.cons (s2.rep r1) r2)
theorem pe_tupF {x1} (h : PA X es (dA X W fr)) : PE X (.Tuple es x1 pos) (dT X W (eTup fr)) := by
  refine PE.weak (pe_tup h) fun σ H Q hq => dA_mono (arg_part σ H Q hq) fun xs H1 ⟨φ, S, Mk, ts, Wx, R, r, p⟩ => ?_
  unfold mkTup at p
  split at p
  · rename_i hl
    refine ⟨by rw [r.length]; exact hl, fun q hq => ?_⟩
    obtain ⟨st, g⟩ := Step.new (o := .tup xs) R hq
    exact p.ok st (.tup (.inl (.inl g)) (st.all r) hl)
  · exact p.elim
theorem pe_lstF (h : PA X es (dA X W fr)) : PE X (.List es pos) (dT X W (eLst fr)) := by
  refine PE.weak (pe_lst h) fun σ H Q hq => dA_mono (arg_part σ H Q hq) fun xs H1 ⟨φ, S, Mk, ts, Wx, R, r, p⟩ => ?_
  unfold mkLst at p
  split at p
  · rename_i hl
    refine ⟨by rw [r.length]; exact hl, fun q hq => ?_⟩
    obtain ⟨st, g⟩ := Step.new (o := .lst xs) R hq
    exact p.ok st (.lst g (st.all r) hl)
  · exact p.elim
theorem pe_refF (h : PA X es (dA X W fr)) : PE X (.List es pos) (dT X W (eRef fr)) := by
  refine PE.weak (pe_lst h) fun σ H Q hq => dA_mono (arg_part σ H Q hq) fun xs H1 ⟨φ, S, Mk, ts, Wx, R, r, p⟩ => ?_
  unfold mkRef at p
  split at p
  · rename_i hl
    refine ⟨by rw [r.length]; exact hl, fun q hq => ?_⟩
    have st := Step.alloc (K := X.K) (mg := X.mg) (c := .lst ts) (o := .lst xs) R hq fun g' k => ⟨hl, xs, upd_same, r.mono k ⟨[q], rfl⟩⟩
    exact p.ok st (.ref (by rw [← R.len]; exact List.getElem?_concat_length))
  · exact p.elim
end
end Fw
set_option Elab.async false
set_option linter.all false
set_option maxRecDepth 100000
/-! FwTup: a tuple taken once or not at all. -/
namespace L2
open PySem PySem.Spec PyProof.Rows
theorem tuple_mulSame (l : Addr) (items : Array Value) (n : Nat) (dd : Option Addr) (sl : Array (Option Value)) (x : Int) (u : Tok) (c0 : (decide (x < -(2 ^ 63)) || decide (x ≥ 2 ^ 63)) = false) (c1 : (items.isEmpty || x == 1) = true) :
    Meets (Builtin.«tuple.__mul__» ⟨[.ref l, .int x u], []⟩) (fun _ R s => s.heap.get? l = some { cls := .type "tuple", dict := dd, data := .seq items n, slots := sl } ∧ R (.ok (.ret (Value.ref l))) s) :=
  .of_wp fun prog w A R s h => by
    obtain ⟨hp, g, d, tk, os⟩ := s
    obtain ⟨hl, h⟩ := h
    have f1 := AutoSeq1.idx_int
    wp_walk using wpAny_loadPart' hl
    repeat (first
      | (refine wpAny_ite_false (decide_eq_false (by rw [c0]; exact Bool.false_ne_true)) ?_; wp_walk using wpAny_loadPart' hl)
      | (refine wpAny_ite_true (decide_eq_true c1) ?_; wp_walk using wpAny_loadPart' hl))
    exact ⟨_, rfl, h⟩
theorem tuple_mulNone (l : Addr) (items : Array Value) (n : Nat) (dd : Option Addr) (sl : Array (Option Value)) (x : Int) (u : Tok) (c0 : (decide (x < -(2 ^ 63)) || decide (x ≥ 2 ^ 63)) = false) (c1 : (items.isEmpty || x == 1) = false) (c2 : (decide (x ≤ 0) || items.isEmpty) = true) :
    Meets (Builtin.«tuple.__mul__» ⟨[.ref l, .int x u], []⟩) (fun _ R s => s.heap.get? l = some { cls := .type "tuple", dict := dd, data := .seq items n, slots := sl } ∧
      R (.ok (.ret (Value.ref s.heap.objs.size))) { s with heap := s.heap.push { cls := Value.type "tuple", data := Data.seq #[] }, toks := s.toks }) :=
  .of_wp fun prog w A R s h => by
    obtain ⟨hp, g, d, tk, os⟩ := s
    obtain ⟨hl, h⟩ := h
    have f1 := AutoSeq1.idx_int
    wp_walk using wpAny_loadPart' hl
    repeat (first
      | (refine wpAny_ite_false (decide_eq_false (by rw [c0]; exact Bool.false_ne_true)) ?_; wp_walk using wpAny_loadPart' hl)
      | (refine wpAny_ite_false (decide_eq_false (by rw [c1]; exact Bool.false_ne_true)) ?_; wp_walk using wpAny_loadPart' hl)
      | (refine wpAny_ite_true (decide_eq_true c2) ?_; wp_walk using wpAny_loadPart' hl))
    exact ⟨_, rfl, h⟩
/-- t * k: any tuple, any small k -/
def rRepTA (K : PySem.W.Frag) : R2 := fun x y H Q => ∃ l k xs, x = .ref l ∧ y = .int k ∧ SqT K H l xs ∧ -1000 ≤ k ∧ k ≤ 1000 ∧ xs.length ≤ 1000 ∧ ((xs = [] ∨ k = 1) → Q (.ref l) H) ∧ ∀ p, H p = none → Q (.ref p) (upd H p (.tup (List.replicate k.toNat xs).flatten))
section
variable {X : Cx}
theorem op_repTA : OpR X (binaryOp .Mult) (rRepTA X.K) := by
  intro pins s σ H x y v u Q I rx ry h
  obtain ⟨l, k, xs, rfl, rfl, hT, h1, h2, hz, q0, q⟩ := h
  by_cases hk : xs ≠ [] ∧ 2 ≤ k
  · exact op_repT pins s σ H _ _ v u Q I rx ry ⟨l, k, xs, rfl, rfl, hT, hk.1, hk.2, h2, hz, q⟩
  have rx0 := rx
  have ry0 := ry
  cases rx
  obtain ⟨t, rfl⟩ := ry
  obtain ⟨its, r, ⟨⟨cls, dd, data, sl⟩, ho, hc, n, hd⟩, hs⟩ := I.tuple hT
  simp only at hc hd
  subst hc hd
  have hle : its.length = xs.length := r.length.symm
  have c0 : (decide (k < -(2 ^ 63)) || decide (k ≥ 2 ^ 63)) = false := by
    rw [decide_eq_false (by omega), decide_eq_false (by omega)] <;> rfl
  by_cases h0 : xs = [] ∨ k = 1
  · have c1 : (its.toArray.isEmpty || k == 1) = true := by
      rcases h0 with e | e
      · rw [e] at hle
        rw [List.eq_nil_of_length_eq_zero hle]
        rfl
      · rw [e]
        simp
    refine wpAny_binaryOp_repeat_ref (T := "tuple") (U := "int") (by decide) ⟨_, ho, rfl⟩ (fun s' => typeIs_int s' k t) noFill_tuple_mul F.fills_int_mul F.slot_int_rmul repeat_tuple F.slot_int_index.lookup
      (call_meets F.slot_int_rmul (typeIs_int s k t) F.entry_int_rmul (F.args_int_rmul_2 _ _) (int_rmul_tuple k t l its.toArray n dd sl)
        ⟨ho, rfl, ⟨_, ho, rfl⟩, call_meets F.slot_tuple_mul ⟨_, ho, rfl⟩ F.entry_tuple_mul (F.args_tuple_mul_2 _ _) (tuple_mulSame l its.toArray n dd sl k t c0 c1) ⟨ho, ?_⟩⟩)
    exact ⟨.ref l, H, I, rfl, q0 h0⟩
  · have hk0 : k ≤ 0 := by
      rcases Decidable.not_and_iff_or_not.1 hk with z | z
      · exact absurd (Or.inl (Decidable.not_not.1 z)) h0
      · have : k ≠ 1 := fun e => h0 (Or.inr e)
        omega
    have hn : its ≠ [] := fun e => h0 (Or.inl (by
      rw [e] at hle
      exact List.eq_nil_of_length_eq_zero hle.symm))
    have hi : its.toArray.isEmpty = false := by
      cases its with
      | nil => exact absurd rfl hn
      | cons a b => rfl
    have c1 : (its.toArray.isEmpty || k == 1) = false := by
      rw [hi, Bool.false_or]
      exact beq_eq_false_iff_ne.mpr (by omega)
    have c2 : (decide (k ≤ 0) || its.toArray.isEmpty) = true := by
      rw [decide_eq_true hk0]
      rfl
    refine wpAny_binaryOp_repeat_ref (T := "tuple") (U := "int") (by decide) ⟨_, ho, rfl⟩ (fun s' => typeIs_int s' k t) noFill_tuple_mul F.fills_int_mul F.slot_int_rmul repeat_tuple F.slot_int_index.lookup
      (call_meets F.slot_int_rmul (typeIs_int s k t) F.entry_int_rmul (F.args_int_rmul_2 _ _) (int_rmul_tuple k t l its.toArray n dd sl)
        ⟨ho, rfl, ⟨_, ho, rfl⟩, call_meets F.slot_tuple_mul ⟨_, ho, rfl⟩ F.entry_tuple_mul (F.args_tuple_mul_2 _ _) (tuple_mulNone l its.toArray n dd sl k t c0 c1 c2) ⟨ho, ?_⟩⟩)
    have e : (List.replicate k.toNat xs).flatten = [] := by
      rw [show k.toNat = 0 by omega]
      rfl
    rw [e] at q
    refine ⟨.ref s.heap.objs.size, _, I.laid (t' := s.toks) (o := .tup []) (fun b ob q => Heap.get?_push_of_some _ q) (Nat.le_refl _) ?_, rfl, q _ (I.hok.fresh (Nat.le_refl _))⟩
    exact ⟨Nat.zero_le _, [], .nil, IsTup.new _ _⟩
end
end L2
set_option Elab.async false
set_option linter.all false
set_option maxRecDepth 100000
/-! FwOps: operators and built-ins by values. -/
namespace Fw
open PySem PySem.Spec PyProof.Rows L2

section
variable {X : Cx}

/-! ### + - * // % ** -/
def addT (x y : T) : M T := fun S => match res S x, res S y with
  | .int i, .int j => .ok (.int (i + j)) S
  | .str a, .str b => if a.length + b.length ≤ sizeLine then .ok (.str (a ++ b)) S else .bad
  | .lst a, .lst b => if a.length + b.length ≤ sizeLine then .ok (.lst (a ++ b)) S else .bad
  | .tup a, .tup b => if a.length + b.length ≤ sizeLine then .ok (.tup (a ++ b)) S else .bad
  | _, _ => .bad
theorem v_add : VOp2 X (binaryOp .Add) addT := by
  intro pins s σ H x y u v φ S Mk tx ty Wx Q I r1 r2 R h1 h2 p
  unfold addT at p
  split at p
  · rename_i i j e1 e2
    rw [rep_int R h1 e1] at r1
    rw [rep_int R h2 e2] at r2
    exact op_add pins s σ H _ _ u v Q I r1 r2 ⟨i, j, rfl, rfl, Post.here (t := T.int (i + j)) p R (.int _)⟩
  · rename_i a b e1 e2
    rw [rep_str R h1 e1] at r1
    rw [rep_str R h2 e2] at r2
    split at p
    · rename_i hl
      exact op_add_str pins s σ H _ _ u v Q I r1 r2 ⟨a, b, rfl, rfl, hl, Post.here (t := T.str (a ++ b)) p R (.str _)⟩
    · exact p.elim
  · rename_i a b e1 e2
    obtain ⟨a1, vs1, rfl, g1, ra1, l1⟩ := rep_lst R h1 e1
    obtain ⟨a2, vs2, rfl, g2, ra2, l2⟩ := rep_lst R h2 e2
    split at p
    · rename_i hl
      refine op_cat pins s σ H _ _ u v Q I r1 r2 ⟨a1, a2, vs1, vs2, rfl, rfl, g1, g2, by rw [ra1.length, ra2.length]; exact hl, fun q hq => ?_⟩
      obtain ⟨st, g⟩ := Step.new (o := .lst (vs1 ++ vs2)) R hq
      exact Post.ok (t := T.lst (a ++ b)) p st (.lst g ((st.all ra1).append (st.all ra2)) (by rw [List.length_append]; exact hl))
    · exact p.elim
  · rename_i a b e1 e2
    obtain ⟨a1, vs1, rfl, g1, ra1, l1⟩ := rep_tup R h1 e1
    obtain ⟨a2, vs2, rfl, g2, ra2, l2⟩ := rep_tup R h2 e2
    split at p
    · rename_i hl
      have keep : ∀ {n : Addr} {vs : List V} {ts : List T} {t : T}, t = .tup ts → res S t = .tup ts → True := fun _ _ => trivial
      refine op_catA pins s σ H _ _ u v Q I r1 r2 ⟨a1, a2, vs1, vs2, rfl, rfl, g1, g2, by rw [ra1.length, ra2.length]; exact hl, fun z => ?_, fun z1 z => ?_, fun z1 z2 q hq => ?_⟩
      · subst z
        cases ra1
        have e3 : ty = .tup b := by
          cases ty <;> simp only [res] at e2 <;> first | exact e2 | (split at e2 <;> cases e2)
        rw [e3] at h2
        exact Post.here (t := T.tup ([] ++ b)) p R h2
      · subst z
        cases ra2
        have e3 : tx = .tup a := by
          cases tx <;> simp only [res] at e1 <;> first | exact e1 | (split at e1 <;> cases e1)
        rw [e3] at h1
        exact Post.here (t := T.tup (a ++ [])) p R (by rw [List.append_nil]; exact h1)
      · obtain ⟨st, g⟩ := Step.new (o := .tup (vs1 ++ vs2)) R hq
        exact Post.ok (t := T.tup (a ++ b)) p st (.tup (.inl (.inl g)) ((st.all ra1).append (st.all ra2)) (by rw [List.length_append]; exact hl))
    · exact p.elim
  · exact p.elim
/-- operators of two ints -/
def intOp (C : Int → Int → Prop) [∀ i j, Decidable (C i j)] (f : Int → Int → T) (x y : T) : M T := fun S => match res S x, res S y with
  | .int i, .int j => if C i j then .ok (f i j) S else .bad
  | _, _ => .bad
theorem v_intOp {C : Int → Int → Prop} [∀ i j, Decidable (C i j)] {f : Value → Value → Sem Value} {g : Int → Int → T} {gv : Int → Int → V} (h : OpR X f (rI C gv)) (hg : ∀ i j g' φ, Rep X.K X.mg g' φ (gv i j) (g i j)) : VOp2 X f (intOp C g) := by
  intro pins s σ H x y u v φ S Mk tx ty Wx Q I r1 r2 R h1 h2 p
  unfold intOp at p
  split at p
  · rename_i i j e1 e2
    rw [rep_int R h1 e1] at r1
    rw [rep_int R h2 e2] at r2
    split at p
    · rename_i hc
      exact h pins s σ H _ _ u v Q I r1 r2 ⟨i, j, rfl, rfl, hc, Post.here (t := g i j) p R (hg i j _ _)⟩
    · exact p.elim
  · exact p.elim
abbrev CT : Int → Int → Prop := fun _ _ => True
theorem rI_of0 {f : Value → Value → Sem Value} {gv : Int → Int → V} (h : OpR X f (rI0 gv)) : OpR X f (rI CT gv) := fun pins s σ H x y u v Q I r1 r2 ⟨i, j, e1, e2, _, q⟩ => h pins s σ H x y u v Q I r1 r2 ⟨i, j, e1, e2, q⟩
def subT : T → T → M T := intOp CT fun i j => .int (i - j)
theorem v_sub : VOp2 X (binaryOp .Sub) subT := v_intOp (rI_of0 op_sub) fun _ _ _ _ => .int _
abbrev CM : Int → Int → Prop := fun i j => i.natAbs.log2 + j.natAbs.log2 < 1000000
abbrev CD : Int → Int → Prop := fun _ j => 0 < j ∧ j.natAbs.log2 < 9000
abbrev CO : Int → Int → Prop := fun _ j => 0 < j
abbrev CP : Int → Int → Prop := fun i j => 0 ≤ j ∧ (Builtin.Int.intBits i : Int) * j ≤ 2 ^ 27
def fdivT : T → T → M T := intOp CD fun i j => .int (i / j)
theorem v_fdiv : VOp2 X (binaryOp .FloorDiv) fdivT := v_intOp (C := CD) op_fdivW fun _ _ _ _ => .int _
def modT : T → T → M T := intOp CO fun i j => .int (i % j)
theorem v_mod : VOp2 X (binaryOp .Mod) modT := v_intOp (C := CO) op_mod fun _ _ _ _ => .int _
def powT : T → T → M T := intOp CP fun i j => .int (i ^ j.toNat)
theorem op_powC : OpR X (binaryOp .Pow) (rI CP fun i j => .int (i ^ j.toNat)) := opI fun _ _ _ _ _ _ _ hc q => pow_int hc.1 hc.2 q
theorem v_pow : VOp2 X (binaryOp .Pow) powT := v_intOp (C := CP) op_powC fun _ _ _ _ => .int _
def strRep (x : Str) (n : Int) : Str := ⟨(List.replicate n.toNat x.cps.toList).flatten.toArray⟩
def mulT (x y : T) : M T := fun S => match res S x, res S y with
  | .int i, .int j => if CM i j then .ok (.int (i * j)) S else .bad
  | .str a, .int n => if 0 ≤ n ∧ n ≤ 1000 ∧ a.length ≤ 1000 then .ok (.str (strRep a n)) S else .bad
  | .lst a, .int n => if 0 ≤ n ∧ n ≤ 1000000 ∧ a.length * n.toNat ≤ sizeLine then .ok (.lst (List.replicate n.toNat a).flatten) S else .bad
  | .tup a, .int n => if -1000 ≤ n ∧ n ≤ 1000 ∧ a.length ≤ 1000 then .ok (.tup (List.replicate n.toNat a).flatten) S else .bad
  | _, _ => .bad
theorem foldl_cat (a : Array Nat) : ∀ (n : Nat) (acc : Array Nat), (List.replicate n a).foldl (· ++ ·) acc = (acc.toList ++ (List.replicate n a.toList).flatten).toArray
  | 0, acc => by simp
  | n + 1, acc => by
    rw [List.replicate_succ, List.foldl_cons, foldl_cat a n, List.replicate_succ, List.flatten_cons]
    simp
theorem RepAll.flat {K : PySem.W.Frag} {mg : Str → Option Value} {g : Gr} {φ : List Addr} {vs : List V} {ts : List T} (r : RepAll K mg g φ vs ts) : ∀ n : Nat, RepAll K mg g φ (List.replicate n vs).flatten (List.replicate n ts).flatten
  | 0 => .nil
  | n + 1 => by
    rw [List.replicate_succ, List.replicate_succ, List.flatten_cons, List.flatten_cons]
    exact r.append (RepAll.flat r n)
theorem len_flat {α : Type} (a : List α) : ∀ n : Nat, (List.replicate n a).flatten.length = n * a.length
  | 0 => by simp
  | n + 1 => by
    rw [List.replicate_succ, List.flatten_cons, List.length_append, len_flat a n, Nat.succ_mul, Nat.add_comm]
theorem res_tup_eq {S : Store} {t : T} {ts : List T} (e : res S t = .tup ts) : t = .tup ts := by
  cases t <;> first | exact e | (unfold res at e; dsimp only at e; split at e <;> cases e)
theorem v_mul : VOp2 X (binaryOp .Mult) mulT := by
  intro pins s σ H x y u v φ S Mk tx ty Wx Q I r1 r2 R h1 h2 p
  unfold mulT at p
  split at p
  · rename_i i j e1 e2
    rw [rep_int R h1 e1] at r1
    rw [rep_int R h2 e2] at r2
    split at p
    · rename_i hc
      exact op_mulW pins s σ H _ _ u v Q I r1 r2 ⟨i, j, rfl, rfl, hc, Post.here (t := T.int (i * j)) p R (.int _)⟩
    · exact p.elim
  · rename_i a n e1 e2
    rw [rep_str R h1 e1] at r1
    rw [rep_int R h2 e2] at r2
    split at p
    · rename_i hc
      obtain ⟨hn, hn2, hl⟩ := hc
      obtain ⟨t1, rfl⟩ := r1
      obtain ⟨t2, rfl⟩ := r2
      have q : Q (.str (strRep a n)) H := Post.here (t := T.str (strRep a n)) p R (.str _)
      have hrl : (strRep a n).length ≤ 1000000 := by
        show (strRep a n).cps.size ≤ _
        unfold strRep
        rw [List.size_toArray, len_flat]
        have : a.cps.toList.length ≤ 1000 := by rw [Array.length_toList]; exact hl
        calc n.toNat * a.cps.toList.length ≤ 1000 * 1000 := Nat.mul_le_mul (by omega) this
          _ = 1000000 := rfl
      refine PySem.P.mul_str (by rw [decide_eq_false (by omega), decide_eq_false (by omega)]; rfl) (fun h _ => ?_) (fun h _ => ?_) ?_
      · have h1 : (1000 : Int) * n ≤ 2 ^ 63 - 1 := by omega
        have h2 : (1000 : Int) ≤ (2 ^ 63 - 1) / n := (Int.le_ediv_iff_mul_le (by omega)).mpr h1
        omega
      · have : a.length * n.toNat ≤ 1000 * 1000 := Nat.mul_le_mul hl (by omega)
        unfold Builtin.Str.tooLong
        first | exact decide_eq_false (by rw [sizeLine_eq]; omega) | (rw [sizeLine_eq]; exact decide_eq_false (by omega)) | exact decide_eq_false (by omega)
      · by_cases hz : n < 1
        · rw [if_pos hz]
          have e0 : n = 0 := by omega
          subst e0
          exact ⟨by decide, ⟨.str Str.empty, H, I.tok _, ⟨_, rfl⟩, q⟩⟩
        · rw [if_neg hz]
          by_cases ho : (n == 1 || a.length == 0) = true
          · rw [if_pos ho]
            have e : strRep a n = a := by
              unfold strRep
              rcases Bool.or_eq_true_iff.mp ho with e | e
              · have e1 : n = 1 := by simpa using e
                subst e1
                show (⟨(List.replicate 1 a.cps.toList).flatten.toArray⟩ : Str) = a
                simp
              · have e1 : a.cps.toList = [] := by
                  have : a.cps.size = 0 := (by simpa using e : a.length = 0)
                  exact List.eq_nil_of_length_eq_zero (by rw [Array.length_toList]; exact this)
                have e2 : a.cps = #[] := by rw [← Array.toArray_toList (xs := a.cps), e1]
                cases a
                simp only at e2
                subst e2
                simp
            rw [e] at q
            exact ⟨.str a, H, I, ⟨t1, rfl⟩, q⟩
          · rw [if_neg ho]
            have e : (⟨(List.replicate n.toNat a.cps).foldl (· ++ ·) #[]⟩ : Str) = strRep a n := by
              unfold strRep
              rw [foldl_cat]
              simp
            rw [e]
            refine ⟨?_, ⟨.str (strRep a n), H, I.tok _, ⟨_, rfl⟩, q⟩⟩
            first | exact Nat.le_trans hrl (by decide) | (rw [sizeLine_eq]; omega) | trivial
    · exact p.elim
  · rename_i a n e1 e2
    obtain ⟨a1, vs1, rfl, g1, ra1, l1⟩ := rep_lst R h1 e1
    rw [rep_int R h2 e2] at r2
    split at p
    · rename_i hc
      obtain ⟨hn, hn2, hl⟩ := hc
      refine op_rep pins s σ H _ _ u v Q I r1 r2 ⟨a1, n, vs1, rfl, rfl, g1, by omega, by omega, by rw [ra1.length]; exact hl, fun q hq => ?_⟩
      obtain ⟨st, g⟩ := Step.new (o := .lst (List.replicate n.toNat vs1).flatten) R hq
      exact Post.ok (t := T.lst (List.replicate n.toNat a).flatten) p st (.lst g ((st.all ra1).flat _) (by rw [len_flat, Nat.mul_comm]; exact hl))
    · exact p.elim
  · rename_i a n e1 e2
    obtain ⟨a1, vs1, rfl, g1, ra1, l1⟩ := rep_tup R h1 e1
    rw [rep_int R h2 e2] at r2
    split at p
    · rename_i hc
      obtain ⟨hn, hn2, hl⟩ := hc
      refine op_repTA pins s σ H _ _ u v Q I r1 r2 ⟨a1, n, vs1, rfl, rfl, g1, hn, hn2, by rw [ra1.length]; exact hl, fun h0 => ?_, fun q hq => ?_⟩
      · have e : (List.replicate n.toNat a).flatten = a := by
          rcases h0 with e | e
          · rw [e] at ra1
            cases ra1
            simp
          · rw [e, show (1 : Int).toNat = 1 from rfl]
            simp
        rw [e] at p
        rw [res_tup_eq e1] at h1
        exact Post.ok (t := T.tup a) p (Step.refl R) h1
      obtain ⟨st, g⟩ := Step.new (o := .tup (List.replicate n.toNat vs1).flatten) R hq
      refine Post.ok (t := T.tup (List.replicate n.toNat a).flatten) p st (.tup (.inl (.inl g)) ((st.all ra1).flat _) ?_)
      rw [len_flat]
      have : n.toNat * a.length ≤ 1000 * 1000 := Nat.mul_le_mul (by omega) hl
      rw [sizeLine_eq]
      omega
    · exact p.elim
  · exact p.elim
def negT (x : T) : M T := fun S => match res S x with
  | .int i => .ok (.int (-i)) S
  | _ => .bad
theorem v_neg : VOp1 X (unaryOp .USub) negT := by
  intro pins s σ H x u φ S Mk t Wx Q I r1 R h1 p
  unfold negT at p
  split at p
  · rename_i i e
    rw [rep_int R h1 e] at r1
    exact un_neg pins s σ H _ u Q I r1 ⟨i, rfl, Post.here (t := T.int (-i)) p R (.int _)⟩
  · exact p.elim

/-! ### comparisons -/
def ltT (x y : T) : M T := fun S => match res S x, res S y with
  | .int i, .int j => .ok (.bl (decide (i < j))) S
  | .str a, .str b => .ok (.bl (decide (a.cps.toList < b.cps.toList))) S
  | _, _ => .bad
theorem v_lt : VOp2 X (compareOp .Lt) ltT := by
  intro pins s σ H x y u v φ S Mk tx ty Wx Q I r1 r2 R h1 h2 p
  unfold ltT at p
  split at p
  · rename_i i j e1 e2
    rw [rep_int R h1 e1] at r1
    rw [rep_int R h2 e2] at r2
    exact op_lt pins s σ H _ _ u v Q I r1 r2 ⟨i, j, rfl, rfl, Post.here (t := T.bl (decide (i < j))) p R (.bl _)⟩
  · rename_i a b e1 e2
    rw [rep_str R h1 e1] at r1
    rw [rep_str R h2 e2] at r2
    exact op_lt_str pins s σ H _ _ u v Q I r1 r2 ⟨a, b, rfl, rfl, Post.here (t := T.bl (decide (a.cps.toList < b.cps.toList))) p R (.bl _)⟩
  · exact p.elim
def leT : T → T → M T := intOp CT fun i j => .bl (decide (i ≤ j))
def gtT : T → T → M T := intOp CT fun i j => .bl (decide (j < i))
def geT : T → T → M T := intOp CT fun i j => .bl (decide (j ≤ i))
theorem v_le : VOp2 X (compareOp .LtE) leT := v_intOp (rI_of0 op_le) fun _ _ _ _ => .bl _
theorem v_gt : VOp2 X (compareOp .Gt) gtT := v_intOp (rI_of0 op_gt) fun _ _ _ _ => .bl _
theorem v_ge : VOp2 X (compareOp .GtE) geT := v_intOp (rI_of0 op_ge) fun _ _ _ _ => .bl _
/-- == of two scalars of one kind -/
def sclT : T → T → Option Bool
  | .str a, .str b => some (decide (a = b))
  | .int i, .int j => some (decide (i = j))
  | .bl i, .bl j => some (decide (i = j))
  | .non, .non => some true
  | _, _ => none
/-- == of data -/
def eqT (x y : T) : M T := fun S => match sclT (res S x) (res S y) with
  | some b => .ok (.bl b) S
  | none => if shp (res S x) = true ∧ shp (res S y) = true then .ok (.bl (PyData.eqv (data (res S x)) (data (res S y)))) S else .bad
def neT (x y : T) : M T := fun S => match sclT (res S x) (res S y) with
  | some b => .ok (.bl (!b)) S
  | none => if shp (res S x) = true ∧ shp (res S y) = true then .ok (.bl (!PyData.eqv (data (res S x)) (data (res S y)))) S else .bad
theorem shp_pure {t : T} (h : shp t = true) : pureT t = true := (Bool.and_eq_true_iff.mp h).1
theorem shp_sh {t : T} (h : shp t = true) : SeqAt.shaped (data t) = true := (Bool.and_eq_true_iff.mp h).2
theorem scl_of {K : PySem.W.Frag} {mg : Str → Option Value} {φ : List Addr} {S : Store} {Mk : List Addr} {H : Hp} {x y : V} {tx ty : T} {b : Bool} (R : Rel K mg φ S Mk H) (h1 : Rep K mg (G φ S Mk H) φ x tx) (h2 : Rep K mg (G φ S Mk H) φ y ty) (e : sclT (res S tx) (res S ty) = some b) :
    scal x y = true ∧ decide (x = y) = b := by
  unfold sclT at e
  split at e
  · rename_i a c e1 e2
    rw [rep_str R h1 e1, rep_str R h2 e2]
    cases e
    exact ⟨rfl, by rw [Bool.eq_iff_iff]; simp⟩
  · rename_i a c e1 e2
    rw [rep_int R h1 e1, rep_int R h2 e2]
    cases e
    exact ⟨rfl, by rw [Bool.eq_iff_iff]; simp⟩
  · rename_i a c e1 e2
    rw [rep_bl R h1 e1, rep_bl R h2 e2]
    cases e
    exact ⟨rfl, by rw [Bool.eq_iff_iff]; simp⟩
  · rename_i e1 e2
    rw [rep_non R h1 e1, rep_non R h2 e2]
    cases e
    exact ⟨rfl, by simp⟩
  · cases e
theorem v_eq (hu : X.A.units + 64 < cLine) : VOp2 X (compareOp .Eq) eqT := by
  intro pins s σ H x y u v φ S Mk tx ty Wx Q I r1 r2 R h1 h2 p
  unfold eqT at p
  split at p
  · rename_i b e
    obtain ⟨q1, q2⟩ := scl_of R h1 h2 e
    refine op_eq pins s σ H x y u v Q I r1 r2 ⟨q1, ?_⟩
    rw [q2]
    exact Post.here (v := .bl _) p R (.bl _)
  · split at p
    · rename_i hc
      exact op_eqD hu pins s σ H x y u v Q I r1 r2 ⟨_, _, rep_dp R h1 (shp_pure hc.1), rep_dp R h2 (shp_pure hc.2), shp_sh hc.1, shp_sh hc.2, Post.here (v := .bl _) p R (.bl _)⟩
    · exact p.elim
theorem v_ne (hu : X.A.units + 64 < cLine) : VOp2 X (compareOp .NotEq) neT := by
  intro pins s σ H x y u v φ S Mk tx ty Wx Q I r1 r2 R h1 h2 p
  unfold neT at p
  split at p
  · rename_i b e
    obtain ⟨q1, q2⟩ := scl_of R h1 h2 e
    refine op_ne pins s σ H x y u v Q I r1 r2 ⟨q1, ?_⟩
    rw [q2]
    exact Post.here (v := .bl _) p R (.bl _)
  · split at p
    · rename_i hc
      exact op_neD hu pins s σ H x y u v Q I r1 r2 ⟨_, _, rep_dp R h1 (shp_pure hc.1), rep_dp R h2 (shp_pure hc.2), shp_sh hc.1, shp_sh hc.2, Post.here (v := .bl _) p R (.bl _)⟩
    · exact p.elim

/-! ### in, not in, is None -/
def hasKey (qs : List (T × T)) (k : T) : Bool := qs.any fun q => PyData.eqv (data q.1) (data k)
def inT (neg : Bool) (x y : T) : M T := fun S => match res S x, res S y with
  | .str a, .str b => .ok (.bl (neg ^^ !(Builtin.Str.occurrences b a 0 b.length 1).isEmpty)) S
  | a, .lst ts => if shp a = true ∧ shp (.lst ts) = true then .ok (.bl (neg ^^ (ts.any fun z => PyData.eqv (data z) (data a)))) S else .bad
  | a, .tup ts => if shp a = true ∧ shp (.tup ts) = true then .ok (.bl (neg ^^ (ts.any fun z => PyData.eqv (data z) (data a)))) S else .bad
  | _, _ => .bad
theorem any_data (a : PyData) : ∀ ts : List T, (dataAll ts).any (fun z => PyData.eqv z a) = ts.any fun z => PyData.eqv (data z) a
  | [] => rfl
  | t :: ts => by rw [dataAll, List.any_cons, List.any_cons, any_data a ts]
theorem room_inD {d e : PyData} (h : SeqAt.shaped d = true) (hu : X.A.units + 65 < cLine) : X.A.units + 1 + min e.depth d.depth < cLine := by
  have h1 := SeqAt.depth_of_shaped h
  have h2 : min e.depth d.depth ≤ d.depth := Nat.min_le_right _ _
  omega
theorem v_in (hu : X.A.units + 65 < cLine) : VOp2 X (compareOp .In) (inT false) := by
  intro pins s σ H x y u v φ S Mk tx ty Wx Q I r1 r2 R h1 h2 p
  unfold inT at p
  split at p
  · rename_i a b e1 e2
    rw [rep_str R h1 e1] at r1
    rw [rep_str R h2 e2] at r2
    exact op_in_str pins s σ H _ _ u v Q I r1 r2 ⟨a, b, rfl, rfl, by simpa using Post.here (v := .bl _) p R (.bl _)⟩
  · rename_i ts e2
    split at p
    · rename_i hc
      have d1 := rep_dp R h1 (shp_pure hc.1)
      have d2 := rep_dp R h2 (by rw [e2]; exact shp_pure hc.2)
      rw [e2] at d2
      refine op_inD hu pins s σ H x y u v Q I r1 r2 ⟨_, dataAll ts, d1, d2, shp_sh hc.1, shp_sh hc.2, ?_⟩
      rw [any_data]
      simpa using Post.here (v := .bl _) p R (.bl _)
    · exact p.elim
  · rename_i ts e2
    split at p
    · rename_i hc
      have d1 := rep_dp R h1 (shp_pure hc.1)
      have d2 := rep_dp R h2 (by rw [e2]; exact shp_pure hc.2)
      rw [e2] at d2
      obtain ⟨as, q1⟩ := Dp.reads I _ x u d1 r1
      obtain ⟨bs, q2⟩ := Dp.reads I (.tuple (dataAll ts)) y v d2 r2
      refine SeqAt.in_tuple_reads q2 q1 (SeqAt.canLay_of_shaped (shp_sh hc.2)) (SeqAt.canLay_of_shaped (shp_sh hc.1)) (room_inD (e := .tuple (dataAll ts)) (shp_sh hc.1) hu |> fun z => ?_) ?_
      · have h1 := SeqAt.depth_of_shaped (shp_sh hc.1)
        have h2 := Nat.min_le_right (PyData.depthAll (dataAll ts)) (data (res S tx)).depth
        omega
      · rw [any_data]
        exact ⟨.bl _, H, I, rfl, by simpa using Post.here (v := .bl _) p R (.bl _)⟩
    · exact p.elim
  · exact p.elim
theorem v_notIn (hu : X.A.units + 65 < cLine) : VOp2 X (compareOp .NotIn) (inT true) := by
  intro pins s σ H x y u v φ S Mk tx ty Wx Q I r1 r2 R h1 h2 p
  unfold inT at p
  split at p
  · rename_i a b e1 e2
    rw [rep_str R h1 e1] at r1
    rw [rep_str R h2 e2] at r2
    exact op_notIn_str pins s σ H _ _ u v Q I r1 r2 ⟨a, b, rfl, rfl, by simpa using Post.here (v := .bl _) p R (.bl _)⟩
  · rename_i ts e2
    split at p
    · rename_i hc
      have d1 := rep_dp R h1 (shp_pure hc.1)
      have d2 := rep_dp R h2 (by rw [e2]; exact shp_pure hc.2)
      rw [e2] at d2
      refine op_notInD hu pins s σ H x y u v Q I r1 r2 ⟨_, dataAll ts, d1, d2, shp_sh hc.1, shp_sh hc.2, ?_⟩
      rw [any_data]
      simpa using Post.here (v := .bl _) p R (.bl _)
    · exact p.elim
  · rename_i ts e2
    split at p
    · rename_i hc
      have d1 := rep_dp R h1 (shp_pure hc.1)
      have d2 := rep_dp R h2 (by rw [e2]; exact shp_pure hc.2)
      rw [e2] at d2
      obtain ⟨as, q1⟩ := Dp.reads I _ x u d1 r1
      obtain ⟨bs, q2⟩ := Dp.reads I (.tuple (dataAll ts)) y v d2 r2
      refine SeqAt.notIn_tuple_reads q2 q1 (SeqAt.canLay_of_shaped (shp_sh hc.2)) (SeqAt.canLay_of_shaped (shp_sh hc.1)) ?_ ?_
      · have h1 := SeqAt.depth_of_shaped (shp_sh hc.1)
        have h2 := Nat.min_le_right (PyData.depthAll (dataAll ts)) (data (res S tx)).depth
        omega
      · rw [any_data]
        exact ⟨.bl _, H, I, rfl, by simpa using Post.here (v := .bl _) p R (.bl _)⟩
    · exact p.elim
  · exact p.elim
/-- is None -/
def isNon : T → Bool
  | .non => true
  | _ => false
def isT (x y : T) : M T := fun S => match y with
  | .non => .ok (.bl (isNon x)) S
  | _ => .bad
def isNotT (x y : T) : M T := fun S => match y with
  | .non => .ok (.bl (!isNon x)) S
  | _ => .bad
theorem isNon_rep {K : PySem.W.Frag} {mg : Str → Option Value} {g : Gr} {φ : List Addr} {x : V} {t : T} (h : Rep K mg g φ x t) : decide (x = V.non) = isNon t := by
  cases h <;> first | rfl | exact decide_eq_false (fun z => nomatch z)
theorem v_is : VOp2 X (compareOp .Is) isT := by
  intro pins s σ H x y u v φ S Mk tx ty Wx Q I r1 r2 R h1 h2 p
  cases ty <;> first | exact p.elim | skip
  cases h2
  refine op_isN pins s σ H _ _ u v Q I r1 r2 ⟨rfl, ?_⟩
  rw [isNon_rep h1]
  exact Post.here (v := .bl _) p R (.bl _)
theorem v_isNot : VOp2 X (compareOp .IsNot) isNotT := by
  intro pins s σ H x y u v φ S Mk tx ty Wx Q I r1 r2 R h1 h2 p
  cases ty <;> first | exact p.elim | skip
  cases h2
  refine op_notN pins s σ H _ _ u v Q I r1 r2 ⟨rfl, ?_⟩
  rw [isNon_rep h1]
  exact Post.here (v := .bl _) p R (.bl _)

/-! ### a[i] of sequences -/
def ixT (x y : T) : M T := fun S => match res S x, res S y with
  | .lst ts, .int i => match atI ts i with
    | some t => .ok t S
    | none => .bad
  | .tup ts, .int i => match atI ts i with
    | some t => .ok t S
    | none => .bad
  | .scr ns, .int i => match atI ns i with
    | some n => .ok (.int n) S
    | none => .bad
  | .str z, .int i => if z.length ≤ sizeLine then (match atI z.cps.toList i with
    | some c => .ok (.str ⟨#[c]⟩) S
    | none => .bad) else .bad
  | _, _ => .bad
theorem RepAll.atI {K : PySem.W.Frag} {mg : Str → Option Value} {g : Gr} {φ : List Addr} {vs : List V} {ts : List T} (r : RepAll K mg g φ vs ts) {i : Int} {t : T} (h : L2.atI ts i = some t) : ∃ v, L2.atI vs i = some v ∧ Rep K mg g φ v t := by
  unfold L2.atI at h ⊢
  rw [r.length]
  cases e : ixN ts.length i with
  | none => rw [e] at h; cases h
  | some j =>
    rw [e] at h
    obtain ⟨v, h1, h2⟩ := r.get (show ts[j]? = some t from h)
    exact ⟨v, h1, h2⟩
theorem atI_map {α β : Type} (f : α → β) (xs : List α) (i : Int) : L2.atI (xs.map f) i = (L2.atI xs i).map f := by
  unfold L2.atI
  rw [List.length_map]
  cases ixN xs.length i with
  | none => rfl
  | some j => show (xs.map f)[j]? = (xs[j]?).map f; rw [List.getElem?_map]
def IxV (X : Cx) (g : T → T → M T) : Prop :=
  ∀ (pins : List (Addr × Obj)) (s : Shared) (σ : L2.St) (H : Hp) (x y : V) (u v : Value) (φ : List Addr) (S : Store) (Mk : List Addr) (tx ty : T) (Wx : Value → Option Addr → Hp → Prop) (Q : VK), Inv X pins σ H s → RelV x u → RelV y v → Rel X.K X.mg φ S Mk H →
    Rep X.K X.mg (G φ S Mk H) φ x tx → Rep X.K X.mg (G φ S Mk H) φ y ty → Post X.K X.mg (Rep X.K X.mg) φ S Mk H (g tx ty S) Wx Q → rIx X.K x y H Q
theorem ix_imp {φ : List Addr} {S : Store} {Mk : List Addr} {H : Hp} {x y : V} {tx ty : T} {Wx : Value → Option Addr → Hp → Prop} {Q : VK} (R : Rel X.K X.mg φ S Mk H) (h1 : Rep X.K X.mg (G φ S Mk H) φ x tx) (h2 : Rep X.K X.mg (G φ S Mk H) φ y ty)
    (p : Post X.K X.mg (Rep X.K X.mg) φ S Mk H (ixT tx ty S) Wx Q) : rIx X.K x y H Q := by
  unfold ixT at p
  split at p
  · rename_i ts i e1 e2
    obtain ⟨a, vs, rfl, g, ra, l⟩ := rep_lst R h1 e1
    rw [rep_int R h2 e2]
    cases e : L2.atI ts i with
    | none => rw [e] at p; exact p.elim
    | some t =>
      rw [e] at p
      obtain ⟨v, h3, h4⟩ := ra.atI e
      exact .inl ⟨a, vs, i, v, rfl, rfl, .inl (.inl g), h3, Post.here (t := t) p R h4⟩
  · rename_i ts i e1 e2
    obtain ⟨a, vs, rfl, g, ra, l⟩ := rep_tup R h1 e1
    rw [rep_int R h2 e2]
    cases e : L2.atI ts i with
    | none => rw [e] at p; exact p.elim
    | some t =>
      rw [e] at p
      obtain ⟨v, h3, h4⟩ := ra.atI e
      exact .inr (.inl ⟨a, vs, i, v, rfl, rfl, g, h3, Post.here (t := t) p R h4⟩)
  · rename_i ns i e1 e2
    obtain ⟨a, rfl, g, l⟩ := rep_scr R h1 e1
    rw [rep_int R h2 e2]
    cases e : L2.atI ns i with
    | none => rw [e] at p; exact p.elim
    | some n =>
      rw [e] at p
      refine .inl ⟨a, _, i, .int n, rfl, rfl, g, ?_, Post.here (t := T.int n) p R (.int n)⟩
      rw [atI_map, e]
      rfl
  · rename_i z i e1 e2
    rw [rep_str R h1 e1, rep_int R h2 e2]
    split at p
    · rename_i hl
      cases e : L2.atI z.cps.toList i with
      | none => rw [e] at p; exact p.elim
      | some c =>
        rw [e] at p
        exact .inr (.inr ⟨z, i, c, rfl, rfl, hl, e, Post.here (t := T.str ⟨#[c]⟩) p R (.str _)⟩)
    · exact p.elim
  · exact p.elim
variable {W : WX} {a b : Expr} {fa fb : Slots → M T} {pos : Pos}
theorem pe_ixF (ha : PE X a (dT X W fa)) (hb : PE X b (dT X W fb)) (hs : PlainIx b := by intro _ _; rfl) : PE X (.Subscript a b pos) (dT X W (eBin ixT fa fb)) := by
  refine PE.weak (pe_ix ix_seq ha hb hs) fun σ H Q h => ?_
  exact dT_mono (two_parts σ H Q h) fun x H1 h1 => dT_mono h1 fun y H2 ⟨φ, S, Mk, tx, ty, Wx, R, r1, r2, p⟩ => ix_imp R r1 r2 p

/-! ### slices -/
def cutL {α : Type} (xs : List α) (lo hi : Option Int) : List α := (xs.drop (HT.sIx xs.length 0 lo)).take (HT.sIx xs.length xs.length hi - HT.sIx xs.length 0 lo)
def ePart (e : Option (Slots → M T)) : Slots → M (Option Int) := fun τ => match e with
  | none => ret none
  | some f => bnd (f τ) fun t => match t with
    | .int i => ret (some i)
    | _ => bad
def cutT (x : T) (lo hi : Option Int) : M T := fun S => match res S x with
  | .lst ts => .ok (.lst (cutL ts lo hi)) S
  | .tup ts => .ok (.tup (cutL ts lo hi)) S
  | .str z => if z.length ≤ sizeLine then .ok (.str (cutS z lo hi)) S else .bad
  | _ => .bad
def eCut (e : Slots → M T) (lo hi : Option (Slots → M T)) : Slots → M T := fun τ => bnd (e τ) fun x => bnd (ePart lo τ) fun l => bnd (ePart hi τ) fun h => cutT x l h
abbrev RO : Gr → List Addr → Option Int → Option Int → Prop := fun _ _ b c => b = c
theorem PO.weak {e : Option Expr} {t t' : TO} (h : PO X e t) (w : ∀ σ H Q, t' σ H Q → t σ H Q) : PO X e t' := ⟨fun pins s σ H Q I q => h.run pins s σ H Q I (w σ H Q q)⟩
theorem po_noneF : PO X none (dn X.K X.mg RO W (ePart none)) := PO.weak po_none fun σ H Q ⟨φ, S, Mk, τ, R, sl, h⟩ => Post.here (t := (none : Option Int)) (v := none) h R rfl
theorem po_someF {e : Expr} (he : PE X e (dT X W fa)) : PO X (some e) (dn X.K X.mg RO W (ePart (some fa))) := by
  refine PO.weak (po_some he) fun σ H Q ⟨φ, S, Mk, τ, R, sl, h⟩ => ⟨φ, S, Mk, τ, R, sl, Post.part R h fun φ1 S1 H1 x t s1 r1 p1 => ?_⟩
  cases t <;> first | exact p1.elim | skip
  case int i =>
    cases r1
    exact ⟨i, rfl, Post.here (t := some i) (v := some i) p1 s1.rel rfl⟩
theorem cut_len {α : Type} (xs : List α) (lo hi : Option Int) : (cutL xs lo hi).length ≤ xs.length := by
  unfold cutL
  rw [List.length_take, List.length_drop]
  omega
theorem RepAll.cut {K : PySem.W.Frag} {mg : Str → Option Value} {g : Gr} {φ : List Addr} {vs : List V} {ts : List T} (r : RepAll K mg g φ vs ts) (lo hi : Option Int) : RepAll K mg g φ (cutV vs lo hi) (cutL ts lo hi) := by
  unfold cutV cutL
  rw [r.length]
  exact (r.drop _).take _
theorem cut_whole {α : Type} {xs : List α} {lo hi : Option Int} (h : HT.sIx xs.length 0 lo = 0 ∧ HT.sIx xs.length xs.length hi = xs.length) : cutL xs lo hi = xs := by
  unfold cutL
  rw [h.1, h.2]
  simp
theorem res_tup {S : Store} {t : T} {ts : List T} (e : res S t = .tup ts) : t = .tup ts := by
  cases t <;> simp only [res] at e <;> first | exact e | (split at e <;> cases e)
theorem sl_any : SlR X (fun x lo hi H Q => rSlL X.K x lo hi H Q ∨ rSlA X.K x lo hi H Q ∨ rSlS x lo hi H Q) := SlR.or sl_list (SlR.or sl_tupA sl_str)
theorem pe_cutF {e : Expr} {lo hi : Option Expr} {p2 : Pos} {flo fhi : Option (Slots → M T)} (he : PE X e (dT X W fa)) (hl : PO X lo (dn X.K X.mg RO W (ePart flo))) (hh : PO X hi (dn X.K X.mg RO W (ePart fhi))) : PE X (.Subscript e (.Slice lo hi none p2) pos) (dT X W (eCut fa flo fhi)) := by
  refine PE.weak (pe_slice sl_any he hl hh) fun σ H Q ⟨φ, S, Mk, τ, R, sl, h⟩ => ?_
  refine ⟨φ, S, Mk, τ, R, sl, Post.part R h fun φ1 S1 H1 x t s1 r1 p1 => ?_⟩
  refine ⟨φ1, S1, Mk, τ, s1.rel, s1.slots sl, Post.part s1.rel p1 fun φ2 S2 H2 l l' s2 r2 p2 => ?_⟩
  refine ⟨φ2, S2, Mk, τ, s2.rel, s2.slots (s1.slots sl), Post.part s2.rel p2 fun φ3 S3 H3 u u' s3 r3 p3 => ?_⟩
  have e2 : l = l' := r2
  have e3 : u = u' := r3
  subst e2 e3
  have rx := (s2.trans s3).rep r1
  have R3 := s3.rel
  unfold cutT at p3
  split at p3
  · rename_i ts e
    obtain ⟨a, vs, rfl, g, ra, hz⟩ := rep_lst R3 rx e
    refine .inl ⟨a, vs, rfl, .inl (.inl g), fun q hq => ?_⟩
    obtain ⟨st, g2⟩ := Step.new (o := .lst (cutV vs l u)) R3 hq
    exact Post.ok (t := T.lst (cutL ts l u)) p3 st (.lst g2 ((st.all ra).cut l u) (Nat.le_trans (cut_len _ _ _) hz))
  · rename_i ts e
    have et := res_tup e
    subst et
    obtain ⟨a, vs, rfl, g, ra, hz⟩ := rep_tup R3 rx e
    refine .inr (.inl ⟨a, vs, rfl, g, fun hw => ?_, fun hw q hq => ?_⟩)
    · rw [ra.length] at hw
      rw [cut_whole hw] at p3
      exact Post.here p3 R3 rx
    · obtain ⟨st, g2⟩ := Step.new (o := .tup (cutV vs l u)) R3 hq
      exact Post.ok (t := T.tup (cutL ts l u)) p3 st (.tup (.inl (.inl g2)) ((st.all ra).cut l u) (Nat.le_trans (cut_len _ _ _) hz))
  · rename_i z e
    rw [rep_str R3 rx e]
    split at p3
    · rename_i hl
      exact .inr (.inr ⟨z, rfl, hl, Post.here (t := T.str (cutS z l u)) p3 R3 (.str _)⟩)
    · exact p3.elim
  · exact p3.elim
end
end Fw
set_option Elab.async false
set_option linter.all false
set_option maxRecDepth 100000
/-! FwStmt: statements' denotations: blocks, targets, if, for, while, comprehensions, defs. -/
namespace Fw
open PySem PySem.Spec PyProof.Rows L2

inductive OutS where
  | nx (τ : Slots) (S : Store) | rt (t : T) (S : Store) | bk (τ : Slots) (S : Store) | ct (τ : Slots) (S : Store) | exc (e : Exc) (τ : Slots) (S : Store) | bad
abbrev MS := Slots → Store → OutS
def PostS (K : PySem.W.Frag) (mg : Str → Option Value) (φ : List Addr) (S : Store) (Mk : List Addr) (H : Hp) (o : OutS) (W : WX) (D : Ends) : Prop :=
  match o with
  | .nx τ S' => ∀ φ' σ' H', Step K mg φ S Mk H φ' S' H' → SlotR K mg (G φ' S' Mk H') φ' σ' τ → D.nx σ' H'
  | .rt t S' => ∀ φ' v H', Step K mg φ S Mk H φ' S' H' → Rep K mg (G φ' S' Mk H') φ' v t → D.rt v H'
  | .bk τ S' => ∀ φ' σ' H', Step K mg φ S Mk H φ' S' H' → SlotR K mg (G φ' S' Mk H') φ' σ' τ → D.bk σ' H'
  | .ct τ S' => ∀ φ' σ' H', Step K mg φ S Mk H φ' S' H' → SlotR K mg (G φ' S' Mk H') φ' σ' τ → D.ct σ' H'
  | .exc e τ S' => ∀ φ' c d σ' H', Step K mg φ S Mk H φ' S' H' → SlotR K mg (G φ' S' Mk H') φ' σ' τ → RepX K mg (G φ' S' Mk H') φ' c d e → W c d σ' H'
  | .bad => False
def dS (X : Cx) (W : WX) (f : MS) : TS := fun D σ H =>
  ∃ φ S Mk τ, Rel X.K X.mg φ S Mk H ∧ SlotR X.K X.mg (G φ S Mk H) φ σ τ ∧ PostS X.K X.mg φ S Mk H (f τ S) W D
/-- an expression, then the rest of a statement -/
def bndS {α : Type} (m : M α) (τ : Slots) (k : α → Store → OutS) (S : Store) : OutS := match m S with
  | .ok a S' => k a S'
  | .exc e S' => .exc e τ S'
  | .bad => .bad
theorem bndS_ok {α : Type} {m : M α} {τ : Slots} {k : α → Store → OutS} {S S' : Store} {a : α} (h : m S = .ok a S') : bndS m τ k S = k a S' := by unfold bndS; rw [h]
section
variable {K : PySem.W.Frag} {mg : Str → Option Value} {α β : Type} {RR : Gr → List Addr → β → α → Prop} {φ φ' : List Addr} {S S' : Store} {Mk : List Addr} {H H' : Hp} {σ : L2.St} {τ : Slots} {o : OutS} {W : WX} {D D' : Ends} {Q : β → Hp → Prop}
theorem PostS.step (h : PostS K mg φ S Mk H o W D) (s : Step K mg φ S Mk H φ' S' H') : PostS K mg φ' S' Mk H' o W D := by
  cases o with
  | nx τ S2 => exact fun φ2 v H2 u r => h φ2 v H2 (s.trans u) r
  | rt τ S2 => exact fun φ2 v H2 u r => h φ2 v H2 (s.trans u) r
  | bk τ S2 => exact fun φ2 v H2 u r => h φ2 v H2 (s.trans u) r
  | ct τ S2 => exact fun φ2 v H2 u r => h φ2 v H2 (s.trans u) r
  | exc e τ S2 => exact fun φ2 c d v H2 u r q => h φ2 c d v H2 (s.trans u) r q
  | bad => exact h
theorem PostS.part {m : M α} {k : α → Store → OutS} (R : Rel K mg φ S Mk H) (sl : SlotR K mg (G φ S Mk H) φ σ τ) (h : PostS K mg φ S Mk H (bndS m τ k S) W D)
    (go : ∀ φ1 S1 H1 x t, Step K mg φ S Mk H φ1 S1 H1 → RR (G φ1 S1 Mk H1) φ1 x t → PostS K mg φ1 S1 Mk H1 (k t S1) W D → Q x H1) : Post K mg RR φ S Mk H (m S) (fun c d H' => W c d σ H') Q := by
  unfold bndS at h
  cases e : m S with
  | ok t S1 =>
    rw [e] at h
    exact fun φ' v H' s r => go φ' S1 H' v t s r (h.step s)
  | exc e1 S1 =>
    rw [e] at h
    exact fun φ' c d H' s r => h φ' c d σ H' s (s.slots sl) r
  | bad =>
    rw [e] at h
    exact h
theorem PostS.nx {τ' : Slots} (h : PostS K mg φ S Mk H (.nx τ' S') W D) (s : Step K mg φ S Mk H φ' S' H') {σ' : L2.St} (sl : SlotR K mg (G φ' S' Mk H') φ' σ' τ') : D.nx σ' H' := h φ' σ' H' s sl
theorem SlotR.set {g : Gr} {i : Nat} {v : V} {t : T} (h : SlotR K mg g φ σ τ) (r : Rep K mg g φ v t) : SlotR K mg g φ (σ.set i (some v)) (τ.set i (some t)) := by
  refine ⟨by simp [h.len], fun j u e => ?_⟩
  by_cases hj : i = j
  · subst hj
    by_cases hl : i < τ.length
    · rw [List.getElem?_set_self hl] at e
      cases e
      exact ⟨v, List.getElem?_set_self (by rw [h.len]; exact hl), r⟩
    · rw [List.getElem?_eq_none (by simpa using hl)] at e
      cases e
  · rw [List.getElem?_set_ne hj] at e ⊢
    exact h.get j u e
end

/-! ### small statements -/
def sNext : MS := fun τ S => .nx τ S
def sBreak : MS := fun τ S => .bk τ S
def sCont : MS := fun τ S => .ct τ S
def sBad : MS := fun _ _ => .bad
def sSeq (a b : MS) : MS := fun τ S => match a τ S with
  | .nx τ' S' => b τ' S'
  | o => o
def sDrop (e : Slots → M T) : MS := fun τ => bndS (e τ) τ fun _ S => .nx τ S
def sRet (e : Slots → M T) : MS := fun τ => bndS (e τ) τ fun t S => .rt t S
def sRetN : MS := fun _ S => .rt .non S
def sIf (c : Slots → M Bool) (a b : MS) : MS := fun τ => bndS (c τ) τ fun k S => if k = true then a τ S else b τ S
section
variable {X : Cx} {W : WX} {st : Stmt} {rest : List Stmt} {a b : MS} {e : Expr} {fe : Slots → M T} {pos : Pos}
theorem pss_nilF : PSs X [] (dS X W sNext) := PSs.weak pss_nil fun D σ H ⟨φ, S, Mk, τ, R, sl, h⟩ => h φ σ H (Step.refl R) sl
theorem pss_consF (h1 : PS X st (dS X W a)) (h2 : PSs X rest (dS X W b)) : PSs X (st :: rest) (dS X W (sSeq a b)) := by
  refine PSs.weak (pss_cons h1 h2) fun D σ H ⟨φ, S, Mk, τ, R, sl, h⟩ => ⟨φ, S, Mk, τ, R, sl, ?_⟩
  unfold sSeq at h
  cases e : a τ S with
  | nx τ' S' =>
    rw [e] at h
    exact fun φ' σ' H' s sl' => ⟨φ', S', Mk, τ', s.rel, sl', PostS.step h s⟩
  | rt t S' => rw [e] at h; exact h
  | bk t S' => rw [e] at h; exact h
  | ct t S' => rw [e] at h; exact h
  | exc e t S' => rw [e] at h; exact h
  | bad => rw [e] at h; exact h
theorem pss_oneF (h1 : PS X st (dS X W a)) : PSs X [st] (dS X W a) := pss_one h1
theorem ps_passF : PS X (.Pass pos) (dS X W sNext) := PS.weak ps_pass fun D σ H ⟨φ, S, Mk, τ, R, sl, h⟩ => h φ σ H (Step.refl R) sl
theorem ps_breakF : PS X (.Break pos) (dS X W sBreak) := PS.weak ps_break fun D σ H ⟨φ, S, Mk, τ, R, sl, h⟩ => h φ σ H (Step.refl R) sl
theorem ps_contF : PS X (.Continue pos) (dS X W sCont) := PS.weak ps_continue fun D σ H ⟨φ, S, Mk, τ, R, sl, h⟩ => h φ σ H (Step.refl R) sl
theorem ps_badF : PS X st (dS X W sBad) := PS.weak ps_never fun D σ H ⟨φ, S, Mk, τ, R, sl, h⟩ => h.elim
theorem pss_badF {sts : List Stmt} : PSs X sts (dS X W sBad) := PSs.weak pss_never fun D σ H ⟨φ, S, Mk, τ, R, sl, h⟩ => h.elim
theorem ps_exprF (he : PE X e (dT X W fe)) (hs : swapsWith e none pos.line X.env = pure false := by rfl) : PS X (.Expr e pos) (dS X W (sDrop fe)) := by
  refine PS.weak (ps_expr he hs) fun D σ H ⟨φ, S, Mk, τ, R, sl, h⟩ => ⟨φ, S, Mk, τ, R, sl, PostS.part R sl h fun φ1 S1 H1 x t s r p => ?_⟩
  exact p φ1 σ H1 (Step.refl s.rel) (s.slots sl)
theorem ps_retF (he : PE X e (dT X W fe)) : PS X (.Return (some e) pos) (dS X W (sRet fe)) := by
  refine PS.weak (ps_ret he) fun D σ H ⟨φ, S, Mk, τ, R, sl, h⟩ => ⟨φ, S, Mk, τ, R, sl, PostS.part R sl h fun φ1 S1 H1 x t s r p => ?_⟩
  exact p φ1 x H1 (Step.refl s.rel) r
theorem ps_retNF : PS X (.Return none pos) (dS X W sRetN) := PS.weak ps_retN fun D σ H ⟨φ, S, Mk, τ, R, sl, h⟩ => h φ .non H (Step.refl R) .non
theorem ps_ifF {c : Expr} {A B : List Stmt} {fc : Slots → M Bool} (hc : PT X c (dB X W fc)) (ha : PSs X A (dS X W a)) (hb : PSs X B (dS X W b)) : PS X (.If c A B pos) (dS X W (sIf fc a b)) := by
  refine PS.weak (ps_if hc ha hb) fun D σ H ⟨φ, S, Mk, τ, R, sl, h⟩ => ⟨φ, S, Mk, τ, R, sl, PostS.part R sl h fun φ1 S1 H1 x t s r p => ?_⟩
  have e : x = t := r
  subst e
  cases x with
  | true => exact ⟨φ1, S1, Mk, τ, s.rel, s.slots sl, p⟩
  | false => exact ⟨φ1, S1, Mk, τ, s.rel, s.slots sl, p⟩
end

/-! ### targets -/
abbrev Tg := T → Slots → M Slots
/-- what is known of the slots behind a target at the places ix -/
def RRg (K : PySem.W.Frag) (mg : Str → Option Value) (σ₀ : L2.St) (ix : List Nat) : Gr → List Addr → L2.St → Slots → Prop := fun g φ σ τ => SlotR K mg g φ σ τ ∧ σ.length = σ₀.length ∧ ∀ i, i ∉ ix → σ[i]? = σ₀[i]?
def dG (X : Cx) (ix : List Nat) (g : Tg) : TG := fun v σ H Q =>
  ∃ φ S Mk τ t, Rel X.K X.mg φ S Mk H ∧ SlotR X.K X.mg (G φ S Mk H) φ σ τ ∧ Rep X.K X.mg (G φ S Mk H) φ v t ∧ Post X.K X.mg (RRg X.K X.mg σ ix) φ S Mk H (g t τ S) (fun _ _ _ => False) Q
def dGs (X : Cx) (ix : List Nat) (g : List T → Slots → M Slots) : TGs := fun vs σ H Q =>
  ∃ φ S Mk τ ts, Rel X.K X.mg φ S Mk H ∧ SlotR X.K X.mg (G φ S Mk H) φ σ τ ∧ RepAll X.K X.mg (G φ S Mk H) φ vs ts ∧ Post X.K X.mg (RRg X.K X.mg σ ix) φ S Mk H (g ts τ S) (fun _ _ _ => False) Q
def tgName (i : Nat) : Tg := fun t τ => ret (τ.set i (some t))
def tgNil : List T → Slots → M Slots := fun ts τ => match ts with
  | [] => ret τ
  | _ => bad
def tgCons (g : Tg) (r : List T → Slots → M Slots) : List T → Slots → M Slots := fun ts τ => match ts with
  | t :: ts => bnd (g t τ) fun τ' => r ts τ'
  | [] => bad
/-- a, b, .. = a tuple -/
def tgTup (r : List T → Slots → M Slots) : Tg := fun t τ S => match res S t with
  | .tup ts => r ts τ S
  | _ => .bad
theorem PG.weak {X : Cx} {e : Expr} {t t' : TG} (h : PG X e t) (w : ∀ v σ H Q, t' v σ H Q → t v σ H Q) : PG X e t' := ⟨fun pins s σ H v u Q I r q => h.run pins s σ H v u Q I r (w v σ H Q q)⟩
theorem PGs.weak {X : Cx} {e : List Expr} {t t' : TGs} (h : PGs X e t) (w : ∀ v σ H Q, t' v σ H Q → t v σ H Q) : PGs X e t' := ⟨fun pins s σ H v u Q I r q => h.run pins s σ H v u Q I r (w v σ H Q q)⟩
section
variable {X : Cx} {W : WX} {pos : Pos}
theorem pg_nameF {i : Nat} {x : Str} (hN : X.N.Nodup) (hi : X.N[i]? = some x) (hx : Loc X.env.scope x) (hf : X.fn x = true ∨ X.env.scope.names.lookup x = some .local := by first | exact .inl rfl | exact .inr rfl | assumption) : PG X (.Name x pos) (dG X [i] (tgName i)) := by
  refine PG.weak (pg_name hN hi hx hf) fun v σ H Q ⟨φ, S, Mk, τ, t, R, sl, r, h⟩ => ?_
  refine Post.here (t := τ.set i (some t)) (v := σ.set i (some v)) h R ⟨sl.set r, by simp, fun j hj => ?_⟩
  rw [List.getElem?_set_ne fun e => hj (by rw [e]; exact List.mem_singleton.mpr rfl)]
theorem pgs_nilF : PGs X [] (dGs X [] tgNil) := by
  refine PGs.weak pgs_nil fun vs σ H Q ⟨φ, S, Mk, τ, ts, R, sl, r, h⟩ => ?_
  cases r with
  | nil => exact ⟨rfl, Post.here (t := τ) (v := σ) h R ⟨sl, rfl, fun _ _ => rfl⟩⟩
  | cons _ _ => exact h.elim
theorem pgs_consF {e : Expr} {es : List Expr} {ix jx : List Nat} {g : Tg} {u : List T → Slots → M Slots} (h1 : PG X e (dG X ix g)) (h2 : PGs X es (dGs X jx u))
    (hs : (assignEach (e :: es) X.env).map (·.2) = assign e X.env :: (assignEach es X.env).map (·.2) := by rfl) : PGs X (e :: es) (dGs X (ix ++ jx) (tgCons g u)) := by
  refine PGs.weak (pgs_cons h1 h2 hs) fun vs σ H Q ⟨φ, S, Mk, τ, ts, R, sl, r, h⟩ => ?_
  cases r with
  | nil => exact h.elim
  | @cons v vs t ts r1 r2 =>
    refine ⟨v, vs, rfl, φ, S, Mk, τ, t, R, sl, r1, ?_⟩
    have h' : Post X.K X.mg (RRg X.K X.mg σ (ix ++ jx)) φ S Mk H (Fw.bnd (g t τ) (fun τ' => u ts τ') S) (fun _ _ _ => False) Q := h
    unfold Fw.bnd at h'
    cases e : g t τ S with
    | bad => rw [e] at h'; exact h'
    | exc e1 S1 => rw [e] at h'; exact h'
    | ok τ1 S1 =>
      rw [e] at h'
      intro φ1 σ1 H1 s1 ⟨sl1, ln1, fr1⟩
      refine ⟨φ1, S1, Mk, τ1, ts, s1.rel, sl1, s1.all r2, ?_⟩
      have h2 := h'.step s1
      dsimp only at h2
      revert h2
      cases u ts τ1 S1 with
      | bad => exact fun z => z
      | exc e2 S2 => exact fun z => z
      | ok τ2 S2 => exact fun z φ2 σ2 H2 s2 ⟨sl2, ln2, fr2⟩ => z φ2 σ2 H2 s2 ⟨sl2, ln2.trans ln1, fun i hi => (fr2 i fun w => hi (List.mem_append_right _ w)).trans (fr1 i fun w => hi (List.mem_append_left _ w))⟩
theorem pg_tupF {es : List Expr} {k : Nat} {ix : List Nat} {u : List T → Slots → M Slots} {n : Nat} (hc : X.calm = true) (h : PGs X es (dGs X ix u)) (hlen : ∀ ts τ S, ts.length ≠ n → u ts τ S = .bad)
    (hn : (assignEach es X.env).length = n := by rfl) (hst : (assignEach es X.env).findIdx? (·.1) = none := by rfl) : PG X (.Tuple es k pos) (dG X ix (tgTup u)) := by
  refine PG.weak (pg_tup hc h hn hst) fun v σ H Q ⟨φ, S, Mk, τ, t, R, sl, r, h⟩ => ?_
  unfold tgTup at h
  split at h
  · rename_i ts e
    obtain ⟨a, vs, rfl, hs, ra, _⟩ := rep_tup R r e
    refine ⟨a, vs, rfl, hs, ?_, φ, S, Mk, τ, ts, R, sl, ra, h⟩
    by_cases hl : ts.length = n
    · rw [ra.length]; exact hl
    · rw [hlen ts τ S hl] at h
      exact h.elim
  · exact h.elim
/-- name = e -/
def sSet (i : Nat) (e : Slots → M T) : MS := fun τ => bndS (e τ) τ fun t S => .nx (τ.set i (some t)) S
/-- target = e -/
def sAsg (g : Tg) (e : Slots → M T) : MS := fun τ => bndS (e τ) τ fun t S => match g t τ S with
  | .ok τ' S' => .nx τ' S'
  | _ => .bad
theorem ps_setF {i : Nat} {x : Str} {e : Expr} {fe : Slots → M T} {pos' : Pos} (hN : X.N.Nodup) (hi : X.N[i]? = some x) (hx : Loc X.env.scope x) (he : PE X e (dT X W fe)) (hs : swapsWith e (some (.Name x pos')) pos.line X.env = pure false := by rfl)
    (hf : X.fn x = true ∨ X.env.scope.names.lookup x = some .local := by first | exact .inl rfl | exact .inr rfl | assumption) : PS X (.Assign [.Name x pos'] e pos) (dS X W (sSet i fe)) := by
  refine PS.weak (ps_set hN hi hx he hs hf) fun D σ H ⟨φ, S, Mk, τ, R, sl, h⟩ => ⟨φ, S, Mk, τ, R, sl, PostS.part R sl h fun φ1 S1 H1 x t s r p => ?_⟩
  exact p φ1 _ H1 (Step.refl s.rel) ((s.slots sl).set r)
theorem asg_imp {ix : List Nat} {fe : Slots → M T} {g : Tg} (D : Ends) (σ : L2.St) (H : Hp) (h : dS X W (sAsg g fe) D σ H) : tAsg (dT X W fe) (dG X ix g) D σ H := by
  obtain ⟨φ, S, Mk, τ, R, sl, h⟩ := h
  refine ⟨φ, S, Mk, τ, R, sl, PostS.part R sl h fun φ1 S1 H1 x t s r p => ?_⟩
  refine ⟨φ1, S1, Mk, τ, t, s.rel, s.slots sl, r, ?_⟩
  cases e : g t τ S1 with
  | ok τ' S' =>
    rw [e] at p
    exact fun φ2 σ2 H2 s2 sl2 => p φ2 σ2 H2 s2 sl2.1
  | exc e1 S' => rw [e] at p; exact p.elim
  | bad => rw [e] at p; exact p.elim
theorem ps_asgF {tg e : Expr} {ix : List Nat} {fe : Slots → M T} {g : Tg} (he : PE X e (dT X W fe)) (hg : PG X tg (dG X ix g)) (hs : swapsWithSole [tg] e pos.line X.env = pure false := by rfl) (hw : swappedStores [tg] e X.env = pure none := by rfl)
    (h1 : (assignEach [tg] X.env).map (·.2) = [assign tg X.env] := by rfl) : PS X (.Assign [tg] e pos) (dS X W (sAsg g fe)) := PS.weak (ps_asg he hg hs hw h1) asg_imp
/-- x, y = a, b with plain local names -/
def sPar (i j : Nat) (ea eb : Slots → M T) : MS := fun τ => bndS (ea τ) τ fun t S => bndS (eb τ) τ (fun u S => .nx ((τ.set i (some t)).set j (some u)) S) S
theorem ps_parF {i j : Nat} {x y : Str} {a b : Expr} {fa fb : Slots → M T} {px py pt : Pos} {kt k2 pt2} (hc : X.calm = true) (hN : X.N.Nodup) (hi : X.N[i]? = some x) (hj : X.N[j]? = some y) (hij : i ≠ j)
    (hx : X.env.scope.names.lookup x = some .local) (hy : X.env.scope.names.lookup y = some .local) (ha : PE X a (dT X W fa)) (hb : PE X b (dT X W fb))
    (hw : swappedStores [.Tuple [.Name x px, .Name y py] kt pt] (.Tuple [a, b] k2 pt2) X.env = pure (some [x, y]))
    (hs1 : starEach [a, b] X.env = (false, eval a X.env) :: starEach [b] X.env := by rfl) (hs2 : starEach [b] X.env = (false, eval b X.env) :: starEach [] X.env := by rfl)
    (hs : swapsWithSole [.Tuple [.Name x px, .Name y py] kt pt] (.Tuple [a, b] k2 pt2) pos.line X.env = pure false := by rfl) :
    PS X (.Assign [.Tuple [.Name x px, .Name y py] kt pt] (.Tuple [a, b] k2 pt2) pos) (dS X W (sPar i j fa fb)) := by
  refine PS.weak (ps_par hc hN hi hj hij hx hy (pa_cons ha (pa_cons hb pa_nil hs2) hs1) hw hs) fun D σ H ⟨φ, S, Mk, τ, R, sl, h⟩ => ?_
  refine ⟨φ, S, Mk, τ, R, sl, PostS.part R sl h fun φ1 S1 H1 x t s r p => ?_⟩
  refine ⟨φ1, S1, Mk, τ, s.rel, s.slots sl, PostS.part s.rel (s.slots sl) p fun φ2 S2 H2 y u s2 r2 p2 => ?_⟩
  exact ⟨x, y, rfl, p2 φ2 _ H2 (Step.refl s2.rel) (((s2.slots (s.slots sl)).set (s2.rep r)).set r2)⟩

/-! ### what is walked -/
structure Src where
  items : List T
  chk : Store → Prop
/-- the iterator gives these items, as long as the source stands -/
def Walks (K : PySem.W.Frag) (mg : Str → Option Value) (g : Gr) (φ : List Addr) (J : It) (src : Src) : Prop := src.items.length ≤ sizeLine ∧
  ∀ (φ' : List Addr) (S' : Store) (Mk' : List Addr) (H' : Hp), Rel K mg φ' S' Mk' H' → φ <+: φ' → (∀ b o, g b o → G φ' S' Mk' H' b o) → src.chk S' →
    (∀ (i : Nat) (t : T), src.items[i]? = some t → J.go i H' ∧ ∀ x H2, J.yld i H' x H2 → Step K mg φ' S' Mk' H' φ' S' H2 ∧ Rep K mg (G φ' S' Mk' H2) φ' x t) ∧ J.stop src.items.length H'
def dI (X : Cx) (W : WX) (f : Slots → M Src) : TI := dn X.K X.mg (Walks X.K X.mg) W f
theorem PI.weak {tg e : Expr} {t t' : TI} (h : PI X tg e t) (w : ∀ σ H Q, t' σ H Q → t σ H Q) : PI X tg e t' := ⟨fun pins s σ H Q I q => h.run pins s σ H Q I (w σ H Q q)⟩
theorem PI.or {tg e : Expr} {t t' : TI} (h : PI X tg e t) (h' : PI X tg e t') : PI X tg e (fun σ H Q => t σ H Q ∨ t' σ H Q) := ⟨fun pins s σ H Q I q => q.elim (h.run pins s σ H Q I) (h'.run pins s σ H Q I)⟩
open Classical in
noncomputable def loopS (chk : Store → Prop) (g : Tg) (body : MS) : List T → MS
  | [], τ, S => if chk S then .nx τ S else .bad
  | t :: ts, τ, S => if chk S then (match g t τ S with
      | .ok τ1 S1 => (match body τ1 S1 with
        | .nx τ2 S2 => loopS chk g body ts τ2 S2
        | .ct τ2 S2 => loopS chk g body ts τ2 S2
        | .bk τ2 S2 => .nx τ2 S2
        | .rt u S2 => .rt u S2
        | .exc e τ2 S2 => .exc e τ2 S2
        | .bad => .bad)
      | _ => .bad) else .bad
noncomputable def sFor (it : Slots → M Src) (g : Tg) (body : MS) : MS := fun τ => bndS (it τ) τ fun src S => loopS src.chk g body src.items τ S
theorem ps_forF {tg iter : Expr} {body : List Stmt} {fi : Slots → M Src} {ix : List Nat} {g : Tg} {fb : MS} (hp : PassesOwn (model X.prog X.w) X.A X.env X.xe) (hc : X.calm = true) (hi : PI X tg iter (dI X W fi)) (hg : PG X tg (dG X ix g)) (hb : PSs X body (dS X W fb))
    (hs : ∀ x, foldedSetIterable iter X.env x = pure x := by intro _; rfl) : PS X (.For tg iter body [] pos) (dS X W (sFor fi g fb)) := by
  refine PS.weak (ps_for hp hc hi hg hb hs) fun D σ H ⟨φ, S, Mk, τ, R, sl, h⟩ => ?_
  refine ⟨φ, S, Mk, τ, R, sl, PostS.part R sl h fun φ1 S1 H1 J src s1 wk p => ?_⟩
  obtain ⟨_, wk⟩ := wk
  refine ⟨fun i m σ' H' => i + m = src.items.length ∧ ∃ φ' S' τ', Step X.K X.mg φ1 S1 Mk H1 φ' S' H' ∧ SlotR X.K X.mg (G φ' S' Mk H') φ' σ' τ' ∧ PostS X.K X.mg φ' S' Mk H' (loopS src.chk g fb (src.items.drop i) τ' S') W D,
    ⟨src.items.length, by omega, φ1, S1, τ, Step.refl s1.rel, s1.slots sl, p⟩, ?_⟩
  rintro i m σ' H' ⟨hm, φ', S', τ', st, sl', p'⟩
  by_cases hi : i < src.items.length
  · rw [List.drop_eq_getElem_cons hi] at p'
    unfold loopS at p'
    by_cases hk : src.chk S'
    · rw [if_pos hk] at p'
      obtain ⟨w1, _⟩ := wk φ' S' Mk H' st.rel st.pre st.keep hk
      obtain ⟨go, yl⟩ := w1 i _ (List.getElem?_eq_getElem hi)
      refine .inr ⟨go, fun σ2 H2 => ∃ φ2 S2 τ2, Step X.K X.mg φ1 S1 Mk H1 φ2 S2 H2 ∧ SlotR X.K X.mg (G φ2 S2 Mk H2) φ2 σ2 τ2 ∧ PostS X.K X.mg φ2 S2 Mk H2 (loopS src.chk g fb (src.items.drop (i + 1)) τ2 S2) W D,
        fun σ2 H2 q => ⟨m - 1, by omega, by omega, q⟩, fun x H2 y => ?_⟩
      obtain ⟨s2, rx⟩ := yl x H2 y
      refine ⟨φ', S', Mk, τ', _, s2.rel, s2.slots sl', rx, ?_⟩
      cases eg : g src.items[i] τ' S' with
      | bad => rw [eg] at p'; exact p'.elim
      | exc e1 S3 => rw [eg] at p'; exact p'.elim
      | ok τ3 S3 =>
        rw [eg] at p'
        intro φ3 σ3 H3 s3 ⟨sl3, _⟩
        refine ⟨φ3, S3, Mk, τ3, s3.rel, sl3, ?_⟩
        have p3 := p'.step (s2.trans s3)
        dsimp only at p3
        have st3 := st.trans (s2.trans s3)
        revert p3
        cases eb : fb τ3 S3 with
        | nx τ4 S4 => exact fun p3 φ4 σ4 H4 s4 sl4 => ⟨φ4, S4, τ4, st3.trans s4, sl4, PostS.step p3 s4⟩
        | ct τ4 S4 => exact fun p3 φ4 σ4 H4 s4 sl4 => ⟨φ4, S4, τ4, st3.trans s4, sl4, PostS.step p3 s4⟩
        | bk τ4 S4 => exact fun p3 => p3
        | rt u S4 => exact fun p3 => p3
        | exc e τ4 S4 => exact fun p3 => p3
        | bad => exact fun p3 => p3
    · rw [if_neg hk] at p'
      exact p'.elim
  · rw [List.drop_of_length_le (by omega)] at p'
    unfold loopS at p'
    by_cases hk : src.chk S'
    · rw [if_pos hk] at p'
      obtain ⟨_, w2⟩ := wk φ' S' Mk H' st.rel st.pre st.keep hk
      have ei : i = src.items.length := by omega
      exact .inl ⟨ei ▸ w2, p' φ' σ' H' (Step.refl st.rel) sl'⟩
    · rw [if_neg hk] at p'
      exact p'.elim

/-! ### while -/
def whileN (c : Slots → M Bool) (body : MS) : Nat → MS
  | 0, _, _ => .bad
  | n + 1, τ, S => bndS (c τ) τ (fun b S1 => if b = true then (match body τ S1 with
      | .nx τ2 S2 => whileN c body n τ2 S2
      | .ct τ2 S2 => whileN c body n τ2 S2
      | .bk τ2 S2 => .nx τ2 S2
      | .rt u S2 => .rt u S2
      | .exc e τ2 S2 => .exc e τ2 S2
      | .bad => .bad) else .nx τ S1) S
def fuel : Nat := 1000000
def sWhile (c : Slots → M Bool) (body : MS) : MS := whileN c body fuel
theorem ps_whileF {c : Expr} {body : List Stmt} {fc : Slots → M Bool} {fb : MS} (hp : PassesOwn (model X.prog X.w) X.A X.env X.xe) (hc : PT X c (dB X W fc)) (hb : PSs X body (dS X W fb)) : PS X (.While c body [] pos) (dS X W (sWhile fc fb)) := by
  refine PS.weak (ps_while hp hc hb) fun D σ H ⟨φ, S, Mk, τ, R, sl, h⟩ => ?_
  refine ⟨fun m σ' H' => ∃ φ' S' τ', Step X.K X.mg φ S Mk H φ' S' H' ∧ SlotR X.K X.mg (G φ' S' Mk H') φ' σ' τ' ∧ PostS X.K X.mg φ' S' Mk H' (whileN fc fb m τ' S') W D, ⟨fuel, φ, S, τ, Step.refl R, sl, h⟩, ?_⟩
  rintro m σ' H' ⟨φ', S', τ', st, sl', p'⟩
  cases m with
  | zero => exact p'.elim
  | succ n =>
    unfold whileN at p'
    refine ⟨φ', S', Mk, τ', st.rel, sl', PostS.part st.rel sl' p' fun φ1 S1 H1 x t s r p => ?_⟩
    have e : x = t := r
    subst e
    cases x with
    | false => exact p φ1 σ' H1 (Step.refl s.rel) (s.slots sl')
    | true =>
      refine ⟨fun σ2 H2 => ∃ φ2 S2 τ2, Step X.K X.mg φ S Mk H φ2 S2 H2 ∧ SlotR X.K X.mg (G φ2 S2 Mk H2) φ2 σ2 τ2 ∧ PostS X.K X.mg φ2 S2 Mk H2 (whileN fc fb n τ2 S2) W D, fun σ2 H2 q => ⟨n, by omega, q⟩, ?_⟩
      refine ⟨φ1, S1, Mk, τ', s.rel, s.slots sl', ?_⟩
      have st1 := st.trans s
      revert p
      rw [if_pos rfl]
      cases eb : fb τ' S1 with
      | nx τ4 S4 => exact fun p3 φ4 σ4 H4 s4 sl4 => ⟨φ4, S4, τ4, st1.trans s4, sl4, PostS.step p3 s4⟩
      | ct τ4 S4 => exact fun p3 φ4 σ4 H4 s4 sl4 => ⟨φ4, S4, τ4, st1.trans s4, sl4, PostS.step p3 s4⟩
      | bk τ4 S4 => exact fun p3 => p3
      | rt u S4 => exact fun p3 => p3
      | exc e τ4 S4 => exact fun p3 => p3
      | bad => exact fun p3 => p3
end
end Fw
set_option Elab.async false
set_option linter.all false
set_option maxRecDepth 100000
/-! FwIter: what loops and comprehensions walk. -/
namespace Fw
open PySem PySem.Spec PyProof.Rows L2

/-- a list that is a mutable object stays as it is -/
def stands (t : T) (xs : List T) : Store → Prop := fun S => match t with
  | .ref n => S[n]? = some (some (.lst xs))
  | _ => True
def signs (x : Str) : List T := x.cps.toList.map fun c => .str ⟨#[c]⟩
def iterT (t : T) : M Src := fun S => match res S t with
  | .tup ts => .ok ⟨ts, fun _ => True⟩ S
  | .lst ts => .ok ⟨ts, stands t ts⟩ S
  | .scr ns => .ok ⟨ns.map T.int, fun _ => True⟩ S
  | .str x => if x.length ≤ sizeLine then .ok ⟨signs x, fun _ => True⟩ S else .bad
  | _ => .bad
/-- for x in e: a tuple, a list, a text, the script -/
def eIter (e : Slots → M T) : Slots → M Src := fun τ => bnd (e τ) iterT
section
variable {K : PySem.W.Frag} {mg : Str → Option Value} {φ φ' : List Addr} {S S' : Store} {Mk Mk' : List Addr} {H H' : Hp} {v : V} {t : T}
/-- a list's content in later states -/
theorem lst_later {ts : List T} (R : Rel K mg φ S Mk H) (h : Rep K mg (G φ S Mk H) φ v t) (e : res S t = .lst ts) : ∃ a, v = .ref a ∧ ts.length ≤ sizeLine ∧ ∀ (φ' : List Addr) (S' : Store) (Mk' : List Addr) (H' : Hp), Rel K mg φ' S' Mk' H' → φ <+: φ' →
    (∀ b o, G φ S Mk H b o → G φ' S' Mk' H' b o) → stands t ts S' → ∃ vs, H' a = some (.lst vs) ∧ RepAll K mg (G φ' S' Mk' H') φ' vs ts := by
  cases h <;> first | (simp only [res] at e; cases e; done) | skip
  case lst a vs ts' h r l =>
    simp only [res] at e
    cases e
    exact ⟨a, rfl, l, fun φ' S' Mk' H' R' p k _ => ⟨vs, (k _ _ h).1, r.mono k p⟩⟩
  case ref n a h =>
    simp only [res] at e
    split at e
    · rename_i xs hs
      cases e
      obtain ⟨b, e1, l, vs, h1, h2⟩ := R.cell n _ hs
      rw [h] at e1
      cases e1
      refine ⟨a, rfl, l, fun φ' S' Mk' H' R' p k st => ?_⟩
      obtain ⟨b', e2, _, vs', h3, h4⟩ := R'.cell n _ st
      rw [pre_get h p] at e2
      cases e2
      exact ⟨vs', h3, h4⟩
    · cases e
    · cases e
    · cases e
theorem tup_later {ts : List T} (R : Rel K mg φ S Mk H) (h : Rep K mg (G φ S Mk H) φ v t) (e : res S t = .tup ts) : ∃ a vs, v = .ref a ∧ ts.length ≤ sizeLine ∧ vs.length = ts.length ∧ ∀ (φ' : List Addr) (S' : Store) (Mk' : List Addr) (H' : Hp), φ <+: φ' →
    (∀ b o, G φ S Mk H b o → G φ' S' Mk' H' b o) → SqT K H' a vs ∧ RepAll K mg (G φ' S' Mk' H') φ' vs ts := by
  cases h <;> first | (simp only [res] at e; cases e; done) | (simp only [res] at e; split at e <;> cases e; done) | skip
  case tup a vs ts' h r l =>
    simp only [res] at e
    cases e
    exact ⟨a, vs, rfl, l, r.length, fun φ' S' Mk' H' p k => ⟨(h.mono k).sq, r.mono k p⟩⟩
theorem RepAll.at {vs : List V} {ts : List T} {g : Gr} {i : Nat} {x : V} (r : RepAll K mg g φ vs ts) (hx : vs[i]? = some x) (ht : ts[i]? = some t) : Rep K mg g φ x t := by
  obtain ⟨u, h1, h2⟩ := r.getV hx
  rw [ht] at h1
  cases h1
  exact h2
theorem RepAll.some {vs : List V} {ts : List T} {g : Gr} {i : Nat} (r : RepAll K mg g φ vs ts) (ht : ts[i]? = some t) : ∃ x, vs[i]? = Option.some x ∧ Rep K mg g φ x t := r.get ht
end
theorem int_get {ns : List Int} {i : Nat} {t : T} (h : (ns.map T.int)[i]? = some t) : ∃ n, t = .int n ∧ (ns.map V.int)[i]? = some (.int n) := by
  rw [List.getElem?_map] at h ⊢
  cases e : ns[i]? with
  | none => rw [e] at h; cases h
  | some n => rw [e] at h; cases h; exact ⟨n, rfl, rfl⟩
section
variable {X : Cx} {W : WX} {pos : Pos} {tg e : Expr} {fe : Slots → M T}
/-- by the kind of the value: a tuple, a text, else a list -/
theorem dT_or3 {α β : Type} {RR : Gr → List Addr → β → α → Prop} {f : Slots → M T} {k : T → M α} {σ : L2.St} {H : Hp} {Q : β → Hp → Prop} {P1 P2 P3 : V → Hp → Prop} (h : dn X.K X.mg RR W (fun τ => bnd (f τ) k) σ H Q) (c : Store → T → Nat)
    (h1 : ∀ (φ : List Addr) (S : Store) (Mk : List Addr) (H1 : Hp) (v : V) (t : T), c S t = 0 → Rel X.K X.mg φ S Mk H1 → Rep X.K X.mg (G φ S Mk H1) φ v t → Post X.K X.mg RR φ S Mk H1 (k t S) (fun c d H' => W c d σ H') Q → P1 v H1)
    (h2 : ∀ (φ : List Addr) (S : Store) (Mk : List Addr) (H1 : Hp) (v : V) (t : T), c S t = 1 → Rel X.K X.mg φ S Mk H1 → Rep X.K X.mg (G φ S Mk H1) φ v t → Post X.K X.mg RR φ S Mk H1 (k t S) (fun c d H' => W c d σ H') Q → P2 v H1)
    (h3 : ∀ (φ : List Addr) (S : Store) (Mk : List Addr) (H1 : Hp) (v : V) (t : T), c S t ≠ 0 → c S t ≠ 1 → Rel X.K X.mg φ S Mk H1 → Rep X.K X.mg (G φ S Mk H1) φ v t → Post X.K X.mg RR φ S Mk H1 (k t S) (fun c d H' => W c d σ H') Q → P3 v H1) :
    dT X W f σ H P1 ∨ dT X W f σ H P2 ∨ dT X W f σ H P3 := by
  obtain ⟨φ, S, Mk, τ, R, sl, h⟩ := h
  have q := Post.bnd (RR := Rep X.K X.mg) R h
  cases e : f τ S with
  | bad => rw [e] at q; exact q.elim
  | exc e1 S1 =>
    rw [e] at q
    exact .inl ⟨φ, S, Mk, τ, R, sl, by rw [e]; exact q⟩
  | ok t S1 =>
    rw [e] at q
    by_cases c0 : c S1 t = 0
    · refine .inl ⟨φ, S, Mk, τ, R, sl, ?_⟩
      rw [e]
      intro φ' v H' s r
      obtain ⟨φ1, S1', t', s1, r1, e1, p⟩ := q φ' v H' s r
      cases e1
      exact h1 φ1 S1 Mk H' v t c0 s1.rel r1 p
    · by_cases c1 : c S1 t = 1
      · refine .inr (.inl ⟨φ, S, Mk, τ, R, sl, ?_⟩)
        rw [e]
        intro φ' v H' s r
        obtain ⟨φ1, S1', t', s1, r1, e1, p⟩ := q φ' v H' s r
        cases e1
        exact h2 φ1 S1 Mk H' v t c1 s1.rel r1 p
      · refine .inr (.inr ⟨φ, S, Mk, τ, R, sl, ?_⟩)
        rw [e]
        intro φ' v H' s r
        obtain ⟨φ1, S1', t', s1, r1, e1, p⟩ := q φ' v H' s r
        cases e1
        exact h3 φ1 S1 Mk H' v t c0 c1 s1.rel r1 p
def kindSeq (S : Store) (t : T) : Nat := match res S t with
  | .tup _ => 0
  | .str _ => 1
  | _ => 2
theorem pi_iterF (he : PE X e (dT X W fe)) : PI X tg e (dI X W (eIter fe)) := by
  refine PI.weak (PI.or (pi_tup he) (PI.or (pi_str he) (pi_list he))) fun σ H R h => dT_or3 h kindSeq ?_ ?_ ?_
  · intro φ S Mk H1 v t c R' r p
    unfold kindSeq at c
    unfold iterT at p
    split at p <;> first | exact p.elim | skip
    all_goals (rename_i e; rw [e] at c; first | cases c | skip)
    rename_i ts
    obtain ⟨a, vs, rfl, l, hl, later⟩ := tup_later R' r e
    refine ⟨a, rfl, ⟨vs, (later φ S Mk H1 ⟨[], by simp⟩ fun _ _ h => h).1⟩, p.here R' ⟨l, fun φ' S' Mk' H' R2 pr k _ => ?_⟩⟩
    obtain ⟨sq, ra⟩ := later φ' S' Mk' H' pr k
    refine ⟨fun i t hi => ⟨?_, fun x H2 y => ?_⟩, vs, sq, by rw [hl]; exact Nat.le_refl _⟩
    · obtain ⟨x, hx, _⟩ := ra.some hi
      exact ⟨vs, x, sq, hx⟩
    · obtain ⟨rfl, y⟩ := y
      exact ⟨Step.refl R2, ra.at (y vs sq) hi⟩
  · intro φ S Mk H1 v t c R' r p
    unfold kindSeq at c
    unfold iterT at p
    split at p <;> first | exact p.elim | skip
    all_goals (rename_i e; rw [e] at c; first | cases c | skip)
    rename_i x
    split at p
    · rename_i hl
      refine ⟨x, rep_str R' r e, p.here R' ⟨by simp [signs]; exact hl, fun φ' S' Mk' H' R2 pr k _ => ⟨fun i t hi => ?_, ?_⟩⟩⟩
      · unfold signs at hi
        rw [List.getElem?_map] at hi
        cases q : x.cps.toList[i]? with
        | none => rw [q] at hi; cases hi
        | some c =>
          rw [q] at hi
          cases hi
          have q' : x.cps[i]? = some c := by simpa using q
          refine ⟨(Array.getElem?_eq_some_iff.mp q').1, fun y H2 hy => ?_⟩
          obtain ⟨rfl, c', h1, rfl⟩ := hy
          rw [q'] at h1
          cases h1
          exact ⟨Step.refl R2, .str _⟩
      · show x.cps.size ≤ (signs x).length
        simp [signs]
    · exact p.elim
  · intro φ S Mk H1 v t c0 c1 R' r p
    unfold kindSeq at c0 c1
    unfold iterT at p
    split at p <;> first | exact p.elim | skip
    all_goals (rename_i e; rw [e] at c0 c1; first | exact absurd rfl c0 | exact absurd rfl c1 | skip)
    · rename_i ts
      obtain ⟨a, rfl, l, later⟩ := lst_later R' r e
      have st : stands t ts S := by
        unfold stands
        split
        · rename_i n
          simp only [res] at e
          split at e <;> first | cases e | skip
          assumption
        · trivial
      obtain ⟨vs, h1, ra⟩ := later φ S Mk H1 R' ⟨[], by simp⟩ (fun _ _ h => h) st
      refine ⟨a, rfl, ⟨vs, .inl (.inl h1)⟩, p.here R' ⟨l, fun φ' S' Mk' H' R2 pr k st' => ?_⟩⟩
      obtain ⟨vs', h2, ra'⟩ := later φ' S' Mk' H' R2 pr k st'
      refine ⟨fun i t hi => ⟨?_, fun x H2 y => ?_⟩, vs', .inl (.inl h2), by rw [ra'.length]; exact Nat.le_refl _⟩
      · obtain ⟨x, hx, _⟩ := ra'.some hi
        exact ⟨vs', x, .inl (.inl h2), hx⟩
      · obtain ⟨rfl, y⟩ := y
        exact ⟨Step.refl R2, ra'.at (y vs' (.inl (.inl h2))) hi⟩
    · rename_i ns
      cases r <;> first | (simp only [res] at e; cases e; done) | (simp only [res] at e; split at e <;> cases e; done) | skip
      case scr a ns' h l =>
        simp only [res] at e
        cases e
        refine ⟨a, rfl, ⟨_, h.sq⟩, p.here R' ⟨by rw [List.length_map]; exact Nat.le_trans l (by decide), fun φ' S' Mk' H' R2 pr k _ => ?_⟩⟩
        have sq : SqL X.K H' a (ns.map V.int) := (h.mono k).sq
        refine ⟨fun i t hi => ⟨?_, fun x H2 y => ?_⟩, _, sq, by rw [List.length_map, List.length_map]; exact Nat.le_refl _⟩
        · obtain ⟨n, rfl, hn⟩ := int_get hi
          exact ⟨_, _, sq, hn⟩
        · obtain ⟨n, rfl, hn⟩ := int_get hi
          obtain ⟨rfl, y⟩ := y
          have e2 := y _ sq
          rw [hn] at e2
          cases e2
          exact ⟨Step.refl R2, .int n⟩
/-- range(n), range(a, b) -/
def rangeT (lo : Int) (n : Nat) : M Src := if n ≤ sizeLine then ret ⟨(List.range n).map fun i => .int (lo + (i : Nat)), fun _ => True⟩ else bad
def range1 : List T → M Src
  | [.int j] => if -(2 ^ 62) ≤ j ∧ j < 2 ^ 62 then rangeT 0 j.toNat else bad
  | _ => bad
def range2 : List T → M Src
  | [.int i, .int j] => if -(2 ^ 62) ≤ i ∧ i < 2 ^ 62 ∧ -(2 ^ 62) ≤ j ∧ j < 2 ^ 62 then rangeT i (j - i).toNat else bad
  | _ => bad
def eRange (f : List T → M Src) (r : Slots → M (List T)) : Slots → M Src := fun τ => bnd (r τ) f
theorem walks_range {g : Gr} {φ : List Addr} {lo : Int} {n : Nat} (h : n ≤ sizeLine) : Walks X.K X.mg g φ (Itr lo n) ⟨(List.range n).map fun i => .int (lo + (i : Nat)), fun _ => True⟩ := by
  refine ⟨by simpa using h, fun φ' S' Mk' H' R2 pr k _ => ⟨fun i t hi => ?_, by simp [Itr]⟩⟩
  rw [List.getElem?_map] at hi
  by_cases hn : i < n
  · rw [List.getElem?_range hn] at hi
    cases hi
    refine ⟨hn, fun x H2 y => ?_⟩
    obtain ⟨rfl, rfl⟩ := y
    exact ⟨Step.refl R2, .int _⟩
  · rw [List.getElem?_eq_none (by simpa using hn)] at hi
    cases hi
theorem post_range {φ : List Addr} {S : Store} {Mk : List Addr} {H : Hp} {Wx : Value → Option Addr → Hp → Prop} {R : It → Hp → Prop} {lo : Int} {n : Nat} (R' : Rel X.K X.mg φ S Mk H) (p : Post X.K X.mg (Walks X.K X.mg) φ S Mk H (rangeT lo n S) Wx R) : R (Itr lo n) H := by
  unfold rangeT at p
  split at p
  · rename_i h
    exact Post.here p R' (walks_range h)
  · exact p.elim
variable {a b : Expr} {fr : Slots → M (List T)} {p : Pos}
theorem repAll_1 {g : Gr} {φ : List Addr} {xs : List V} {i : Int} (r : RepAll X.K X.mg g φ xs [.int i]) : xs = [.int i] := by
  cases r with
  | cons h t =>
    cases h
    cases t
    rfl
theorem repAll_2 {g : Gr} {φ : List Addr} {xs : List V} {i j : Int} (r : RepAll X.K X.mg g φ xs [.int i, .int j]) : xs = [.int i, .int j] := by
  cases r with
  | cons h t =>
    cases h
    rw [repAll_1 t]
theorem pi_range1F (hg : Gl X "range") (hm : X.mg "range" = none) (ha : PA X [a] (dA X W fr)) (hs : starEach [a] X.env = [(false, eval a X.env)] := by rfl) : PI X tg (.Call (.Name "range" p) [a] [] pos) (dI X W (eRange range1 fr)) := by
  refine PI.weak (pi_range1 hg hm ha hs) fun σ H R ⟨φ, S, Mk, τ, R', sl, h⟩ => ⟨φ, S, Mk, τ, R', sl, Post.part R' h fun φ1 S1 H1 xs ts s r p => ?_⟩
  unfold range1 at p
  split at p
  · rename_i j
    split at p
    · rename_i hj
      exact ⟨j, repAll_1 r, hj.1, hj.2, post_range s.rel p⟩
    · exact p.elim
  · exact p.elim
theorem pi_range2F (hg : Gl X "range") (hm : X.mg "range" = none) (ha : PA X [a, b] (dA X W fr)) (hs : starEach [a, b] X.env = [(false, eval a X.env), (false, eval b X.env)] := by rfl) (hs2 : starEach [b] X.env = [(false, eval b X.env)] := by rfl) :
    PI X tg (.Call (.Name "range" p) [a, b] [] pos) (dI X W (eRange range2 fr)) := by
  refine PI.weak (pi_range2 hg hm ha hs hs2) fun σ H R ⟨φ, S, Mk, τ, R', sl, h⟩ => ⟨φ, S, Mk, τ, R', sl, Post.part R' h fun φ1 S1 H1 xs ts s r p => ?_⟩
  unfold range2 at p
  split at p
  · rename_i i j
    split at p
    · rename_i hj
      exact ⟨i, j, repAll_2 r, hj, post_range s.rel p⟩
    · exact p.elim
  · exact p.elim
end
end Fw
set_option Elab.async false
set_option linter.all false
set_option maxRecDepth 100000
/-! FwIter2: enumerate, zip of lists and tuples. -/
namespace Fw
open PySem PySem.Spec PyProof.Rows L2

set_option maxHeartbeats 1000000 in
theorem meets_enum1 {v : Value} {o : Obj} {H : Heap → Prop} (B : Begins v o H) :
    Meets (Builtin.«enumerate.__new__» ⟨[.type "enumerate", v], []⟩) (fun _ R s => H s.heap ∧
      R (.ok (.ret (.ref (s.heap.push o).objs.size))) { s with heap := (s.heap.push o).push { cls := .type "enumerate", data := .fields #[.none, .bool false, .ref s.heap.objs.size, rawInt 0, .none, .none] } }) :=
  .of_wp fun prog w A R s h => by
    obtain ⟨hp, g, d, tk, os⟩ := s; obtain ⟨h1, h⟩ := h
    have hsub := sub_enumerate
    have q1 : ∀ {A' : Around} {E : Value → Shared → Prop} {Q : Value → Shared → Prop}, Q (.ref hp.objs.size) ⟨hp.push o, g, d, tk, os⟩ → wpAny (model prog w) A' (pyIter v) Q E ⟨hp, g, d, tk, os⟩ :=
      fun q => B.iter prog w _ _ ⟨hp, g, d, tk, os⟩ _ h1 q
    wp_walk using q1
    refine wpAny_stack_any fun st => wpAny_pure ?_
    split
    · rename_i c _ _ _ _ _
      cases (c == Value.type "enumerate")
      · wp_walk using q1
        exact ⟨_, rfl, h⟩
      · wp_walk using q1
        exact ⟨_, rfl, h⟩
    · wp_walk using q1
      exact ⟨_, rfl, h⟩
section
variable {prog : Program} {w : World} {A : Around} {E : Value → Shared → Prop} {s : Shared}
theorem enum1_begins {v : Value} {o : Obj} {H : Heap → Prop} {Q : Value → Shared → Prop} (B : Begins v o H) (h1 : H s.heap)
    (h : ∀ h', IsEnum h' (s.heap.objs.size + 1) s.heap.objs.size 0 .none → h'.get? s.heap.objs.size = some o → h'.objs.size = s.heap.objs.size + 2 →
      (∀ b o, s.heap.get? b = some o → h'.get? b = some o) → Q (.ref (s.heap.objs.size + 1)) { s with heap := h' }) :
    wpAny (model prog w) A (call (.type "enumerate") [v]) Q E s := by
  refine callType_new F.called_enumerate (by decide) (F.typeCall_enumerate_1 _) (F.newCall_enumerate_1 _) (fun obj => F.args_object_init_2 obj _) F.entry_enumerate_new
    (meets_enum1 B) ⟨h1, ?_⟩
  have hz : (s.heap.push o).objs.size = s.heap.objs.size + 1 := Heap.size_push ..
  show _ ∧ _
  rw [hz]
  have he : IsEnum ((s.heap.push o).push { cls := .type "enumerate", data := .fields #[.none, .bool false, .ref s.heap.objs.size, rawInt 0, .none, .none] }) (s.heap.objs.size + 1) s.heap.objs.size 0 .none := by
    have := Heap.get?_push_size (s.heap.push o) (o := { cls := .type "enumerate", data := .fields #[.none, .bool false, .ref s.heap.objs.size, rawInt 0, .none, .none] }) rfl
    rw [hz] at this; exact this
  refine ⟨⟨_, he, rfl⟩, h _ he (Heap.get?_push_of_some _ (Heap.get?_push_size _ B.free)) (by rw [Heap.size_push, hz]) fun b o x => Heap.get?_push_of_some _ (Heap.get?_push_of_some _ x)⟩
end
/-- the tuple at a, each item in a new pair -/
def IteT (K : PySem.W.Frag) (a : Addr) : It :=
  ⟨fun i H => ∃ (xs : List V) (x : V), SqT K H a xs ∧ xs[i]? = some x, fun i H v H' => ∃ T x, v = .ref T ∧ H T = none ∧ H' = upd H T (.tup [.int (i : Nat), x]) ∧ ∀ xs, SqT K H a xs → xs[i]? = some x, fun i H => ∃ xs : List V, SqT K H a xs ∧ xs.length = i⟩
theorem enum_apart {h : Heap} {e it a : Addr} {c : Int} {old : Value} {its : Array Value} (he : IsEnum h e it c old) (p : h.IsTuple a its) : e ≠ a := fun z => by
  obtain ⟨o, ho, hc, _⟩ := p
  have he' : h.get? e = some { cls := .type "enumerate", data := .fields #[.none, .bool false, .ref it, rawInt c, .none, old] } := he
  rw [z, ho] at he'
  cases he'
  exact absurd (Value.type.inj hc) (by decide)
theorem tupIter_apart {h : Heap} {it a : Addr} {i : Nat} {its : Array Value} (ht : h.IsTupleIter it a i) (p : h.IsTuple a its) : a ≠ it := fun z => by
  obtain ⟨o, ho, hc, n, hd⟩ := p
  obtain ⟨o2, ho2, hc2, hd2⟩ := ht
  rw [← z, ho] at ho2
  cases ho2
  rw [hd] at hd2
  cases hd2
theorem turn_enumT {P : Program} {w : World} {K : PySem.W.Frag} {elts : List Expr} {kk : Nat} {tpos : Pos} (a e it : Addr) :
    Turn P w K (.Tuple elts kk tpos) (IteT K a) [e, it] e (fun i h => (∃ old, IsEnum h e it ((i : Nat) : Int) old) ∧ h.IsTupleIter it a i ∧ e ≠ it) where
  mem := by simp
  obj := fun i h st b hb => by
    obtain ⟨⟨old, he⟩, ⟨o, ho, hc, hd⟩, _⟩ := st
    have e' : b = e ∨ b = it := by simpa using hb
    rcases e' with z | z
    · rw [z]; exact ⟨_, he, fun v q => nomatch q⟩
    · rw [z]; exact ⟨o, ho, fun v q => by rw [hd] at q; cases q⟩
  keep := fun i h h' st k => let ⟨⟨old, he⟩, hi, hne⟩ := st; ⟨⟨old, k e (by simp) _ he⟩, hi.at fun o q => k it (by simp) o q, hne⟩
  item := by
    intro X hP hw hK hc i pins s σ H E I hf st hg
    subst hP hw hK
    obtain ⟨⟨old, he⟩, hit, hne⟩ := st
    obtain ⟨xs, x, hq, hx⟩ := hg
    obtain ⟨its, rv, p, hz⟩ := I.tuple hq
    obtain ⟨u, hu, ru⟩ := rv.get hx
    have p : s.heap.IsTuple a its.toArray := p
    have hel : e < s.heap.objs.size := Heap.lt_size he
    have hil : it < s.heap.objs.size := by obtain ⟨_, q, _⟩ := hit; exact Heap.lt_size q
    have hea := enum_apart he p
    have hai := tupIter_apart hit p
    have hi : i < its.toArray.size := by
      have := (List.getElem?_eq_some_iff.mp hu).1
      simpa using this
    refine wpAny_pyNext_enum_itemC (Draws.tuple (A := X.A.in1) (I.ok.hd hc) it a hai its.toArray) he ⟨hit, p⟩ hi hne (by simp [hne, hea]) fun y h' tk hy ho hst' hT hsz hk => ?_
    obtain ⟨hit', _⟩ := hst'
    have hyu : y = u := by
      have h1 : its.toArray[i]? = some u := by simpa using hu
      have h2 : its.toArray[i]? = some y := hy
      rw [h1] at h2
      exact (Option.some.inj h2).symm
    subst hyu
    refine ⟨_, rfl, wpAny_letOwnedTupleGo_enum (s := { s with heap := h', toks := tk + 1 }) ho fun h'' he' sb => ?_⟩
    have hT2 : h''.get? s.heap.objs.size = some { cls := .type "tuple", data := .seq #[.int i tk, y] } := (sb.2 _ (Nat.ne_of_gt hel)).trans hT
    have new : ObjOk X.prog X.w (upd H s.heap.objs.size (.tup [.int (i : Nat), x])) h'' s.heap.objs.size (.tup [.int (i : Nat), x]) :=
      ⟨by show 2 ≤ sizeLine; decide, [.int i tk, y], .cons ⟨_, rfl⟩ (.cons ru .nil), ⟨_, hT2, rfl, _, rfl⟩⟩
    have I1 : Inv X pins σ (upd H s.heap.objs.size (.tup [.int (i : Nat), x])) { s with heap := h'', toks := tk + 1 } :=
      I.turnedNew (ch := [e, it]) (fun b ob hb q => (sb.2 b (fun z => hb (by simp [z]))).trans (hk b ob (fun z => hb (by simp [z])) (fun z => hb (by simp [z])) q)) hf (Nat.le_refl _) new
    refine ⟨.ref s.heap.objs.size, _, I1, rfl, ⟨_, x, rfl, I.hok.fresh (Nat.le_refl _), rfl, fun ys hy => by rw [I.tuple_inj hy hq]; exact hx⟩, ⟨⟨y, ?_⟩, hit'.at fun o q => (sb.2 it (Ne.symm hne)).trans q, hne⟩, fun b hb => ?_⟩
    · have e1 : ((i + 1 : Nat) : Int) = (i : Int) + 1 := by omega
      rw [e1]; exact he'
    · have hb' : b < s.heap.objs.size := by
        have e' : b = e ∨ b = it := by simpa using hb
        rcases e' with z | z
        · rw [z]; exact hel
        · rw [z]; exact hil
      rw [upd_ne (Nat.ne_of_lt hb')]
      exact (hf b hb).1
  done := by
    intro X hP hw hK hc i pins s σ H E I hf st hg
    subst hP hw hK
    obtain ⟨⟨old, he⟩, hit, hne⟩ := st
    obtain ⟨xs, hq, hx⟩ := hg
    obtain ⟨its, rv, p, hz⟩ := I.tuple hq
    have p : s.heap.IsTuple a its.toArray := p
    have hl := rv.length
    have hi : i = its.toArray.size := by simp; omega
    subst hi
    exact wpAny_pyNext_enum_endD (Draws.tuple (A := X.A.in1) (I.ok.hd hc) it a (tupIter_apart hit p) its.toArray) he ⟨hit, p⟩ fun h' eb => ⟨rfl, I.turnedL (t' := s.toks) (ch := [e, it]) (fun b o hb q => eb b o (fun z => hb (by simp [z])) q) hf⟩
  self := fun A i s Q E st h => let ⟨⟨_, he⟩, _⟩ := st; wpAny_pyIter_enum he h
def iEnumA (K : PySem.W.Frag) (ta : TA) : TI := fun σ H R => ta σ H fun vs H1 => ∃ a xs, vs = [.ref a] ∧ ((SqL K H1 a xs ∧ R (Ite K a) H1) ∨ (SqT K H1 a xs ∧ R (IteT K a) H1))
theorem pi_enumA {X : Cx} {e : Expr} {ta : TA} {p pos tpos : Pos} {elts : List Expr} {kk : Nat} (hg : Gl X "enumerate") (hm : X.mg "enumerate" = none) (ha : PA X [e] ta) (hs : starEach [e] X.env = [(false, eval e X.env)] := by rfl) :
    PI X (.Tuple elts kk tpos) (.Call (.Name "enumerate" p) [e] [] pos) (iEnumA X.K ta) := by
  refine ⟨fun pins s σ H R I h => ?_⟩
  refine Call_ (ld_blt I hg hm boot_enumerate (PyProof.Rows.callWith_type1 (thn (ha.run pos pins s σ H _ I h) fun us s1 ⟨vs, H1, I1, r1, q1⟩ => ?_) hs rfl))
  obtain ⟨a, xs, ex, q1⟩ := q1
  subst ex
  cases r1 with
  | cons r rr =>
    cases rr
    cases r
    have fresh2 : ∀ b ∈ [s1.heap.objs.size + 1, s1.heap.objs.size], FpOk X pins H1 b := fun b hb => by
      have e' : b = s1.heap.objs.size + 1 ∨ b = s1.heap.objs.size := by simpa using hb
      have hle : s1.heap.objs.size ≤ b := by
        rcases e' with z | z
        · rw [z]; exact Nat.le_add_right _ _
        · rw [z]; exact Nat.le_refl _
      exact I1.fpOk hle (I1.hok.fresh hle)
    rcases q1 with ⟨hq, q⟩ | ⟨hq, q⟩
    · obtain ⟨its, rv, p', hz⟩ := I1.list hq
      refine call_enumerate_list p'.isList fun h' he hit hsz hk => wpAny_pyIter_enum he ?_
      have I2 : Inv X pins σ H1 { s1 with heap := h' } := I1.kept (t' := s1.toks) hk
      exact ⟨s1.heap.objs.size + 1, [s1.heap.objs.size + 1, s1.heap.objs.size], _, _, H1, rfl, I2, turn_enum a (s1.heap.objs.size + 1) s1.heap.objs.size, ⟨⟨.none, he⟩, hit, Nat.succ_ne_self _⟩, fresh2, q⟩
    · obtain ⟨its, rv, p', hz⟩ := I1.tuple hq
      have p' : s1.heap.IsTuple a its.toArray := p'
      refine enum1_begins (begins_tuple a its.toArray) p' fun h' he hit hsz hk => wpAny_pyIter_enum he ?_
      have I2 : Inv X pins σ H1 { s1 with heap := h' } := I1.kept (t' := s1.toks) hk
      exact ⟨s1.heap.objs.size + 1, [s1.heap.objs.size + 1, s1.heap.objs.size], _, _, H1, rfl, I2, turn_enumT a (s1.heap.objs.size + 1) s1.heap.objs.size, ⟨⟨.none, he⟩, ⟨_, hit, rfl, rfl⟩, Nat.succ_ne_self _⟩, fresh2, q⟩
/-! ### their denotations -/
def enumL : Nat → List T → List T
  | _, [] => []
  | k, t :: ts => .tup [.int (k : Nat), t] :: enumL (k + 1) ts
theorem enumL_get : ∀ (ts : List T) (k i : Nat), (enumL k ts)[i]? = (ts[i]?).map fun t => .tup [.int ((k + i : Nat) : Int), t]
  | [], _, _ => by simp [enumL]
  | t :: ts, k, 0 => by simp [enumL]
  | t :: ts, k, i + 1 => by
    unfold enumL
    rw [List.getElem?_cons_succ, List.getElem?_cons_succ, enumL_get ts (k + 1) i]
    have e : k + 1 + i = k + (i + 1) := by omega
    rw [e]
theorem enumL_length : ∀ (ts : List T) (k : Nat), (enumL k ts).length = ts.length
  | [], _ => rfl
  | _ :: ts, k => by simp [enumL, enumL_length ts (k + 1)]
def enumT : List T → M Src
  | [t] => fun S => match res S t with
    | .lst ts => .ok ⟨enumL 0 ts, stands t ts⟩ S
    | .tup ts => .ok ⟨enumL 0 ts, fun _ => True⟩ S
    | _ => .bad
  | _ => bad
def zipL : List T → List T → List T
  | a :: as, b :: bs => .tup [a, b] :: zipL as bs
  | _, _ => []
theorem zipL_get : ∀ (as bs : List T) (i : Nat), (zipL as bs)[i]? = match as[i]?, bs[i]? with
    | some a, some b => some (.tup [a, b])
    | _, _ => none
  | [], _, _ => by simp [zipL]
  | a :: as, [], i => by cases i <;> simp [zipL]
  | a :: as, b :: bs, 0 => by simp [zipL]
  | a :: as, b :: bs, i + 1 => by
    unfold zipL
    rw [List.getElem?_cons_succ, List.getElem?_cons_succ, List.getElem?_cons_succ, zipL_get as bs i]
theorem zipL_length : ∀ as bs : List T, (zipL as bs).length = min as.length bs.length
  | [], _ => by simp [zipL]
  | _ :: _, [] => by simp [zipL]
  | _ :: as, _ :: bs => by simp [zipL, zipL_length as bs]
def zipT : List T → M Src
  | [t, u] => fun S => match res S t, res S u with
    | .lst as, .lst bs => .ok ⟨zipL as bs, fun S' => stands t as S' ∧ stands u bs S'⟩ S
    | .tup as, .tup bs => .ok ⟨zipL as bs, fun _ => True⟩ S
    | _, _ => .bad
  | _ => bad
theorem stands_now {S : Store} {t : T} {ts : List T} (e : res S t = .lst ts) : stands t ts S := by
  unfold stands
  split
  · rename_i n
    simp only [res] at e
    split at e <;> first | cases e | skip
    assumption
  · trivial
section
variable {X : Cx} {W : WX} {e e2 : Expr} {fr : Slots → M (List T)} {p pos tpos : Pos} {elts : List Expr} {kk : Nat}
theorem pi_enumF (hg : Gl X "enumerate") (hm : X.mg "enumerate" = none) (ha : PA X [e] (dA X W fr)) (hs : starEach [e] X.env = [(false, eval e X.env)] := by rfl) :
    PI X (.Tuple elts kk tpos) (.Call (.Name "enumerate" p) [e] [] pos) (dI X W (eRange enumT fr)) := by
  refine PI.weak (pi_enumA hg hm ha hs) fun σ H R ⟨φ, S, Mk, τ, R', sl, h⟩ => ⟨φ, S, Mk, τ, R', sl, Post.part R' h fun φ1 S1 H1 xs ts s r p => ?_⟩
  unfold enumT at p
  split at p <;> first | exact p.elim | skip
  rename_i t
  cases r with
  | @cons v _ _ _ r rr =>
    cases rr
    have R1 := s.rel
    split at p <;> first | exact p.elim | skip
    · rename_i ts e
      obtain ⟨a, rfl, l, later⟩ := lst_later R1 r e
      obtain ⟨vs, h1, ra⟩ := later φ1 S1 Mk H1 R1 ⟨[], by simp⟩ (fun _ _ h => h) (stands_now e)
      refine ⟨a, vs, rfl, .inl ⟨.inl (.inl h1), p.here R1 ⟨by show (enumL 0 ts).length ≤ _; rw [enumL_length]; exact l, fun φ' S' Mk' H' R2 pr k st' => ?_⟩⟩⟩
      obtain ⟨vs', h2, ra'⟩ := later φ' S' Mk' H' R2 pr k st'
      have sq : SqL X.K H' a vs' := .inl (.inl h2)
      refine ⟨fun i t hi => ?_, vs', sq, by show vs'.length ≤ (enumL 0 ts).length; rw [enumL_length, ra'.length]; exact Nat.le_refl _⟩
      have hi : (enumL 0 ts)[i]? = some t := hi
      rw [enumL_get, Nat.zero_add] at hi
      cases q : ts[i]? with
      | none => rw [q] at hi; cases hi
      | some u =>
        rw [q] at hi
        cases hi
        obtain ⟨x, hx, hr⟩ := ra'.some q
        refine ⟨⟨vs', x, sq, hx⟩, fun y H2 hy => ?_⟩
        obtain ⟨Tq, z, rfl, hn, rfl, hz⟩ := hy
        have e3 := hz vs' sq
        rw [hx] at e3
        cases e3
        obtain ⟨st, gx⟩ := Step.new (o := .tup [.int (i : Nat), x]) R2 hn
        exact ⟨st, .tup (.inl (.inl gx)) (.cons (.int _) (.cons (st.rep hr) .nil)) (by show 2 ≤ sizeLine; decide)⟩
    · rename_i ts e
      obtain ⟨a, vs, rfl, l, hl, later⟩ := tup_later R1 r e
      obtain ⟨sq, ra⟩ := later φ1 S1 Mk H1 ⟨[], by simp⟩ fun _ _ h => h
      refine ⟨a, vs, rfl, .inr ⟨sq, p.here R1 ⟨by show (enumL 0 ts).length ≤ _; rw [enumL_length]; exact l, fun φ' S' Mk' H' R2 pr k st' => ?_⟩⟩⟩
      obtain ⟨sq, ra'⟩ := later φ' S' Mk' H' pr k
      refine ⟨fun i t hi => ?_, vs, sq, by show vs.length = (enumL 0 ts).length; rw [enumL_length, ra'.length]⟩
      have hi : (enumL 0 ts)[i]? = some t := hi
      rw [enumL_get, Nat.zero_add] at hi
      cases q : ts[i]? with
      | none => rw [q] at hi; cases hi
      | some u =>
        rw [q] at hi
        cases hi
        obtain ⟨x, hx, hr⟩ := ra'.some q
        refine ⟨⟨vs, x, sq, hx⟩, fun y H2 hy => ?_⟩
        obtain ⟨Tq, z, rfl, hn, rfl, hz⟩ := hy
        have e3 := hz vs sq
        rw [hx] at e3
        cases e3
        obtain ⟨st, gx⟩ := Step.new (o := .tup [.int (i : Nat), x]) R2 hn
        exact ⟨st, .tup (.inl (.inl gx)) (.cons (.int _) (.cons (st.rep hr) .nil)) (by show 2 ≤ sizeLine; decide)⟩
theorem zip_parts {as bs : List T} {i : Nat} {t : T} (h : (zipL as bs)[i]? = some t) : ∃ a b, as[i]? = some a ∧ bs[i]? = some b ∧ t = .tup [a, b] := by
  rw [zipL_get] at h
  split at h <;> cases h
  rename_i a b e1 e2
  exact ⟨a, b, e1, e2, rfl⟩
theorem pi_zipF (hg : Gl X "zip") (hm : X.mg "zip" = none) (ha : PA X [e, e2] (dA X W fr))
    (hs : starEach [e, e2] X.env = (false, eval e X.env) :: starEach [e2] X.env := by rfl) (hpl : (backTo pos (starEach [e2] X.env)).any (·.1) = false := by rfl) :
    PI X (.Tuple elts kk tpos) (.Call (.Name "zip" p) [e, e2] [] pos) (dI X W (eRange zipT fr)) := by
  refine PI.weak (RZ.pi_zipA hg hm ha hs hpl) fun σ H R ⟨φ, S, Mk, τ, R', sl, h⟩ => ⟨φ, S, Mk, τ, R', sl, Post.part R' h fun φ1 S1 H1 xs ts s r p => ?_⟩
  unfold zipT at p
  split at p <;> first | exact p.elim | skip
  rename_i t u
  cases r with
  | @cons v _ _ _ r rr =>
    cases rr with
    | @cons v2 _ _ _ r2 rr =>
      cases rr
      have R1 := s.rel
      split at p <;> first | exact p.elim | skip
      · rename_i as bs e1 e2
        obtain ⟨a, rfl, l1, later1⟩ := lst_later R1 r e1
        obtain ⟨b, rfl, l2, later2⟩ := lst_later R1 r2 e2
        obtain ⟨vs, h1, ra⟩ := later1 φ1 S1 Mk H1 R1 ⟨[], by simp⟩ (fun _ _ h => h) (stands_now e1)
        obtain ⟨ws, h2, rb⟩ := later2 φ1 S1 Mk H1 R1 ⟨[], by simp⟩ (fun _ _ h => h) (stands_now e2)
        refine ⟨a, b, vs, ws, rfl, .inl ⟨.inl (.inl h1), .inl (.inl h2), p.here R1 ⟨by show (zipL as bs).length ≤ _; rw [zipL_length]; omega, fun φ' S' Mk' H' R2 pr k st' => ?_⟩⟩⟩
        obtain ⟨vs', h3, ra'⟩ := later1 φ' S' Mk' H' R2 pr k st'.1
        obtain ⟨ws', h4, rb'⟩ := later2 φ' S' Mk' H' R2 pr k st'.2
        have sq : SqL X.K H' a vs' := .inl (.inl h3)
        have sq2 : SqL X.K H' b ws' := .inl (.inl h4)
        refine ⟨fun i t hi => ?_, vs', ws', sq, sq2, by
          have e3 : (Src.items ⟨zipL as bs, fun S' => stands t as S' ∧ stands u bs S'⟩).length = min as.length bs.length := zipL_length as bs
          rw [e3, ra'.length, rb'.length]; omega⟩
        obtain ⟨t1, t2, q1, q2, rfl⟩ := zip_parts hi
        obtain ⟨x, hx, hr⟩ := ra'.some q1
        obtain ⟨y, hy, hr2⟩ := rb'.some q2
        refine ⟨⟨vs', ws', x, y, sq, sq2, hx, hy⟩, fun v H2 hv => ?_⟩
        obtain ⟨Tq, z1, z2, rfl, hn, rfl, hz1, hz2⟩ := hv
        have e3 := hz1 vs' sq
        rw [hx] at e3
        cases e3
        have e4 := hz2 ws' sq2
        rw [hy] at e4
        cases e4
        obtain ⟨st, gx⟩ := Step.new (o := .tup [x, y]) R2 hn
        exact ⟨st, .tup (.inl (.inl gx)) (.cons (st.rep hr) (.cons (st.rep hr2) .nil)) (by show 2 ≤ sizeLine; decide)⟩
      · rename_i as bs e1 e2
        obtain ⟨a, vs, rfl, l1, hl1, later1⟩ := tup_later R1 r e1
        obtain ⟨b, ws, rfl, l2, hl2, later2⟩ := tup_later R1 r2 e2
        obtain ⟨sq, ra⟩ := later1 φ1 S1 Mk H1 ⟨[], by simp⟩ fun _ _ h => h
        obtain ⟨sq2, rb⟩ := later2 φ1 S1 Mk H1 ⟨[], by simp⟩ fun _ _ h => h
        refine ⟨a, b, vs, ws, rfl, .inr ⟨sq, sq2, p.here R1 ⟨by show (zipL as bs).length ≤ _; rw [zipL_length]; omega, fun φ' S' Mk' H' R2 pr k st' => ?_⟩⟩⟩
        obtain ⟨sq, ra'⟩ := later1 φ' S' Mk' H' pr k
        obtain ⟨sq2, rb'⟩ := later2 φ' S' Mk' H' pr k
        refine ⟨fun i t hi => ?_, vs, ws, sq, sq2, by
          have e3 : (Src.items ⟨zipL as bs, fun _ => True⟩).length = min as.length bs.length := zipL_length as bs
          rw [e3, ra'.length, rb'.length]; omega⟩
        obtain ⟨t1, t2, q1, q2, rfl⟩ := zip_parts hi
        obtain ⟨x, hx, hr⟩ := ra'.some q1
        obtain ⟨y, hy, hr2⟩ := rb'.some q2
        refine ⟨⟨vs, ws, x, y, sq, sq2, hx, hy⟩, fun v H2 hv => ?_⟩
        obtain ⟨Tq, z1, z2, rfl, hn, rfl, hz1, hz2⟩ := hv
        have e3 := hz1 vs sq
        rw [hx] at e3
        cases e3
        have e4 := hz2 ws sq2
        rw [hy] at e4
        cases e4
        obtain ⟨st, gx⟩ := Step.new (o := .tup [x, y]) R2 hn
        exact ⟨st, .tup (.inl (.inl gx)) (.cons (st.rep hr) (.cons (st.rep hr2) .nil)) (by show 2 ≤ sizeLine; decide)⟩
end
end Fw
set_option Elab.async false
set_option linter.all false
set_option maxRecDepth 100000
/-! FwComp: list comprehensions. -/
namespace Fw
open PySem PySem.Spec PyProof.Rows L2

/-! ### an object that is hidden while it is made -/
section
variable {K : PySem.W.Frag} {mg : Str → Option Value} {φ φ' : List Addr} {S S' : Store} {Mk : List Addr} {H H' : Hp} {D : Addr} {o : HO}
theorem not_live (R : Rel K mg φ S Mk H) (h : H D = none) : ¬ Live φ S D := fun z => by obtain ⟨o, e⟩ := R.live z; rw [h] at e; cases e
theorem not_masked (R : Rel K mg φ S Mk H) (h : H D = none) : D ∉ Mk := fun z => by obtain ⟨⟨o, e⟩, _⟩ := R.msk D z; rw [h] at e; cases e
theorem G_mask (h : H D = none) {b : Addr} {u : HO} : G φ S Mk H b u → G φ S (D :: Mk) (upd H D o) b u := fun ⟨h1, h2, h3⟩ => by
  have ne := ne_of_none h1 h
  exact ⟨by rw [upd_ne ne]; exact h1, h2, fun z => (List.mem_cons.mp z).elim ne h3⟩
theorem Rel.mask (R : Rel K mg φ S Mk H) (h : H D = none) : Rel K mg φ S (D :: Mk) (upd H D o) := by
  refine ⟨R.len, fun n c e => ?_, R.inj, fun b hb => ?_⟩
  · obtain ⟨a, e1, q⟩ := R.cell n c e
    refine ⟨a, e1, q.mono (fun _ _ => G_mask h) ⟨[], by simp⟩ (upd_ne fun z => ?_)⟩
    subst z
    exact not_live R h ⟨n, c, e, e1⟩
  · rcases List.mem_cons.mp hb with rfl | hb
    · exact ⟨⟨o, upd_same⟩, not_live R h⟩
    · obtain ⟨⟨u, e⟩, q⟩ := R.msk b hb
      exact ⟨⟨u, (upd_ne (fun (z : b = D) => not_masked R h (z ▸ hb))).trans e⟩, q⟩
theorem G_hid {b : Addr} {u : HO} (hD : D ∈ Mk) : G φ S Mk H b u → G φ S Mk (upd H D o) b u := fun ⟨h1, h2, h3⟩ =>
  ⟨by rw [upd_ne fun (z : b = D) => h3 (z ▸ hD)]; exact h1, h2, h3⟩
/-- a hidden object is changed -/
theorem Rel.hid (R : Rel K mg φ S Mk H) (hD : D ∈ Mk) : Rel K mg φ S Mk (upd H D o) := by
  refine ⟨R.len, fun n c e => ?_, R.inj, fun b hb => ?_⟩
  · obtain ⟨a, e1, q⟩ := R.cell n c e
    refine ⟨a, e1, q.mono (fun _ _ => G_hid hD) ⟨[], by simp⟩ (upd_ne fun z => ?_)⟩
    subst z
    exact (R.msk a hD).2 ⟨n, c, e, e1⟩
  · obtain ⟨⟨u, e⟩, q⟩ := R.msk b hb
    by_cases z : b = D
    · subst z
      exact ⟨⟨o, upd_same⟩, q⟩
    · exact ⟨⟨u, (upd_ne z).trans e⟩, q⟩
theorem G_unmask {b : Addr} {u : HO} : G φ S (D :: Mk) H b u → G φ S Mk H b u := fun ⟨h1, h2, h3⟩ => ⟨h1, h2, fun z => h3 (List.mem_cons_of_mem _ z)⟩
theorem Rel.unmask (R : Rel K mg φ S (D :: Mk) H) : Rel K mg φ S Mk H :=
  ⟨R.len, fun n c e => let ⟨a, e1, q⟩ := R.cell n c e; ⟨a, e1, q.mono (fun _ _ => G_unmask) ⟨[], by simp⟩ rfl⟩, R.inj, fun b hb => R.msk b (List.mem_cons_of_mem _ hb)⟩
/-- a step with D hidden, D new, is a step -/
theorem Step.unmask (R : Rel K mg φ S Mk H) (h : H D = none) (s : Step K mg φ S (D :: Mk) (upd H D o) φ' S' H') : Step K mg φ S Mk H φ' S' H' :=
  ⟨s.pre, fun b u g => G_unmask (s.keep b u (G_mask h g)), fun b hb => (s.msk b (List.mem_cons_of_mem _ hb)).trans (upd_ne fun (z : b = D) => not_masked R h (z ▸ hb)), s.rel.unmask⟩
/-- .. then D becomes a mutable object -/
theorem Step.reveal (R : Rel K mg φ S (D :: Mk) H) (hm : D ∉ Mk) {c : Cell} (hc : ∀ g', (∀ b o, G φ S (D :: Mk) H b o → g' b o) → CellR K mg g' (φ ++ [D]) H D c) :
    Rel K mg (φ ++ [D]) (S ++ [some c]) Mk H ∧ ∀ b u, G φ S (D :: Mk) H b u → G (φ ++ [D]) (S ++ [some c]) Mk H b u := by
  have nl : ¬ Live φ S D := (R.msk D (List.mem_cons_self ..)).2
  have kp : ∀ b u, G φ S (D :: Mk) H b u → G (φ ++ [D]) (S ++ [some c]) Mk H b u := fun b u ⟨h1, h2, h3⟩ =>
    ⟨h1, fun z => ((live_push R.len).mp z).elim h2 fun z => h3 (z ▸ List.mem_cons_self ..), fun z => h3 (List.mem_cons_of_mem _ z)⟩
  have pre : φ <+: φ ++ [D] := ⟨[D], rfl⟩
  refine ⟨⟨by simp [R.len], fun n c' h => ?_, fun n m a c1 c2 h1 h2 e1 e2 => ?_, fun b hb => ?_⟩, kp⟩
  · by_cases hn : n < S.length
    · rw [List.getElem?_append_left hn] at h
      obtain ⟨a, e, q⟩ := R.cell n c' h
      exact ⟨a, pre_get e pre, q.mono kp pre rfl⟩
    · have e : n = S.length := by
        have := (List.getElem?_eq_some_iff.mp h).1
        simp at this
        omega
      subst e
      rw [List.getElem?_concat_length] at h
      cases h
      exact ⟨D, by rw [← R.len]; exact List.getElem?_concat_length, hc _ kp⟩
  · have low : ∀ {n : Nat} {c1 : Cell}, (S ++ [some c])[n]? = some (some c1) → (n < S.length ∧ S[n]? = some (some c1)) ∨ n = S.length := fun {n c1} h => by
      by_cases hn : n < S.length
      · rw [List.getElem?_append_left hn] at h
        exact .inl ⟨hn, h⟩
      · have := (List.getElem?_eq_some_iff.mp h).1
        simp at this
        exact .inr (by omega)
    rcases low h1 with ⟨l1, q1⟩ | rfl
    · rw [List.getElem?_append_left (by rw [R.len]; exact l1)] at e1
      rcases low h2 with ⟨l2, q2⟩ | rfl
      · rw [List.getElem?_append_left (by rw [R.len]; exact l2)] at e2
        exact R.inj n m a c1 c2 q1 q2 e1 e2
      · rw [← R.len, List.getElem?_concat_length] at e2
        cases e2
        exact absurd ⟨n, c1, q1, e1⟩ nl
    · rw [← R.len, List.getElem?_concat_length] at e1
      cases e1
      rcases low h2 with ⟨l2, q2⟩ | rfl
      · rw [List.getElem?_append_left (by rw [R.len]; exact l2)] at e2
        exact absurd ⟨m, c2, q2, e2⟩ nl
      · rfl
  · obtain ⟨q1, q2⟩ := R.msk b (List.mem_cons_of_mem _ hb)
    exact ⟨q1, fun z => ((live_push R.len).mp z).elim q2 fun z => hm (z ▸ hb)⟩
end

/-! ### the block's own names -/
def wipeT (τ : Slots) : List Nat → Slots
  | [] => τ
  | v :: vs => (wipeT τ vs).set v none
section
variable {K : PySem.W.Frag} {mg : Str → Option Value} {g : Gr} {φ : List Addr} {σ σ2 : L2.St} {τ : Slots}
theorem SlotR.wipe (h : SlotR K mg g φ σ τ) : ∀ vs : List Nat, SlotR K mg g φ (wipe σ vs) (wipeT τ vs)
  | [] => h
  | v :: vs => by
    have ih := SlotR.wipe h vs
    unfold L2.wipe wipeT
    refine ⟨by simp [ih.len], fun i t e => ?_⟩
    by_cases hi : v = i
    · subst hi
      by_cases hl : v < (wipeT τ vs).length
      · rw [List.getElem?_set_self hl] at e
        cases e
      · rw [List.getElem?_eq_none (by simpa using hl)] at e
        cases e
    · rw [List.getElem?_set_ne hi] at e ⊢
      exact ih.get i t e
theorem wipe_get : ∀ (vs : List Nat) (i : Nat), (L2.wipe σ vs)[i]? = if i ∈ vs then σ[i]?.map (fun _ => none) else σ[i]?
  | [], i => by simp [L2.wipe]
  | v :: vs, i => by
    unfold L2.wipe
    by_cases hi : v = i
    · subst hi
      rw [if_pos (List.mem_cons_self ..), List.getElem?_set_self', wipe_get vs v]
      split <;> cases σ[v]? <;> rfl
    · rw [List.getElem?_set_ne hi, wipe_get vs i]
      have e : (i ∈ v :: vs) ↔ i ∈ vs := by
        rw [List.mem_cons]
        exact ⟨fun h => h.elim (fun z => absurd z.symm hi) id, .inr⟩
      simp only [e]
/-- a target of the block's own names -/
theorem wipe_eq {vs ix : List Nat} (hx : ∀ i ∈ ix, i ∈ vs) (hl : σ2.length = (L2.wipe σ vs).length) (h : ∀ i, i ∉ ix → σ2[i]? = (L2.wipe σ vs)[i]?) : L2.wipe σ2 vs = L2.wipe σ vs := by
  refine List.ext_getElem? fun i => ?_
  rw [wipe_get vs i]
  by_cases hi : i ∈ vs
  · rw [if_pos hi]
    rw [wipe_length] at hl
    rw [wipe_get vs i, if_pos hi]
    by_cases hn : i < σ.length
    · rw [List.getElem?_eq_getElem hn, List.getElem?_eq_getElem (by rw [hl]; exact hn)]
      rfl
    · rw [List.getElem?_eq_none (by omega), List.getElem?_eq_none (by omega)]
  · rw [if_neg hi, h i fun z => hi (hx i z)]
end

/-! ### the comprehension -/
def noX {α : Type} (m : M α) : M α := fun S => match m S with
  | .ok a S' => .ok a S'
  | _ => .bad
open Classical in
noncomputable def guardS (c : Store → Prop) : M Unit := fun S => if c S then .ok () S else .bad
noncomputable def lcLoop (chk : Store → Prop) (own : List Nat) (g : Tg) (c : Slots → M Bool) (e : Slots → M T) (τ : Slots) : List T → M (List T)
  | [] => bnd (guardS chk) fun _ => ret []
  | t :: ts => bnd (guardS chk) fun _ => bnd (noX (g t (wipeT τ own))) fun τ1 => bnd (noX (c τ1)) fun b =>
    if b = true then bnd (noX (e τ1)) fun y => bnd (lcLoop chk own g c e τ ts) fun ys => ret (y :: ys) else lcLoop chk own g c e τ ts
/-- a list for good, or one that will be changed -/
def lcFin (fr : Bool) (ys : List T) : M T := if fr = true then (fun S => .ok (.ref S.length) (S ++ [some (.lst ys)])) else ret (.lst ys)
noncomputable def eLc (fr : Bool) (it : Slots → M Src) (own : List Nat) (g : Tg) (c : Slots → M Bool) (e : Slots → M T) : Slots → M T := fun τ =>
  bnd (it τ) fun src => bnd (lcLoop src.chk own g c e τ src.items) (lcFin fr)
def yes : Slots → M Bool := fun _ => ret true
def W0 : WX := fun _ _ _ _ => False
theorem noX_ok {α : Type} {m : M α} {S S' : Store} {a : α} (h : m S = .ok a S') : noX m S = .ok a S' := by unfold noX; rw [h]
theorem post_noX {K : PySem.W.Frag} {mg : Str → Option Value} {α β : Type} {RR : Gr → List Addr → β → α → Prop} {φ : List Addr} {S : Store} {Mk : List Addr} {H : Hp} {m : M α} {γ : Type} {k : α → M γ} {Q : β → Hp → Prop} {P : Out γ → Prop} (hbad : ¬ P .bad) (h : P (bnd (noX m) k S))
    (go : ∀ a S1, P (k a S1) → ∀ φ' v H', Step K mg φ S Mk H φ' S1 H' → RR (G φ' S1 Mk H') φ' v a → Q v H') : Post K mg RR φ S Mk H (m S) (fun _ _ _ => False) Q := by
  unfold bnd noX at h
  cases e : m S with
  | ok a S1 =>
    rw [e] at h
    exact fun φ' v H' s r => go a S1 h φ' v H' s r
  | exc e1 S1 => rw [e] at h; exact (hbad h).elim
  | bad => rw [e] at h; exact (hbad h).elim
section
variable {X : Cx} {W : WX} {fi : Slots → M Src} {ix own : List Nat} {g : Tg} {fc : Slots → M Bool} {fe : Slots → M T} {fr : Bool}
theorem lc_imp (hx : ∀ i ∈ ix, i ∈ own) (σ : L2.St) (H : Hp) (Q : VK) (h : dT X W (eLc fr fi own g fc fe) σ H Q) : tLc (dI X W fi) (dG X ix g) (dB X W0 fc) (dT X W0 fe) own σ H Q := by
  obtain ⟨φ, S, Mk, τ, R, sl, h⟩ := h
  refine ⟨φ, S, Mk, τ, R, sl, Post.part R h fun φ1 S1 H1 J src s1 wk p => ?_⟩
  obtain ⟨hlen, wk⟩ := wk
  intro D hD
  have R1 := s1.rel
  have nm := not_masked R1 hD
  have sl1 := s1.slots sl
  refine ⟨fun i m H' => i + m = src.items.length ∧ ∃ φ' S' acc accT, (φ1 <+: φ' ∧ (∀ b u, G φ1 S1 Mk H1 b u → G φ' S' (D :: Mk) H' b u) ∧ (∀ b ∈ Mk, H' b = H1 b) ∧ Rel X.K X.mg φ' S' (D :: Mk) H') ∧ H' D = some (.lst acc) ∧ RepAll X.K X.mg (G φ' S' (D :: Mk) H') φ' acc accT ∧ accT.length ≤ i ∧
    Post X.K X.mg (Rep X.K X.mg) φ1 S1 Mk H1 (bnd (lcLoop src.chk own g fc fe τ (src.items.drop i)) (fun ys => lcFin fr (accT ++ ys)) S') (fun c d H' => W c d σ H') Q,
    ⟨src.items.length, by omega, φ1, S1, [], [], ⟨⟨[], by simp⟩, fun b u gb => G_mask hD gb, fun b hb => upd_ne fun (z : b = D) => nm (z ▸ hb), R1.mask hD⟩, upd_same, .nil, Nat.le_refl _, p⟩, ?_⟩
  rintro i m H' ⟨hm, φ', S', acc, accT, ⟨pr, kp, mk, RD⟩, hacc, ra, hal, p'⟩
  by_cases hi : i < src.items.length
  · rw [List.drop_eq_getElem_cons hi] at p'
    unfold lcLoop at p'
    have guard : ∀ {k : Unit → M (List T)} {k2 : List T → M T}, Post X.K X.mg (Rep X.K X.mg) φ1 S1 Mk H1 (bnd (bnd (guardS src.chk) k) k2 S') (fun c d H' => W c d σ H') Q → src.chk S' ∧ Post X.K X.mg (Rep X.K X.mg) φ1 S1 Mk H1 (bnd (k ()) k2 S') (fun c d H' => W c d σ H') Q := fun {k k2} q => by
      by_cases hk : src.chk S'
      · refine ⟨hk, ?_⟩
        have e : bnd (bnd (guardS src.chk) k) k2 S' = bnd (k ()) k2 S' := by
          unfold bnd guardS
          rw [if_pos hk]
        rw [e] at q
        exact q
      · have e : bnd (bnd (guardS src.chk) k) k2 S' = .bad := by
          unfold bnd guardS
          rw [if_neg hk]
        rw [e] at q
        exact q.elim
    obtain ⟨hk, p2⟩ := guard p'
    obtain ⟨w1, _⟩ := wk φ' S' (D :: Mk) H' RD pr kp hk
    obtain ⟨go, yl⟩ := w1 i _ (List.getElem?_eq_getElem hi)
    refine .inr ⟨go, fun H2 => ∃ φ' S' acc accT, (φ1 <+: φ' ∧ (∀ b u, G φ1 S1 Mk H1 b u → G φ' S' (D :: Mk) H2 b u) ∧ (∀ b ∈ Mk, H2 b = H1 b) ∧ Rel X.K X.mg φ' S' (D :: Mk) H2) ∧ H2 D = some (.lst acc) ∧ RepAll X.K X.mg (G φ' S' (D :: Mk) H2) φ' acc accT ∧ accT.length ≤ i + 1 ∧
      Post X.K X.mg (Rep X.K X.mg) φ1 S1 Mk H1 (bnd (lcLoop src.chk own g fc fe τ (src.items.drop (i + 1))) (fun ys => lcFin fr (accT ++ ys)) S') (fun c d H' => W c d σ H') Q, fun H2 q => ⟨m - 1, by omega, by omega, q⟩, fun x H2 y => ?_⟩
    obtain ⟨s2, rx⟩ := yl x H2 y
    have slw := (s2.slots (sl1.mono kp pr)).wipe own
    refine ⟨φ', S', D :: Mk, wipeT τ own, _, s2.rel, slw, rx, ?_⟩
    rw [bnd_assoc] at p2
    refine post_noX (P := fun o => Post X.K X.mg (Rep X.K X.mg) φ1 S1 Mk H1 o (fun c d H' => W c d σ H') Q) (fun z => z) p2 fun τ1 S3 p3 φ3 σ3 H3 s3 ⟨sl3, ln3, fr3⟩ => ⟨wipe_eq hx ln3 fr3, ?_⟩
    refine ⟨φ3, S3, D :: Mk, τ1, s3.rel, sl3, ?_⟩
    rw [bnd_assoc] at p3
    refine post_noX (P := fun o => Post X.K X.mg (Rep X.K X.mg) φ1 S1 Mk H1 o (fun c d H' => W c d σ H') Q) (fun z => z) p3 fun b S4 p4 φ4 b' H4 s4 r4 => ?_
    have e4 : b' = b := r4
    subst e4
    have st4 := s2.trans (s3.trans s4)
    have all4 : φ1 <+: φ4 ∧ (∀ b u, G φ1 S1 Mk H1 b u → G φ4 S4 (D :: Mk) H4 b u) ∧ (∀ b ∈ Mk, H4 b = H1 b) ∧ Rel X.K X.mg φ4 S4 (D :: Mk) H4 :=
      ⟨pr.trans st4.pre, fun b u gb => st4.keep b u (kp b u gb), fun b hb => (st4.msk b (List.mem_cons_of_mem _ hb)).trans (mk b hb), st4.rel⟩
    have ra4 : RepAll X.K X.mg (G φ4 S4 (D :: Mk) H4) φ4 acc accT := st4.all ra
    have hacc4 : H4 D = some (.lst acc) := (st4.msk D (List.mem_cons_self ..)).trans hacc
    cases b' with
    | false =>
      rw [if_neg Bool.false_ne_true] at p4 ⊢
      exact ⟨φ4, S4, acc, accT, all4, hacc4, ra4, by omega, p4⟩
    | true =>
      rw [if_pos rfl] at p4 ⊢
      refine ⟨φ4, S4, D :: Mk, τ1, s4.rel, s4.slots sl3, ?_⟩
      rw [bnd_assoc] at p4
      refine post_noX (P := fun o => Post X.K X.mg (Rep X.K X.mg) φ1 S1 Mk H1 o (fun c d H' => W c d σ H') Q) (fun z => z) p4 fun y S5 p5 φ5 v5 H5 s5 r5 => ?_
      have hacc5 : H5 D = some (.lst acc) := (s5.msk D (List.mem_cons_self ..)).trans hacc4
      have hl5 : acc.length < sizeLine := by rw [ra.length]; omega
      refine ⟨acc, hacc5, hl5, φ5, S5, acc ++ [v5], accT ++ [y], ?_, upd_same, ?_, by simp; omega, ?_⟩
      · obtain ⟨pr4, kp4, mk4, _⟩ := all4
        exact ⟨pr4.trans s5.pre, fun b u gb => G_hid (List.mem_cons_self ..) (s5.keep b u (kp4 b u gb)), fun b hb => (upd_ne fun (z : b = D) => nm (z ▸ hb)).trans ((s5.msk b (List.mem_cons_of_mem _ hb)).trans (mk4 b hb)), s5.rel.hid (List.mem_cons_self ..)⟩
      · exact ((s5.all ra4).append (.cons r5 .nil)).mono (fun b u gb => G_hid (List.mem_cons_self ..) gb) ⟨[], by simp⟩
      · rw [bnd_assoc] at p5
        have e : (fun a => bnd (ret (y :: a)) fun ys => lcFin fr (accT ++ ys)) = fun ys => lcFin fr (accT ++ [y] ++ ys) := by
          funext ys
          rw [bnd_ret, List.append_assoc]
          rfl
        rw [e] at p5
        exact p5
  · have ei : i = src.items.length := by omega
    rw [List.drop_of_length_le (by omega)] at p'
    unfold lcLoop at p'
    by_cases hk : src.chk S'
    · have e : bnd (bnd (guardS src.chk) fun _ => ret ([] : List T)) (fun ys => lcFin fr (accT ++ ys)) S' = lcFin fr accT S' := by
        unfold bnd guardS
        rw [if_pos hk]
        show lcFin fr (accT ++ []) S' = _
        rw [List.append_nil]
      rw [e] at p'
      obtain ⟨_, w2⟩ := wk φ' S' (D :: Mk) H' RD pr kp hk
      refine .inl ⟨ei ▸ w2, ?_⟩
      unfold lcFin at p'
      cases fr with
      | false =>
        rw [if_neg Bool.false_ne_true] at p'
        have st : Step X.K X.mg φ1 S1 Mk H1 φ' S' H' := ⟨pr, fun b u gb => G_unmask (kp b u gb), mk, RD.unmask⟩
        refine Post.ok (t := T.lst accT) (v := .ref D) p' st (.lst ⟨hacc, (RD.msk D (List.mem_cons_self ..)).2, nm⟩ (ra.mono (fun b u gb => G_unmask gb) ⟨[], by simp⟩) (by omega))
      | true =>
        rw [if_pos rfl] at p'
        obtain ⟨R2, k2⟩ := Step.reveal (c := .lst accT) RD nm fun g' k => ⟨by omega, acc, hacc, ra.mono k ⟨[D], rfl⟩⟩
        have st : Step X.K X.mg φ1 S1 Mk H1 (φ' ++ [D]) (S' ++ [some (.lst accT)]) H' := ⟨pr.trans ⟨[D], rfl⟩, fun b u gb => k2 b u (kp b u gb), mk, R2⟩
        exact Post.ok (t := T.ref S'.length) (v := .ref D) p' st (.ref (by rw [← RD.len]; exact List.getElem?_concat_length))
    · have e : bnd (bnd (guardS src.chk) fun _ => ret ([] : List T)) (fun ys => lcFin fr (accT ++ ys)) S' = .bad := by
        unfold bnd guardS
        rw [if_neg hk]
      rw [e] at p'
      exact p'.elim
variable {elt tg iter : Expr} {ifs : List Expr} {scope : Scope} {ownS : List (Str × Nat)} {pos : Pos}
theorem pts_nilF : PTs X [] (dB X W yes) := ⟨fun pins s σ H Q I h => pts_nil.run pins s σ H Q I (dB_ret h)⟩
theorem pts_oneF {c : Expr} (h : PT X c (dB X W fc)) : PTs X [c] (dB X W fc) := pts_one h
theorem pe_lcF (hc : X.calm = true) (hN : X.N.Nodup) (hi : PI X tg iter (dI X W fi)) (ok : BlkOk X.N X.env.scope scope ownS) (hx : ∀ i ∈ ix, i ∈ ownS.map (·.2))
    (hg : ∀ (s : Shared) (H : Hp) (C : Addr) (cl : List (Str × Addr)) (fp : List Addr), PG (X.blk s H scope (compEnvC scope cl C X.env) fp) tg (dG X ix g)) (ht : ∀ (s : Shared) (H : Hp) (C : Addr) (cl : List (Str × Addr)) (fp : List Addr), PTs (X.blk s H scope (compEnvC scope cl C X.env) fp) ifs (dB X W0 fc))
    (he : ∀ (s : Shared) (H : Hp) (C : Addr) (cl : List (Str × Addr)) (fp : List Addr), PE (X.blk s H scope (compEnvC scope cl C X.env) fp) elt (dT X W0 fe)) (hs : ∀ x, foldedSetIterable iter X.env x = pure x := by intro _; rfl) :
    PE X (.ListComp elt [⟨tg, iter, ifs, 0⟩] scope pos) (dT X W (eLc fr fi (ownS.map (·.2)) g fc fe)) := PE.weak (pe_lc hc hN hi ok hg ht he hs) (lc_imp hx)
theorem ps_setLcF {i : Nat} {y : Str} {py : Pos} {spos : Pos} (hc : X.calm = true) (hN : X.N.Nodup) (hy : X.N[i]? = some y) (hyl : X.env.scope.names.lookup y = some .local)
    (hsw : swapsWith (.ListComp elt [⟨tg, iter, ifs, 0⟩] scope pos) (some (.Name y py)) spos.line X.env = pure true) (hi : PI X tg iter (dI X W fi)) (ok : BlkOk X.N X.env.scope scope ownS) (hx : ∀ i ∈ ix, i ∈ ownS.map (·.2))
    (hg : ∀ (s : Shared) (H : Hp) (C : Addr) (cl : List (Str × Addr)) (fp : List Addr), PG (X.blk s H scope (compEnvC scope cl C X.env) fp) tg (dG X ix g)) (ht : ∀ (s : Shared) (H : Hp) (C : Addr) (cl : List (Str × Addr)) (fp : List Addr), PTs (X.blk s H scope (compEnvC scope cl C X.env) fp) ifs (dB X W0 fc))
    (he : ∀ (s : Shared) (H : Hp) (C : Addr) (cl : List (Str × Addr)) (fp : List Addr), PE (X.blk s H scope (compEnvC scope cl C X.env) fp) elt (dT X W0 fe)) (hs : ∀ x, foldedSetIterable iter X.env x = pure x := by intro _; rfl) :
    PS X (.Assign [.Name y py] (.ListComp elt [⟨tg, iter, ifs, 0⟩] scope pos) spos) (dS X W (sSet i (eLc fr fi (ownS.map (·.2)) g fc fe))) :=
  PS.weak (ps_setLc hc hN hy hyl hsw hi ok hg ht he hs) fun D σ H ⟨φ, S, Mk, τ, R, sl, h⟩ => lc_imp hx σ H _ ⟨φ, S, Mk, τ, R, sl, PostS.part R sl h fun φ1 S1 H1 x t s r p => p φ1 _ H1 (Step.refl s.rel) ((s.slots sl).set r)⟩
end
end Fw
set_option Elab.async false
set_option linter.all false
set_option maxRecDepth 100000
/-! FwComp2: comprehensions with two fors, comprehensions of dicts. -/
namespace Fw
open PySem PySem.Spec PyProof.Rows L2

/-- what holds while the list at D is made: from (φ1, S1, H1) on -/
structure Mak (K : PySem.W.Frag) (mg : Str → Option Value) (φ1 : List Addr) (S1 : Store) (Mk : List Addr) (H1 : Hp) (D : Addr) (φ' : List Addr) (S' : Store) (H' : Hp) : Prop where
  pre : φ1 <+: φ'
  keep : ∀ b u, G φ1 S1 Mk H1 b u → G φ' S' (D :: Mk) H' b u
  msk : ∀ b ∈ Mk, H' b = H1 b
  rel : Rel K mg φ' S' (D :: Mk) H'
section
variable {K : PySem.W.Frag} {mg : Str → Option Value} {φ1 φ' φ2 : List Addr} {S1 S' S2 : Store} {Mk : List Addr} {H1 H' H2 : Hp} {D : Addr} {o : HO}
theorem Mak.start (R : Rel K mg φ1 S1 Mk H1) (hD : H1 D = none) : Mak K mg φ1 S1 Mk H1 D φ1 S1 (upd H1 D o) :=
  ⟨⟨[], by simp⟩, fun b u gb => G_mask hD gb, fun b hb => upd_ne fun (z : b = D) => not_masked R hD (z ▸ hb), R.mask hD⟩
theorem Mak.step (m : Mak K mg φ1 S1 Mk H1 D φ' S' H') (s : Step K mg φ' S' (D :: Mk) H' φ2 S2 H2) : Mak K mg φ1 S1 Mk H1 D φ2 S2 H2 :=
  ⟨m.pre.trans s.pre, fun b u gb => s.keep b u (m.keep b u gb), fun b hb => (s.msk b (List.mem_cons_of_mem _ hb)).trans (m.msk b hb), s.rel⟩
theorem Mak.write (m : Mak K mg φ1 S1 Mk H1 D φ' S' H') (nm : D ∉ Mk) : Mak K mg φ1 S1 Mk H1 D φ' S' (upd H' D o) :=
  ⟨m.pre, fun b u gb => G_hid (List.mem_cons_self ..) (m.keep b u gb), fun b hb => (upd_ne fun (z : b = D) => nm (z ▸ hb)).trans (m.msk b hb), m.rel.hid (List.mem_cons_self ..)⟩
theorem Mak.slots {σ : L2.St} {τ : Slots} (m : Mak K mg φ1 S1 Mk H1 D φ' S' H') (sl : SlotR K mg (G φ1 S1 Mk H1) φ1 σ τ) : SlotR K mg (G φ' S' (D :: Mk) H') φ' σ τ := sl.mono m.keep m.pre
/-- the list is done -/
theorem Mak.doneL {Wx : Value → Option Addr → Hp → Prop} {Q : VK} {fr : Bool} {acc : List V} {ys : List T} (m : Mak K mg φ1 S1 Mk H1 D φ' S' H') (nm : D ∉ Mk) (hacc : H' D = some (.lst acc)) (ra : RepAll K mg (G φ' S' (D :: Mk) H') φ' acc ys) (l : ys.length ≤ sizeLine)
    (p : Post K mg (Rep K mg) φ1 S1 Mk H1 (lcFin fr ys S') Wx Q) : Q (.ref D) H' := by
  unfold lcFin at p
  cases fr with
  | false =>
    rw [if_neg Bool.false_ne_true] at p
    have st : Step K mg φ1 S1 Mk H1 φ' S' H' := ⟨m.pre, fun b u gb => G_unmask (m.keep b u gb), m.msk, m.rel.unmask⟩
    exact Post.ok (t := T.lst ys) (v := .ref D) p st (.lst ⟨hacc, (m.rel.msk D (List.mem_cons_self ..)).2, nm⟩ (ra.mono (fun b u gb => G_unmask gb) ⟨[], by simp⟩) l)
  | true =>
    rw [if_pos rfl] at p
    obtain ⟨R2, k2⟩ := Step.reveal (c := .lst ys) m.rel nm fun g' k => ⟨l, acc, hacc, ra.mono k ⟨[D], rfl⟩⟩
    have st : Step K mg φ1 S1 Mk H1 (φ' ++ [D]) (S' ++ [some (.lst ys)]) H' := ⟨m.pre.trans ⟨[D], rfl⟩, fun b u gb => k2 b u (m.keep b u gb), m.msk, R2⟩
    exact Post.ok (t := T.ref S'.length) (v := .ref D) p st (.ref (by rw [← m.rel.len]; exact List.getElem?_concat_length))
end
/-! ### two fors -/
noncomputable def lc2Loop (chk : Store → Prop) (own own1 : List Nat) (g g1 : Tg) (c c1 : Slots → M Bool) (it1 : Slots → M Src) (e : Slots → M T) (τ : Slots) : List T → M (List T)
  | [] => bnd (guardS chk) fun _ => ret []
  | t :: ts => bnd (guardS chk) fun _ => bnd (noX (g t (wipeT τ own))) fun τ1 => bnd (noX (c τ1)) fun b =>
    if b = true then bnd (noX (it1 τ1)) fun src1 => bnd (guardS fun _ => src1.items.length ≤ 1000) fun _ => bnd (lcLoop src1.chk own1 g1 c1 e τ1 src1.items) fun ys => bnd (lc2Loop chk own own1 g g1 c c1 it1 e τ ts) fun zs => ret (ys ++ zs)
    else lc2Loop chk own own1 g g1 c c1 it1 e τ ts
noncomputable def eLc2 (fr : Bool) (it : Slots → M Src) (own own1 : List Nat) (g g1 : Tg) (c c1 : Slots → M Bool) (it1 : Slots → M Src) (e : Slots → M T) : Slots → M T := fun τ =>
  bnd (it τ) fun src => bnd (guardS fun _ => src.items.length ≤ 1000) fun _ => bnd (lc2Loop src.chk own own1 g g1 c c1 it1 e τ src.items) (lcFin fr)
theorem guard_of {α : Type} {c : Store → Prop} {k : Unit → M α} {S : Store} {P : Out α → Prop} (hbad : ¬ P .bad) (h : P (bnd (guardS c) k S)) : c S ∧ P (k () S) := by
  by_cases hk : c S
  · refine ⟨hk, ?_⟩
    have e : bnd (guardS c) k S = k () S := by
      unfold bnd guardS
      rw [if_pos hk]
    rw [e] at h
    exact h
  · have e : bnd (guardS c) k S = .bad := by
      unfold bnd guardS
      rw [if_neg hk]
    rw [e] at h
    exact (hbad h).elim
section
variable {X : Cx} {W : WX} {fi fi1 : Slots → M Src} {ix ix1 own own1 : List Nat} {g g1 : Tg} {fc fc1 : Slots → M Bool} {fe : Slots → M T} {fr : Bool}
theorem lc2_imp (hx : ∀ i ∈ ix, i ∈ own) (hx1 : ∀ i ∈ ix1, i ∈ own1) (σ : L2.St) (H : Hp) (Q : VK) (h : dT X W (eLc2 fr fi own own1 g g1 fc fc1 fi1 fe) σ H Q) :
    tLc2 (dI X W fi) (dG X ix g) (dB X W0 fc) (dI X W0 fi1) (dG X ix1 g1) (dB X W0 fc1) (dT X W0 fe) own own1 σ H Q := by
  obtain ⟨φ, S, Mk, τ, R, sl, h⟩ := h
  refine ⟨φ, S, Mk, τ, R, sl, Post.part R h fun φ1 S1 H1 J src s1 wk p => ?_⟩
  obtain ⟨hlen, wk⟩ := wk
  intro D hD
  have R1 := s1.rel
  have nm := not_masked R1 hD
  have sl1 := s1.slots sl
  let PP : Out T → Prop := fun o => Post X.K X.mg (Rep X.K X.mg) φ1 S1 Mk H1 o (fun c d H' => W c d σ H') Q
  have hbad : ¬ PP .bad := fun z => z
  have p : PP (bnd (guardS fun _ => src.items.length ≤ 1000) (fun _ => bnd (lc2Loop src.chk own own1 g g1 fc fc1 fi1 fe τ src.items) (lcFin fr)) S1) := p
  obtain ⟨h1000, p⟩ := guard_of (P := PP) hbad p
  refine ⟨fun i m H' => i + m = src.items.length ∧ ∃ φ' S' acc accT, Mak X.K X.mg φ1 S1 Mk H1 D φ' S' H' ∧ H' D = some (.lst acc) ∧ RepAll X.K X.mg (G φ' S' (D :: Mk) H') φ' acc accT ∧ accT.length ≤ 1000 * i ∧
    PP (bnd (lc2Loop src.chk own own1 g g1 fc fc1 fi1 fe τ (src.items.drop i)) (fun ys => lcFin fr (accT ++ ys)) S'),
    ⟨src.items.length, by omega, φ1, S1, [], [], Mak.start R1 hD, upd_same, .nil, Nat.zero_le _, p⟩, ?_⟩
  rintro i m H' ⟨hm, φ', S', acc, accT, mk, hacc, ra, hal, p'⟩
  by_cases hi : i < src.items.length
  · rw [List.drop_eq_getElem_cons hi] at p'
    unfold lc2Loop at p'
    rw [bnd_assoc] at p'
    obtain ⟨hk, p2⟩ := guard_of (P := PP) hbad p'
    obtain ⟨w1, _⟩ := wk φ' S' (D :: Mk) H' mk.rel mk.pre mk.keep hk
    obtain ⟨go, yl⟩ := w1 i _ (List.getElem?_eq_getElem hi)
    refine .inr ⟨go, fun H2 => ∃ φ' S' acc accT, Mak X.K X.mg φ1 S1 Mk H1 D φ' S' H2 ∧ H2 D = some (.lst acc) ∧ RepAll X.K X.mg (G φ' S' (D :: Mk) H2) φ' acc accT ∧ accT.length ≤ 1000 * (i + 1) ∧
      PP (bnd (lc2Loop src.chk own own1 g g1 fc fc1 fi1 fe τ (src.items.drop (i + 1))) (fun ys => lcFin fr (accT ++ ys)) S'), fun H2 q => ⟨m - 1, by omega, by omega, q⟩, fun x H2 y => ?_⟩
    obtain ⟨s2, rx⟩ := yl x H2 y
    have slw := (s2.slots (mk.slots sl1)).wipe own
    refine ⟨φ', S', D :: Mk, wipeT τ own, _, s2.rel, slw, rx, ?_⟩
    rw [bnd_assoc] at p2
    refine post_noX (P := PP) hbad p2 fun τ1 S3 p3 φ3 σ3 H3 s3 ⟨sl3, ln3, fr3⟩ => ⟨wipe_eq hx ln3 fr3, ?_⟩
    refine ⟨φ3, S3, D :: Mk, τ1, s3.rel, sl3, ?_⟩
    rw [bnd_assoc] at p3
    refine post_noX (P := PP) hbad p3 fun b S4 p4 φ4 b' H4 s4 r4 => ?_
    have e4 : b' = b := r4
    subst e4
    have st4 := s2.trans (s3.trans s4)
    have mk4 := mk.step st4
    have ra4 : RepAll X.K X.mg (G φ4 S4 (D :: Mk) H4) φ4 acc accT := st4.all ra
    have hacc4 : H4 D = some (.lst acc) := (st4.msk D (List.mem_cons_self ..)).trans hacc
    have sl4 := s4.slots sl3
    cases b' with
    | false =>
      rw [if_neg Bool.false_ne_true] at p4 ⊢
      exact ⟨φ4, S4, acc, accT, mk4, hacc4, ra4, by omega, p4⟩
    | true =>
      rw [if_pos rfl] at p4 ⊢
      rw [bnd_assoc] at p4
      refine ⟨φ4, S4, D :: Mk, τ1, s4.rel, sl4, post_noX (P := PP) hbad p4 fun src1 S5 p5 φ5 J1 H5 s5 wk1 => ?_⟩
      obtain ⟨hlen1, wk1⟩ := wk1
      rw [bnd_assoc] at p5
      obtain ⟨h1000b, p5⟩ := guard_of (P := PP) hbad p5
      have mk5 := mk4.step s5
      have ra5 := s5.all ra4
      have hacc5 : H5 D = some (.lst acc) := (s5.msk D (List.mem_cons_self ..)).trans hacc4
      have sl5 := s5.slots sl4
      have assoc : ∀ (ks : List T) (zs : List T), (fun ys => bnd (lc2Loop src.chk own own1 g g1 fc fc1 fi1 fe τ ks) fun w => lcFin fr (zs ++ ys ++ w)) = fun ys => bnd (bnd (lc2Loop src.chk own own1 g g1 fc fc1 fi1 fe τ ks) fun w => ret (ys ++ w)) fun ys => lcFin fr (zs ++ ys) := fun ks zs => by
        funext ys
        rw [bnd_assoc]
        congr 1
        funext w
        rw [bnd_ret, List.append_assoc]
      rw [bnd_assoc, ← assoc] at p5
      refine ⟨fun j k H' => j + k = src1.items.length ∧ ∃ φ' S' acc accT, Mak X.K X.mg φ1 S1 Mk H1 D φ' S' H' ∧ φ5 <+: φ' ∧ SlotR X.K X.mg (G φ' S' (D :: Mk) H') φ' σ3 τ1 ∧ H' D = some (.lst acc) ∧ RepAll X.K X.mg (G φ' S' (D :: Mk) H') φ' acc accT ∧ accT.length ≤ 1000 * i + j ∧
        (∀ b u, G φ5 S5 (D :: Mk) H5 b u → G φ' S' (D :: Mk) H' b u) ∧ PP (bnd (lcLoop src1.chk own1 g1 fc1 fe τ1 (src1.items.drop j)) (fun ys => bnd (lc2Loop src.chk own own1 g g1 fc fc1 fi1 fe τ (src.items.drop (i + 1))) fun w => lcFin fr (accT ++ ys ++ w)) S'),
        ⟨src1.items.length, by omega, φ5, S5, acc, accT, mk5, ⟨[], by simp⟩, sl5, hacc5, ra5, by omega, fun _ _ h => h, p5⟩, ?_⟩
      rintro j k H6 ⟨hjk, φ6, S6, acc6, accT6, mk6, st56, sl6, hacc6, ra6, hal6, kp6, p6⟩
      by_cases hj : j < src1.items.length
      · rw [List.drop_eq_getElem_cons hj] at p6
        unfold lcLoop at p6
        rw [bnd_assoc] at p6
        obtain ⟨hk6, p7⟩ := guard_of (P := PP) hbad p6
        obtain ⟨w6, _⟩ := wk1 φ6 S6 (D :: Mk) H6 mk6.rel st56 kp6 hk6
        obtain ⟨go6, yl6⟩ := w6 j _ (List.getElem?_eq_getElem hj)
        refine .inr ⟨go6, fun H' => ∃ φ' S' acc accT, Mak X.K X.mg φ1 S1 Mk H1 D φ' S' H' ∧ φ5 <+: φ' ∧ SlotR X.K X.mg (G φ' S' (D :: Mk) H') φ' σ3 τ1 ∧ H' D = some (.lst acc) ∧ RepAll X.K X.mg (G φ' S' (D :: Mk) H') φ' acc accT ∧ accT.length ≤ 1000 * i + (j + 1) ∧
          (∀ b u, G φ5 S5 (D :: Mk) H5 b u → G φ' S' (D :: Mk) H' b u) ∧ PP (bnd (lcLoop src1.chk own1 g1 fc1 fe τ1 (src1.items.drop (j + 1))) (fun ys => bnd (lc2Loop src.chk own own1 g g1 fc fc1 fi1 fe τ (src.items.drop (i + 1))) fun w => lcFin fr (accT ++ ys ++ w)) S'), fun H' q => ⟨k - 1, by omega, by omega, q⟩, fun x7 H7 y7 => ?_⟩
        obtain ⟨s7, rx7⟩ := yl6 x7 H7 y7
        have slw7 := (s7.slots sl6).wipe own1
        refine ⟨φ6, S6, D :: Mk, wipeT τ1 own1, _, s7.rel, slw7, rx7, ?_⟩
        rw [bnd_assoc] at p7
        refine post_noX (P := PP) hbad p7 fun τ8 S8 p8 φ8 σ8 H8 s8 ⟨sl8, ln8, fr8⟩ => ⟨wipe_eq hx1 ln8 fr8, ?_⟩
        refine ⟨φ8, S8, D :: Mk, τ8, s8.rel, sl8, ?_⟩
        rw [bnd_assoc] at p8
        refine post_noX (P := PP) hbad p8 fun b9 S9 p9 φ9 b9' H9 s9 r9 => ?_
        have e9 : b9' = b9 := r9
        subst e9
        have st9 := s7.trans (s8.trans s9)
        have mk9 := mk6.step st9
        have ra9 : RepAll X.K X.mg (G φ9 S9 (D :: Mk) H9) φ9 acc6 accT6 := st9.all ra6
        have hacc9 : H9 D = some (.lst acc6) := (st9.msk D (List.mem_cons_self ..)).trans hacc6
        have kp9 : ∀ b u, G φ5 S5 (D :: Mk) H5 b u → G φ9 S9 (D :: Mk) H9 b u := fun b u gb => st9.keep b u (kp6 b u gb)
        cases b9' with
        | false =>
          rw [if_neg Bool.false_ne_true] at p9 ⊢
          exact ⟨φ9, S9, acc6, accT6, mk9, st56.trans st9.pre, st9.slots sl6, hacc9, ra9, by omega, kp9, p9⟩
        | true =>
          rw [if_pos rfl] at p9 ⊢
          refine ⟨φ9, S9, D :: Mk, τ8, s9.rel, s9.slots sl8, ?_⟩
          rw [bnd_assoc] at p9
          refine post_noX (P := PP) hbad p9 fun y S10 p10 φ10 v10 H10 s10 r10 => ?_
          have hacc10 : H10 D = some (.lst acc6) := (s10.msk D (List.mem_cons_self ..)).trans hacc9
          have hl10 : acc6.length < sizeLine := by rw [ra6.length, sizeLine_eq]; omega
          refine ⟨acc6, hacc10, hl10, φ10, S10, acc6 ++ [v10], accT6 ++ [y], (mk9.step s10).write nm, st56.trans (st9.pre.trans s10.pre), ?_, upd_same, ?_, by simp; omega, fun b u gb => G_hid (List.mem_cons_self ..) (s10.keep b u (kp9 b u gb)), ?_⟩
          · exact (s10.slots (st9.slots sl6)).mono (fun b u gb => G_hid (List.mem_cons_self ..) gb) ⟨[], by simp⟩
          · exact ((s10.all ra9).append (.cons r10 .nil)).mono (fun b u gb => G_hid (List.mem_cons_self ..) gb) ⟨[], by simp⟩
          · rw [bnd_assoc] at p10
            have e : (fun a => bnd (ret (y :: a)) fun ys => bnd (lc2Loop src.chk own own1 g g1 fc fc1 fi1 fe τ (src.items.drop (i + 1))) fun w => lcFin fr (accT6 ++ ys ++ w)) = fun ys => bnd (lc2Loop src.chk own own1 g g1 fc fc1 fi1 fe τ (src.items.drop (i + 1))) fun w => lcFin fr (accT6 ++ [y] ++ ys ++ w) := by
              funext ys
              rw [bnd_ret]
              congr 1
              funext w
              simp
            rw [e] at p10
            exact p10
      · have ej : j = src1.items.length := by omega
        rw [List.drop_of_length_le (by omega)] at p6
        unfold lcLoop at p6
        rw [bnd_assoc] at p6
        obtain ⟨hk6, p6⟩ := guard_of (P := PP) hbad p6
        rw [bnd_ret, List.append_nil] at p6
        obtain ⟨_, w6⟩ := wk1 φ6 S6 (D :: Mk) H6 mk6.rel st56 kp6 hk6
        exact .inl ⟨ej ▸ w6, φ6, S6, acc6, accT6, mk6, hacc6, ra6, by omega, p6⟩
  · have ei : i = src.items.length := by omega
    rw [List.drop_of_length_le (by omega)] at p'
    unfold lc2Loop at p'
    rw [bnd_assoc] at p'
    obtain ⟨hk, p'⟩ := guard_of (P := PP) hbad p'
    rw [bnd_ret, List.append_nil] at p'
    obtain ⟨_, w2⟩ := wk φ' S' (D :: Mk) H' mk.rel mk.pre mk.keep hk
    exact .inl ⟨ei ▸ w2, mk.doneL nm hacc ra (by rw [sizeLine_eq]; omega) p'⟩
variable {elt tg iter tg1 iter1 : Expr} {ifs ifs1 : List Expr} {scope : Scope} {ownS : List (Str × Nat)} {pos : Pos}
theorem pe_lc2F (hc : X.calm = true) (hN : X.N.Nodup) (hi : PI X tg iter (dI X W fi)) (ok : BlkOk X.N X.env.scope scope ownS) (hx : ∀ i ∈ ix, i ∈ ownS.map (·.2)) (hx1 : ∀ i ∈ ix1, i ∈ own1) (hv : ∀ i ∈ own1, i ∈ ownS.map (·.2))
    (hg : ∀ (s : Shared) (H : Hp) (C : Addr) (cl : List (Str × Addr)) (fp : List Addr), PG (X.blk s H scope (compEnvC scope cl C X.env) fp) tg (dG X ix g)) (ht : ∀ (s : Shared) (H : Hp) (C : Addr) (cl : List (Str × Addr)) (fp : List Addr), PTs (X.blk s H scope (compEnvC scope cl C X.env) fp) ifs (dB X W0 fc))
    (hi1 : ∀ (s : Shared) (H : Hp) (C : Addr) (cl : List (Str × Addr)) (fp : List Addr), PI (X.blk s H scope (compEnvC scope cl C X.env) fp) tg1 iter1 (dI X W0 fi1))
    (hg1 : ∀ (s : Shared) (H : Hp) (C : Addr) (cl : List (Str × Addr)) (fp : List Addr), PG (X.blk s H scope (compEnvC scope cl C X.env) fp) tg1 (dG X ix1 g1)) (ht1 : ∀ (s : Shared) (H : Hp) (C : Addr) (cl : List (Str × Addr)) (fp : List Addr), PTs (X.blk s H scope (compEnvC scope cl C X.env) fp) ifs1 (dB X W0 fc1))
    (he : ∀ (s : Shared) (H : Hp) (C : Addr) (cl : List (Str × Addr)) (fp : List Addr), PE (X.blk s H scope (compEnvC scope cl C X.env) fp) elt (dT X W0 fe)) (hs : ∀ x, foldedSetIterable iter X.env x = pure x := by intro _; rfl) (hs1 : ∀ env x, foldedSetIterable iter1 env x = pure x := by intro _ _; rfl) :
    PE X (.ListComp elt [⟨tg, iter, ifs, 0⟩, ⟨tg1, iter1, ifs1, 0⟩] scope pos) (dT X W (eLc2 fr fi (ownS.map (·.2)) own1 g g1 fc fc1 fi1 fe)) := PE.weak (pe_lc2 hc hN hi ok hv hg ht hi1 hg1 ht1 he hs hs1) (lc2_imp hx hx1)
theorem ps_setLc2F {i : Nat} {y : Str} {py : Pos} {spos : Pos} (hc : X.calm = true) (hN : X.N.Nodup) (hy : X.N[i]? = some y) (hyl : X.env.scope.names.lookup y = some .local)
    (hsw : swapsWith (.ListComp elt [⟨tg, iter, ifs, 0⟩, ⟨tg1, iter1, ifs1, 0⟩] scope pos) (some (.Name y py)) spos.line X.env = pure true) (hi : PI X tg iter (dI X W fi)) (ok : BlkOk X.N X.env.scope scope ownS) (hx : ∀ i ∈ ix, i ∈ ownS.map (·.2)) (hx1 : ∀ i ∈ ix1, i ∈ own1) (hv : ∀ i ∈ own1, i ∈ ownS.map (·.2))
    (hg : ∀ (s : Shared) (H : Hp) (C : Addr) (cl : List (Str × Addr)) (fp : List Addr), PG (X.blk s H scope (compEnvC scope cl C X.env) fp) tg (dG X ix g)) (ht : ∀ (s : Shared) (H : Hp) (C : Addr) (cl : List (Str × Addr)) (fp : List Addr), PTs (X.blk s H scope (compEnvC scope cl C X.env) fp) ifs (dB X W0 fc))
    (hi1 : ∀ (s : Shared) (H : Hp) (C : Addr) (cl : List (Str × Addr)) (fp : List Addr), PI (X.blk s H scope (compEnvC scope cl C X.env) fp) tg1 iter1 (dI X W0 fi1))
    (hg1 : ∀ (s : Shared) (H : Hp) (C : Addr) (cl : List (Str × Addr)) (fp : List Addr), PG (X.blk s H scope (compEnvC scope cl C X.env) fp) tg1 (dG X ix1 g1)) (ht1 : ∀ (s : Shared) (H : Hp) (C : Addr) (cl : List (Str × Addr)) (fp : List Addr), PTs (X.blk s H scope (compEnvC scope cl C X.env) fp) ifs1 (dB X W0 fc1))
    (he : ∀ (s : Shared) (H : Hp) (C : Addr) (cl : List (Str × Addr)) (fp : List Addr), PE (X.blk s H scope (compEnvC scope cl C X.env) fp) elt (dT X W0 fe)) (hs : ∀ x, foldedSetIterable iter X.env x = pure x := by intro _; rfl) (hs1 : ∀ env x, foldedSetIterable iter1 env x = pure x := by intro _ _; rfl) :
    PS X (.Assign [.Name y py] (.ListComp elt [⟨tg, iter, ifs, 0⟩, ⟨tg1, iter1, ifs1, 0⟩] scope pos) spos) (dS X W (sSet i (eLc2 fr fi (ownS.map (·.2)) own1 g g1 fc fc1 fi1 fe))) :=
  PS.weak (ps_setLc2 hc hN hy hyl hsw hi ok hv hg ht hi1 hg1 ht1 he hs hs1) fun D σ H ⟨φ, S, Mk, τ, R, sl, h⟩ => lc2_imp hx hx1 σ H _ ⟨φ, S, Mk, τ, R, sl, PostS.part R sl h fun φ1 S1 H1 x t s r p => p φ1 _ H1 (Step.refl s.rel) ((s.slots sl).set r)⟩
end

/-! ### dicts as lists of pairs -/
def isKey : Key → T → Bool
  | .inl i, .int j => decide (j = i)
  | .inr x, .str y => decide (y = x)
  | _, _ => false
def keyOf : T → Option Key
  | .int i => some (.inl i)
  | .str x => some (.inr x)
  | _ => none
def getD (qs : List (T × T)) (k : Key) : Option T := (qs.find? fun q => isKey k q.1).map (·.2)
def putD (qs : List (T × T)) (k : Key) (t : T) : List (T × T) := if (qs.any fun q => isKey k q.1) = true then qs.map (fun q => if isKey k q.1 = true then (q.1, t) else q) else qs ++ [(keyT k, t)]
theorem isKey_keyT (k k' : Key) : isKey k (keyT k') = decide (k' = k) := by
  cases k <;> cases k' <;> simp [isKey, keyT]
theorem keyT_of {t : T} {k : Key} (h : keyOf t = some k) : t = keyT k := by
  cases t <;> first | (cases h; rfl) | (unfold keyOf at h; cases h)
section
variable {K : PySem.W.Frag} {mg : Str → Option Value} {g : Gr} {φ : List Addr} {v : V} {t : T} {k : Key}
theorem rep_keyT (h : Rep K mg g φ v (keyT k)) : v = kV k := by
  cases k <;> (cases h; rfl)
theorem rep_key (h : Rep K mg g φ v t) (e : keyOf t = some k) : v = kV k := by
  have := keyT_of e
  subst this
  exact rep_keyT h
theorem RepK.val : ∀ {vs : List (Key × V)} {qs : List (T × T)}, RepK K mg g φ vs qs → (getD qs k = none ∧ valV vs k = none) ∨ ∃ v t, valV vs k = some v ∧ getD qs k = some t ∧ Rep K mg g φ v t
  | _, _, .nil => .inl ⟨rfl, rfl⟩
  | _, _, .cons (k := k') (v := v) (vs := vs) (t := t) (ts := ts) h r => by
    by_cases e : k' = k
    · refine .inr ⟨v, t, valV_pos e, ?_, h⟩
      unfold getD
      rw [List.find?_cons, isKey_keyT, decide_eq_true e]
      rfl
    · rw [valV_neg (p := (k', v)) e]
      have : getD ((keyT k', t) :: ts) k = getD ts k := by
        unfold getD
        rw [List.find?_cons, isKey_keyT, decide_eq_false e]
      rw [this]
      exact RepK.val r
theorem RepK.len : ∀ {vs : List (Key × V)} {qs : List (T × T)}, RepK K mg g φ vs qs → vs.length = qs.length
  | _, _, .nil => rfl
  | _, _, .cons _ r => congrArg (· + 1) (RepK.len r)
theorem RepK.any : ∀ {vs : List (Key × V)} {qs : List (T × T)}, RepK K mg g φ vs qs → (vs.any fun kv => decide (kv.1 = k)) = qs.any fun q => isKey k q.1
  | _, _, .nil => rfl
  | _, _, .cons _ r => by rw [List.any_cons, List.any_cons, isKey_keyT, RepK.any r]
theorem RepK.app : ∀ {vs ws : List (Key × V)} {qs us : List (T × T)}, RepK K mg g φ vs qs → RepK K mg g φ ws us → RepK K mg g φ (vs ++ ws) (qs ++ us)
  | _, _, _, _, .nil, s => s
  | _, _, _, _, .cons h r, s => .cons h (RepK.app r s)
theorem RepK.mapPut (hv : Rep K mg g φ v t) : ∀ {vs : List (Key × V)} {qs : List (T × T)}, RepK K mg g φ vs qs → RepK K mg g φ (vs.map fun kv => if kv.1 = k then (kv.1, v) else kv) (qs.map fun q => if isKey k q.1 = true then (q.1, t) else q)
  | _, _, .nil => .nil
  | _, _, .cons (k := k') h r => by
    rw [List.map_cons, List.map_cons, isKey_keyT]
    by_cases e : k' = k
    · rw [if_pos e, if_pos (decide_eq_true e)]
      exact .cons hv (RepK.mapPut hv r)
    · rw [if_neg e, if_neg (by simp [e])]
      exact .cons h (RepK.mapPut hv r)
theorem RepK.put {vs : List (Key × V)} {qs : List (T × T)} (r : RepK K mg g φ vs qs) (hv : Rep K mg g φ v t) : RepK K mg g φ (putK vs k v) (putD qs k t) := by
  unfold putK putD
  rw [r.any]
  split
  · exact r.mapPut hv
  · exact r.app (.cons hv .nil)
end
theorem len_putD (qs : List (T × T)) (k : Key) (t : T) : (putD qs k t).length ≤ qs.length + 1 := by
  unfold putD
  split
  · rw [List.length_map]; omega
  · rw [List.length_append]; exact Nat.le_refl _

/-! ### comprehensions of dicts -/
noncomputable def dcLoop (chk : Store → Prop) (own : List Nat) (g : Tg) (c : Slots → M Bool) (ek ev : Slots → M T) (τ : Slots) : List (T × T) → List T → M (List (T × T))
  | acc, [] => bnd (guardS chk) fun _ => ret acc
  | acc, t :: ts => bnd (guardS chk) fun _ => bnd (noX (g t (wipeT τ own))) fun τ1 => bnd (noX (c τ1)) fun b =>
    if b = true then bnd (noX (ek τ1)) fun y => bnd (noX (ev τ1)) fun z => (match keyOf y with
      | some k => dcLoop chk own g c ek ev τ (putD acc k z) ts
      | none => bad) else dcLoop chk own g c ek ev τ acc ts
def dcFin (fr : Bool) (ys : List (T × T)) : M T := if fr = true then (fun S => .ok (.ref S.length) (S ++ [some (.dic ys)])) else ret (.dic ys)
noncomputable def eDc (fr : Bool) (it : Slots → M Src) (own : List Nat) (g : Tg) (c : Slots → M Bool) (ek ev : Slots → M T) : Slots → M T := fun τ =>
  bnd (it τ) fun src => bnd (dcLoop src.chk own g c ek ev τ [] src.items) (dcFin fr)
section
variable {K : PySem.W.Frag} {mg : Str → Option Value} {φ1 φ' φ2 : List Addr} {S1 S' S2 : Store} {Mk : List Addr} {H1 H' H2 : Hp} {D : Addr} {o : HO}
theorem Mak.doneD {Wx : Value → Option Addr → Hp → Prop} {Q : VK} {fr : Bool} {acc : List (Key × V)} {ys : List (T × T)} (m : Mak K mg φ1 S1 Mk H1 D φ' S' H') (nm : D ∉ Mk) (hacc : H' D = some (.dK acc)) (ra : RepK K mg (G φ' S' (D :: Mk) H') φ' acc ys) (l : ys.length ≤ sizeLine)
    (p : Post K mg (Rep K mg) φ1 S1 Mk H1 (dcFin fr ys S') Wx Q) : Q (.ref D) H' := by
  unfold dcFin at p
  cases fr with
  | false =>
    rw [if_neg Bool.false_ne_true] at p
    have st : Step K mg φ1 S1 Mk H1 φ' S' H' := ⟨m.pre, fun b u gb => G_unmask (m.keep b u gb), m.msk, m.rel.unmask⟩
    exact Post.ok (t := T.dic ys) (v := .ref D) p st (.dicK ⟨hacc, (m.rel.msk D (List.mem_cons_self ..)).2, nm⟩ (ra.mono (fun b u gb => G_unmask gb) ⟨[], by simp⟩) l)
  | true =>
    rw [if_pos rfl] at p
    obtain ⟨R2, k2⟩ := Step.reveal (c := .dic ys) m.rel nm fun g' k => ⟨l, .inl ⟨acc, hacc, ra.mono k ⟨[D], rfl⟩⟩⟩
    have st : Step K mg φ1 S1 Mk H1 (φ' ++ [D]) (S' ++ [some (.dic ys)]) H' := ⟨m.pre.trans ⟨[D], rfl⟩, fun b u gb => k2 b u (m.keep b u gb), m.msk, R2⟩
    exact Post.ok (t := T.ref S'.length) (v := .ref D) p st (.ref (by rw [← m.rel.len]; exact List.getElem?_concat_length))
end
section
variable {X : Cx} {W : WX} {fi : Slots → M Src} {ix own : List Nat} {g : Tg} {fc : Slots → M Bool} {fk fv : Slots → M T} {fr : Bool}
theorem dc_imp (hx : ∀ i ∈ ix, i ∈ own) (σ : L2.St) (H : Hp) (Q : VK) (h : dT X W (eDc fr fi own g fc fk fv) σ H Q) :
    tDc (dI X W fi) (dG X ix g) (dB X W0 fc) (dT X W0 fk) (dT X W0 fv) own σ H Q := by
  obtain ⟨φ, S, Mk, τ, R, sl, h⟩ := h
  refine ⟨φ, S, Mk, τ, R, sl, Post.part R h fun φ1 S1 H1 J src s1 wk p => ?_⟩
  obtain ⟨hlen, wk⟩ := wk
  intro D hD
  have R1 := s1.rel
  have nm := not_masked R1 hD
  have sl1 := s1.slots sl
  let PP : Out T → Prop := fun o => Post X.K X.mg (Rep X.K X.mg) φ1 S1 Mk H1 o (fun c d H' => W c d σ H') Q
  have hbad : ¬ PP .bad := fun z => z
  have p : PP (bnd (dcLoop src.chk own g fc fk fv τ [] src.items) (dcFin fr) S1) := p
  refine ⟨fun i m H' => i + m = src.items.length ∧ ∃ φ' S' acc accT, Mak X.K X.mg φ1 S1 Mk H1 D φ' S' H' ∧ H' D = some (.dK acc) ∧ RepK X.K X.mg (G φ' S' (D :: Mk) H') φ' acc accT ∧ accT.length ≤ i ∧
    PP (bnd (dcLoop src.chk own g fc fk fv τ accT (src.items.drop i)) (dcFin fr) S'),
    ⟨src.items.length, by omega, φ1, S1, [], [], Mak.start R1 hD, upd_same, .nil, Nat.zero_le _, p⟩, ?_⟩
  rintro i m H' ⟨hm, φ', S', acc, accT, mk, hacc, ra, hal, p'⟩
  by_cases hi : i < src.items.length
  · rw [List.drop_eq_getElem_cons hi] at p'
    unfold dcLoop at p'
    rw [bnd_assoc] at p'
    obtain ⟨hk, p2⟩ := guard_of (P := PP) hbad p'
    obtain ⟨w1, _⟩ := wk φ' S' (D :: Mk) H' mk.rel mk.pre mk.keep hk
    obtain ⟨go, yl⟩ := w1 i _ (List.getElem?_eq_getElem hi)
    refine .inr ⟨go, fun H2 => ∃ φ' S' acc accT, Mak X.K X.mg φ1 S1 Mk H1 D φ' S' H2 ∧ H2 D = some (.dK acc) ∧ RepK X.K X.mg (G φ' S' (D :: Mk) H2) φ' acc accT ∧ accT.length ≤ i + 1 ∧
      PP (bnd (dcLoop src.chk own g fc fk fv τ accT (src.items.drop (i + 1))) (dcFin fr) S'), fun H2 q => ⟨m - 1, by omega, by omega, q⟩, fun x H2 y => ?_⟩
    obtain ⟨s2, rx⟩ := yl x H2 y
    have slw := (s2.slots (mk.slots sl1)).wipe own
    refine ⟨φ', S', D :: Mk, wipeT τ own, _, s2.rel, slw, rx, ?_⟩
    rw [bnd_assoc] at p2
    refine post_noX (P := PP) hbad p2 fun τ1 S3 p3 φ3 σ3 H3 s3 ⟨sl3, ln3, fr3⟩ => ⟨wipe_eq hx ln3 fr3, ?_⟩
    refine ⟨φ3, S3, D :: Mk, τ1, s3.rel, sl3, ?_⟩
    rw [bnd_assoc] at p3
    refine post_noX (P := PP) hbad p3 fun b S4 p4 φ4 b' H4 s4 r4 => ?_
    have e4 : b' = b := r4
    subst e4
    have st4 := s2.trans (s3.trans s4)
    have mk4 := mk.step st4
    have ra4 : RepK X.K X.mg (G φ4 S4 (D :: Mk) H4) φ4 acc accT := ra.mono st4.keep st4.pre
    have hacc4 : H4 D = some (.dK acc) := (st4.msk D (List.mem_cons_self ..)).trans hacc
    have sl4 := s4.slots sl3
    cases b' with
    | false =>
      rw [if_neg Bool.false_ne_true] at p4 ⊢
      exact ⟨φ4, S4, acc, accT, mk4, hacc4, ra4, by omega, p4⟩
    | true =>
      rw [if_pos rfl] at p4 ⊢
      refine ⟨φ4, S4, D :: Mk, τ1, s4.rel, sl4, ?_⟩
      rw [bnd_assoc] at p4
      refine post_noX (P := PP) hbad p4 fun y S5 p5 φ5 v5 H5 s5 r5 => ?_
      refine ⟨φ5, S5, D :: Mk, τ1, s5.rel, s5.slots sl4, ?_⟩
      rw [bnd_assoc] at p5
      refine post_noX (P := PP) hbad p5 fun z S6 p6 φ6 v6 H6 s6 r6 => ?_
      cases ek : keyOf y with
      | none => rw [ek] at p6; exact (hbad p6).elim
      | some k =>
        rw [ek] at p6
        have st6 := s5.trans s6
        have hacc6 : H6 D = some (.dK acc) := (st6.msk D (List.mem_cons_self ..)).trans hacc4
        have ra6 : RepK X.K X.mg (G φ6 S6 (D :: Mk) H6) φ6 acc accT := ra4.mono st6.keep st6.pre
        have hl6 : acc.length < sizeLine := by
          have : acc.length = accT.length := by
            clear hacc hacc4 hacc6 p' p2 p3 p4 p5 p6
            exact RepK.len ra6
          rw [this]; omega
        refine ⟨acc, k, rep_key r5 ek, hacc6, hl6, φ6, S6, putK acc k v6, putD accT k z, (mk4.step st6).write nm, upd_same, ?_, Nat.le_trans (len_putD _ _ _) (by omega), p6⟩
        exact (ra6.put r6).mono (fun b u gb => G_hid (List.mem_cons_self ..) gb) ⟨[], by simp⟩
  · have ei : i = src.items.length := by omega
    rw [List.drop_of_length_le (by omega)] at p'
    unfold dcLoop at p'
    rw [bnd_assoc] at p'
    obtain ⟨hk, p'⟩ := guard_of (P := PP) hbad p'
    rw [bnd_ret] at p'
    obtain ⟨_, w2⟩ := wk φ' S' (D :: Mk) H' mk.rel mk.pre mk.keep hk
    exact .inl ⟨ei ▸ w2, mk.doneD nm hacc ra (by omega) p'⟩
variable {kx vx tg iter : Expr} {ifs : List Expr} {scope : Scope} {ownS : List (Str × Nat)} {pos : Pos}
theorem pe_dcF (hc : X.calm = true) (hN : X.N.Nodup) (hi : PI X tg iter (dI X W fi)) (ok : BlkOk X.N X.env.scope scope ownS) (hx : ∀ i ∈ ix, i ∈ ownS.map (·.2))
    (hg : ∀ (s : Shared) (H : Hp) (C : Addr) (cl : List (Str × Addr)) (fp : List Addr), PG (X.blk s H scope (compEnvC scope cl C X.env) fp) tg (dG X ix g)) (ht : ∀ (s : Shared) (H : Hp) (C : Addr) (cl : List (Str × Addr)) (fp : List Addr), PTs (X.blk s H scope (compEnvC scope cl C X.env) fp) ifs (dB X W0 fc))
    (hk : ∀ (s : Shared) (H : Hp) (C : Addr) (cl : List (Str × Addr)) (fp : List Addr), PE (X.blk s H scope (compEnvC scope cl C X.env) fp) kx (dT X W0 fk))
    (he : ∀ (s : Shared) (H : Hp) (C : Addr) (cl : List (Str × Addr)) (fp : List Addr), PE (X.blk s H scope (compEnvC scope cl C X.env) fp) vx (dT X W0 fv)) (hs : ∀ x, foldedSetIterable iter X.env x = pure x := by intro _; rfl) :
    PE X (.DictComp kx vx [⟨tg, iter, ifs, 0⟩] scope pos) (dT X W (eDc fr fi (ownS.map (·.2)) g fc fk fv)) := PE.weak (pe_dc hc hN hi ok hg ht hk he hs) (dc_imp hx)
end
end Fw
set_option Elab.async false
set_option linter.all false
set_option maxRecDepth 100000
/-! FwFn: defs and their calls. -/
namespace Fw
open PySem PySem.Spec PyProof.Rows L2

mutual
/-- the mutable objects that are named in it are among the first n -/
def lowT (n : Nat) : T → Bool
  | .tup ts => lowAll n ts
  | .lst ts => lowAll n ts
  | .dic q => lowKv n q
  | .obj _ fs => lowFs n fs
  | .ref m => decide (m < n)
  | _ => true
def lowAll (n : Nat) : List T → Bool
  | [] => true
  | t :: ts => lowT n t && lowAll n ts
def lowKv (n : Nat) : List (T × T) → Bool
  | [] => true
  | (_, b) :: ts => lowT n b && lowKv n ts
def lowFs (n : Nat) : List (Str × T) → Bool
  | [] => true
  | (_, b) :: ts => lowT n b && lowFs n ts
end
theorem lowAll_all (n : Nat) : ∀ ts : List T, lowAll n ts = ts.all (lowT n)
  | [] => rfl
  | t :: ts => congrArg (lowT n t && ·) (lowAll_all n ts)
abbrev noRef (t : T) : Bool := lowT 0 t
def lowC (n : Nat) : Option Cell → Bool
  | some (.lst ts) => lowAll n ts
  | some (.dic q) => lowKv n q
  | some (.ins _ fs) => lowFs n fs
  | none => true
section
variable {K : PySem.W.Frag} {mg : Str → Option Value} {g : Gr} {φ : List Addr} {n : Nat}
mutual
theorem Rep.low : ∀ (t : T) (v : V), Rep K mg g φ v t → lowT n t = true → Rep K mg g (φ.take n) v t
  | .non, _, h, _ => by cases h; exact .non
  | .bl b, _, h, _ => by cases h; exact .bl b
  | .int i, _, h, _ => by cases h; exact .int i
  | .str x, _, h, _ => by cases h; exact .str x
  | .ty n, _, h, _ => by cases h; exact .ty n
  | .own x, _, h, _ => by cases h with | own h => exact .own h
  | .scr ns, _, h, _ => by cases h with | scr h l => exact .scr h l
  | .ref m, _, h, p => by
    cases h with
    | ref h =>
      unfold lowT at p
      refine .ref ?_
      rw [List.getElem?_take_of_lt (of_decide_eq_true p)]
      exact h
  | .tup ts, _, h, p => by
    cases h with
    | tup h r l => exact .tup h (RepAll.low ts _ r (by unfold lowT at p; exact p)) l
  | .lst ts, _, h, p => by
    cases h with
    | lst h r l => exact .lst h (RepAll.low ts _ r (by unfold lowT at p; exact p)) l
  | .dic q, _, h, p => by
    cases h with
    | dicK h r l => exact .dicK h (RepK.low q _ r (by unfold lowT at p; exact p)) l
    | dicT h r l => exact .dicT h (RepKT.low q _ r (by unfold lowT at p; exact p)) l
  | .obj c fs, _, h, p => by
    cases h with
    | obj h1 h2 h3 r => exact .obj h1 h2 h3 (RepF.low fs _ r (by unfold lowT at p; exact p))
theorem RepAll.low : ∀ (ts : List T) (vs : List V), RepAll K mg g φ vs ts → lowAll n ts = true → RepAll K mg g (φ.take n) vs ts
  | [], _, h, _ => by cases h; exact .nil
  | t :: ts, _, h, p => by
    unfold lowAll at p
    cases h with
    | cons h r => exact .cons (Rep.low t _ h (Bool.and_eq_true_iff.mp p).1) (RepAll.low ts _ r (Bool.and_eq_true_iff.mp p).2)
theorem RepK.low : ∀ (q : List (T × T)) (vs : List (Key × V)), RepK K mg g φ vs q → lowKv n q = true → RepK K mg g (φ.take n) vs q
  | [], _, h, _ => by cases h; exact .nil
  | (a, b) :: ts, _, h, p => by
    unfold lowKv at p
    cases h with
    | cons h r => exact .cons (Rep.low b _ h (Bool.and_eq_true_iff.mp p).1) (RepK.low ts _ r (Bool.and_eq_true_iff.mp p).2)
theorem RepKT.low : ∀ (q : List (T × T)) (vs : List (List Key × V)), RepKT K mg g φ vs q → lowKv n q = true → RepKT K mg g (φ.take n) vs q
  | [], _, h, _ => by cases h
  | (a, b) :: ts, _, h, p => by
    unfold lowKv at p
    cases h with
    | one h => exact .one (Rep.low b _ h (Bool.and_eq_true_iff.mp p).1)
    | cons h r => exact .cons (Rep.low b _ h (Bool.and_eq_true_iff.mp p).1) (RepKT.low ts _ r (Bool.and_eq_true_iff.mp p).2)
theorem RepF.low : ∀ (q : List (Str × T)) (vs : List (Str × V)), RepF K mg g φ vs q → lowFs n q = true → RepF K mg g (φ.take n) vs q
  | [], _, h, _ => by cases h; exact .nil
  | (a, b) :: ts, _, h, p => by
    unfold lowFs at p
    cases h with
    | cons h r => exact .cons (Rep.low b _ h (Bool.and_eq_true_iff.mp p).1) (RepF.low ts _ r (Bool.and_eq_true_iff.mp p).2)
end
mutual
theorem Rep.bel : ∀ {v : V} {t : T}, Rep K mg g φ v t → lowT φ.length t = true
  | _, _, .non => by simp [lowT]
  | _, _, .bl b => by simp [lowT]
  | _, _, .int i => by simp [lowT]
  | _, _, .str x => by simp [lowT]
  | _, _, .ty n => by simp [lowT]
  | _, _, .tup h r l => by unfold lowT; exact RepAll.bel r
  | _, _, .lst h r l => by unfold lowT; exact RepAll.bel r
  | _, _, .scr h l => by simp [lowT]
  | _, _, .dicK h r l => by unfold lowT; exact RepK.bel r
  | _, _, .dicT h r l => by unfold lowT; exact RepKT.bel r
  | _, _, .ref h => by unfold lowT; exact decide_eq_true (List.getElem?_eq_some_iff.mp h).1
  | _, _, .own h => by simp [lowT]
  | _, _, .obj h1 h2 h3 r => by unfold lowT; exact RepF.bel r
theorem RepAll.bel : ∀ {v : List V} {t : List T}, RepAll K mg g φ v t → lowAll φ.length t = true
  | _, _, .nil => rfl
  | _, _, .cons h r => by unfold lowAll; rw [Rep.bel h, RepAll.bel r]; rfl
theorem RepK.bel : ∀ {v : List (Key × V)} {t : List (T × T)}, RepK K mg g φ v t → lowKv φ.length t = true
  | _, _, .nil => rfl
  | _, _, .cons h r => by unfold lowKv; rw [Rep.bel h, RepK.bel r]; rfl
theorem RepKT.bel : ∀ {v : List (List Key × V)} {t : List (T × T)}, RepKT K mg g φ v t → lowKv φ.length t = true
  | _, _, .one h => by unfold lowKv; rw [Rep.bel h]; rfl
  | _, _, .cons h r => by unfold lowKv; rw [Rep.bel h, RepKT.bel r]; rfl
theorem RepF.bel : ∀ {v : List (Str × V)} {t : List (Str × T)}, RepF K mg g φ v t → lowFs φ.length t = true
  | _, _, .nil => rfl
  | _, _, .cons h r => by unfold lowFs; rw [Rep.bel h, RepF.bel r]; rfl
end
theorem CellR.bel {H : Hp} {a : Addr} {c : Cell} (h : CellR K mg g φ H a c) : lowC φ.length (some c) = true := by
  cases c with
  | lst ts => obtain ⟨_, vs, _, r⟩ := h; exact r.bel
  | dic q =>
    obtain ⟨_, ⟨_, _, r⟩ | ⟨_, _, r⟩⟩ := h
    · exact r.bel
    · exact r.bel
  | ins c fs => obtain ⟨_, _, _, _, _, _, r⟩ := h; exact r.bel
theorem CellR.low {H : Hp} {a : Addr} {c : Cell} (h : CellR K mg g φ H a c) (b : lowC n (some c) = true) : CellR K mg g (φ.take n) H a c := by
  cases c with
  | lst ts => obtain ⟨l, vs, e, r⟩ := h; exact ⟨l, vs, e, RepAll.low ts vs r b⟩
  | dic q =>
    obtain ⟨l, ⟨kvs, e, r⟩ | ⟨kvs, e, r⟩⟩ := h
    · exact ⟨l, .inl ⟨kvs, e, RepK.low q kvs r b⟩⟩
    · exact ⟨l, .inr ⟨kvs, e, RepKT.low q kvs r b⟩⟩
  | ins c fs => obtain ⟨C, dx, fs', e1, e2, e3, r⟩ := h; exact ⟨C, dx, fs', e1, e2, e3, RepF.low fs fs' r b⟩
end

/-- the caller's objects are as they were, or name none but the caller's objects -/
def Clean (S S' : Store) : Prop := S.length ≤ S'.length ∧ ∀ m, m < S.length → S'[m]? = S[m]? ∨ ∃ c, S'[m]? = some c ∧ lowC S.length c = true
section
variable {K : PySem.W.Frag} {mg : Str → Option Value} {φ φ' : List Addr} {S S' : Store} {Mk : List Addr} {H H' : Hp}
theorem take_pre (p : φ <+: φ') : φ'.take φ.length = φ := by
  obtain ⟨r, rfl⟩ := p
  simp
theorem live_take {n : Nat} (p : φ <+: φ') {b : Addr} (h : Live φ (S'.take n) b) : Live φ' S' b := by
  obtain ⟨m, c, h1, h2⟩ := h
  refine ⟨m, c, ?_, pre_get h2 p⟩
  rw [List.getElem?_take] at h1
  split at h1
  · exact h1
  · cases h1
theorem G_drop (p : φ <+: φ') {n : Nat} {b : Addr} {u : HO} (h : G φ' S' Mk H' b u) : G φ (S'.take n) Mk H' b u := ⟨h.1, fun z => h.2.1 (live_take p z), h.2.2⟩
/-- the locals go -/
theorem Step.drop (R : Rel K mg φ S Mk H) (s : Step K mg φ S Mk H φ' S' H') (cl : Clean S S') : Step K mg φ S Mk H φ (S'.take S.length) H' := by
  have hle : S.length ≤ S'.length := cl.1
  refine ⟨⟨[], by simp⟩, fun b u gb => G_drop s.pre (s.keep b u gb), s.msk, ⟨by rw [List.length_take, R.len]; omega, fun m c h => ?_, fun n m a c c' h1 h2 e1 e2 => ?_, fun b hb => ?_⟩⟩
  · rw [List.getElem?_take] at h
    split at h
    · rename_i hm
      obtain ⟨a, e, q⟩ := s.rel.cell m c h
      have hm' : m < φ.length := by rw [R.len]; exact hm
      have e' : φ[m]? = some a := by
        have := pre_get (List.getElem?_eq_getElem hm') s.pre
        rw [this] at e
        rw [List.getElem?_eq_getElem hm']
        exact e
      have bl : lowC S.length (some c) = true := by
        rcases cl.2 m hm with q1 | ⟨c3, q1, q2⟩
        · rw [h] at q1
          obtain ⟨a0, _, q0⟩ := R.cell m c q1.symm
          rw [← R.len]
          exact q0.bel
        · rw [h] at q1; cases q1; exact q2
      have q2 := q.low bl
      rw [← R.len, take_pre s.pre] at q2
      exact ⟨a, e', q2.mono (fun _ _ => G_drop s.pre) ⟨[], by simp⟩ rfl⟩
    · cases h
  · rw [List.getElem?_take] at h1 h2
    split at h1 <;> first | (cases h1; done) | skip
    split at h2 <;> first | (cases h2; done) | skip
    exact s.rel.inj n m a c c' h1 h2 (pre_get e1 s.pre) (pre_get e2 s.pre)
  · obtain ⟨q1, q2⟩ := s.rel.msk b hb
    exact ⟨q1, fun z => q2 (live_take s.pre z)⟩
/-- what a def hands back: a local object stands still from then on -/
def frzC (n : Nat) : Option (Option Cell) → Option T
  | some (some (.lst xs)) => if lowAll n xs = true then some (.lst xs) else none
  | some (some (.dic q)) => if lowKv n q = true then some (.dic q) else none
  | _ => none
def frzTop (S' : Store) (n : Nat) : T → Option T
  | .ref m => if m < n then some (.ref m) else frzC n S'[m]?
  | t => if lowT n t = true then some t else none
theorem Rep.frz (R : Rel K mg φ S Mk H) (s : Step K mg φ S Mk H φ' S' H') {v : V} {t t' : T} (h : Rep K mg (G φ' S' Mk H') φ' v t) (f : frzTop S' S.length t = some t') : Rep K mg (G φ (S'.take S.length) Mk H') φ v t' := by
  have plain : ∀ {u : T}, Rep K mg (G φ' S' Mk H') φ' v u → lowT S.length u = true → Rep K mg (G φ (S'.take S.length) Mk H') φ v u := fun {u} h b => by
    have q := Rep.low u v h b
    rw [← R.len, take_pre s.pre] at q
    exact q.mono (fun _ _ gb => G_drop s.pre gb) ⟨[], by simp⟩
  have gen : ∀ {u : T}, Rep K mg (G φ' S' Mk H') φ' v u → (if lowT S.length u = true then some u else none) = some t' → Rep K mg (G φ (S'.take S.length) Mk H') φ v t' := fun {u} h f => by
    by_cases hb : lowT S.length u = true
    · rw [if_pos hb] at f
      cases f
      exact plain h hb
    · rw [if_neg hb] at f
      cases f
  cases t with
  | ref m =>
    cases h with
    | @ref _ a h =>
      have f' : (if m < S.length then some (T.ref m) else frzC S.length S'[m]?) = some t' := f
      by_cases hm : m < S.length
      · rw [if_pos hm] at f'
        cases f'
        exact plain (.ref h) (by unfold lowT; exact decide_eq_true hm)
      · rw [if_neg hm] at f'
        have nl : ∀ c, S'[m]? = some (some c) → ¬ Live φ (S'.take S.length) a := fun c e ⟨j, c', h1, h2⟩ => by
          rw [List.getElem?_take] at h1
          split at h1
          · rename_i hj
            have := s.rel.inj m j a c c' e h1 h (pre_get h2 s.pre)
            omega
          · cases h1
        have nm : ∀ c, S'[m]? = some (some c) → a ∉ Mk := fun c e z => (s.rel.msk a z).2 ⟨m, c, e, h⟩
        cases e : S'[m]? with
        | none => rw [e] at f'; cases f'
        | some o =>
          rw [e] at f'
          cases o with
          | none => cases f'
          | some c =>
            obtain ⟨a', e1, q⟩ := s.rel.cell m c e
            rw [h] at e1
            cases e1
            cases c with
            | lst xs =>
              have f2 : (if lowAll S.length xs = true then some (T.lst xs) else none) = some t' := f'
              by_cases hb : lowAll S.length xs = true
              · rw [if_pos hb] at f2
                cases f2
                obtain ⟨l, vs, h1, r⟩ := q
                have q := RepAll.low xs vs r hb
                rw [← R.len, take_pre s.pre] at q
                exact .lst ⟨h1, nl _ e, nm _ e⟩ (q.mono (fun _ _ gb => by exact G_drop s.pre gb) ⟨[], by simp⟩) l
              · rw [if_neg hb] at f2
                cases f2
            | dic xs =>
              have f2 : (if lowKv S.length xs = true then some (T.dic xs) else none) = some t' := f'
              by_cases hb : lowKv S.length xs = true
              · rw [if_pos hb] at f2
                cases f2
                obtain ⟨l, ⟨kvs, h1, r⟩ | ⟨kvs, h1, r⟩⟩ := q
                · have q := RepK.low xs kvs r hb
                  rw [← R.len, take_pre s.pre] at q
                  exact .dicK ⟨h1, nl _ e, nm _ e⟩ (q.mono (fun _ _ gb => by exact G_drop s.pre gb) ⟨[], by simp⟩) l
                · have q := RepKT.low xs kvs r hb
                  rw [← R.len, take_pre s.pre] at q
                  exact .dicT ⟨h1, nl _ e, nm _ e⟩ (q.mono (fun _ _ gb => by exact G_drop s.pre gb) ⟨[], by simp⟩) l
              · rw [if_neg hb] at f2
                cases f2
            | ins c fs => cases f'
  | _ => exact gen h f
end

/-! ### a def's denotation -/
def fnBody (n : Nat) (body : MS) (ts : List T) : M T := fun S => match body (ts.map some ++ List.replicate (n - ts.length) none) S with
  | .nx _ S' => .ok .non S'
  | .rt t S' => .ok t S'
  | .exc e _ S' => .exc e S'
  | _ => .bad
open Classical in
/-- .. its locals gone -/
noncomputable def fnD (m : M T) : M T := fun S => match m S with
  | .ok t S' => if Clean S S' then (match frzTop S' S.length t with
    | some t' => .ok t' (S'.take S.length)
    | none => .bad) else .bad
  | .exc e S' => if Clean S S' ∧ lowFs S.length e.fs = true then .exc e (S'.take S.length) else .bad
  | .bad => .bad
/-- what a def promises: its denotation -/
def spD (K : PySem.W.Frag) (mg : Str → Option Value) (n : Nat) (den : List T → M T) : Sp := fun vs H Q E => vs.length = n ∧ ∃ φ S Mk ts, Rel K mg φ S Mk H ∧ RepAll K mg (G φ S Mk H) φ vs ts ∧ Post K mg (Rep K mg) φ S Mk H (den ts S) E Q
theorem slot_start {K : PySem.W.Frag} {mg : Str → Option Value} {g : Gr} {φ : List Addr} {N : List Str} {vs : List V} {ts : List T} (r : RepAll K mg g φ vs ts) : SlotR K mg g φ (L2.start N vs) (ts.map some ++ List.replicate (N.length - ts.length) none) := by
  have hl := r.length
  refine ⟨by simp [L2.start, hl], fun i t e => ?_⟩
  unfold L2.start
  by_cases hi : i < ts.length
  · rw [List.getElem?_append_left (by simpa using hi), List.getElem?_map] at e
    rw [List.getElem?_append_left (by simp; omega), List.getElem?_map]
    cases q : ts[i]? with
    | none => rw [q] at e; cases e
    | some u =>
      rw [q] at e
      cases e
      obtain ⟨v, h1, h2⟩ := r.get q
      exact ⟨v, by rw [h1]; rfl, h2⟩
  · rw [List.getElem?_append_right (by simpa using hi), List.getElem?_replicate] at e
    split at e <;> cases e
/-! ### promises of defs that know that no repr runs around them -/
structure FnG (P : Program) (w : World) (K : PySem.W.Frag) (mg : Str → Option Value) (base : Heap) (gb : Bool) (k : Nat) (f : Addr) (fd : FuncData) (ps : List Str) (sp : Sp) : Prop where
  len : ∀ vs H Q E, sp vs H Q E → vs.length = ps.length
  run : ∀ (A : Around) (outer : List Env) (s : Shared) (H : Hp) (args : Args) (us : List Value) (vs : List V) (Q : VK) (E : XK), Room k A → (gb = true → A.guards = some []) → Env0 P w K mg base A outer s H → BindsTo s fd args (ps.zip us) → Vals vs us →
    sp vs H Q E → codeAny (model P w) A (.call (.ref f) args) (CR (L2.CX P w) outer P w H s Q E) s
section
variable {P : Program} {w : World} {K : PySem.W.Frag} {mg : Str → Option Value} {base : Heap}
theorem FnG.mono {gb : Bool} {j k : Nat} {f : Addr} {fd : FuncData} {ps : List Str} {sp : Sp} (F : FnG P w K mg base gb j f fd ps sp) (h : j ≤ k) : FnG P w K mg base gb k f fd ps sp :=
  ⟨F.len, fun A outer s H args us vs Q E hr hg e hb hv hs => F.run A outer s H args us vs Q E (hr.mono h) hg e hb hv hs⟩
theorem FnG.imp {gb : Bool} {k : Nat} {f : Addr} {fd : FuncData} {ps : List Str} {sp sp' : Sp} (F : FnG P w K mg base gb k f fd ps sp) (h : ∀ vs H Q E, sp' vs H Q E → sp vs H Q E) : FnG P w K mg base gb k f fd ps sp' :=
  ⟨fun vs H Q E q => F.len vs H Q E (h _ _ _ _ q), fun A outer s H args us vs Q E hr hg e hb hv hs => F.run A outer s H args us vs Q E hr hg e hb hv (h _ _ _ _ hs)⟩
/-- the context of a def's body -/
abbrev cxK (P : Program) (w : World) (K : PySem.W.Frag) (mg : Str → Option Value) (base : Heap) (N : List Str) (qual : Str) (st : Stmt) (f : Addr) (cdv : Value) (A : Around) (outer : List Env) (s : Shared) (H : Hp) (E : XK) : Cx :=
  cxOf (L2.CX P w) P w K mg base N qual (defScope st) f cdv A outer s H E
/-- a def by its body's denotation -/
theorem Fun.okG {gb : Bool} {x qual : Str} {st : Stmt} {f : Addr} {fd : FuncData} {N ps : List Str} {k : Nat} {body : MS} (F : Fun K x qual st f fd) (Sc : FnScope N ps (defScope st))
    (hb : ∀ (cdv : Value) (A : Around) (outer : List Env) (s : Shared) (H : Hp) (E : XK), Room k (A.deeper (envOfC qual (defScope st) s.heap.objs.size f cdv)) → (gb = true → A.guards = some []) →
      PSs (cxK P w K mg base N qual st f cdv A outer s H E) (defBody st) (dS (cxK P w K mg base N qual st f cdv A outer s H E) (fun cls d _ H => E cls d H) body)) :
    FnG P w K mg base gb (k + 1) f fd ps (spD K mg ps.length (fnBody N.length body)) := by
  obtain ⟨oc, od, kV, doc, pm, an, cdv, ct, osl, rfl, lk, hcd⟩ := F.ex
  refine ⟨fun vs H Q E h => h.1, fun A outer s H args us vs Q E hr hg e0 hbi rv hsp => ?_⟩
  have hl : vs.length = ps.length := hsp.1
  have keep : ∀ b o, base.get? b = some o → s.heap.get? b = some o := fun b o e => (e0.bs b o e).1
  have inK : K.In s.heap := e0.mod.kin.keeps keep
  have noLim : s.heap.NoLimit := e0.mod.nolimit.keeps keep
  have kinds : ∀ y ∈ ps.zip us, (defScope st).names.lookup y.1 = some .local ∨ ((defScope st).names.lookup y.1 = some .cell ∧ ((cellsFrom (s.heap.objs.size + 1) (defScope st).names []).lookup y.1).isSome = true) := fun y hy =>
    (Sc.par y.1 (List.of_mem_zip (a := y.1) (b := y.2) hy).1).imp id fun q => ⟨q, PySem.W.cellsFrom_some _ _ _ (.inl q)⟩
  refine codeAny_call_function hr.depth (inK _ _ lk) rfl Sc.co Sc.gen rfl (PySem.W.codeRec_of inK hcd) (hbi _ _ _ _ (wpAny_newFunctionEnv_cells Sc.kind kinds fun env he s1 inC => ?_))
  subst he
  refine ⟨noLim.keeps inC.toInCall.keep, codeAny_func ?_⟩
  have I := inv_start (CX := L2.CX P w) (E := E) Sc hr.hd e0 hl rv inC
  have read : dS (cxK P w K mg base N qual st f cdv A outer s H E) (fun cls d _ H => E cls d H) body { nx := fun _ H' => Q .non H', rt := Q } (L2.start N vs) H := by
    obtain ⟨_, φ, S, Mk, ts, R, r, p⟩ := hsp
    refine ⟨φ, S, Mk, _, R, slot_start r, ?_⟩
    unfold fnBody at p
    revert p
    cases body (ts.map some ++ List.replicate (N.length - ts.length) none) S with
    | nx τ S' => exact fun p φ' σ' H' s sl => p φ' .non H' s .non
    | rt t S' => exact fun p => p
    | bk τ S' => exact fun p => p.elim
    | ct τ S' => exact fun p => p.elim
    | exc e τ S' => exact fun p φ' c d σ' H' s sl r => p φ' c d H' s r
    | bad => exact fun p => p.elim
  refine wpAny_mono ((hb cdv A outer s H E (hr.deeper _) hg).run [] s1 (L2.start N vs) H _ I read) (fun fl s' hs => ?_) fun _ _ hs => hs
  cases fl with
  | ret u =>
    obtain ⟨v, σ', H', J, rv', q⟩ := hs
    exact ⟨v, H', J.os, J.bare, J.base, J.hok, rv', q⟩
  | next =>
    obtain ⟨σ', H', J, q⟩ := hs
    exact ⟨.non, H', J.os, J.bare, J.base, J.hok, rfl, q⟩
  | brk => exact (hs.elim fun _ z => z.elim fun _ z => z.2).elim
  | cont => exact (hs.elim fun _ z => z.elim fun _ z => z.2).elim
/-- .. its locals gone -/
theorem FnG.fnD {gb : Bool} {k : Nat} {f : Addr} {fd : FuncData} {ps : List Str} {n : Nat} {den : List T → M T} (F : FnG P w K mg base gb k f fd ps (spD K mg n den)) : FnG P w K mg base gb k f fd ps (spD K mg n fun ts => Fw.fnD (den ts)) := by
  refine F.imp fun vs H Q E ⟨hn, φ, S, Mk, ts, R, r, p⟩ => ⟨hn, φ, S, Mk, ts, R, r, ?_⟩
  have p : Post K mg (Rep K mg) φ S Mk H (Fw.fnD (den ts) S) E Q := p
  cases e : den ts S with
  | bad =>
    have q : Fw.fnD (den ts) S = .bad := by unfold Fw.fnD; rw [e]
    rw [q] at p
    exact p
  | ok t S' =>
    intro φ' v H' s rv
    by_cases cl : Clean S S'
    · cases ef : frzTop S' S.length t with
      | none =>
        have q : Fw.fnD (den ts) S = .bad := by unfold Fw.fnD; rw [e]; dsimp only; rw [if_pos cl, ef]
        rw [q] at p
        exact False.elim p
      | some t' =>
        have q : Fw.fnD (den ts) S = .ok t' (S'.take S.length) := by unfold Fw.fnD; rw [e]; dsimp only; rw [if_pos cl, ef]
        rw [q] at p
        exact p φ v H' (Step.drop R s cl) (Rep.frz R s rv ef)
    · have q : Fw.fnD (den ts) S = .bad := by unfold Fw.fnD; rw [e]; dsimp only; rw [if_neg cl]
      rw [q] at p
      exact False.elim p
  | exc e1 S' =>
    intro φ' c d H' s rx
    by_cases cl : Clean S S' ∧ lowFs S.length e1.fs = true
    · have q : Fw.fnD (den ts) S = .exc e1 (S'.take S.length) := by unfold Fw.fnD; rw [e]; dsimp only; rw [if_pos cl]
      rw [q] at p
      obtain ⟨cl, bf⟩ := cl
      refine p φ c d H' (Step.drop R s cl) ?_
      obtain ⟨C, h1, h2, h3⟩ := rx
      refine ⟨C, h1, h2, ?_⟩
      rcases h3 with h3 | ⟨dd, fs, h3, h4, h5⟩
      · exact .inl h3
      · refine .inr ⟨dd, fs, h3, G_drop s.pre h4, ?_⟩
        have q := RepF.low e1.fs fs h5 bf
        rw [← R.len, take_pre s.pre] at q
        exact q.mono (fun _ _ gb => G_drop s.pre gb) ⟨[], by simp⟩
    · have q : Fw.fnD (den ts) S = .bad := by unfold Fw.fnD; rw [e]; dsimp only; rw [if_neg cl]
      rw [q] at p
      exact False.elim p
end

/-! ### calls -/
section
variable {gb : Bool} {X : Cx} {W : WX} {k n : Nat} {f : Addr} {fd : FuncData} {ps : List Str} {x : Str} {p pos : Pos} {e : Expr} {es : List Expr} {den : List T → M T} {fr : Slots → M (List T)}
theorem run_fnG {pins : List (Addr × Obj)} {σ : L2.St} {H : Hp} {s : Shared} {Q : VK} {us : List Value} {vs : List V} {sp : Sp} (F : FnG X.prog X.w X.K X.mg X.base gb k f fd ps sp) (hr : Room k X.A) (hgd : gb = true → X.A.guards = some []) (hb : Binds X.K fd ps []) (tk : Takes X W)
    (I : Inv X pins σ H s) (r : Vals vs us) (h : sp vs H Q (WE W σ)) : wpAny (model X.prog X.w) X.A (call (.ref f) us) (EP X pins σ Q) X.xe s := by
  have hl : us.length = ps.length := by rw [← r.length]; exact F.len _ _ _ _ h
  have hbs := hb s us I.kIn (by rw [List.append_nil]; exact hl)
  rw [List.append_nil] at hbs
  refine wpAny_call (codeAny_mono (F.run X.A X.stack s H ⟨us, []⟩ us vs Q (WE W σ) hr hgd I.env0 hbs r h) fun res s' hq => ?_)
  match res, hq with
  | .error e, hq => exact passAt tk σ pins H s e s' I hq
  | .ok (.ret u), hq => exact I.after hq
theorem spD_of {σ : L2.St} {φ : List Addr} {S : Store} {Mk : List Addr} {H : Hp} {vs : List V} {ts : List T} {Q : VK} {K : PySem.W.Frag} {mg : Str → Option Value} (hl : ∀ ts S, ts.length ≠ n → den ts S = .bad) (R : Rel K mg φ S Mk H) (r : RepAll K mg (G φ S Mk H) φ vs ts)
    (p : Post K mg (Rep K mg) φ S Mk H (den ts S) (fun c d H' => W c d σ H') Q) : spD K mg n den vs H Q (WE W σ) := by
  refine ⟨?_, φ, S, Mk, ts, R, r, p⟩
  rw [r.length]
  by_cases hn : ts.length = n
  · exact hn
  · rw [hl ts S hn] at p
    exact p.elim
theorem pe_callG (F : FnG X.prog X.w X.K X.mg X.base gb k f fd ps (spD X.K X.mg n den)) (hl : ∀ ts S, ts.length ≠ n → den ts S = .bad) (hr : Room k X.A) (hgd : gb = true → X.A.guards = some []) (hg : Gl X x) (hm : X.mg x = some (.ref f)) (hk : PySem.W.keepIn X.K (.ref f) = true)
    (hb : Binds X.K fd ps []) (tk : Takes X W) (ha : PA X (e :: es) (dA X W fr)) (hdb : (x == ("__debug__" : Str)) = false := by decide) (he : starEach (e :: es) X.env = (false, eval e X.env) :: starEach es X.env := by rfl) (hpl : (backTo pos (starEach es X.env)).any (·.1) = false := by rfl) :
    PE X (.Call (.Name x p) (e :: es) [] pos) (dT X W (eCall den fr)) := by
  refine ⟨fun pins s σ H Q I ⟨φ, S, Mk, τ, R, sl, h⟩ => ?_⟩
  refine wpAny_Call_Name_kw (ld_glob I hg hm (PySem.W.callWith_K (h₀ := X.base) I.ok.mod.kin hk ?_ he hpl) hdb)
  have h1 := ha.run pos pins s σ H (fun vs H1 => spD X.K X.mg n den vs H1 Q (WE W σ)) I ⟨φ, S, Mk, τ, R, sl, Post.part R h fun φ1 S1 H1 xs ts s1 r1 p1 => spD_of (W := W) hl s1.rel r1 p1⟩
  exact thn h1 fun us s1 ⟨vs, H1, I1, r, q⟩ => ⟨I1.kIn, run_fnG F hr hgd hb tk I1 r q⟩
end

/-! ### a law by the promise of its def -/
section
variable {gb : Bool} {P : Program} {w : World} {K : PySem.W.Frag} {mg mb : Str → Option Value} {k : Nat} {fa a : Addr} {fd : FuncData} {x : Str} {sp : Sp} {t : Shared} {H : Hp}
/-- from a heap in which nothing but locked lists is tracked -/
theorem law_from (KX : K.In t.heap) (hns : t.heap.Ns mainGlobals mg) (hb : t.heap.Ns builtinsNs mb) (hbb : ∀ x : Str, x ≠ "__name__" → mb x = bootBuiltins x) (hlim : t.heap.NoLimit) (hg : t.gens = #[]) (hr : Room k callerA)
    (ok : HOk P w H t.heap) (hfz : ∀ b u, H b = some u → ∃ o xs, u = .frz o (.lst xs)) (hnK : ∀ b u, H b = some u → K.lookup b = none) (hnd : ∀ b u o es ep, H b = some u → t.heap.get? b = some o → o.data ≠ .dict es ep)
    (F : ∀ base : Heap, K.In base → base.Ns mainGlobals mg → FnG P w K mg base gb k fa fd [x] sp) (hbind : ∀ (s : Shared) (u : Value), BindsTo s fd ⟨[u], []⟩ [(x, u)])
    (hsp : sp [.ref a] H (fun v _ => v = .bl true) fun _ _ _ => False) :
    codeAny (model P w) callerA (.call (.ref fa) ⟨[.ref a], []⟩) (fun r s' => r = .ok (.ret (.bool true)) ∧ OldK t.heap s'.heap ∧ s'.os = t.os ∧ AllBare s'.gens) t := by
  have free : ∀ b, (∀ u, H b = some u → False) → H b = none := fun b h => by
    cases e : H b with
    | none => rfl
    | some u => exact (h u e).elim
  have names : ∀ {b : Addr} {m : Str → Option Value}, t.heap.Ns b m → (hidT t.heap H).Ns b m := fun {b m} h => by
    obtain ⟨o, es, ep, e, d, r⟩ := h
    exact ⟨o, es, ep, hidT_get e (free b fun u q => hnd b u o es ep q e d), d, r⟩
  have inB : K.In (hidT t.heap H) := fun b o e => hidT_get (KX b o e) (free b fun u q => by
    have z := hnK b u q
    rw [e] at z
    cases z)
  have lim : (hidT t.heap H).NoLimit := by
    obtain ⟨mc, q1, q2⟩ := hlim
    exact ⟨mc, names q1, q2⟩
  have e0 : Env0 P w K mg (hidT t.heap H) callerA [] t H := ⟨rfl, ⟨inB, names hns, ⟨mb, names hb, hbb⟩, lim⟩, fun b o e => of_hidT e, Nat.le_of_eq (hidT_size _ _), trivial, fun b z => (List.not_mem_nil z).elim, ok, .of_eq hg⟩
  refine codeAny_mono ((F _ inB (names hns)).run callerA [] t H ⟨[.ref a], []⟩ [.ref a] [.ref a] _ _ hr (fun _ => rfl) e0 (hbind t (.ref a)) (.cons rfl .nil) hsp) fun r s' q => ?_
  match r, q with
  | .error e, q =>
    obtain ⟨_, _, _, _, _, _, _, _, _, _, _, _, z⟩ := q
    exact z.elim
  | .ok (.ret u), q =>
    obtain ⟨v, H', os, bare, un, ok', rv, qv⟩ := q
    subst qv
    cases rv
    refine ⟨rfl, OldK.of_keep fun b o e => ?_, os, bare⟩
    cases q : H b with
    | none => exact un.keep b o e q (fun z => List.not_mem_nil z) (fun z => List.not_mem_nil z)
    | some u =>
      obtain ⟨ob, xs, rfl⟩ := hfz b u q
      have h1 := (ok b _ q).1
      rw [e] at h1
      cases h1
      exact (ok' b _ (un.frzs b o _ q)).1
theorem law_G {vs : List Value} {ns : List Int} (KX : K.In t.heap) (hns : t.heap.Ns mainGlobals mg) (hb : t.heap.Ns builtinsNs mb) (hbb : ∀ x : Str, x ≠ "__name__" → mb x = bootBuiltins x) (hlim : t.heap.NoLimit) (hg : t.gens = #[])
    (ha : t.heap.get? a = some { cls := .type "list", data := .seq vs.toArray }) (hi : IntsAre vs ns) (hl : ns.length ≤ 63) (hr : Room k callerA)
    (F : ∀ base : Heap, K.In base → base.Ns mainGlobals mg → FnG P w K mg base gb k fa fd [x] sp) (hbind : ∀ (s : Shared) (u : Value), BindsTo s fd ⟨[u], []⟩ [(x, u)])
    (hsp : ∀ H : Hp, RdS K (G [] [] [] H) a (ns.map V.int) → sp [.ref a] H (fun v _ => v = .bl true) fun _ _ _ => False) :
    codeAny (model P w) callerA (.call (.ref fa) ⟨[.ref a], []⟩) (fun r s' => r = .ok (.ret (.bool true)) ∧ OldK t.heap s'.heap ∧ s'.os = t.os ∧ AllBare s'.gens) t := by
  have line : ns.length ≤ sizeLine := Nat.le_trans hl (by decide)
  cases q : K.lookup a with
  | some o =>
    have e := KX a o q
    rw [ha] at e
    cases e
    exact law_from (H := fun _ => none) KX hns hb hbb hlim hg hr (fun b u e => nomatch e) (fun b u e => nomatch e) (fun b u e => nomatch e) (fun b u o es ep e => nomatch e) F hbind
      (hsp _ (.inr ⟨_, vs.toArray, _, q, rfl, rfl, rfl, by rw [List.size_toArray, hi.length]; exact line, by simpa using vals_ints hi⟩))
  | none =>
    have only : ∀ b u, (if b = a then some (HO.frz { cls := .type "list", data := .seq vs.toArray } (.lst (ns.map V.int))) else none) = some u → b = a ∧ u = .frz { cls := .type "list", data := .seq vs.toArray } (.lst (ns.map V.int)) := fun b u e => by
      by_cases h : b = a
      · rw [if_pos h] at e
        exact ⟨h, (Option.some.inj e).symm⟩
      · rw [if_neg h] at e
        cases e
    refine law_from (H := fun b => if b = a then some (.frz { cls := .type "list", data := .seq vs.toArray } (.lst (ns.map V.int))) else none) KX hns hb hbb hlim hg hr (fun b u e => ?_) (fun b u e => ⟨_, _, (only b u e).2⟩)
      (fun b u e => by rw [(only b u e).1]; exact q) (fun b u o es ep e e1 z => ?_) F hbind (hsp _ (.inl ⟨_, if_pos rfl, fun z => ?_, fun z => List.not_mem_nil z⟩))
    · obtain ⟨rfl, rfl⟩ := only b u e
      exact ⟨ha, by rw [List.length_map]; exact line, vs, _, vals_ints hi, ha⟩
    · rw [(only b u e).1, ha] at e1
      cases e1
      cases z
    · obtain ⟨n, c, e, _⟩ := z
      simp at e
end
/-- the goal that the head leaves, from the law's denotation -/
theorem walk_G {gb : Bool} {l : PySem.W.OpenLaw} {k : Nat} {q : Program} {loose : List Str} {XP : (Str → Option Value) → Heap → Prop} {YP : World → Heap → Prop} {d : DefRec} {K : Params → PySem.W.Frag} {den : List T → M T} {x : Str}
    (hn : l.most = some 63) (hdf : d.params.defaults = []) (hr : Room k callerA) (hY : ∀ (w : World) (h : Heap), YP w h → (K w.params).In h)
    (F : ∀ (w : World) (mg : Str → Option Value) (fa : Addr) (h : Heap), (K w.params).In h → h.Ns mainGlobals mg → mg d.name = some (.ref fa) →
      ∃ fd : FuncData, (∀ (s : Shared) (u : Value), BindsTo s fd ⟨[u], []⟩ [(x, u)]) ∧ ∀ base : Heap, (K w.params).In base → base.Ns mainGlobals mg → FnG l.prog w (K w.params) mg base gb k fa fd [x] (spD (K w.params) mg 1 den))
    (hden : ∀ ns : List Int, ns.length ≤ 63 → ∃ S, den [.scr ns] [] = .ok (.bl true) S) :
    PySem.W.WalkO q loose XP YP l.row.toRowW d [] (fun f vs => PySem.call f vs) := by
  refine Att.attach_call hn hdf fun w s₀ s₁ mg mb fa o pm cd doc a vs ns Gd Y ho hd hcd hmg hobj hints hlen hg => ?_
  have KX := hY w _ Y
  obtain ⟨fd, hb, hF⟩ := F w mg fa _ KX Gd.T.g hmg
  refine law_G KX Gd.T.g Gd.T.b Gd.T.builtins Gd.T.nolimit hg hobj hints hlen hr hF hb fun H hS => ⟨rfl, [], [], [], [.scr ns], ⟨rfl, fun n c e => by simp at e, fun n m a c c' e => by simp at e, fun b z => (List.not_mem_nil z).elim⟩, .cons (.scr hS hlen) .nil, ?_⟩
  obtain ⟨S, e⟩ := hden ns hlen
  rw [e]
  intro φ' v H' s r
  cases r
  rfl
end Fw
set_option Elab.async false
set_option linter.all false
set_option maxRecDepth 100000
/-! FwCalls: calls of built-ins, methods of lists, stores by place. -/
namespace Fw
open PySem PySem.Spec PyProof.Rows L2

/-! ### built-ins by values -/
def lenT : List T → M T
  | [t] => fun S => match res S t with
    | .str z => if z.length ≤ sizeLine then .ok (.int z.length) S else .bad
    | .lst xs => .ok (.int xs.length) S
    | .tup xs => .ok (.int xs.length) S
    | .scr ns => .ok (.int ns.length) S
    | .dic q => .ok (.int q.length) S
    | _ => .bad
  | _ => bad
def absT : List T → M T
  | [.int i] => ret (.int (if i < 0 then -i else i))
  | _ => bad
def max2T : List T → M T
  | [.int i, .int j] => ret (.int (if j > i then j else i))
  | _ => bad
def min2T : List T → M T
  | [.int i, .int j] => ret (.int (if j < i then j else i))
  | _ => bad
def intT : List T → M T
  | [.int i] => ret (.int i)
  | [.bl k] => ret (.int (if k then 1 else 0))
  | _ => bad
/-- tuple(x) -/
def tupleT : List T → M T
  | [t] => fun S => match res S t with
    | .tup xs => .ok (.tup xs) S
    | .lst xs => .ok (.tup xs) S
    | _ => .bad
  | _ => bad
/-- list(x), for good; for change -/
def listT : List T → M T
  | [t] => fun S => match res S t with
    | .tup xs => .ok (.lst xs) S
    | .lst xs => .ok (.lst xs) S
    | .scr ns => .ok (.lst (ns.map T.int)) S
    | _ => .bad
  | _ => bad
def listRT : List T → M T
  | [t] => fun S => match res S t with
    | .tup xs => .ok (.ref S.length) (S ++ [some (.lst xs)])
    | .lst xs => .ok (.ref S.length) (S ++ [some (.lst xs)])
    | .scr ns => .ok (.ref S.length) (S ++ [some (.lst (ns.map T.int))])
    | _ => .bad
  | _ => bad
def blOf : T → Option Bool
  | .bl b => some b
  | _ => none
def allBl : List T → Option (List Bool)
  | [] => some []
  | .bl b :: r => (allBl r).map (b :: ·)
  | _ => none
def allT : List T → M T
  | [t] => fun S => match res S t with
    | .lst xs => (match allBl xs with
      | some bs => .ok (.bl (bs.all id)) S
      | none => .bad)
    | _ => .bad
  | _ => bad
def anyT : List T → M T
  | [t] => fun S => match res S t with
    | .lst xs => (match allBl xs with
      | some bs => .ok (.bl (bs.any id)) S
      | none => .bad)
    | _ => .bad
  | _ => bad
def reprT : List T → M T
  | [t] => fun S => if pureT (res S t) = true ∧ (data (res S t)).showable = true ∧ (data (res S t)).depth ≤ 64 ∧ (data (res S t)).shown.length ≤ sizeLine then .ok (.str (data (res S t)).shown) S else .bad
  | _ => bad
/-- the name of a value's built-in type -/
def tyN : T → Option String
  | .non => some "NoneType"
  | .bl _ => some "bool"
  | .int _ => some "int"
  | .str _ => some "str"
  | .lst _ => some "list"
  | .scr _ => some "list"
  | .tup _ => some "tuple"
  | .dic _ => some "dict"
  | _ => none
def isiB (a b : String) : Bool := a == b || (a == "bool" && b == "int")
def isiNames : List String := ["bool", "int", "str", "list", "tuple", "dict"]
def isiT : List T → M T
  | [t, .ty n] => fun S => match tyN (res S t) with
    | some a => if n ∈ isiNames then .ok (.bl (isiB a n)) S else .bad
    | none => .bad
  | _ => bad
theorem isi_kit : ∀ a ∈ "NoneType" :: isiNames, ∀ b ∈ isiNames, kitB a b = some (isiB a b) := by decide +kernel
section
variable {K : PySem.W.Frag} {mg : Str → Option Value} {g : Gr} {φ : List Addr} {S : Store} {Mk : List Addr} {H : Hp} {v : V} {t t' u : T}
theorem rep1 {xs : List V} (r : RepAll K mg g φ xs [t]) : ∃ x, xs = [x] ∧ Rep K mg g φ x t := by
  cases r with
  | cons h s => cases s; exact ⟨_, rfl, h⟩
theorem rep2 {xs : List V} (r : RepAll K mg g φ xs [t, u]) : ∃ x y, xs = [x, y] ∧ Rep K mg g φ x t ∧ Rep K mg g φ y u := by
  cases r with
  | cons h s =>
    obtain ⟨y, rfl, h2⟩ := rep1 s
    exact ⟨_, y, rfl, h, h2⟩
theorem RepK.length : ∀ {vs : List (Key × V)} {ts : List (T × T)}, RepK K mg g φ vs ts → vs.length = ts.length
  | _, _, .nil => rfl
  | _, _, .cons _ r => congrArg (· + 1) (RepK.length r)
theorem RepKT.length : ∀ {vs : List (List Key × V)} {ts : List (T × T)}, RepKT K mg g φ vs ts → vs.length = ts.length
  | _, _, .one _ => rfl
  | _, _, .cons _ r => congrArg (· + 1) (RepKT.length r)
theorem repAll_int : ∀ {ns : List Int}, RepAll K mg g φ (ns.map V.int) (ns.map T.int)
  | [] => .nil
  | n :: ns => .cons (.int n) repAll_int
theorem repAll_bl : ∀ {xs : List V} {ts : List T} {bs : List Bool}, RepAll K mg g φ xs ts → allBl ts = some bs → xs = bs.map V.bl
  | _, _, _, .nil, e => by cases e; rfl
  | _, _, _, .cons (t := t) h r, e => by
    cases t <;> first | (unfold allBl at e; cases e; done) | skip
    case bl b =>
      unfold allBl at e
      cases q : allBl _ with
      | none => rw [q] at e; cases e
      | some bs => rw [q] at e; cases e; cases h; rw [repAll_bl r q]; rfl
theorem ty_of {a : String} (R : Rel K mg φ S Mk H) (h : Rep K mg (G φ S Mk H) φ v t) (e : tyN (res S t) = some a) : TyX K H v (.type a) ∧ a ∈ "NoneType" :: isiNames := by
  have sqt : ∀ {p : Addr} {vs : List V}, SqT K H p vs → TyX K H (.ref p) (.type "tuple") := fun {p vs} h => by
    rcases h with (h | ⟨o, h⟩) | ⟨o, its, n, h1, h2, _⟩
    · exact .base (.tup h)
    · exact .fTuple h
    · exact .kTuple h1 h2
  have sql : ∀ {p : Addr} {vs : List V}, SqL K H p vs → TyX K H (.ref p) (.type "list") := fun {p vs} h => by
    rcases h with (h | ⟨o, h⟩) | ⟨o, its, n, h1, h2, _⟩
    · exact .base (.lst h)
    · exact .base (.frz h)
    · exact .kList h1 h2
  have key : ∀ w, res S t = w → tyN w = some a → TyX K H v (.type a) ∧ a ∈ "NoneType" :: isiNames := fun w ew e => by
    cases w with
    | non => rw [rep_non R h ew]; cases e; exact ⟨.base .non, by decide⟩
    | bl b => rw [rep_bl R h ew]; cases e; exact ⟨.base (.bl b), by decide⟩
    | int i => rw [rep_int R h ew]; cases e; exact ⟨.base (.int i), by decide⟩
    | str x => rw [rep_str R h ew]; cases e; exact ⟨.base (.str x), by decide⟩
    | lst xs => obtain ⟨p, vs, rfl, hs, _⟩ := rep_lst R h ew; cases e; exact ⟨.base (.lst hs), by decide⟩
    | tup xs => obtain ⟨p, vs, rfl, hs, _⟩ := rep_tup R h ew; cases e; exact ⟨sqt hs, by decide⟩
    | scr ns => obtain ⟨p, rfl, hs, _⟩ := rep_scr R h ew; cases e; exact ⟨sql hs, by decide⟩
    | dic q =>
      obtain ⟨_, p, rfl, ⟨kvs, hk, _⟩ | ⟨kvs, hk, _⟩⟩ := rep_dic R h ew
      · cases e; exact ⟨.base (.dK hk), by decide⟩
      · cases e; exact ⟨.base (.dT hk), by decide⟩
    | _ => cases e
  exact key _ rfl e
theorem pure_noDict : ∀ t : T, pureT t = true → (data t).hasDict = false := by
  have both : ∀ n : Nat, (∀ t : T, sizeOf t < n → pureT t = true → (data t).hasDict = false) := fun n => by
    induction n with
    | zero => intro t h; omega
    | succ n ih =>
      have all : ∀ ts : List T, sizeOf ts < n + 1 → pureAll ts = true → PyData.hasDictAll (dataAll ts) = false := fun ts => by
        induction ts with
        | nil => intro _ _; rfl
        | cons t ts ih2 =>
          intro hz hp
          unfold pureAll at hp
          obtain ⟨p1, p2⟩ := Bool.and_eq_true_iff.mp hp
          simp only [List.cons.sizeOf_spec] at hz
          unfold dataAll PyData.hasDictAll
          rw [ih t (by omega) p1, ih2 (by omega) p2]
          rfl
      intro t hz hp
      cases t with
      | tup ts =>
        simp only [T.tup.sizeOf_spec] at hz
        unfold data PyData.hasDict
        exact all ts (by omega) (by unfold pureT at hp; exact hp)
      | lst ts =>
        simp only [T.lst.sizeOf_spec] at hz
        unfold data PyData.hasDict
        exact all ts (by omega) (by unfold pureT at hp; exact hp)
      | dic q => unfold pureT at hp; cases hp
      | _ => simp [data, PyData.hasDict]
  exact fun t => both (sizeOf t + 1) t (Nat.lt_succ_self _)
end
section
variable {X : Cx}
theorem v_len : VCall X (.builtin "len") lenT := by
  intro pins s σ H xs us φ S Mk ts Wx Q I r1 R h1 p
  unfold lenT at p
  split at p <;> first | exact p.elim | skip
  rename_i t
  obtain ⟨x, rfl, h⟩ := rep1 h1
  split at p <;> first | exact p.elim | skip
  · rename_i z e
    rw [rep_str R h e] at r1
    split at p
    · rename_i hl
      exact call_len pins s σ H _ us Q I r1 ⟨_, _, rfl, ⟨hl, rfl⟩, Post.here (v := .int _) p R (.int _)⟩
    · exact p.elim
  · rename_i ys e
    obtain ⟨a, vs, rfl, hs, ra, _⟩ := rep_lst R h e
    rw [← ra.length] at p
    exact call_len pins s σ H _ us Q I r1 ⟨_, vs.length, rfl, .inl ⟨vs, .inl (.inl hs), rfl⟩, Post.here (v := .int _) p R (.int _)⟩
  · rename_i ys e
    obtain ⟨a, vs, rfl, hs, ra, _⟩ := rep_tup R h e
    rw [← ra.length] at p
    exact call_len pins s σ H _ us Q I r1 ⟨_, vs.length, rfl, .inr ⟨vs, hs, rfl⟩, Post.here (v := .int _) p R (.int _)⟩
  · rename_i ns e
    obtain ⟨a, rfl, hs, _⟩ := rep_scr R h e
    exact call_len pins s σ H _ us Q I r1 ⟨_, ns.length, rfl, .inl ⟨_, hs, by rw [List.length_map]⟩, Post.here (v := .int _) p R (.int _)⟩
  · rename_i q e
    obtain ⟨_, a, rfl, ⟨kvs, hk, ra⟩ | ⟨kvs, hk, ra⟩⟩ := rep_dic R h e
    · rw [← ra.length] at p
      exact call_lenD pins s σ H _ us Q I r1 ⟨a, kvs, rfl, hk, Post.here (v := .int _) p R (.int _)⟩
    · rw [← ra.length] at p
      exact call_len_dT pins s σ H _ us Q I r1 ⟨a, kvs, rfl, hk, Post.here (v := .int _) p R (.int _)⟩
theorem v_abs : VCall X (.builtin "abs") absT := by
  intro pins s σ H xs us φ S Mk ts Wx Q I r1 R h1 p
  unfold absT at p
  split at p <;> first | exact p.elim | skip
  obtain ⟨x, rfl, h⟩ := rep1 h1
  cases h
  exact call_abs pins s σ H _ us Q I r1 ⟨_, rfl, Post.here (v := .int _) p R (.int _)⟩
theorem v_max2 (hc : X.calm = true) : VCall X (.builtin "max") max2T := by
  intro pins s σ H xs us φ S Mk ts Wx Q I r1 R h1 p
  unfold max2T at p
  split at p <;> first | exact p.elim | skip
  obtain ⟨x, y, rfl, h, h'⟩ := rep2 h1
  cases h
  cases h'
  exact call_max2 hc pins s σ H _ us Q I r1 ⟨_, _, rfl, Post.here (v := .int _) p R (.int _)⟩
theorem v_min2 (hc : X.calm = true) : VCall X (.builtin "min") min2T := by
  intro pins s σ H xs us φ S Mk ts Wx Q I r1 R h1 p
  unfold min2T at p
  split at p <;> first | exact p.elim | skip
  obtain ⟨x, y, rfl, h, h'⟩ := rep2 h1
  cases h
  cases h'
  exact call_min2 hc pins s σ H _ us Q I r1 ⟨_, _, rfl, Post.here (v := .int _) p R (.int _)⟩
theorem v_int : VCall X (.type "int") intT := by
  intro pins s σ H xs us φ S Mk ts Wx Q I r1 R h1 p
  unfold intT at p
  split at p <;> first | exact p.elim | skip
  · obtain ⟨x, rfl, h⟩ := rep1 h1
    cases h
    exact call_int1 pins s σ H _ us Q I r1 (.inl ⟨_, rfl, Post.here (v := .int _) p R (.int _)⟩)
  · obtain ⟨x, rfl, h⟩ := rep1 h1
    cases h
    exact call_int1 pins s σ H _ us Q I r1 (.inr ⟨_, rfl, Post.here (v := .int _) p R (.int _)⟩)
theorem v_tuple : VCall X (.type "tuple") tupleT := by
  intro pins s σ H xs us φ S Mk ts Wx Q I r1 R h1 p
  unfold tupleT at p
  split at p <;> first | exact p.elim | skip
  rename_i t
  obtain ⟨x, rfl, h⟩ := rep1 h1
  split at p <;> first | exact p.elim | skip
  · rename_i ys e
    have e' := res_tup e
    obtain ⟨a, vs, rfl, hs, ra, _⟩ := rep_tup R h e
    exact call_tuple_of pins s σ H _ us Q I r1 ⟨a, vs, rfl, .inr ⟨hs, Post.here (v := .ref a) p R (e' ▸ h)⟩⟩
  · rename_i ys e
    obtain ⟨a, vs, rfl, hs, ra, l⟩ := rep_lst R h e
    refine call_tuple_of pins s σ H _ us Q I r1 ⟨a, vs, rfl, .inl ⟨.inl (.inl hs), fun q hq => ?_⟩⟩
    obtain ⟨st, g⟩ := Step.new (o := .tup vs) R hq
    exact Post.ok (t := T.tup ys) p st (.tup (.inl (.inl g)) (st.all ra) l)
theorem v_list : VCall X (.type "list") listT := by
  intro pins s σ H xs us φ S Mk ts Wx Q I r1 R h1 p
  unfold listT at p
  split at p <;> first | exact p.elim | skip
  rename_i t
  obtain ⟨x, rfl, h⟩ := rep1 h1
  split at p <;> first | exact p.elim | skip
  · rename_i ys e
    obtain ⟨a, vs, rfl, hs, ra, l⟩ := rep_tup R h e
    refine call_list_of pins s σ H _ us Q I r1 ⟨a, vs, rfl, .inr hs, fun q hq => ?_⟩
    obtain ⟨st, g⟩ := Step.new (o := .lst vs) R hq
    exact Post.ok (t := T.lst ys) p st (.lst g (st.all ra) l)
  · rename_i ys e
    obtain ⟨a, vs, rfl, hs, ra, l⟩ := rep_lst R h e
    refine call_list_of pins s σ H _ us Q I r1 ⟨a, vs, rfl, .inl (.inl (.inl hs)), fun q hq => ?_⟩
    obtain ⟨st, g⟩ := Step.new (o := .lst vs) R hq
    exact Post.ok (t := T.lst ys) p st (.lst g (st.all ra) l)
  · rename_i ns e
    obtain ⟨a, rfl, hs, l⟩ := rep_scr R h e
    refine call_list_of pins s σ H _ us Q I r1 ⟨a, _, rfl, .inl hs, fun q hq => ?_⟩
    obtain ⟨st, g⟩ := Step.new (o := .lst (ns.map V.int)) R hq
    exact Post.ok (t := T.lst (ns.map T.int)) p st (.lst g repAll_int (by rw [List.length_map]; exact Nat.le_trans l (by decide)))
theorem v_listR : VCall X (.type "list") listRT := by
  intro pins s σ H xs us φ S Mk ts Wx Q I r1 R h1 p
  unfold listRT at p
  split at p <;> first | exact p.elim | skip
  rename_i t
  obtain ⟨x, rfl, h⟩ := rep1 h1
  split at p <;> first | exact p.elim | skip
  · rename_i ys e
    obtain ⟨a, vs, rfl, hs, ra, l⟩ := rep_tup R h e
    refine call_list_of pins s σ H _ us Q I r1 ⟨a, vs, rfl, .inr hs, fun q hq => ?_⟩
    have st := Step.alloc (K := X.K) (mg := X.mg) (c := .lst ys) (o := .lst vs) R hq fun g' k => ⟨l, vs, upd_same, ra.mono k ⟨[q], rfl⟩⟩
    exact p.ok st (.ref (by rw [← R.len]; exact List.getElem?_concat_length))
  · rename_i ys e
    obtain ⟨a, vs, rfl, hs, ra, l⟩ := rep_lst R h e
    refine call_list_of pins s σ H _ us Q I r1 ⟨a, vs, rfl, .inl (.inl (.inl hs)), fun q hq => ?_⟩
    have st := Step.alloc (K := X.K) (mg := X.mg) (c := .lst ys) (o := .lst vs) R hq fun g' k => ⟨l, vs, upd_same, ra.mono k ⟨[q], rfl⟩⟩
    exact p.ok st (.ref (by rw [← R.len]; exact List.getElem?_concat_length))
  · rename_i ns e
    obtain ⟨a, rfl, hs, l⟩ := rep_scr R h e
    refine call_list_of pins s σ H _ us Q I r1 ⟨a, _, rfl, .inl hs, fun q hq => ?_⟩
    have st := Step.alloc (K := X.K) (mg := X.mg) (c := .lst (ns.map T.int)) (o := .lst (ns.map V.int)) R hq fun g' k => ⟨by rw [List.length_map]; exact Nat.le_trans l (by decide), _, upd_same, repAll_int⟩
    exact p.ok st (.ref (by rw [← R.len]; exact List.getElem?_concat_length))
theorem v_all (hc : X.calm = true) : VCall X (.builtin "all") allT := by
  intro pins s σ H xs us φ S Mk ts Wx Q I r1 R h1 p
  unfold allT at p
  split at p <;> first | exact p.elim | skip
  rename_i t
  obtain ⟨x, rfl, h⟩ := rep1 h1
  split at p <;> first | exact p.elim | skip
  rename_i ys e
  obtain ⟨a, vs, rfl, hs, ra, l⟩ := rep_lst R h e
  split at p <;> first | exact p.elim | skip
  rename_i bs eb
  have hv := repAll_bl ra eb
  subst hv
  exact cr_all hc pins s σ H _ us Q I r1 ⟨a, bs, rfl, .inl (.inl hs), Post.here (v := .bl _) p R (.bl _)⟩
theorem v_any (hc : X.calm = true) : VCall X (.builtin "any") anyT := by
  intro pins s σ H xs us φ S Mk ts Wx Q I r1 R h1 p
  unfold anyT at p
  split at p <;> first | exact p.elim | skip
  rename_i t
  obtain ⟨x, rfl, h⟩ := rep1 h1
  split at p <;> first | exact p.elim | skip
  rename_i ys e
  obtain ⟨a, vs, rfl, hs, ra, l⟩ := rep_lst R h e
  split at p <;> first | exact p.elim | skip
  rename_i bs eb
  have hv := repAll_bl ra eb
  subst hv
  exact cr_any hc pins s σ H _ us Q I r1 ⟨a, bs, rfl, .inl (.inl hs), Post.here (v := .bl _) p R (.bl _)⟩
theorem v_isi : VCall X (.builtin "isinstance") isiT := by
  intro pins s σ H xs us φ S Mk ts Wx Q I r1 R h1 p
  unfold isiT at p
  split at p <;> first | exact p.elim | skip
  rename_i t n
  obtain ⟨x, y, rfl, h, h'⟩ := rep2 h1
  cases h'
  split at p <;> first | exact p.elim | skip
  rename_i a e
  split at p <;> first | exact p.elim | skip
  rename_i hn
  obtain ⟨q1, q2⟩ := ty_of R h e
  exact call_isi pins s σ H _ us Q I r1 ⟨x, .ty n, _, _, _, rfl, .ty n, q1, kit_ty (isi_kit a q2 n hn), Post.here (v := .bl _) p R (.bl _)⟩
theorem v_repr (hg : X.A.guards = some []) (hu : X.A.units + 65 < cLine) : VCall X (.builtin "repr") reprT := by
  intro pins s σ H xs us φ S Mk ts Wx Q I r1 R h1 p
  unfold reprT at p
  split at p <;> first | exact p.elim | skip
  rename_i t
  obtain ⟨x, rfl, h⟩ := rep1 h1
  split at p <;> first | exact p.elim | skip
  rename_i hc
  obtain ⟨hp, hs, hd, hl⟩ := hc
  obtain ⟨u, rfl, rx⟩ := vals1 r1
  have dp := rep_dp R h hp
  have q : Q (.str (data (res S t)).shown) H := Post.here (v := .str _) p R (.str _)
  obtain ⟨as, rd⟩ := Dp.reads I _ x u dp rx
  have nd := pure_noDict _ hp
  revert q hs hd hl rd nd
  generalize data (res S t) = d
  intro hs hd hl q rd nd
  have viaRef : ∀ a, u = .ref a → wpAny (model X.prog X.w) X.A (call (.builtin "repr") [u]) (EP X pins σ Q) X.xe s := fun a e => by
    subst e
    exact repr_of_reads' rd hs (PyData.noDict_hsm nd) hg (by omega) (fun _ _ e => e) (fun h' tk1 tk2 hk => ⟨.str _, H, I.kept hk, ⟨_, rfl⟩, q⟩) hl
  cases rd with
  | none => exact PySem.P.repr_of_none ⟨.str _, H, I.tok _, ⟨_, rfl⟩, q⟩
  | bool b =>
    refine PySem.P.repr_of_bool ⟨.str _, H, I.tok _, ⟨_, rfl⟩, ?_⟩
    cases b <;> exact q
  | int i tk =>
    refine PySem.P.repr_of_int (by simpa [PyData.showable] using hs) ⟨.str _, H, I.tok _, ⟨_, rfl⟩, ?_⟩
    simpa [PyData.shown] using q
  | str y tk =>
    refine PySem.P.repr_of_str ⟨.str _, H, I.tok _, ⟨_, rfl⟩, ?_⟩ (by simpa [PyData.shown] using hl)
    simpa [PyData.shown] using q
  | list _ _ _ _ => exact viaRef _ rfl
  | tuple _ _ _ _ => exact viaRef _ rfl
  | dict _ _ _ _ _ => exact viaRef _ rfl

/-! ### their calls -/
variable {W : WX} {x : Str} {p pos : Pos} {e : Expr} {es : List Expr} {id T' : String} {g : List T → M T} {fr : Slots → M (List T)}
theorem pe_callBF (hc : VCall X (.builtin id) g) (hg : Gl X x) (hm : X.mg x = none) (hv : bootBuiltins x = some (.builtin id)) (ha : PA X (e :: es) (dA X W fr)) (hn : x ≠ "__name__" := by decide) (hdb : (x == ("__debug__" : Str)) = false := by decide)
    (he : starEach (e :: es) X.env = (false, eval e X.env) :: starEach es X.env := by rfl) (hpl : (backTo pos (starEach es X.env)).any (·.1) = false := by rfl) : PE X (.Call (.Name x p) (e :: es) [] pos) (dT X W (eCall g fr)) :=
  PE.weak (pe_callB hc.opr hg hm hv ha hn hdb he hpl) arg_part
theorem pe_callTyF (hc : VCall X (.type T') g) (hg : Gl X x) (hm : X.mg x = none) (hv : bootBuiltins x = some (.type T')) (ha : PA X (e :: es) (dA X W fr)) (hn : x ≠ "__name__" := by decide) (hdb : (x == ("__debug__" : Str)) = false := by decide)
    (he : starEach (e :: es) X.env = (false, eval e X.env) :: starEach es X.env := by rfl) (hpl : (backTo pos (starEach es X.env)).any (·.1) = false := by rfl) : PE X (.Call (.Name x p) (e :: es) [] pos) (dT X W (eCall g fr)) :=
  PE.weak (pe_callTy hc.opr hg hm hv ha hn hdb he hpl) arg_part
end
end Fw
set_option Elab.async false
set_option linter.all false
set_option maxRecDepth 100000
/-! FwMeth: methods of lists, stores by place. -/
namespace Fw
open PySem PySem.Spec PyProof.Rows L2

theorem takes0 {X : Cx} : Takes X W0 := fun _ _ ⟨_, _, _, _, _, _, _, _, _, _, _, _, _, _, _, _, w⟩ => w.elim
/-! ### methods by values -/
def VMth (X : Cx) (id : String) (g : T → List T → M T) : Prop :=
  ∀ (pins : List (Addr × Obj)) (s : Shared) (σ : L2.St) (H : Hp) (x : V) (xs : List V) (v : Value) (us : List Value) (φ : List Addr) (S : Store) (Mk : List Addr) (t : T) (ts : List T) (Wx : Value → Option Addr → Hp → Prop) (Q : VK), Inv X pins σ H s → RelV x v → Vals xs us → Rel X.K X.mg φ S Mk H →
    Rep X.K X.mg (G φ S Mk H) φ x t → RepAll X.K X.mg (G φ S Mk H) φ xs ts → Post X.K X.mg (Rep X.K X.mg) φ S Mk H (g t ts S) Wx Q → wpAny (model X.prog X.w) X.A (call (.builtin id) (v :: us)) (EP X pins σ Q) X.xe s
def pkM (X : Cx) (g : T → List T → M T) : V → List V → Hp → VK → Prop := fun x xs H Q => ∃ φ S Mk t ts Wx, Rel X.K X.mg φ S Mk H ∧ Rep X.K X.mg (G φ S Mk H) φ x t ∧ RepAll X.K X.mg (G φ S Mk H) φ xs ts ∧ Post X.K X.mg (Rep X.K X.mg) φ S Mk H (g t ts S) Wx Q
theorem VMth.opr {X : Cx} {id : String} {g : T → List T → M T} (h : VMth X id g) : MtR X id (pkM X g) := fun pins s σ H x xs v us Q I r1 r2 ⟨φ, S, Mk, t, ts, Wx, R, rt, rts, p⟩ => h pins s σ H x xs v us φ S Mk t ts Wx Q I r1 r2 R rt rts p
def tyMth (nm : String) : T → Bool
  | .lst _ => nm == "list"
  | .str _ => nm == "str"
  | .dic _ => nm == "dict"
  | _ => false
def chkTy (nm : String) (x : T) : M Unit := fun S => if tyMth nm (res S x) = true then .ok () S else .bad
def eMth (nm : String) (g : T → List T → M T) (a : Slots → M T) (r : Slots → M (List T)) : Slots → M T := fun τ => bnd (a τ) fun x => bnd (chkTy nm x) fun _ => bnd (r τ) fun ts => g x ts
section
variable {X : Cx} {W : WX} {o e : Expr} {es : List Expr} {fo : Slots → M T} {fr : Slots → M (List T)} {name : Str} {apos cpos : Pos} {T' id : String} {g : T → List T → M T}
theorem chk_of {K : PySem.W.Frag} {mg : Str → Option Value} {φ : List Addr} {S : Store} {Mk : List Addr} {H : Hp} {x : V} {t : T} (R : Rel K mg φ S Mk H) (h : Rep K mg (G φ S Mk H) φ x t) (e : tyMth T' (res S t) = true) : tyV K T' x H := by
  have key : ∀ w, res S t = w → tyMth T' w = true → tyV K T' x H := fun w ew e => by
    cases w with
    | lst xs =>
      obtain ⟨p, vs, rfl, hs, _⟩ := rep_lst R h ew
      exact .inl ⟨by simpa [tyMth] using e, vs, .inl (.inl hs)⟩
    | str z =>
      rw [rep_str R h ew]
      show T' = "str"
      simpa [tyMth] using e
    | dic q =>
      obtain ⟨_, p, rfl, ⟨kvs, hk, _⟩ | ⟨kvs, hk, _⟩⟩ := rep_dic R h ew
      · exact .inr (.inr (.inl ⟨by simpa [tyMth] using e, .inl ⟨kvs, hk⟩⟩))
      · exact .inr (.inr (.inl ⟨by simpa [tyMth] using e, .inr ⟨kvs, hk⟩⟩))
    | _ => cases e
  exact key _ rfl e
theorem mth_imp (σ : L2.St) (H : Hp) (Q : VK) (h : dT X W (eMth T' g fo fr) σ H Q) : tBM X.K T' (pkM X g) (dT X W fo) (dA X W fr) σ H Q := by
  obtain ⟨φ, S, Mk, τ, R, sl, h⟩ := h
  refine ⟨φ, S, Mk, τ, R, sl, Post.part R h fun φ1 S1 H1 x t s1 r1 p1 => ?_⟩
  have p1 : Post X.K X.mg (Rep X.K X.mg) φ1 S1 Mk H1 (Fw.bnd (chkTy T' t) (fun _ => Fw.bnd (fr τ) fun ts => g t ts) S1) (fun c d H' => W c d σ H') Q := p1
  unfold Fw.bnd chkTy at p1
  by_cases hc : tyMth T' (res S1 t) = true
  · rw [if_pos hc] at p1
    refine ⟨chk_of s1.rel r1 hc, φ1, S1, Mk, τ, s1.rel, s1.slots sl, ?_⟩
    refine Post.part (m := fr τ) (k := fun ts => g t ts) s1.rel p1 fun φ2 S2 H2 xs ts s2 r2 p2 => ?_
    exact ⟨φ2, S2, Mk, t, ts, _, s2.rel, s2.rep r1, r2, p2⟩
  · rw [if_neg hc] at p1
    exact p1.elim
theorem pe_mthF (pa : PlainAttrs T') (slot : Slot T' name id) (hty : typeOf (.builtin id) = pure (.type "method_descriptor")) (hm : VMth X id g) (ho : PE X o (dT X W fo)) (ha : PA X (e :: es) (dA X W fr))
    (hbase : attributeBase o name X.env (eval o X.env) = eval o X.env := by rfl)
    (hfew : ((backTo cpos (starEach (e :: es) X.env)).all (fun x => !x.1) && (backToKw cpos (keywordEach [] X.env)).all (fun x => x.1.isSome)
      && decide ((e :: es).length + ([] : List Keyword).length + (if ([] : List Keyword).isEmpty then 0 else 1) < 30)) = true := by rfl)
    (hline : (apos.endLine == cpos.line) = true := by rfl) (hs : starEach (e :: es) X.env = (false, eval e X.env) :: starEach es X.env := by rfl) (hplain : (backTo cpos (starEach es X.env)).any (·.1) = false := by rfl) :
    PE X (.Call (.Attribute o name apos) (e :: es) [] cpos) (dT X W (eMth T' g fo fr)) := PE.weak (pe_bm pa slot hty hm.opr ho ha hbase hfew hline hs hplain) mth_imp
theorem pe_mth0F (pa : PlainAttrs T') (slot : Slot T' name id) (hty : typeOf (.builtin id) = pure (.type "method_descriptor")) (hm : VMth X id g) (ho : PE X o (dT X W fo))
    (hbase : attributeBase o name X.env (eval o X.env) = eval o X.env := by rfl) (hline : (apos.endLine == cpos.line) = true := by rfl) :
    PE X (.Call (.Attribute o name apos) [] [] cpos) (dT X W (eMth T' g fo eNil)) := by
  refine PE.weak (pe_bm0 pa slot hty hm.opr ho hbase hline) fun σ H Q h => ?_
  obtain ⟨φ, S, Mk, τ, R, sl, h⟩ := h
  refine ⟨φ, S, Mk, τ, R, sl, Post.part R h fun φ1 S1 H1 x t s1 r1 p1 => ?_⟩
  have p1 : Post X.K X.mg (Rep X.K X.mg) φ1 S1 Mk H1 (Fw.bnd (chkTy T' t) (fun _ => g t []) S1) (fun c d H' => W c d σ H') Q := p1
  unfold Fw.bnd chkTy at p1
  by_cases hc : tyMth T' (res S1 t) = true
  · rw [if_pos hc] at p1
    exact ⟨chk_of s1.rel r1 hc, φ1, S1, Mk, t, [], _, s1.rel, r1, .nil, p1⟩
  · rw [if_neg hc] at p1
    exact p1.elim
end
/-! ### lists -/
/-- the list at a mutable object is changed -/
def onLst (x : T) (f : List T → Option (T × List T)) : M T := fun S => match x with
  | .ref n => (match S[n]? with
    | some (some (.lst xs)) => (match f xs with
      | some (r, ys) => .ok r (S.set n (some (.lst ys)))
      | none => .bad)
    | _ => .bad)
  | _ => .bad
def appendT (x : T) (ts : List T) : M T := match ts with
  | [y] => onLst x fun xs => if xs.length < sizeLine then some (.non, xs ++ [y]) else none
  | _ => bad
def extendT (x : T) (ts : List T) : M T := match ts with
  | [y] => fun S => (match res S y with
    | .lst zs => onLst x (fun xs => if xs.length + zs.length ≤ sizeLine then some (.non, xs ++ zs) else none) S
    | _ => .bad)
  | _ => bad
def popT (x : T) (ts : List T) : M T := match ts with
  | [.int i] => onLst x fun xs => if -(2 ^ 63) ≤ i ∧ i < 2 ^ 63 then (match seqIndex? i xs.length with
    | some k => (match xs[k]? with
      | some y => some (y, xs.eraseIdx k)
      | none => none)
    | none => none) else none
  | [] => onLst x fun xs => (match xs[xs.length - 1]? with
    | some y => some (y, xs.dropLast)
    | none => none)
  | _ => bad
/-- the first place of an equal one -/
def firstIx (p : T → Bool) : List T → Option Nat
  | [] => none
  | t :: ts => if p t = true then some 0 else (firstIx p ts).map (· + 1)
def indexT (x : T) (ts : List T) : M T := match ts with
  | [y] => fun S => (match res S x with
    | .lst xs => if shp (.lst xs) = true ∧ shp (res S y) = true then (match firstIx (fun z => PyData.eqv (data z) (data (res S y))) xs with
      | some j => .ok (.int (j : Nat)) S
      | none => .bad) else .bad
    | _ => .bad)
  | _ => bad
theorem firstIx_spec {p : T → Bool} : ∀ {ts : List T} {j : Nat}, firstIx p ts = some j → (∃ z, ts[j]? = some z ∧ p z = true) ∧ ∀ m z, m < j → ts[m]? = some z → p z = false
  | [], j, e => by cases e
  | t :: ts, j, e => by
    unfold firstIx at e
    split at e
    · rename_i h
      cases e
      exact ⟨⟨t, rfl, h⟩, fun m z h => by omega⟩
    · rename_i h
      cases q : firstIx p ts with
      | none => rw [q] at e; cases e
      | some i =>
        rw [q] at e
        cases e
        obtain ⟨⟨z, h1, h2⟩, h3⟩ := firstIx_spec q
        refine ⟨⟨z, by simpa using h1, h2⟩, fun m z hm e => ?_⟩
        cases m with
        | zero => simp at e; subst e; simpa using h
        | succ m => exact h3 m z (Nat.lt_of_succ_lt_succ hm) (by simpa using e)
section
variable {K : PySem.W.Frag} {mg : Str → Option Value} {g : Gr} {φ : List Addr} {S : Store} {Mk : List Addr} {H : Hp} {v x : V} {t u : T}
theorem RepAll.eraseIdx : ∀ {vs : List V} {ts : List T} (n : Nat), RepAll K mg g φ vs ts → RepAll K mg g φ (vs.eraseIdx n) (ts.eraseIdx n)
  | _, _, _, .nil => .nil
  | _, _, 0, .cons _ r => r
  | _, _, n + 1, .cons h r => .cons h (RepAll.eraseIdx n r)
theorem RepAll.dropLast : ∀ {vs : List V} {ts : List T}, RepAll K mg g φ vs ts → RepAll K mg g φ vs.dropLast ts.dropLast
  | _, _, .nil => .nil
  | _, _, .cons h .nil => .nil
  | _, _, .cons h (.cons q r) => .cons h (RepAll.dropLast (.cons q r))
theorem onLst_parts {α : Type} {RR : Gr → List Addr → α → T → Prop} {f : List T → Option (T × List T)} {Wx : Value → Option Addr → Hp → Prop} {Q : α → Hp → Prop} (R : Rel K mg φ S Mk H) (h : Rep K mg (G φ S Mk H) φ v t) (p : Post K mg RR φ S Mk H (onLst t f S) Wx Q) :
    ∃ n a vs xs r ys, t = .ref n ∧ v = .ref a ∧ φ[n]? = some a ∧ S[n]? = some (some (.lst xs)) ∧ H a = some (.lst vs) ∧ RepAll K mg (G φ S Mk H) φ vs xs ∧ xs.length ≤ sizeLine ∧ f xs = some (r, ys) ∧ Post K mg RR φ S Mk H (.ok r (S.set n (some (.lst ys)))) Wx Q := by
  unfold onLst at p
  split at p <;> first | exact p.elim | skip
  rename_i n
  split at p <;> first | exact p.elim | skip
  rename_i xs e
  split at p <;> first | exact p.elim | skip
  rename_i r ys ef
  cases h with
  | @ref _ a h =>
    obtain ⟨b, e1, l, vs, h1, h2⟩ := R.cell n _ e
    rw [h] at e1
    cases e1
    exact ⟨n, a, vs, xs, r, ys, rfl, rfl, h, e, h1, h2, l, ef, p⟩
/-- .. written -/
theorem lst_write {n : Nat} {a : Addr} {c : Cell} {vs : List V} {ys : List T} (R : Rel K mg φ S Mk H) (ha : φ[n]? = some a) (hs : S[n]? = some (some c)) (ra : RepAll K mg (G φ S Mk H) φ vs ys) (l : ys.length ≤ sizeLine) :
    Step K mg φ S Mk H φ (S.set n (some (.lst ys))) (upd H a (.lst vs)) := Step.write R hs ha fun g' k => ⟨l, vs, upd_same, ra.mono k ⟨[], by simp⟩⟩
end
section
variable {X : Cx}
theorem v_append : VMth X "list.append" appendT := by
  intro pins s σ H x xs v us φ S Mk t ts Wx Q I r1 r2 R h1 h2 p
  unfold appendT at p
  split at p <;> first | exact p.elim | skip
  rename_i y
  obtain ⟨w, rfl, hw⟩ := rep1 h2
  obtain ⟨n, a, vs, zs, r, ys, rfl, rfl, ha, hs, hH, ra, l, ef, p⟩ := onLst_parts R h1 p
  split at ef <;> cases ef
  rename_i hl
  have st := lst_write R ha hs (ra.append (.cons hw .nil)) (by simp; omega)
  exact mt_append pins s σ H _ _ v us Q I r1 r2 ⟨a, vs, w, rfl, rfl, hH, by rw [ra.length]; exact hl, Post.ok (t := T.non) p st .non⟩
theorem v_extend : VMth X "list.extend" extendT := by
  intro pins s σ H x xs v us φ S Mk t ts Wx Q I r1 r2 R h1 h2 p
  unfold extendT at p
  split at p <;> first | exact p.elim | skip
  rename_i y
  obtain ⟨w, rfl, hw⟩ := rep1 h2
  split at p <;> first | exact p.elim | skip
  rename_i us2 ey
  obtain ⟨b, ws, rfl, hB, rb, lb⟩ := rep_lst R hw ey
  obtain ⟨n, a, vs, zs, r, ys, rfl, rfl, ha, hs, hH, ra, l, ef, p⟩ := onLst_parts R h1 p
  split at ef <;> cases ef
  rename_i hl
  have st := lst_write R ha hs (ra.append rb) (by rw [List.length_append]; exact hl)
  exact mt_extend pins s σ H _ _ v us Q I r1 r2 ⟨a, b, vs, ws, rfl, rfl, hH, hB, by rw [ra.length, rb.length]; exact hl, Post.ok (t := T.non) p st .non⟩
theorem v_pop : VMth X "list.pop" popT := by
  intro pins s σ H x xs v us φ S Mk t ts Wx Q I r1 r2 R h1 h2 p
  unfold popT at p
  split at p <;> first | exact p.elim | skip
  · rename_i i
    obtain ⟨w, rfl, hw⟩ := rep1 h2
    cases hw
    obtain ⟨n, a, vs, zs, r, ys, rfl, rfl, ha, hs, hH, ra, l, ef, p⟩ := onLst_parts R h1 p
    split at ef <;> first | (cases ef; done) | skip
    rename_i hi
    split at ef <;> first | (cases ef; done) | skip
    rename_i k ek
    split at ef <;> first | (cases ef; done) | skip
    rename_i y ey
    cases ef
    obtain ⟨w, hw, rw'⟩ := ra.get ey
    have st := lst_write R ha hs (ra.eraseIdx k) (Nat.le_trans (len_erase _ _) l)
    exact mt_popAt pins s σ H _ _ v us Q I r1 r2 ⟨a, vs, i, k, w, rfl, rfl, hH, hi.1, hi.2, by rw [ra.length]; exact ek, hw, Post.ok p st (st.rep rw')⟩
  · cases h2
    obtain ⟨n, a, vs, zs, r, ys, rfl, rfl, ha, hs, hH, ra, l, ef, p⟩ := onLst_parts R h1 p
    split at ef <;> first | (cases ef; done) | skip
    rename_i y ey
    cases ef
    obtain ⟨w, hw, rw'⟩ := ra.get ey
    have st := lst_write R ha hs ra.dropLast (by rw [List.length_dropLast]; omega)
    exact mt_pop pins s σ H _ _ v us Q I r1 r2 ⟨a, vs, w, rfl, rfl, hH, by rw [ra.length]; exact hw, Post.ok p st (st.rep rw')⟩
theorem v_index (hu : X.A.units + 65 < cLine) : VMth X "list.index" indexT := by
  intro pins s σ H x xs v us φ S Mk t ts Wx Q I r1 r2 R h1 h2 p
  unfold indexT at p
  split at p <;> first | exact p.elim | skip
  rename_i y
  obtain ⟨w, rfl, hw⟩ := rep1 h2
  split at p <;> first | exact p.elim | skip
  rename_i zs e
  split at p <;> first | exact p.elim | skip
  rename_i hc
  split at p <;> first | exact p.elim | skip
  rename_i j ej
  obtain ⟨⟨z, hz, hzj⟩, hno⟩ := firstIx_spec ej
  have d1 := rep_dp R h1 (by rw [e]; exact shp_pure hc.1)
  rw [e] at d1
  obtain ⟨a, vs, rfl, _⟩ := rep_lst R h1 e
  have get : ∀ (m : Nat), (dataAll zs)[m]? = (zs[m]?).map data := fun m => by rw [dataAll_map, List.getElem?_map]
  refine mt_indexD hu pins s σ H _ _ v us Q I r1 r2 ⟨a, w, _, dataAll zs, j, data z, rfl, rfl, d1, rep_dp R hw (shp_pure hc.2), shp_sh hc.1, shp_sh hc.2, by rw [get, hz]; rfl, hzj, fun m z' hm hz' => ?_, Post.here (v := .int _) p R (.int _)⟩
  rw [get] at hz'
  cases q : zs[m]? with
  | none => rw [q] at hz'; cases hz'
  | some z2 => rw [q] at hz'; cases hz'; exact hno m z2 hm q
end
end Fw
set_option Elab.async false
set_option linter.all false
set_option maxRecDepth 100000
/-! FwDict: subscripts, stores, `in` of dicts too; methods of dicts. -/
namespace Fw
open PySem PySem.Spec PyProof.Rows L2

def keysOk (qs : List (T × T)) : Bool := qs.all fun p => (keyOf p.1).isSome
section
variable {K : PySem.W.Frag} {mg : Str → Option Value} {φ : List Addr} {S : Store} {Mk : List Addr} {H : Hp} {v x y : V} {t u : T} {k : Key}
/-- a dict with ints and texts as keys -/
theorem dic_k {qs : List (T × T)} (R : Rel K mg φ S Mk H) (h : Rep K mg (G φ S Mk H) φ x t) (e : res S t = .dic qs) (hq : keysOk qs = true) :
    qs.length ≤ sizeLine ∧ ∃ a kvs, x = .ref a ∧ H a = some (.dK kvs) ∧ RepK K mg (G φ S Mk H) φ kvs qs := by
  obtain ⟨l, a, rfl, ⟨kvs, hk, r⟩ | ⟨kvs, hk, r⟩⟩ := rep_dic R h e
  · exact ⟨l, a, kvs, rfl, hk, r⟩
  · cases r with
    | one h =>
      simp [keysOk, keyOf] at hq
    | cons h r =>
      simp [keysOk, keyOf] at hq
/-- what it holds at a key -/
theorem dget_of {qs : List (T × T)} (R : Rel K mg φ S Mk H) (h : Rep K mg (G φ S Mk H) φ x t) (e : res S t = .dic qs) (hq : keysOk qs = true) (hy : Rep K mg (G φ S Mk H) φ y u) (ek : keyOf u = some k) :
    ∃ a, x = .ref a ∧ ((getD qs k = none ∧ DGet H a y none) ∨ ∃ v t', getD qs k = some t' ∧ DGet H a y (some v) ∧ Rep K mg (G φ S Mk H) φ v t') := by
  obtain ⟨l, a, kvs, rfl, hk, r⟩ := dic_k R h e hq
  refine ⟨a, rfl, ?_⟩
  have ey := rep_key hy ek
  subst ey
  rcases r.val (k := k) with ⟨h1, h2⟩ | ⟨v, t', h1, h2, h3⟩
  · exact .inl ⟨h1, by rw [← h2]; exact DGet.k hk⟩
  · exact .inr ⟨v, t', h2, by rw [← h1]; exact DGet.k hk, h3⟩
end
section
variable {X : Cx} {W : WX} {a b : Expr} {fa fb : Slots → M T} {pos : Pos}
/-! ### a[i] -/
def subT' (x y : T) : M T := fun S => match res S x with
  | .dic qs => if keysOk qs = true then (match keyOf y with
    | some k => (match getD qs k with
      | some t => .ok t S
      | none => .bad)
    | none => .bad) else .bad
  | _ => ixT x y S
def rIxDict : R2 := fun x y H Q => ∃ a v, x = .ref a ∧ DGet H a y (some v) ∧ Q v H
theorem ix_dict (hu : X.A.units + 1 < cLine) : IxR X rIxDict := by
  intro value slice pins s σ H x y v u Q I rx ry h hs
  obtain ⟨a, w, rfl, g, q⟩ := h
  cases rx
  exact tail_any (dict_typeIs I g) PySem.F.slot_dict_getitem.lookup (d_getItem hu I g ry fun w' s3 I3 rw' => ⟨w, H, I3, rw', q⟩) hs
theorem pe_subF (hu : X.A.units + 1 < cLine) (ha : PE X a (dT X W fa)) (hb : PE X b (dT X W fb)) (hs : PlainIx b := by intro _ _; rfl) : PE X (.Subscript a b pos) (dT X W (eBin subT' fa fb)) := by
  refine PE.weak (pe_ix (IxR.or (ix_dict hu) ix_seq) ha hb hs) fun σ H Q h => ?_
  refine dT_mono (two_parts σ H Q h) fun x H1 h1 => dT_mono h1 fun y H2 ⟨φ, S, Mk, tx, ty, Wx, R, r1, r2, p⟩ => ?_
  unfold subT' at p
  split at p
  · rename_i qs e
    split at p <;> first | exact p.elim | skip
    rename_i hq
    split at p <;> first | exact p.elim | skip
    rename_i k ek
    split at p <;> first | exact p.elim | skip
    rename_i t et
    obtain ⟨a, rfl, ⟨h1, _⟩ | ⟨v, t', h1, h2, h3⟩⟩ := dget_of R r1 e hq r2 ek
    · rw [et] at h1; cases h1
    · rw [et] at h1
      cases h1
      exact .inl ⟨a, v, rfl, h2, Post.here p R h3⟩
  · exact .inr (ix_imp R r1 r2 p)
/-! ### in -/
def memT (neg : Bool) (x y : T) : M T := fun S => match res S y with
  | .dic qs => if keysOk qs = true then (match keyOf x with
    | some k => .ok (.bl (neg ^^ (getD qs k).isSome)) S
    | none => .bad) else .bad
  | _ => inT neg x y S
theorem v_mem (hu : X.A.units + 65 < cLine) : VOp2 X (compareOp .In) (memT false) := by
  intro pins s σ H x y u v φ S Mk tx ty Wx Q I r1 r2 R h1 h2 p
  unfold memT at p
  split at p
  · rename_i qs e
    split at p <;> first | exact p.elim | skip
    rename_i hq
    split at p <;> first | exact p.elim | skip
    rename_i k ek
    rw [Bool.false_xor] at p
    obtain ⟨a, rfl, ⟨g1, g2⟩ | ⟨w, t', g1, g2, g3⟩⟩ := dget_of R h2 e hq h1 ek
    · cases r2
      rw [g1] at p
      exact d_in (by omega) I g2 r1 fun s3 I3 => ⟨.bl _, H, I3, rfl, Post.here (v := .bl _) p R (.bl _)⟩
    · cases r2
      rw [g1] at p
      exact d_in (by omega) I g2 r1 fun s3 I3 => ⟨.bl _, H, I3, rfl, Post.here (v := .bl _) p R (.bl _)⟩
  · exact v_in hu pins s σ H x y u v φ S Mk tx ty Wx Q I r1 r2 R h1 h2 p
theorem v_notMem (hu : X.A.units + 65 < cLine) : VOp2 X (compareOp .NotIn) (memT true) := by
  intro pins s σ H x y u v φ S Mk tx ty Wx Q I r1 r2 R h1 h2 p
  unfold memT at p
  split at p
  · rename_i qs e
    split at p <;> first | exact p.elim | skip
    rename_i hq
    split at p <;> first | exact p.elim | skip
    rename_i k ek
    rw [Bool.true_xor] at p
    obtain ⟨a, rfl, ⟨g1, g2⟩ | ⟨w, t', g1, g2, g3⟩⟩ := dget_of R h2 e hq h1 ek
    · cases r2
      rw [g1] at p
      exact d_notIn (by omega) I g2 r1 fun s3 I3 => ⟨.bl _, H, I3, rfl, Post.here (v := .bl _) p R (.bl _)⟩
    · cases r2
      rw [g1] at p
      exact d_notIn (by omega) I g2 r1 fun s3 I3 => ⟨.bl _, H, I3, rfl, Post.here (v := .bl _) p R (.bl _)⟩
  · exact v_notIn hu pins s σ H x y u v φ S Mk tx ty Wx Q I r1 r2 R h1 h2 p
/-! ### d.get -/
def getMT (x : T) (ts : List T) : M T := fun S => match res S x with
  | .dic qs => if keysOk qs = true then (match ts with
    | [y] => (match keyOf y with
      | some k => .ok ((getD qs k).getD .non) S
      | none => .bad)
    | [y, z] => (match keyOf y with
      | some k => .ok ((getD qs k).getD z) S
      | none => .bad)
    | _ => .bad) else .bad
  | _ => .bad
theorem v_get (hu : X.A.units + 1 < cLine) : VMth X "dict.get" getMT := by
  intro pins s σ H x xs v us φ S Mk t ts Wx Q I r1 r2 R h1 h2 p
  unfold getMT at p
  split at p <;> first | exact p.elim | skip
  rename_i qs e
  split at p <;> first | exact p.elim | skip
  rename_i hq
  split at p <;> first | exact p.elim | skip
  · rename_i y
    obtain ⟨w, rfl, hw⟩ := rep1 h2
    obtain ⟨u, rfl, ru⟩ := vals1 r2
    split at p <;> first | exact p.elim | skip
    rename_i k ek
    obtain ⟨a, rfl, ⟨g1, g2⟩ | ⟨w2, t', g1, g2, g3⟩⟩ := dget_of R h1 e hq hw ek
    · cases r1
      rw [g1] at p
      exact d_get1 hu I g2 ru fun w' s3 I3 rw' => ⟨.non, H, I3, rw', Post.here (t := T.non) p R .non⟩
    · cases r1
      rw [g1] at p
      exact d_get1 hu I g2 ru fun w' s3 I3 rw' => ⟨w2, H, I3, rw', Post.here (t := t') p R g3⟩
  · rename_i y z
    obtain ⟨w, wz, rfl, hw, hz⟩ := rep2 h2
    obtain ⟨u, uz, rfl, ru, rz⟩ := vals2 r2
    split at p <;> first | exact p.elim | skip
    rename_i k ek
    obtain ⟨a, rfl, ⟨g1, g2⟩ | ⟨w2, t', g1, g2, g3⟩⟩ := dget_of R h1 e hq hw ek
    · cases r1
      rw [g1] at p
      exact d_get2 hu I g2 ru rz fun w' s3 I3 rw' => ⟨wz, H, I3, rw', Post.here (t := z) p R hz⟩
    · cases r1
      rw [g1] at p
      exact d_get2 hu I g2 ru rz fun w' s3 I3 rw' => ⟨w2, H, I3, rw', Post.here (t := t') p R g3⟩

/-! ### x[i] = v -/
def setT (o i v : T) : M Unit := fun S => match o with
  | .ref n => (match S[n]? with
    | some (some (.lst xs)) => (match i with
      | .int k => (match ixN xs.length k with
        | some j => .ok () (S.set n (some (.lst (xs.set j v))))
        | none => .bad)
      | _ => .bad)
    | some (some (.dic qs)) => if keysOk qs = true ∧ qs.length < sizeLine then (match keyOf i with
      | some k => .ok () (S.set n (some (.dic (putD qs k v))))
      | none => .bad) else .bad
    | _ => .bad)
  | _ => .bad
def rSetA : TSet := fun o i v H Q => rSetL o i v H Q ∨ ∃ a H', o = .ref a ∧ DPut H a i v H' ∧ Q H'
theorem set_any (hu : X.A.units + 1 < cLine) : PSet X rSetA := by
  intro pins s σ H o i v ov iv u Q I ro ri rv h
  rcases h with h | ⟨a, H', rfl, g, q⟩
  · exact set_list pins s σ H o i v ov iv u Q I ro ri rv h
  · cases ro
    exact d_setItem hu I g ri rv fun s' I' => ⟨H', I', q⟩
theorem set_imp {K : PySem.W.Frag} {mg : Str → Option Value} {φ : List Addr} {S : Store} {Mk : List Addr} {H : Hp} {o i v : V} {t1 t2 t3 : T} (R : Rel K mg φ S Mk H) (h1 : Rep K mg (G φ S Mk H) φ o t1) (h2 : Rep K mg (G φ S Mk H) φ i t2) (h3 : Rep K mg (G φ S Mk H) φ v t3) {S' : Store} {Q : Hp → Prop} (e : setT t1 t2 t3 S = .ok () S')
    (q : ∀ H', Step K mg φ S Mk H φ S' H' → Q H') : rSetA o i v H Q := by
  unfold setT at e
  split at e <;> first | (cases e; done) | skip
  rename_i n
  cases h1 with
  | @ref _ a ha =>
    split at e <;> first | (cases e; done) | skip
    · rename_i xs hs
      obtain ⟨b, e1, l, vs, hH, r⟩ := R.cell n _ hs
      rw [ha] at e1
      cases e1
      split at e <;> first | (cases e; done) | skip
      rename_i k
      cases h2
      split at e <;> first | (cases e; done) | skip
      rename_i j ej
      cases e
      exact .inl ⟨a, vs, k, j, rfl, rfl, hH, by rw [r.length]; exact ej, q _ (lst_write R ha hs (RepAll.set h3 j r) (by rw [List.length_set]; exact l))⟩
    · rename_i qs hs
      split at e <;> first | (cases e; done) | skip
      rename_i hc
      split at e <;> first | (cases e; done) | skip
      rename_i k ek
      cases e
      have er : res S (.ref n) = .dic qs := by unfold res; dsimp only; rw [hs]
      obtain ⟨l, b, kvs, eb, hH, r⟩ := dic_k R (.ref ha) er hc.1
      cases eb
      have ey := rep_key h2 ek
      subst ey
      refine .inr ⟨a, _, rfl, DPut.k hH (by rw [r.len]; exact hc.2), q _ ?_⟩
      exact Step.write R hs ha fun g' k' => ⟨Nat.le_trans (len_putD _ _ _) (by omega), .inl ⟨_, upd_same, (r.put h3).mono k' ⟨[], by simp⟩⟩⟩
def tgSub (fo fi : Slots → M T) : Tg := fun t τ => bnd (noX (fo τ)) fun o => bnd (noX (fi τ)) fun i => bnd (noX (setT o i t)) fun _ => ret τ
variable {o i : Expr} {fo fi : Slots → M T}
theorem pg_subF (hu : X.A.units + 1 < cLine) (ho : PE X o (dT X W0 fo)) (hi : PE X i (dT X W0 fi)) (ha : ∀ v, assign (.Subscript o i pos) X.env v = (do
      let ov ← holding [v] (eval o X.env)
      let iv ← holding [v, ov] (eval i X.env)
      standAt pos
      holding [v, ov, iv] (setItem ov iv v)
      release [v, ov, iv] []) := by intro _; rfl) : PG X (.Subscript o i pos) (dG X [] (tgSub fo fi)) := by
  refine PG.weak (pg_sub ho hi (set_any hu) ha) fun v σ H Q ⟨φ, S, Mk, τ, t, R, sl, r, h⟩ => ?_
  unfold tgSub at h
  refine ⟨φ, S, Mk, τ, R, sl, post_noX (P := fun o => Post X.K X.mg (RRg X.K X.mg σ []) φ S Mk H o (fun _ _ _ => False) Q) (fun z => z) h fun o1 S1 p1 φ1 x1 H1 s1 r1 => ?_⟩
  have p1 := Post.step p1 s1
  refine ⟨φ1, S1, Mk, τ, s1.rel, s1.slots sl, post_noX (P := fun o => Post X.K X.mg (RRg X.K X.mg σ []) φ1 S1 Mk H1 o (fun _ _ _ => False) Q) (fun z => z) p1 fun i1 S2 p2 φ2 x2 H2 s2 r2 => ?_⟩
  have p2 := Post.step p2 s2
  have R2 := s2.rel
  have sl2 := s2.slots (s1.slots sl)
  unfold Fw.bnd noX at p2
  cases e : setT o1 i1 t S2 with
  | bad => rw [e] at p2; exact p2.elim
  | exc e1 S3 => rw [e] at p2; exact p2.elim
  | ok w S3 =>
    rw [e] at p2
    exact set_imp R2 (s2.rep r1) r2 (s2.rep (s1.rep r)) e fun H' st => p2 φ2 σ H' st ⟨st.slots sl2, rfl, fun _ _ => rfl⟩
end
end Fw
set_option Elab.async false
set_option linter.all false
set_option maxRecDepth 100000
/-! FwSort: sorted, and the order of data. -/
namespace Fw
open PySem PySem.Spec PyProof.Rows L2

def alikeAllB (ts : List T) : Bool := ts.all fun a => ts.all fun b => PySem.W.alike (data a) (data b)
def isTupC : T → Bool
  | .tup (_ :: _) => true
  | _ => false
def isFlat : T → Bool
  | .bl _ | .int _ | .str _ | .lst _ => true
  | _ => false
def sortOk (ts : List T) : Bool := pureAll ts && alikeAllB ts && (ts.all isTupC || ts.all isFlat) && ts.all fun a => decide ((data a).depth ≤ 64)
def leT' (a b : T) : Bool := PySem.W.dataLe false data a b
def sortT (ts : List T) : List T := ts.mergeSort leT'
def sortedT : List T → M T
  | [t] => fun S => match res S t with
    | .lst ts => if sortOk ts = true then .ok (.lst (sortT ts)) S else .bad
    | _ => .bad
  | _ => bad
theorem sortT_length (ts : List T) : (sortT ts).length = ts.length := List.length_mergeSort ..
section
variable {K : PySem.W.Frag} {mg : Str → Option Value} {g : Gr} {φ : List Addr} {S : Store} {Mk : List Addr} {H : Hp}
theorem each_of : ∀ {vs : List V} {ts : List T} {us : List Value}, RepAll K mg g φ vs ts → Vals vs us → PySem.W.EachIs (fun u t => ∃ x, RelV x u ∧ Rep K mg g φ x t) us ts
  | _, _, _, .nil, .nil => .nil
  | _, _, _, .cons h r, .cons q s => .cons ⟨_, q, h⟩ (each_of r s)
theorem of_each : ∀ {us : List Value} {ts : List T}, PySem.W.EachIs (fun u t => ∃ x, RelV x u ∧ Rep K mg g φ x t) us ts → ∃ vs, Vals vs us ∧ RepAll K mg g φ vs ts
  | _, _, .nil => ⟨[], .nil, .nil⟩
  | _, _, .cons ⟨x, q, h⟩ r => by
    obtain ⟨vs, h1, h2⟩ := of_each r
    exact ⟨x :: vs, .cons q h1, .cons h h2⟩
theorem mem_pure {t : T} : ∀ {ts : List T}, pureAll ts = true → t ∈ ts → pureT t = true
  | [], _, h => by cases h
  | a :: ts, p, h => by
    obtain ⟨p1, p2⟩ := pureAll_cons p
    rcases List.mem_cons.mp h with rfl | h
    · exact p1
    · exact mem_pure p2 h
end
section
variable {X : Cx}
theorem v_sorted (hu : X.A.units + 70 < cLine) : VCall X (.builtin "sorted") sortedT := by
  intro pins s σ H xs us φ S Mk ts Wx Q I r1 R h1 p
  unfold sortedT at p
  split at p <;> first | exact p.elim | skip
  rename_i t
  obtain ⟨x, rfl, h⟩ := rep1 h1
  split at p <;> first | exact p.elim | skip
  rename_i ys e
  obtain ⟨a, vs, rfl, hs, ra, l⟩ := rep_lst R h e
  split at p <;> first | exact p.elim | skip
  rename_i hc
  unfold sortOk at hc
  simp only [Bool.and_eq_true] at hc
  obtain ⟨⟨⟨hp, hal⟩, hk⟩, hd⟩ := hc
  obtain ⟨its, rv, pl, hz⟩ := I.list (show SqL X.K H a vs from .inl (.inl hs))
  obtain ⟨u, rfl, rx⟩ := vals1 r1
  cases rx
  have e1 := each_of ra rv
  have er : PySem.W.EachIs (fun v b => ∃ as, Reads s.heap v (data b) as) its ys := (PySem.W.each_mem e1).mono fun v b ⟨⟨x, q, hx⟩, hb⟩ => Dp.reads I _ x v (Rep.dp b x hx (mem_pure hp hb)) q
  refine PySem.W.sorted_data (enc := data) pl.isList e1 er (fun d hd d' hd' => ?_) ?_ l (fun b hb => ?_) fun out ho ee => ?_
  · obtain ⟨b, hb, rfl⟩ := List.mem_map.mp hd
    obtain ⟨b', hb', rfl⟩ := List.mem_map.mp hd'
    exact List.all_eq_true.mp (List.all_eq_true.mp hal b hb) b' hb'
  · rcases Bool.or_eq_true_iff.mp hk with hk | hk
    · refine .inl fun d hd => ?_
      obtain ⟨b, hb, rfl⟩ := List.mem_map.mp hd
      have q := List.all_eq_true.mp hk b hb
      cases b <;> first | (cases q; done) | skip
      case tup zs =>
        cases zs with
        | nil => cases q
        | cons z zs => exact ⟨_, _, rfl⟩
    · refine .inr fun d hd => ?_
      obtain ⟨b, hb, rfl⟩ := List.mem_map.mp hd
      have q := List.all_eq_true.mp hk b hb
      cases b <;> first | (cases q; done) | (refine ⟨by simp [data], fun xs => by simp [data]⟩)
  · have := of_decide_eq_true (List.all_eq_true.mp hd b hb)
    omega
  · obtain ⟨ws, h2, h3⟩ := of_each ee
    obtain ⟨ep, he'⟩ := PyProof.Rows.sortedAll_at s.heap its out.toArray
    have hl : ws.length ≤ sizeLine := by rw [h3.length, List.length_mergeSort]; exact l
    have hf : H (s.heap.objs.size + 1) = none := I.hok.fresh (Nat.le_succ _)
    refine ⟨.ref _, upd H (s.heap.objs.size + 1) (.lst ws), I.laid (t' := s.toks) (fun _ _ => PyProof.Rows.sortedAll_old) (Nat.le_succ _) ⟨hl, out, ep, h2, he'⟩, rfl, ?_⟩
    obtain ⟨st, gx⟩ := Step.new (o := .lst ws) R hf
    exact Post.ok (t := T.lst (sortT ys)) p st (.lst gx (st.all h3) (by rw [sortT_length]; exact l))
end
end Fw
set_option Elab.async false
set_option linter.all false
set_option maxRecDepth 100000
/-! FwGen: generator defs: if and for in their bodies. -/
namespace Fw
open PySem PySem.Spec PyProof.Rows L2 GenW

section
variable {prog : Program} {w : World} {A : Around} {R : GenEnd} {Y : Protocol} {n : Nat} {s₀ : Shared} {c : Code} {fs : List Frame} {s : Shared} {env : Env}
/-- an exception leaves a loop's code -/
abbrev outOf (env : Env) (x : Value) : Sem PySem.Fin := (do noteFrame x env; theTreesLotGoes x : Sem Unit).wrap (fun _ => .raise x) .raise id id
theorem seg_forLoop {tg : Expr} {it : Value} {body : List Stmt}
    (h : wpAny (model prog w) (A.over (.forLoop tg it body [] env) fs) (pyNext it) (fun r s1 => match r with
      | none => Seg (model prog w) A R Y n s₀ (.forLoop tg it body [] env) (.pure (.again (.block [] env))) fs s1
      | some v => wpAny (model prog w) (A.over (.forLoop tg it body [] env) fs) (letOwnedTupleGo tg it v) (fun _ s2 => wpAny (model prog w) (A.over (.forLoop tg it body [] env) fs) (assign tg env v) (fun _ s3 =>
          Seg (model prog w) A R Y n s₀ (.forLoop tg it body [] env) ((execs body env).wrap (fun f => match f with
            | .next | .cont => .pure (.again (.forLoop tg it body [] env))
            | .brk => .pure (.done .next)
            | .ret v => .pure (.done (.ret v))) (outOf env) id id) fs s3)
          (fun x s' => Seg (model prog w) A R Y n s₀ (.forLoop tg it body [] env) (outOf env x) fs s') s2)
          (fun x s' => Seg (model prog w) A R Y n s₀ (.forLoop tg it body [] env) (outOf env x) fs s') s1)
      (fun x s' => Seg (model prog w) A R Y n s₀ (.forLoop tg it body [] env) (outOf env x) fs s') s) :
    Seg (model prog w) A R Y n s₀ (.forLoop tg it body [] env) ((model prog w).den (.forLoop tg it body [] env)) fs s := by
  show Seg _ A R Y n s₀ _ ((forTurn tg it body [] env).onRaise (fun x => do noteFrame x env; theTreesLotGoes x)) fs s
  unfold forTurn
  rw [Sem.onRaise_eq_wrap]
  have eH : (fun e => (do noteFrame e env; theTreesLotGoes e : Sem Unit).bind fun _ => (.raise e : Sem PySem.Fin)) = outOf env := by
    funext e
    exact Sem.bind_eq_wrap _ _
  rw [eH]
  refine seg_bind_wrap (wpAny_standAt ?_)
  refine seg_bind_wrap (wpAny_onRaise (wpAny_mono h (fun r s1 h1 => ?_) fun x s' hx => wpAny_standAt hx))
  cases r with
  | none => exact h1
  | some v =>
    refine seg_bind_wrap (wpAny_mono h1 (fun _ s2 h2 => ?_) fun x s' hx => hx)
    refine seg_bind_wrap (wpAny_mono h2 (fun _ s3 h3 => ?_) fun x s' hx => hx)
    rw [Sem.bind_eq_wrap', Sem.wrap_wrap]
    refine Eq.mp (congrArg (fun t => Seg (model prog w) A R Y n s₀ (.forLoop tg it body [] env) t fs s3) ?_) h3
    exact Sem.wrap_congr _ _ _ (fun f => by cases f <;> rfl) (fun e => rfl)
theorem seg_block0 (h : Seg (model prog w) A R Y n s₀ (.block [] env) (.pure (.done .next)) fs s) : Seg (model prog w) A R Y n s₀ c (.pure (.again (.block [] env))) fs s := by
  refine seg_again rfl ?_
  show Seg _ A R Y n s₀ _ (((execs [] env).onRaise (fun x => do noteFrame x env; theTreesLotGoes x)) >>= fun f => pure (Fin.done f)) fs s
  rw [Sem.onRaise_eq_wrap, Sem.bind_eq_wrap', Sem.wrap_wrap]
  exact seg_execs_nil h
end

section
variable {X : Cx} {pos : Pos}
/-! ### if -/
def tGIf (tc : TT) (ta tb : TGn) : TGn := fun D ys σ H => tc σ H fun b H1 => if b = true then ta D ys σ H1 else tb D ys σ H1
theorem gs_if {c : Expr} {a b : List Stmt} {tc : TT} {ta tb : TGn} (hc : PT X c tc) (ha : GSs X a ta) (hb : GSs X b tb) : GS X (.If c a b pos) (tGIf tc ta tb) := by
  refine ⟨fun A S ip R n ys s₀ cd fs K J gd lv s σ H D g hn k hI ht => ?_⟩
  obtain ⟨acc, cc, r, I⟩ := hI
  rw [exec_If]
  refine seg_bind_wrap (wpAny_standAt ?_)
  refine seg_bind_wrap ?_
  rw [g.over]
  refine wpAny_mono (hc.run _ s σ H _ I ht) (fun d s1 ⟨H1, I1, q1⟩ => ?_) fun x s' hx => k.exc n s₀ x s' hx
  cases d with
  | true =>
    rw [if_pos rfl] at q1 ⊢
    exact ha.run A S ip R n ys s₀ cd fs K J gd lv s1 σ H1 D g hn k ⟨acc, cc, r, I1⟩ q1
  | false =>
    rw [if_neg Bool.false_ne_true] at q1 ⊢
    exact hb.run A S ip R n ys s₀ cd fs K J gd lv s1 σ H1 D g hn k ⟨acc, cc, r, I1⟩ q1
/-! ### for -/
def tGFor (wi : TI) (g : TG) (tb : TGn) : TGn := fun D ys σ H => wi σ H fun J H1 => ∃ W : Nat → Nat → List V → L2.St → Hp → Prop, (∃ m, W 0 m ys σ H1) ∧ ∀ i m ys σ H, W i m ys σ H →
  (J.stop i H ∧ D.nx ys σ H) ∨ (J.go i H ∧ ∃ N : List V → L2.St → Hp → Prop, (∀ ys' σ' H', N ys' σ' H' → ∃ m', m' < m ∧ W (i + 1) m' ys' σ' H') ∧
    ∀ x H', J.yld i H x H' → g x σ H' fun σ2 H2 => tb { D with nx := N, ct := N, bk := D.nx } ys σ2 H2)
theorem gs_for {tg iter : Expr} {body : List Stmt} {wi : TI} {g : TG} {tb : TGn} (hp : PassesOwn (model X.prog X.w) X.A X.env X.xe) (hc : X.calm = true) (hi : PI X tg iter wi) (hg : PG X tg g) (hb : GSs X body tb)
    (hs : ∀ x, foldedSetIterable iter X.env x = pure x := by intro _; rfl) : GS X (.For tg iter body [] pos) (tGFor wi g tb) := by
  refine ⟨fun A S ip R n ys s₀ c fs K J gd lv s σ H D gc hn k hI ht => ?_⟩
  obtain ⟨acc, cc, r, I⟩ := hI
  rw [exec_For]
  refine seg_bind_wrap (wpAny_standAt ?_)
  refine seg_bind_wrap ?_
  rw [gc.over]
  refine wpAny_mono (hi.run _ s σ H _ I ht) (fun v s1 h1 => ?_) fun x s' hx => k.exc n s₀ x s' hx
  refine seg_bind_wrap (wpAny_of_eq (hs v) ?_)
  refine seg_bind_wrap (wpAny_standAt ?_)
  refine seg_bind_wrap (wpAny_holding ?_)
  rw [gc.over]
  refine wpAny_mono h1 (fun itv s2 h2 => ?_) fun x s' hx => k.exc n s₀ x s' hx
  obtain ⟨it, fp, tn, Jt, H2, e, I2, T, st2, f2, W, ⟨m0, w0⟩, turn⟩ := h2
  subst e
  refine seg_call fun p => ?_
  have gl := fun (kk : Result → Sem PySem.Fin) => gc_loop (k := kk) (c' := .forLoop tg (.ref it) body [] X.env) (l := lv []) (kp := []) (p := p) gc rfl rfl
  have stat : ∀ {H' : Hp} {acc' : Array Value} {cc' : Nat}, (∀ b ∈ fp, H' b = none) → ∀ b ∈ fp, FpOk X ((S, lstObj acc' cc') :: ip) H' b := fun {H' acc' cc'} hn b hb => by
    obtain ⟨f0, f1, f3, f4, f5, f6⟩ := f2 b hb
    refine ⟨hn b hb, f1, f3, f4, f5, fun q hq => ?_⟩
    rcases List.mem_append.mp hq with hq | hq
    · exact f6 q (List.mem_append_left _ hq)
    · rcases List.mem_cons.mp hq with hq | hq
      · rw [hq]; exact f6 (S, lstObj acc cc) (List.mem_append_right _ List.mem_cons_self)
      · exact f6 q (List.mem_append_right _ (List.mem_cons_of_mem _ hq))
  have fpS : ∀ b ∈ fp, b ≠ S := fun b hb z => (f2 b hb).2.2.2.2.2 _ (List.mem_append_right _ List.mem_cons_self) z.symm
  have loop : ∀ (m n i : Nat) (ys : List V) (s₀ s : Shared) (σ : L2.St) (H : Hp), n + ys.length = sizeLine → W i m ys σ H → GI X S ip ys σ H s → tn i s.heap → (∀ b ∈ fp, H b = none) →
      Seg (model X.prog X.w) A R (GY X S) n s₀ (.forLoop tg (.ref it) body [] X.env) ((model X.prog X.w).den (.forLoop tg (.ref it) body [] X.env))
        (.ret (fun r => ((match r with | .ok f => (.pure f : Sem Flow) | .error e => .raise e).onRaise (cameBack X.env)).wrap K J gd lv) none (gd false) (lv []) c p [] :: fs) s := by
    intro m
    induction m using Nat.strongRecOn with
    | ind m ih =>
      intro n i ys s₀ s σ H hn w3 hI3 st3 fr3
      have ee : ∀ (n : Nat) (s₀ : Shared) (x : Value) (s' : Shared), X.xe x s' → Seg (model X.prog X.w) A R (GY X S) n s₀ (.forLoop tg (.ref it) body [] X.env) (outOf X.env x)
          (.ret (fun r => ((match r with | .ok f => (.pure f : Sem Flow) | .error e => .raise e).onRaise (cameBack X.env)).wrap K J gd lv) none (gd false) (lv []) c p [] :: fs) s' := fun n s₀ x s' hx => by
        refine seg_wrap ?_
        rw [(gl _).over]
        refine wpAny_bind (wpAny_mono (hp x s' hx) (fun _ s'' hcb => wpAny_theTreesLotGoes ?_) fun y s'' hcb => ?_)
        · exact seg_leaf (.error x) (seg_cameBack gc k hcb)
        · exact seg_leaf (.error y) (seg_cameBack gc k hcb)
      refine seg_forLoop ?_
      rw [(gl _).over]
      obtain ⟨acc, cc, r, I3⟩ := hI3
      rcases turn i m ys σ H w3 with ⟨stop, qn⟩ | ⟨go, N, hN, step⟩
      · refine wpAny_mono (T.done X rfl rfl rfl hc i _ s σ H X.xe I3 (stat fr3) st3 stop) (fun r s4 ⟨hr, I4⟩ => ?_) fun x s' hx => ee n s₀ x s' hx
        subst hr
        refine seg_block0 ?_
        exact seg_leaf (.ok .next) (k.ok n ys s₀ s4 .next hn ⟨σ, H, ⟨acc, cc, ‹_›, I4⟩, qn⟩)
      · refine wpAny_mono (T.item X rfl rfl rfl hc i _ s σ H X.xe I3 (stat fr3) st3 go) (fun r' s4 ⟨u, hr, h4⟩ => ?_) fun x s' hx => ee n s₀ x s' hx
        subst hr
        refine wpAny_mono h4 (fun _ s5 ⟨x, H5, I5, r5, y5, st5, fr5⟩ => ?_) fun x s' hx => ee n s₀ x s' hx
        have I5' := I5.pinned (stat fr5) (T.obj _ _ st5)
        refine wpAny_mono (hg.run _ s5 σ H5 x u _ I5' r5 (step x H5 y5)) (fun _ s6 ⟨σ6, H6, I6, q6⟩ => ?_) fun x s' hx => ee n s₀ x s' hx
        have gl' : ∀ kk : Result → Sem PySem.Fin, GC X S (ip ++ pinsAt fp s5.heap) A (.forLoop tg (.ref it) body [] X.env) (.ret kk none (gd false) (lv []) c p [] :: fs) id := fun kk =>
          let G := gl kk
          ⟨G.pn, fun q hq => (List.mem_append.mp hq).elim (fun z => gc.ip q z) fun z => fpS _ (of_pinsAt z).1, G.apart, G.over, G.split, G.guard, G.gd⟩
        have back : ∀ {ys' : List V} {σ' : L2.St} {H' : Hp} {s' : Shared}, GI X S (ip ++ pinsAt fp s5.heap) ys' σ' H' s' → GI X S ip ys' σ' H' s' ∧ tn (i + 1) s'.heap ∧ ∀ b ∈ fp, H' b = none := fun {ys' σ' H' s'} hG => by
          obtain ⟨acc', cc', r', I7⟩ := hG
          have pin : ∀ b ∈ fp, ∀ o, s5.heap.get? b = some o → s'.heap.get? b = some o ∧ H' b = none := fun b hb o e =>
            let z := I7.pin (b, o) (List.mem_append_right _ (List.mem_cons_of_mem _ (List.mem_append_right _ (mem_pinsAt hb e))))
            ⟨z.1, z.2.1⟩
          refine ⟨⟨acc', cc', r', Inv.unpinned (pins := (S, lstObj acc' cc') :: ip) (pl := pinsAt fp s5.heap) I7⟩, T.keep _ _ _ st5 fun b hb o e => (pin b hb o e).1, fun b hb => ?_⟩
          obtain ⟨o, e, _⟩ := T.obj _ _ st5 b hb
          exact (pin b hb o e).2
        refine hb.run A S (ip ++ pinsAt fp s5.heap) R n ys s₀ _ _ _ _ id id s6 σ6 H6 { D with nx := N, ct := N, bk := D.nx } (gl' _) hn ⟨fun n' ys' s₀' s7 f hn' hs7 => ?_, fun n' s₀' x s7 hx => ee n' s₀' x s7 hx⟩ ⟨acc, cc, ‹_›, I6⟩ q6
        cases f with
        | next =>
          obtain ⟨σ7, H7, I7, n7⟩ := hs7
          obtain ⟨m', hm, w7⟩ := hN ys' σ7 H7 n7
          obtain ⟨I8, st8, fr8⟩ := back I7
          exact seg_again rfl (ih m' hm n' (i + 1) ys' s₀' s7 σ7 H7 hn' w7 I8 st8 fr8)
        | cont =>
          obtain ⟨σ7, H7, I7, n7⟩ := hs7
          obtain ⟨m', hm, w7⟩ := hN ys' σ7 H7 n7
          obtain ⟨I8, st8, fr8⟩ := back I7
          exact seg_again rfl (ih m' hm n' (i + 1) ys' s₀' s7 σ7 H7 hn' w7 I8 st8 fr8)
        | brk =>
          obtain ⟨σ7, H7, I7, n7⟩ := hs7
          exact seg_leaf (.ok .next) (k.ok n' ys' s₀' s7 .next hn' ⟨σ7, H7, (back I7).1, n7⟩)
        | ret v =>
          obtain ⟨x7, σ7, H7, I7, r7, q7⟩ := hs7
          exact seg_leaf (.ok (.ret v)) (k.ok n' ys' s₀' s7 (.ret v) hn' ⟨x7, σ7, H7, (back I7).1, r7, q7⟩)
  exact loop m0 n 0 ys s₀ s2 σ H2 hn w0 ⟨acc, cc, r, I2⟩ st2 fun b hb => (f2 b hb).1
end
end Fw
set_option Elab.async false
set_option linter.all false
set_option maxRecDepth 100000
/-! FwGen2: generator defs' denotations; list(g(..)). -/
namespace Fw
open PySem PySem.Spec PyProof.Rows L2 GenW

inductive OutG where
  | nx (ys : List T) (τ : Slots) (S : Store) | rt (ys : List T) (t : T) (S : Store) | bk (ys : List T) (τ : Slots) (S : Store) | ct (ys : List T) (τ : Slots) (S : Store) | exc (e : Exc) (τ : Slots) (S : Store) | bad
abbrev MGn := List T → Slots → Store → OutG
def PostG (K : PySem.W.Frag) (mg : Str → Option Value) (φ : List Addr) (S : Store) (Mk : List Addr) (H : Hp) (o : OutG) (W : WX) (D : GEnds) : Prop :=
  match o with
  | .nx ys τ S' => ∀ φ' vs σ' H', Step K mg φ S Mk H φ' S' H' → SlotR K mg (G φ' S' Mk H') φ' σ' τ → RepAll K mg (G φ' S' Mk H') φ' vs ys → D.nx vs σ' H'
  | .rt ys t S' => ∀ φ' vs v H', Step K mg φ S Mk H φ' S' H' → Rep K mg (G φ' S' Mk H') φ' v t → RepAll K mg (G φ' S' Mk H') φ' vs ys → D.rt vs v H'
  | .bk ys τ S' => ∀ φ' vs σ' H', Step K mg φ S Mk H φ' S' H' → SlotR K mg (G φ' S' Mk H') φ' σ' τ → RepAll K mg (G φ' S' Mk H') φ' vs ys → D.bk vs σ' H'
  | .ct ys τ S' => ∀ φ' vs σ' H', Step K mg φ S Mk H φ' S' H' → SlotR K mg (G φ' S' Mk H') φ' σ' τ → RepAll K mg (G φ' S' Mk H') φ' vs ys → D.ct vs σ' H'
  | .exc e τ S' => ∀ φ' c d σ' H', Step K mg φ S Mk H φ' S' H' → SlotR K mg (G φ' S' Mk H') φ' σ' τ → RepX K mg (G φ' S' Mk H') φ' c d e → W c d σ' H'
  | .bad => False
def dGn (X : Cx) (W : WX) (f : MGn) : TGn := fun D vs σ H =>
  ∃ φ S Mk τ ys, Rel X.K X.mg φ S Mk H ∧ SlotR X.K X.mg (G φ S Mk H) φ σ τ ∧ RepAll X.K X.mg (G φ S Mk H) φ vs ys ∧ PostG X.K X.mg φ S Mk H (f ys τ S) W D
def bndG {α : Type} (m : M α) (τ : Slots) (k : α → Store → OutG) (S : Store) : OutG := match m S with
  | .ok a S' => k a S'
  | .exc e S' => .exc e τ S'
  | .bad => .bad
theorem bndG_ok {α : Type} {m : M α} {τ : Slots} {k : α → Store → OutG} {S S' : Store} {a : α} (h : m S = .ok a S') : bndG m τ k S = k a S' := by unfold bndG; rw [h]
section
variable {K : PySem.W.Frag} {mg : Str → Option Value} {α β : Type} {RR : Gr → List Addr → β → α → Prop} {φ φ' : List Addr} {S S' : Store} {Mk : List Addr} {H H' : Hp} {σ : L2.St} {τ : Slots} {o : OutG} {W : WX} {D D' : GEnds} {Q : β → Hp → Prop}
theorem PostG.step (h : PostG K mg φ S Mk H o W D) (s : Step K mg φ S Mk H φ' S' H') : PostG K mg φ' S' Mk H' o W D := by
  cases o with
  | nx ys τ S2 => exact fun φ2 vs v H2 u r q => h φ2 vs v H2 (s.trans u) r q
  | rt ys τ S2 => exact fun φ2 vs v H2 u r q => h φ2 vs v H2 (s.trans u) r q
  | bk ys τ S2 => exact fun φ2 vs v H2 u r q => h φ2 vs v H2 (s.trans u) r q
  | ct ys τ S2 => exact fun φ2 vs v H2 u r q => h φ2 vs v H2 (s.trans u) r q
  | exc e τ S2 => exact fun φ2 c d v H2 u r q => h φ2 c d v H2 (s.trans u) r q
  | bad => exact h
theorem PostG.part {m : M α} {k : α → Store → OutG} (R : Rel K mg φ S Mk H) (sl : SlotR K mg (G φ S Mk H) φ σ τ) (h : PostG K mg φ S Mk H (bndG m τ k S) W D)
    (go : ∀ φ1 S1 H1 x t, Step K mg φ S Mk H φ1 S1 H1 → RR (G φ1 S1 Mk H1) φ1 x t → PostG K mg φ1 S1 Mk H1 (k t S1) W D → Q x H1) : Post K mg RR φ S Mk H (m S) (fun c d H' => W c d σ H') Q := by
  unfold bndG at h
  cases e : m S with
  | ok t S1 =>
    rw [e] at h
    exact fun φ' v H' s r => go φ' S1 H' v t s r (h.step s)
  | exc e1 S1 =>
    rw [e] at h
    exact fun φ' c d H' s r => h φ' c d σ H' s (s.slots sl) r
  | bad =>
    rw [e] at h
    exact h
end
/-! ### statements -/
def gPlain (m : MS) : MGn := fun ys τ S => match m τ S with
  | .nx τ' S' => .nx ys τ' S'
  | .rt t S' => .rt ys t S'
  | .bk τ' S' => .bk ys τ' S'
  | .ct τ' S' => .ct ys τ' S'
  | .exc e τ' S' => .exc e τ' S'
  | .bad => .bad
def gNext : MGn := fun ys τ S => .nx ys τ S
def gSeq (a b : MGn) : MGn := fun ys τ S => match a ys τ S with
  | .nx ys' τ' S' => b ys' τ' S'
  | o => o
def gIf (c : Slots → M Bool) (a b : MGn) : MGn := fun ys τ => bndG (c τ) τ fun k S => if k = true then a ys τ S else b ys τ S
def gYield (e : Slots → M T) : MGn := fun ys τ S => if ys.length < sizeLine then bndG (e τ) τ (fun t S => .nx (ys ++ [t]) τ S) S else .bad
open Classical in
noncomputable def loopG (chk : Store → Prop) (g : Tg) (body : MGn) : List T → MGn
  | [], ys, τ, S => if chk S then .nx ys τ S else .bad
  | t :: ts, ys, τ, S => if chk S then (match g t τ S with
      | .ok τ1 S1 => (match body ys τ1 S1 with
        | .nx ys2 τ2 S2 => loopG chk g body ts ys2 τ2 S2
        | .ct ys2 τ2 S2 => loopG chk g body ts ys2 τ2 S2
        | .bk ys2 τ2 S2 => .nx ys2 τ2 S2
        | .rt ys2 u S2 => .rt ys2 u S2
        | .exc e τ2 S2 => .exc e τ2 S2
        | .bad => .bad)
      | _ => .bad) else .bad
noncomputable def gFor (it : Slots → M Src) (g : Tg) (body : MGn) : MGn := fun ys τ => bndG (it τ) τ fun src S => loopG src.chk g body src.items ys τ S
section
variable {X : Cx} {W : WX} {st : Stmt} {rest : List Stmt} {a b : MGn} {e : Expr} {fe : Slots → M T} {pos yp : Pos}
theorem plain_imp {m : MS} (D : GEnds) (vs : List V) (σ : L2.St) (H : Hp) (h : dGn X W (gPlain m) D vs σ H) : dS X W m (D.at vs) σ H := by
  obtain ⟨φ, S, Mk, τ, ys, R, sl, ra, h⟩ := h
  refine ⟨φ, S, Mk, τ, R, sl, ?_⟩
  unfold gPlain at h
  revert h
  cases m τ S with
  | nx τ' S' => exact fun h φ' σ' H' s sl' => h φ' vs σ' H' s sl' (s.all ra)
  | rt t S' => exact fun h φ' v H' s r => h φ' vs v H' s r (s.all ra)
  | bk τ' S' => exact fun h φ' σ' H' s sl' => h φ' vs σ' H' s sl' (s.all ra)
  | ct τ' S' => exact fun h φ' σ' H' s sl' => h φ' vs σ' H' s sl' (s.all ra)
  | exc e τ' S' => exact fun h => h
  | bad => exact fun h => h
theorem gs_weak {t t' : TGn} (h : GS X st t) (w : ∀ D ys σ H, t' D ys σ H → t D ys σ H) : GS X st t' := ⟨fun A S ip R n ys s₀ c fs K J gd lv s σ H D g hn k hI ht => h.run A S ip R n ys s₀ c fs K J gd lv s σ H D g hn k hI (w D ys σ H ht)⟩
theorem gss_weak {t t' : TGn} (h : GSs X rest t) (w : ∀ D ys σ H, t' D ys σ H → t D ys σ H) : GSs X rest t' := ⟨fun A S ip R n ys s₀ c fs K J gd lv s σ H D g hn k hI ht => h.run A S ip R n ys s₀ c fs K J gd lv s σ H D g hn k hI (w D ys σ H ht)⟩
theorem gs_psF {m : MS} (h : PS X st (dS X W m)) : GS X st (dGn X W (gPlain m)) := gs_weak (gs_ps h) plain_imp
theorem gss_pssF {m : MS} (h : PSs X rest (dS X W m)) : GSs X rest (dGn X W (gPlain m)) := gss_weak (gss_pss h) plain_imp
theorem gss_nilF : GSs X [] (dGn X W gNext) := gss_weak gss_nil fun D vs σ H ⟨φ, S, Mk, τ, ys, R, sl, ra, h⟩ => h φ vs σ H (Step.refl R) sl ra
theorem gss_consF (h1 : GS X st (dGn X W a)) (h2 : GSs X rest (dGn X W b)) : GSs X (st :: rest) (dGn X W (gSeq a b)) := by
  refine gss_weak (gss_cons h1 h2) fun D vs σ H ⟨φ, S, Mk, τ, ys, R, sl, ra, h⟩ => ⟨φ, S, Mk, τ, ys, R, sl, ra, ?_⟩
  unfold gSeq at h
  cases e : a ys τ S with
  | nx ys' τ' S' =>
    rw [e] at h
    exact fun φ' vs' σ' H' s sl' ra' => ⟨φ', S', Mk, τ', ys', s.rel, sl', ra', PostG.step h s⟩
  | rt ys' t S' => rw [e] at h; exact h
  | bk ys' t S' => rw [e] at h; exact h
  | ct ys' t S' => rw [e] at h; exact h
  | exc e t S' => rw [e] at h; exact h
  | bad => rw [e] at h; exact h
theorem gs_ifF {c : Expr} {A B : List Stmt} {fc : Slots → M Bool} (hc : PT X c (dB X W fc)) (ha : GSs X A (dGn X W a)) (hb : GSs X B (dGn X W b)) : GS X (.If c A B pos) (dGn X W (gIf fc a b)) := by
  refine gs_weak (gs_if hc ha hb) fun D vs σ H ⟨φ, S, Mk, τ, ys, R, sl, ra, h⟩ => ⟨φ, S, Mk, τ, R, sl, PostG.part R sl h fun φ1 S1 H1 x t s r p => ?_⟩
  have e : x = t := r
  subst e
  cases x with
  | true => exact ⟨φ1, S1, Mk, τ, ys, s.rel, s.slots sl, s.all ra, p⟩
  | false => exact ⟨φ1, S1, Mk, τ, ys, s.rel, s.slots sl, s.all ra, p⟩
theorem gs_yieldF (he : PE X e (dT X W fe)) (hco : X.env.scope.isCoroutine = false := by rfl) (hi : interactive X.env = false := by rfl) : GS X (.Expr (.Yield (some e) yp) pos) (dGn X W (gYield fe)) := by
  refine gs_weak (gs_yield he hco hi) fun D vs σ H ⟨φ, S, Mk, τ, ys, R, sl, ra, h⟩ => ?_
  unfold gYield at h
  split at h
  · rename_i hl
    refine ⟨by rw [ra.length]; exact hl, φ, S, Mk, τ, R, sl, PostG.part R sl h fun φ1 S1 H1 x t s r p => ?_⟩
    exact p φ1 _ σ H1 (Step.refl s.rel) (s.slots sl) ((s.all ra).append (.cons r .nil))
  · exact h.elim
theorem gs_forF {tg iter : Expr} {body : List Stmt} {fi : Slots → M Src} {ix : List Nat} {g : Tg} {fb : MGn} (hp : PassesOwn (model X.prog X.w) X.A X.env X.xe) (hc : X.calm = true) (hi : PI X tg iter (dI X W fi)) (hg : PG X tg (dG X ix g)) (hb : GSs X body (dGn X W fb))
    (hs : ∀ x, foldedSetIterable iter X.env x = pure x := by intro _; rfl) : GS X (.For tg iter body [] pos) (dGn X W (gFor fi g fb)) := by
  refine gs_weak (gs_for hp hc hi hg hb hs) fun D vs σ H ⟨φ, S, Mk, τ, ys, R, sl, ra, h⟩ => ?_
  refine ⟨φ, S, Mk, τ, R, sl, PostG.part R sl h fun φ1 S1 H1 J src s1 wk p => ?_⟩
  obtain ⟨_, wk⟩ := wk
  refine ⟨fun i m vs' σ' H' => i + m = src.items.length ∧ ∃ φ' S' τ' ys', Step X.K X.mg φ1 S1 Mk H1 φ' S' H' ∧ SlotR X.K X.mg (G φ' S' Mk H') φ' σ' τ' ∧ RepAll X.K X.mg (G φ' S' Mk H') φ' vs' ys' ∧ PostG X.K X.mg φ' S' Mk H' (loopG src.chk g fb (src.items.drop i) ys' τ' S') W D,
    ⟨src.items.length, by omega, φ1, S1, τ, ys, Step.refl s1.rel, s1.slots sl, s1.all ra, p⟩, ?_⟩
  rintro i m vs' σ' H' ⟨hm, φ', S', τ', ys', st, sl', ra', p'⟩
  by_cases hi : i < src.items.length
  · rw [List.drop_eq_getElem_cons hi] at p'
    unfold loopG at p'
    by_cases hk : src.chk S'
    · rw [if_pos hk] at p'
      obtain ⟨w1, _⟩ := wk φ' S' Mk H' st.rel st.pre st.keep hk
      obtain ⟨go, yl⟩ := w1 i _ (List.getElem?_eq_getElem hi)
      refine .inr ⟨go, fun vs2 σ2 H2 => ∃ φ2 S2 τ2 ys2, Step X.K X.mg φ1 S1 Mk H1 φ2 S2 H2 ∧ SlotR X.K X.mg (G φ2 S2 Mk H2) φ2 σ2 τ2 ∧ RepAll X.K X.mg (G φ2 S2 Mk H2) φ2 vs2 ys2 ∧ PostG X.K X.mg φ2 S2 Mk H2 (loopG src.chk g fb (src.items.drop (i + 1)) ys2 τ2 S2) W D,
        fun vs2 σ2 H2 q => ⟨m - 1, by omega, by omega, q⟩, fun x H2 y => ?_⟩
      obtain ⟨s2, rx⟩ := yl x H2 y
      refine ⟨φ', S', Mk, τ', _, s2.rel, s2.slots sl', rx, ?_⟩
      cases eg : g src.items[i] τ' S' with
      | bad => rw [eg] at p'; exact p'.elim
      | exc e1 S3 => rw [eg] at p'; exact p'.elim
      | ok τ3 S3 =>
        rw [eg] at p'
        intro φ3 σ3 H3 s3 ⟨sl3, _⟩
        refine ⟨φ3, S3, Mk, τ3, ys', s3.rel, sl3, s3.all (s2.all ra'), ?_⟩
        have p3 := p'.step (s2.trans s3)
        dsimp only at p3
        have st3 := st.trans (s2.trans s3)
        revert p3
        cases eb : fb ys' τ3 S3 with
        | nx ys4 τ4 S4 => exact fun p3 φ4 vs4 σ4 H4 s4 sl4 ra4 => ⟨φ4, S4, τ4, ys4, st3.trans s4, sl4, ra4, PostG.step p3 s4⟩
        | ct ys4 τ4 S4 => exact fun p3 φ4 vs4 σ4 H4 s4 sl4 ra4 => ⟨φ4, S4, τ4, ys4, st3.trans s4, sl4, ra4, PostG.step p3 s4⟩
        | bk ys4 τ4 S4 => exact fun p3 => p3
        | rt ys4 u S4 => exact fun p3 => p3
        | exc e τ4 S4 => exact fun p3 => p3
        | bad => exact fun p3 => p3
    · rw [if_neg hk] at p'
      exact p'.elim
  · rw [List.drop_of_length_le (by omega)] at p'
    unfold loopG at p'
    by_cases hk : src.chk S'
    · rw [if_pos hk] at p'
      obtain ⟨_, w2⟩ := wk φ' S' Mk H' st.rel st.pre st.keep hk
      have ei : i = src.items.length := by omega
      exact .inl ⟨ei ▸ w2, p' φ' vs' σ' H' (Step.refl st.rel) sl' ra'⟩
    · rw [if_neg hk] at p'
      exact p'.elim
end

/-! ### defs -/
def genBody (n : Nat) (body : MGn) (ts : List T) : M (List T) := fun S => match body [] (ts.map some ++ List.replicate (n - ts.length) none) S with
  | .nx ys _ S' => .ok ys S'
  | .rt ys .non S' => .ok ys S'
  | .exc e _ S' => .exc e S'
  | _ => .bad
def spG (K : PySem.W.Frag) (mg : Str → Option Value) (n : Nat) (den : List T → M (List T)) : SpG := fun vs H Q E => vs.length = n ∧ ∃ φ S Mk ts, Rel K mg φ S Mk H ∧ RepAll K mg (G φ S Mk H) φ vs ts ∧ Post K mg (RepAll K mg) φ S Mk H (den ts S) E Q
section
variable {P : Program} {w : World} {K : PySem.W.Frag} {mg : Str → Option Value} {base : Heap}
theorem Fun.okGen {x qual : Str} {st : Stmt} {f : Addr} {fd : FuncData} {N ps : List Str} {k : Nat} {body : MGn} (F : Fun K x qual st f fd) (Sc : GScope N ps (defScope st))
    (hb : ∀ (cdv : Value) (A : Around) (outer : List Env) (s : Shared) (H : Hp) (E : XK) (pn : List (Addr × Obj)), Room k (A.deeper (envOfC qual (defScope st) s.heap.objs.size f cdv)) →
      GSs (gcxOf P w K mg base N qual (defScope st) f cdv A outer s H E pn) (defBody st) (dGn (gcxOf P w K mg base N qual (defScope st) f cdv A outer s H E pn) (fun cls d _ H => E cls d H) body)) :
    GFn P w K mg base (k + 1) f fd ps (spG K mg ps.length (genBody N.length body)) := by
  obtain ⟨oc, od, kV, doc, pm, an, cdv, ct, osl, rfl, lk, hcd⟩ := F.ex
  refine gfn_of lk hcd Sc (fun vs H Q E h => h.1) fun A outer s H vs Q E pn hr hsp => ⟨_, hb cdv A outer s H E pn hr, ?_⟩
  obtain ⟨_, φ, S, Mk, ts, R, r, p⟩ := hsp
  refine ⟨φ, S, Mk, _, [], R, slot_start r, .nil, ?_⟩
  unfold genBody at p
  revert p
  cases body [] (ts.map some ++ List.replicate (N.length - ts.length) none) S with
  | nx ys τ S' => exact fun p φ' vs' σ' H' s sl ra => p φ' vs' H' s ra
  | rt ys t S' =>
    cases t <;> first | exact fun p => p.elim | skip
    exact fun p φ' vs' v H' s r ra => by
      cases r
      exact ⟨rfl, p φ' vs' H' s ra⟩
  | bk ys τ S' => exact fun p => p.elim
  | ct ys τ S' => exact fun p => p.elim
  | exc e τ S' => exact fun p φ' c d σ' H' s sl r => p φ' c d H' s r
  | bad => exact fun p => p.elim
end
/-! ### list(g(..)) -/
def listGT (den : List T → M (List T)) (ts : List T) : M T := bnd (noX (den ts)) fun ys => if ys.length ≤ sizeLine then ret (.lst ys) else bad
def E0 : XK := fun _ _ _ => False
section
variable {X : Cx} {W : WX} {k n : Nat} {f : Addr} {fd : FuncData} {ps : List Str} {x nm : Str} {p p' pos pos' : Pos} {e : Expr} {es : List Expr} {den : List T → M (List T)} {fr : Slots → M (List T)}
theorem passes0 : Passes (CX X.prog X.w) X E0 := fun pins σ H s u s' I ⟨a, B, H', cls, d, z1, fl, z2, ub, z3, z4, z5, z6⟩ => z6.elim
theorem pe_listGF (F : GFn X.prog X.w X.K X.mg X.base k f fd ps (spG X.K X.mg n den)) (hl : ∀ ts S, ts.length ≠ n → den ts S = .bad) (hr : Room (k + 3) X.A) (hg : Gl X x) (hm : X.mg x = some (.ref f)) (hk : PySem.W.keepIn X.K (.ref f) = true) (hb : Binds X.K fd ps [])
    (hg2 : Gl X nm) (hm2 : X.mg nm = none) (hv : bootBuiltins nm = some (.type "list")) (ha : PA X (e :: es) (dA X W fr)) (hnm : nm ≠ "__name__" := by decide) (hdb2 : (nm == ("__debug__" : Str)) = false := by decide) (hdb : (x == ("__debug__" : Str)) = false := by decide)
    (he : starEach (e :: es) X.env = (false, eval e X.env) :: starEach es X.env := by rfl) (hpl : (backTo pos' (starEach es X.env)).any (·.1) = false := by rfl)
    (he2 : starEach [.Call (.Name x p') (e :: es) [] pos'] X.env = (false, eval (.Call (.Name x p') (e :: es) [] pos') X.env) :: starEach [] X.env := by rfl) :
    PE X (.Call (.Name nm p) [.Call (.Name x p') (e :: es) [] pos'] [] pos) (dT X W (eCall (listGT den) fr)) := by
  have hr' : Room k X.A := hr.mono (by omega)
  refine PE.weak (pe_listG (E := E0) (pgen_call (E := E0) F hr' hg hm hk hb .nil ha hdb he hpl) passes0 (fun _ _ _ z => z.elim) hr hg2 hm2 hv hnm hdb2 he2) fun σ H Q h => ?_
  refine dA_mono (arg_part σ H Q h) fun vs H1 ⟨φ, S, Mk, ts, Wx, R, r, p⟩ => ?_
  rw [List.append_nil]
  unfold listGT at p
  have hlen : ts.length = n := by
    by_cases hn : ts.length = n
    · exact hn
    · unfold bnd noX at p
      rw [hl ts S hn] at p
      exact p.elim
  refine ⟨by rw [r.length]; exact hlen, φ, S, Mk, ts, R, r, ?_⟩
  refine post_noX (P := fun o => Post X.K X.mg (Rep X.K X.mg) φ S Mk H1 o Wx Q) (fun z => z) p fun ys S1 p1 φ1 out H2 s1 r1 q hq => ?_
  have p1 := Post.step p1 s1
  split at p1
  · rename_i hz
    obtain ⟨st, gx⟩ := Step.new (o := .lst out) s1.rel hq
    exact Post.ok (t := T.lst ys) p1 st (.lst gx (st.all r1) hz)
  · exact p1.elim
end
end Fw
set_option Elab.async false
set_option linter.all false
set_option maxRecDepth 100000
/-! FwMore: chained comparisons, contexts, arities, op=. -/
namespace Fw
open PySem PySem.Spec PyProof.Rows L2

/-! ### contexts of bodies -/
section
variable {P : Program} {w : World} {K : PySem.W.Frag} {mg : Str → Option Value} {base : Heap} {N : List Str} {qual : Str} {st : Stmt} {f : Addr} {cdv : Value} {A : Around} {outer : List Env} {s : Shared} {H : Hp} {E : XK} {pn : List (Addr × Obj)}
theorem owns_cxK : PassesOwn (model P w) (cxK P w K mg base N qual st f cdv A outer s H E).A (cxK P w K mg base N qual st f cdv A outer s H E).env (cxK P w K mg base N qual st f cdv A outer s H E).xe := passes_of (X := cxK P w K mg base N qual st f cdv A outer s H E) rfl
theorem takes_cxK : Takes (cxK P w K mg base N qual st f cdv A outer s H E) (fun cls d _ H => E cls d H) := takes_of (X := cxK P w K mg base N qual st f cdv A outer s H E) rfl rfl rfl rfl
end
theorem hu70 {A : Around} {k : Nat} (hr : Room k A) : A.units + 70 < cLine := by have := hr.un; omega
theorem hu65 {A : Around} {k : Nat} (hr : Room k A) : A.units + 65 < cLine := by have := hr.un; omega
theorem hu64 {A : Around} {k : Nat} (hr : Room k A) : A.units + 64 < cLine := by have := hr.un; omega
theorem hu1 {A : Around} {k : Nat} (hr : Room k A) : A.units + 1 < cLine := by have := hr.un; omega

/-! ### arities -/
def arT {α : Type} (n : Nat) (den : List T → M α) (ts : List T) : M α := if ts.length = n then den ts else bad
theorem arT_len {α : Type} {n : Nat} {den : List T → M α} (ts : List T) (S : Store) (h : ts.length ≠ n) : arT n den ts S = .bad := by
  unfold arT
  rw [if_neg h]
  rfl
theorem arT_ok {α : Type} {n : Nat} {den : List T → M α} (ts : List T) (h : ts.length = n) : arT n den ts = den ts := if_pos h
section
variable {P : Program} {w : World} {K : PySem.W.Frag} {mg : Str → Option Value} {base : Heap} {gb : Bool} {k n : Nat} {f : Addr} {fd : FuncData} {ps : List Str}
theorem FnG.ar {den : List T → M T} (F : FnG P w K mg base gb k f fd ps (spD K mg n den)) : FnG P w K mg base gb k f fd ps (spD K mg n (arT n den)) := by
  refine F.imp fun vs H Q E ⟨hn, φ, S, Mk, ts, R, r, p⟩ => ⟨hn, φ, S, Mk, ts, R, r, ?_⟩
  rw [arT_ok ts (by rw [← r.length]; exact hn)] at p
  exact p
theorem gfn_imp {sp sp' : SpG} (F : GFn P w K mg base k f fd ps sp) (h : ∀ vs H Q E, sp' vs H Q E → sp vs H Q E) : GFn P w K mg base k f fd ps sp' :=
  ⟨fun vs H Q E q => F.len vs H Q E (h _ _ _ _ q), fun A outer s H args us vs Q E hr e hb hv hs => F.run A outer s H args us vs Q E hr e hb hv (h _ _ _ _ hs)⟩
end

/-! ### a op b op c -/
def eCmp2 (g1 g2 : T → T → M T) (a b c : Slots → M T) : Slots → M T := fun τ => bnd (a τ) fun x => bnd (b τ) fun y => bnd (g1 x y) fun r => bnd (tB1 r) fun t => if t = true then bnd (c τ) fun z => g2 y z else ret (.bl false)
section
variable {X : Cx} {W : WX} {a b c e : Expr} {fa fb fc : Slots → M T} {g1 g2 : T → T → M T} {op1 op2 : CmpOp} {pos : Pos}
theorem cmp2_imp (σ : L2.St) (H : Hp) (Q : VK) (h : dT X W (eCmp2 g1 g2 fa fb fc) σ H Q) : dT X W fa σ H fun x H1 => dT X W fb σ H1 fun y H2 => pk2 X g1 x y H2 fun r H3 => ∃ t, r = .bl t ∧ if t = true then dT X W fc σ H3 (fun z H4 => pk2 X g2 y z H4 Q) else Q (.bl false) H3 := by
  obtain ⟨φ, S, Mk, τ, R, sl, h⟩ := h
  refine ⟨φ, S, Mk, τ, R, sl, Post.part R h fun φ1 S1 H1 x tx s1 r1 p1 => ?_⟩
  refine ⟨φ1, S1, Mk, τ, s1.rel, s1.slots sl, Post.part s1.rel p1 fun φ2 S2 H2 y ty s2 r2 p2 => ?_⟩
  refine ⟨φ2, S2, Mk, tx, ty, _, s2.rel, s2.rep r1, r2, Post.part (RR := Rep X.K X.mg) s2.rel p2 fun φ3 S3 H3 r tr s3 r3 p3 => ?_⟩
  cases tr <;> first | exact p3.elim | skip
  case bl t =>
    cases r3
    refine ⟨t, rfl, ?_⟩
    have p3 : Post X.K X.mg (Rep X.K X.mg) φ3 S3 Mk H3 ((if t = true then bnd (fc τ) fun z => g2 ty z else ret (.bl false)) S3) (fun c d H' => W c d σ H') Q := p3
    cases t with
    | true =>
      rw [if_pos rfl] at p3 ⊢
      refine ⟨φ3, S3, Mk, τ, s3.rel, s3.slots (s2.slots (s1.slots sl)), Post.part s3.rel p3 fun φ4 S4 H4 z tz s4 r4 p4 => ?_⟩
      exact ⟨φ4, S4, Mk, ty, tz, _, s4.rel, s4.rep (s3.rep r2), r4, p4⟩
    | false =>
      rw [if_neg Bool.false_ne_true] at p3 ⊢
      exact Post.here (t := T.bl false) p3 s3.rel (.bl false)
theorem pe_cmp2F (h1 : VOp2 X (compareOp op1) g1) (h2 : VOp2 X (compareOp op2) g2) (ha : PE X a (dT X W fa)) (hb : PE X b (dT X W fb)) (hc : PE X c (dT X W fc)) (hm : lastMarks [op1, op2] [b, c] = false) : PE X (.Compare a [op1, op2] [b, c] pos) (dT X W (eCmp2 g1 g2 fa fb fc)) := by
  refine ⟨fun pins s σ H Q I h => ?_⟩
  have h := cmp2_imp σ H Q h
  refine Compare_chain (thn (ha.run pins s σ H _ I h) fun u s1 ⟨x, H1, I1, r1, q1⟩ => ?_) hm
  refine chain_link (thn (hb.run pins s1 σ H1 _ I1 q1) fun v s2 ⟨y, H2, I2, r2, q2⟩ => ?_)
  refine thn (h1.opr pins s2 σ H2 x y u v _ I2 r1 r2 q2) fun r s3 ⟨rv, H3, I3, r3, q3⟩ => ?_
  obtain ⟨t, rfl, q3⟩ := q3
  cases r3
  refine wpAny_truthy_bool ?_
  cases t with
  | true =>
    rw [if_pos rfl] at q3 ⊢
    refine chain_last (thn (hc.run pins s3 σ H3 _ I3 q3) fun z s4 ⟨zv, H4, I4, r4, q4⟩ => ?_)
    exact h2.opr pins s4 σ H4 y zv v z _ I4 r2 r4 q4
  | false =>
    rw [if_neg Bool.false_ne_true] at q3 ⊢
    exact ⟨.bl false, H3, I3, rfl, q3⟩
theorem pt_cmp2F (h1 : VOp2 X (compareOp op1) g1) (h2 : VOp2 X (compareOp op2) g2) (ha : PE X a (dT X W fa)) (hb : PE X b (dT X W fb)) (hc : PE X c (dT X W fc)) (hm : lastMarks [op1, op2] [b, c] = false) : PT X (.Compare a [op1, op2] [b, c] pos) (dB X W (eB (eCmp2 g1 g2 fa fb fc))) := by
  refine ⟨fun pins s σ H Q I h => ?_⟩
  have h := cmp2_imp σ H _ (eB_part σ H Q h)
  refine isTrue_chain (thn (ha.run pins s σ H _ I h) fun u s1 ⟨x, H1, I1, r1, q1⟩ => ?_) hm
  refine test_link (thn (hb.run pins s1 σ H1 _ I1 q1) fun v s2 ⟨y, H2, I2, r2, q2⟩ => ?_)
  refine thn (h1.opr pins s2 σ H2 x y u v _ I2 r1 r2 q2) fun r s3 ⟨rv, H3, I3, r3, q3⟩ => ?_
  obtain ⟨t, rfl, q3⟩ := q3
  cases r3
  refine wpAny_truthy_bool ?_
  cases t with
  | true =>
    rw [if_pos rfl] at q3 ⊢
    refine test_last (thn (hc.run pins s3 σ H3 _ I3 q3) fun z s4 ⟨zv, H4, I4, r4, q4⟩ => ?_)
    refine thn (h2.opr pins s4 σ H4 y zv v z _ I4 r2 r4 q4) fun w s5 ⟨wv, H5, I5, r5, q5⟩ => ?_
    obtain ⟨d, rfl, q5⟩ := q5
    cases r5
    exact wpAny_truthy_bool ⟨H5, I5, q5⟩
  | false =>
    rw [if_neg Bool.false_ne_true] at q3 ⊢
    obtain ⟨d, e, q3⟩ := q3
    cases e
    exact ⟨H3, I3, q3⟩
/-- a test by and, or -/
theorem pt_pwF {f : Slots → M Bool} (h : PW X e (dB X W f)) : PT X e (dB X W f) := ⟨fun pins s σ H Q I q => h.run _ pins s σ H Q I q⟩
/-! ### name op= e, ints -/
def augK (τ : Slots) (i : Nat) (f : Int → Int → Int) (x : Int) (t : T) (S : Store) : OutS := match t with
  | .int y => .nx (τ.set i (some (.int (f x y)))) S
  | _ => .bad
def sAugI (i : Nat) (f : Int → Int → Int) (e : Slots → M T) : MS := fun τ S => match τ[i]? with
  | some (some (.int x)) => bndS (e τ) τ (augK τ i f x) S
  | _ => .bad
theorem ps_augF {i : Nat} {x : Str} {op : Operator} {f : Int → Int → Int} {pos' : Pos} (ho : PIp X op (ipI f)) (hN : X.N.Nodup) (hi : X.N[i]? = some x) (hx : Loc X.env.scope x) (he : PE X e (dT X W fa))
    (hf : X.fn x = true ∨ X.env.scope.names.lookup x = some .local := by first | exact .inl rfl | exact .inr rfl | assumption) : PS X (.AugAssign (.Name x pos') op e pos) (dS X W (sAugI i f fa)) := by
  refine PS.weak (ps_aug hN hi hx he ho hf) fun D σ H ⟨φ, S, Mk, τ, R, sl, h⟩ => ?_
  unfold sAugI at h
  split at h
  · rename_i z e1
    obtain ⟨v, e2, r⟩ := sl.get i _ e1
    cases r
    refine ⟨_, e2, φ, S, Mk, τ, R, sl, PostS.part R sl h fun φ1 S1 H1 x1 t s r p => ?_⟩
    unfold augK at p
    cases t <;> first | exact p.elim | skip
    case int y =>
      cases r
      exact ⟨z, y, rfl, rfl, p φ1 _ H1 (Step.refl s.rel) ((s.slots sl).set (.int _))⟩
  · exact h.elim
end
/-! ### targets that raise nothing -/
def Ng1 (g : Tg) : Prop := ∀ t τ S e S', g t τ S ≠ .exc e S'
structure TgL (n : Nat) (u : List T → Slots → M Slots) : Prop where
  ng : ∀ ts τ S e S', u ts τ S ≠ .exc e S'
  len : ∀ ts τ S, ts.length ≠ n → u ts τ S = .bad
theorem ng_name {i : Nat} : Ng1 (tgName i) := fun t τ S e S' h => by cases h
theorem tgl_nil : TgL 0 tgNil := by
  refine ⟨fun ts τ S e S' h => ?_, fun ts τ S h => ?_⟩
  · cases ts <;> cases h
  · cases ts with
    | nil => exact absurd rfl h
    | cons _ _ => rfl
theorem tgl_cons {n : Nat} {g : Tg} {r : List T → Slots → M Slots} (h1 : Ng1 g) (h2 : TgL n r) : TgL (n + 1) (tgCons g r) := by
  refine ⟨fun ts τ S e S' h => ?_, fun ts τ S h => ?_⟩
  · cases ts with
    | nil => cases h
    | cons t ts =>
      have h : bnd (g t τ) (fun τ' => r ts τ') S = .exc e S' := h
      unfold bnd at h
      cases q : g t τ S with
      | ok τ' S1 => rw [q] at h; exact h2.ng _ _ _ _ _ h
      | exc e1 S1 => exact h1 _ _ _ _ _ q
      | bad => rw [q] at h; cases h
  · cases ts with
    | nil => rfl
    | cons t ts =>
      show bnd (g t τ) (fun τ' => r ts τ') S = .bad
      unfold bnd
      cases q : g t τ S with
      | ok τ' S1 => exact h2.len _ _ _ fun z => h (by rw [List.length_cons, z])
      | exc e1 S1 => exact absurd q (h1 _ _ _ _ _)
      | bad => rfl
theorem ng_tup {n : Nat} {u : List T → Slots → M Slots} (h : TgL n u) : Ng1 (tgTup u) := fun t τ S e S' q => by
  unfold tgTup at q
  split at q
  · exact h.ng _ _ _ _ _ q
  · cases q
end Fw
set_option Elab.async false
set_option linter.all false
set_option maxRecDepth 100000
/-! FwMore2: max, min, sum of a list of ints; range of three. -/
namespace Fw
open PySem PySem.Spec PyProof.Rows L2
def intsOf : List T → Option (List Int)
  | [] => some []
  | .int i :: r => (match intsOf r with
    | some is => some (i :: is)
    | none => none)
  | _ :: _ => none
theorem intsOf_map : ∀ ns : List Int, intsOf (ns.map T.int) = some ns
  | [] => rfl
  | n :: ns => by rw [List.map_cons, intsOf, intsOf_map ns]
theorem repAll_ints {K : PySem.W.Frag} {mg : Str → Option Value} {g : Gr} {φ : List Addr} : ∀ {vs : List V} {ts : List T} {ns : List Int}, RepAll K mg g φ vs ts → intsOf ts = some ns → vs = ns.map V.int
  | _, _, ns, .nil, e => by
    cases e
    rfl
  | _, t :: ts, ns, .cons h r, e => by
    cases t <;> first | (cases e; done) | skip
    rw [intsOf] at e
    cases e2 : intsOf ts with
    | none => rw [e2] at e; cases e
    | some is =>
      rw [e2] at e
      cases e
      cases h
      rw [repAll_ints r e2]
      rfl
def maxI : List Int → Int
  | [] => 0
  | [i] => i
  | i :: is => max i (maxI is)
def minI : List Int → Int
  | [] => 0
  | [i] => i
  | i :: is => min i (minI is)
theorem maxI_mem : ∀ {ns : List Int}, ns ≠ [] → maxI ns ∈ ns ∧ ∀ y ∈ ns, y ≤ maxI ns
  | [], h => absurd rfl h
  | [i], _ => by simp [maxI]
  | i :: j :: is, _ => by
    have q := maxI_mem (ns := j :: is) (by simp)
    rw [maxI]
    · refine ⟨?_, fun y hy => ?_⟩
      · rcases Int.le_total i (maxI (j :: is)) with h | h
        · rw [Int.max_eq_right h]; exact List.mem_cons_of_mem _ q.1
        · rw [Int.max_eq_left h]; exact List.mem_cons_self ..
      · rcases List.mem_cons.1 hy with rfl | hy
        · exact Int.le_max_left ..
        · exact Int.le_trans (q.2 y hy) (Int.le_max_right ..)
    · simp
theorem minI_mem : ∀ {ns : List Int}, ns ≠ [] → minI ns ∈ ns ∧ ∀ y ∈ ns, minI ns ≤ y
  | [], h => absurd rfl h
  | [i], _ => by simp [minI]
  | i :: j :: is, _ => by
    have q := minI_mem (ns := j :: is) (by simp)
    rw [minI]
    · refine ⟨?_, fun y hy => ?_⟩
      · rcases Int.le_total i (minI (j :: is)) with h | h
        · rw [Int.min_eq_left h]; exact List.mem_cons_self ..
        · rw [Int.min_eq_right h]; exact List.mem_cons_of_mem _ q.1
      · rcases List.mem_cons.1 hy with rfl | hy
        · exact Int.min_le_left ..
        · exact Int.le_trans (Int.min_le_right ..) (q.2 y hy)
    · simp
def ofInts (f : List Int → Option Int) : List T → M T
  | [t] => fun S => match res S t with
    | .lst ts => (match intsOf ts with
      | some ns => (match f ns with
        | some i => .ok (.int i) S
        | none => .bad)
      | none => .bad)
    | _ => .bad
  | _ => bad
def max1T : List T → M T := ofInts fun ns => if ns = [] then none else some (maxI ns)
def min1T : List T → M T := ofInts fun ns => if ns = [] then none else some (minI ns)
def sumT : List T → M T := ofInts fun ns => some ns.sum
section
variable {X : Cx}
theorem ofInts_part {f : List Int → Option Int} {φ : List Addr} {S : Store} {Mk : List Addr} {H : Hp} {xs : List V} {ts : List T} {Wx : Value → Option Addr → Hp → Prop} {Q : VK} (R : Rel X.K X.mg φ S Mk H) (h1 : RepAll X.K X.mg (G φ S Mk H) φ xs ts) (p : Post X.K X.mg (Rep X.K X.mg) φ S Mk H (ofInts f ts S) Wx Q) :
    ∃ a ns i, xs = [V.ref a] ∧ SqL X.K H a (ns.map V.int) ∧ f ns = some i ∧ Q (.int i) H := by
  unfold ofInts at p
  split at p <;> first | exact p.elim | skip
  rename_i t
  split at p <;> first | exact p.elim | skip
  rename_i ts e
  split at p <;> first | exact p.elim | skip
  rename_i ns e2
  split at p <;> first | exact p.elim | skip
  rename_i i e3
  obtain ⟨x, rfl, h⟩ := rep1 h1
  obtain ⟨a, vs, rfl, g1, ra, l⟩ := rep_lst R h e
  rw [repAll_ints ra e2] at g1
  exact ⟨a, ns, i, rfl, .inl (.inl g1), e3, Post.here (v := .int i) p R (.int _)⟩
theorem v_max1 (hc : X.calm = true) : VCall X (.builtin "max") max1T := by
  intro pins s σ H xs us φ S Mk ts Wx Q I r1 R h1 p
  obtain ⟨a, ns, i, rfl, g1, e, q⟩ := ofInts_part R h1 p
  split at e
  · cases e
  · rename_i hne
    cases e
    have mm := maxI_mem hne
    refine cr_max hc pins s σ H _ us Q I r1 ⟨a, ns, rfl, g1, List.length_pos_iff.2 hne, fun m hm hy => ?_⟩
    have : m = maxI ns := Int.le_antisymm (mm.2 m hm) (hy _ mm.1)
    rw [this]
    exact q
theorem v_min1 (hc : X.calm = true) : VCall X (.builtin "min") min1T := by
  intro pins s σ H xs us φ S Mk ts Wx Q I r1 R h1 p
  obtain ⟨a, ns, i, rfl, g1, e, q⟩ := ofInts_part R h1 p
  split at e
  · cases e
  · rename_i hne
    cases e
    have mm := minI_mem hne
    refine cr_min hc pins s σ H _ us Q I r1 ⟨a, ns, rfl, g1, List.length_pos_iff.2 hne, fun m hm hy => ?_⟩
    have : m = minI ns := Int.le_antisymm (hy _ mm.1) (mm.2 m hm)
    rw [this]
    exact q
theorem v_sum (hc : X.calm = true) : VCall X (.builtin "sum") sumT := by
  intro pins s σ H xs us φ S Mk ts Wx Q I r1 R h1 p
  obtain ⟨a, ns, i, rfl, g1, e, q⟩ := ofInts_part R h1 p
  cases e
  exact cr_sum hc pins s σ H _ us Q I r1 ⟨a, ns, rfl, g1, q⟩
/-! ### range of three -/
def rangeC (lo c : Int) (n : Nat) : M Src := fun S => if n ≤ sizeLine then .ok ⟨(List.range n).map fun i => .int (lo + (i : Nat) * c), fun _ => True⟩ S else .bad
open Classical in
/-- down by one, or by any small step up or down -/
noncomputable def range3 : List T → M Src
  | [.int i, .int j, .int c] => fun S => if (c = -1 ∧ -(2 ^ 62) ≤ i ∧ i < 2 ^ 62 ∧ -(2 ^ 62) ≤ j ∧ j < 2 ^ 62) then rangeC i (-1) (i - j).toNat S
    else if RgC i j c (Builtin.Range.rangeSize i j c).toNat then rangeC i c (Builtin.Range.rangeSize i j c).toNat S else .bad
  | _ => bad
theorem walks_rangeC {g : Gr} {φ : List Addr} {lo c : Int} {n : Nat} (h : n ≤ sizeLine) : Walks X.K X.mg g φ (Itc lo c n) ⟨(List.range n).map fun i => .int (lo + (i : Nat) * c), fun _ => True⟩ := by
  refine ⟨by simpa using h, fun φ' S' Mk' H' R2 pr k _ => ⟨fun i t hi => ?_, by simp [Itc]⟩⟩
  rw [List.getElem?_map] at hi
  by_cases hn : i < n
  · rw [List.getElem?_range hn] at hi
    cases hi
    refine ⟨hn, fun x H2 y => ?_⟩
    obtain ⟨rfl, rfl⟩ := y
    exact ⟨Step.refl R2, .int _⟩
  · rw [List.getElem?_eq_none (by simpa using hn)] at hi
    cases hi
theorem post_rangeC {φ : List Addr} {S : Store} {Mk : List Addr} {H : Hp} {Wx : Value → Option Addr → Hp → Prop} {R : It → Hp → Prop} {lo c : Int} {n : Nat} (R' : Rel X.K X.mg φ S Mk H) (p : Post X.K X.mg (Walks X.K X.mg) φ S Mk H (rangeC lo c n S) Wx R) : R (Itc lo c n) H := by
  unfold rangeC at p
  split at p
  · rename_i h
    exact Post.here p R' (walks_rangeC h)
  · exact p.elim
variable {a b c tg : Expr} {fr : Slots → M (List T)} {p pos : Pos} {W : WX}
theorem repAll_3 {g : Gr} {φ : List Addr} {xs : List V} {i j k : Int} (r : RepAll X.K X.mg g φ xs [.int i, .int j, .int k]) : xs = [.int i, .int j, .int k] := by
  cases r with
  | cons h r =>
    cases r with
    | cons h2 r =>
      cases r with
      | cons h3 r =>
        cases r
        cases h
        cases h2
        cases h3
        rfl
theorem pi_range3F (hg : Gl X "range") (hm : X.mg "range" = none) (ha : PA X [a, b, c] (dA X W fr))
    (hs : starEach [a, b, c] X.env = (false, eval a X.env) :: starEach [b, c] X.env := by rfl) (hpl : (backTo pos (starEach [b, c] X.env)).any (·.1) = false := by rfl) :
    PI X tg (.Call (.Name "range" p) [a, b, c] [] pos) (dI X W (eRange range3 fr)) := by
  refine PI.weak (pi_range3 hg hm ha hs hpl) fun σ H R ⟨φ, S, Mk, τ, R', sl, h⟩ => ⟨φ, S, Mk, τ, R', sl, Post.part R' h fun φ1 S1 H1 xs ts s r p => ?_⟩
  unfold range3 at p
  split at p
  · rename_i i j k
    split at p
    · rename_i hj
      obtain ⟨rfl, hj⟩ := hj
      exact ⟨i, j, -1, _, repAll_3 r, RgC.neg hj.1 hj.2.1 hj.2.2.1 hj.2.2.2, post_rangeC s.rel p⟩
    · split at p
      · rename_i hj
        exact ⟨i, j, k, _, repAll_3 r, hj, post_rangeC s.rel p⟩
      · exact p.elim
  · exact p.elim
end
end Fw
set_option Elab.async false
set_option linter.all false
set_option maxRecDepth 100000
/-! FwWp: reasoning about denotations, no program in sight. -/
namespace Fw
open PySem PySem.Spec PyProof.Rows L2

/-- an equality that simp uses by its proof, not by computing: the kernel must not compute a def's body -/
theorem nr {α : Sort _} {a b : α} (h : a = b) : a = b := h
/-- it ends well, and then Q -/
def wp {α : Type} (m : M α) (S : Store) (Q : α → Store → Prop) : Prop := match m S with
  | .ok a S' => Q a S'
  | _ => False
def wps (f : MS) (τ : Slots) (S : Store) (nx : Slots → Store → Prop) (rt : T → Store → Prop) (bk ct : Slots → Store → Prop) : Prop := match f τ S with
  | .nx τ' S' => nx τ' S'
  | .rt t S' => rt t S'
  | .bk τ' S' => bk τ' S'
  | .ct τ' S' => ct τ' S'
  | _ => False
abbrev noK : Slots → Store → Prop := fun _ _ => False
section
variable {α β : Type} {m : M α} {k : α → M β} {S : Store} {Q Q' : α → Store → Prop} {R : β → Store → Prop}
theorem wp_mono (h : wp m S Q) (k : ∀ a S', Q a S' → Q' a S') : wp m S Q' := by
  unfold wp at h ⊢
  cases e : m S with
  | ok a S' => rw [e] at h; exact k a S' h
  | exc e1 S' => rw [e] at h; exact h
  | bad => rw [e] at h; exact h
theorem wp_ok (h : wp m S Q) : ∃ a S', m S = .ok a S' ∧ Q a S' := by
  unfold wp at h
  cases e : m S with
  | ok a S' => rw [e] at h; exact ⟨a, S', rfl, h⟩
  | exc e1 S' => rw [e] at h; exact h.elim
  | bad => rw [e] at h; exact h.elim
theorem wp_of {a : α} {S' : Store} (e : m S = .ok a S') (h : Q a S') : wp m S Q := by
  unfold wp
  rw [e]
  exact h
@[simp] theorem wp_ret (a : α) : wp (ret a) S Q = Q a S := nr rfl
@[simp] theorem wp_bad : wp (bad : M α) S Q = False := nr rfl
@[simp] theorem wp_bnd : wp (bnd m k) S R = wp m S fun a S' => wp (k a) S' R := by
  unfold wp bnd
  cases m S <;> rfl
@[simp] theorem wp_noX : wp (noX m) S Q = wp m S Q := by
  unfold wp noX
  cases m S <;> rfl
/-- a denotation without effects -/
theorem eq_ret {v : α} (h : ∀ S, wp m S fun a S' => a = v ∧ S' = S) : m = ret v := by
  funext S
  obtain ⟨a, S', e, rfl, rfl⟩ := wp_ok (h S)
  exact e
@[simp] theorem wp_guardS {c : Store → Prop} {Q : Unit → Store → Prop} : wp (guardS c) S Q = (c S ∧ Q () S) := by
  unfold wp guardS
  by_cases h : c S
  · rw [if_pos h]; simp [h]
  · rw [if_neg h]; simp [h]
@[simp] theorem wp_ite {c : Prop} [Decidable c] {m1 m2 : M α} : wp (if c then m1 else m2) S Q = if c then wp m1 S Q else wp m2 S Q := by
  split <;> rfl
end
section
variable {S : Store} {τ : Slots} {Q : T → Store → Prop} {B : Bool → Store → Prop} {A : List T → Store → Prop} {a b c e : Slots → M T} {fb fb2 : Slots → M Bool} {r : Slots → M (List T)} {g g2 : T → T → M T} {g1 : T → M T} {gA : List T → M T} {gM : T → List T → M T}
@[simp] theorem wp_eVar {i : Nat} : wp (eVar i τ) S Q = match τ[i]? with
    | some (some t) => Q t S
    | _ => False := by
  unfold eVar
  split <;> simp_all
@[simp] theorem wp_eC {t : T} : wp (eC t τ) S Q = Q t S := nr rfl
@[simp] theorem wp_eBin : wp (eBin g a b τ) S Q = wp (a τ) S fun x S1 => wp (b τ) S1 fun y S2 => wp (g x y) S2 Q := by unfold eBin; simp
@[simp] theorem wp_eUn : wp (eUn g1 a τ) S Q = wp (a τ) S fun x S1 => wp (g1 x) S1 Q := by unfold eUn; simp
@[simp] theorem wp_eNil : wp (eNil τ) S A = A [] S := nr rfl
@[simp] theorem wp_eCons : wp (eCons a r τ) S A = wp (a τ) S fun x S1 => wp (r τ) S1 fun xs S2 => A (x :: xs) S2 := by unfold eCons; simp
@[simp] theorem wp_eCall : wp (eCall gA r τ) S Q = wp (r τ) S fun ts S1 => wp (gA ts) S1 Q := by unfold eCall; simp
@[simp] theorem wp_tB1 {b : Bool} : wp (tB1 (.bl b)) S B = B b S := nr rfl
@[simp] theorem wp_eB : wp (eB a τ) S B = wp (a τ) S fun x S1 => wp (tB1 x) S1 B := by unfold eB; simp
@[simp] theorem wp_eTru : wp (eTru a τ) S B = wp (a τ) S fun x S1 => wp (truT x) S1 B := by unfold eTru; simp
@[simp] theorem wp_bAnd : wp (bAnd fb fb2 τ) S B = wp (fb τ) S fun k S1 => if k = true then wp (fb2 τ) S1 B else B false S1 := by unfold bAnd; simp
@[simp] theorem wp_bOr : wp (bOr fb fb2 τ) S B = wp (fb τ) S fun k S1 => if k = true then B true S1 else wp (fb2 τ) S1 B := by unfold bOr; simp
@[simp] theorem wp_bNot : wp (bNot fb τ) S B = wp (fb τ) S fun k S1 => B (!k) S1 := by unfold bNot; simp
@[simp] theorem wp_eAnd : wp (eAnd a b τ) S Q = wp (a τ) S fun x S1 => wp (tB1 x) S1 fun k S2 => if k = true then wp (b τ) S2 Q else Q (.bl false) S2 := by unfold eAnd; simp
@[simp] theorem wp_eOr : wp (eOr a b τ) S Q = wp (a τ) S fun x S1 => wp (tB1 x) S1 fun k S2 => if k = true then Q (.bl true) S2 else wp (b τ) S2 Q := by unfold eOr; simp
@[simp] theorem wp_eNot : wp (eNot a τ) S Q = wp (a τ) S fun x S1 => wp (tB1 x) S1 fun k S2 => Q (.bl (!k)) S2 := by unfold eNot; simp
@[simp] theorem wp_eIf : wp (eIf fb a b τ) S Q = wp (fb τ) S fun k S1 => if k = true then wp (a τ) S1 Q else wp (b τ) S1 Q := by unfold eIf; simp
@[simp] theorem wp_mkTup {xs : List T} : wp (mkTup xs) S Q = (xs.length ≤ sizeLine ∧ Q (.tup xs) S) := by
  unfold mkTup
  by_cases h : xs.length ≤ sizeLine <;> simp [h]
@[simp] theorem wp_mkLst {xs : List T} : wp (mkLst xs) S Q = (xs.length ≤ sizeLine ∧ Q (.lst xs) S) := by
  unfold mkLst
  by_cases h : xs.length ≤ sizeLine <;> simp [h]
@[simp] theorem wp_mkRef {xs : List T} : wp (mkRef xs) S Q = (xs.length ≤ sizeLine ∧ Q (.ref S.length) (S ++ [some (.lst xs)])) := by
  unfold mkRef wp
  by_cases h : xs.length ≤ sizeLine <;> simp [h]
@[simp] theorem wp_eTup : wp (eTup r τ) S Q = wp (r τ) S fun ts S1 => wp (mkTup ts) S1 Q := by unfold eTup; simp
@[simp] theorem wp_eLst : wp (eLst r τ) S Q = wp (r τ) S fun ts S1 => wp (mkLst ts) S1 Q := by unfold eLst; simp
@[simp] theorem wp_eRef : wp (eRef r τ) S Q = wp (r τ) S fun ts S1 => wp (mkRef ts) S1 Q := by unfold eRef; simp
@[simp] theorem wp_eCmp2 : wp (eCmp2 g g2 a b c τ) S Q = wp (a τ) S fun x S1 => wp (b τ) S1 fun y S2 => wp (g x y) S2 fun r S3 => wp (tB1 r) S3 fun t S4 => if t = true then wp (c τ) S4 fun z S5 => wp (g2 y z) S5 Q else Q (.bl false) S4 := by unfold eCmp2; simp
@[simp] theorem wp_ePartN {Q : Option Int → Store → Prop} : wp (ePart none τ) S Q = Q none S := nr rfl
@[simp] theorem wp_ePartS {Q : Option Int → Store → Prop} : wp (ePart (some a) τ) S Q = wp (a τ) S fun t S1 => match t with
    | .int i => Q (some i) S1
    | _ => False := by
  unfold ePart
  dsimp only
  rw [wp_bnd]
  congr 1
  funext t S1
  cases t <;> rfl
@[simp] theorem wp_eCut {lo hi : Option (Slots → M T)} : wp (eCut a lo hi τ) S Q = wp (a τ) S fun x S1 => wp (ePart lo τ) S1 fun l S2 => wp (ePart hi τ) S2 fun h S3 => wp (cutT x l h) S3 Q := by unfold eCut; simp
@[simp] theorem wp_eMth {nm : String} : wp (eMth nm gM a r τ) S Q = wp (a τ) S fun x S1 => tyMth nm (res S1 x) = true ∧ wp (r τ) S1 fun ts S2 => wp (gM x ts) S2 Q := by
  unfold eMth
  rw [wp_bnd]
  congr 1
  funext x S1
  rw [wp_bnd]
  unfold wp chkTy
  by_cases h : tyMth nm (res S1 x) = true
  · simp only [if_pos h, h, true_and]
    show wp (bnd (r τ) fun ts => gM x ts) S1 Q = wp (r τ) S1 fun ts S2 => wp (gM x ts) S2 Q
    rw [wp_bnd]
  · rw [if_neg h]; simp [h]
@[simp] theorem wp_eRange {Q : Src → Store → Prop} {f : List T → M Src} : wp (eRange f r τ) S Q = wp (r τ) S fun ts S1 => wp (f ts) S1 Q := by unfold eRange; simp
@[simp] theorem wp_eIter {Q : Src → Store → Prop} : wp (eIter a τ) S Q = wp (a τ) S fun t S1 => wp (iterT t) S1 Q := by unfold eIter; simp
end
/-! ### statements -/
section
variable {S : Store} {τ : Slots} {nx bk ct : Slots → Store → Prop} {rt : T → Store → Prop} {x y : MS} {e e2 : Slots → M T} {c : Slots → M Bool}
theorem wps_mono {nx' bk' ct' : Slots → Store → Prop} {rt' : T → Store → Prop} {f : MS} (h : wps f τ S nx rt bk ct) (h1 : ∀ τ S, nx τ S → nx' τ S) (h2 : ∀ t S, rt t S → rt' t S) (h3 : ∀ τ S, bk τ S → bk' τ S) (h4 : ∀ τ S, ct τ S → ct' τ S) : wps f τ S nx' rt' bk' ct' := by
  unfold wps at h ⊢
  revert h
  cases f τ S with
  | nx τ S => exact h1 τ S
  | rt t S => exact h2 t S
  | bk τ S => exact h3 τ S
  | ct τ S => exact h4 τ S
  | exc e τ S => exact id
  | bad => exact id
@[simp] theorem wps_next : wps sNext τ S nx rt bk ct = nx τ S := nr rfl
@[simp] theorem wps_break : wps sBreak τ S nx rt bk ct = bk τ S := nr rfl
@[simp] theorem wps_cont : wps sCont τ S nx rt bk ct = ct τ S := nr rfl
@[simp] theorem wps_bad : wps sBad τ S nx rt bk ct = False := nr rfl
@[simp] theorem wps_retN : wps sRetN τ S nx rt bk ct = rt .non S := nr rfl
@[simp] theorem wps_seq : wps (sSeq x y) τ S nx rt bk ct = wps x τ S (fun τ' S' => wps y τ' S' nx rt bk ct) rt bk ct := by
  unfold wps sSeq
  cases x τ S <;> rfl
theorem wps_bndS {α : Type} {m : M α} {k : α → Store → OutS} : (match bndS m τ k S with
    | .nx τ' S' => nx τ' S'
    | .rt t S' => rt t S'
    | .bk τ' S' => bk τ' S'
    | .ct τ' S' => ct τ' S'
    | _ => False) = wp m S fun a S' => (match k a S' with
    | .nx τ' S' => nx τ' S'
    | .rt t S' => rt t S'
    | .bk τ' S' => bk τ' S'
    | .ct τ' S' => ct τ' S'
    | _ => False) := by
  unfold bndS wp
  cases m S <;> rfl
@[simp] theorem wps_drop : wps (sDrop e) τ S nx rt bk ct = wp (e τ) S fun _ S' => nx τ S' := by unfold wps sDrop; rw [wps_bndS]
@[simp] theorem wps_ret : wps (sRet e) τ S nx rt bk ct = wp (e τ) S rt := by unfold wps sRet; rw [wps_bndS]
@[simp] theorem wps_if : wps (sIf c x y) τ S nx rt bk ct = wp (c τ) S fun k S' => if k = true then wps x τ S' nx rt bk ct else wps y τ S' nx rt bk ct := by
  unfold wps sIf
  rw [wps_bndS]
  congr 1
  funext k S'
  cases k <;> rfl
@[simp] theorem wps_set {i : Nat} : wps (sSet i e) τ S nx rt bk ct = wp (e τ) S fun t S' => nx (τ.set i (some t)) S' := by unfold wps sSet; rw [wps_bndS]
@[simp] theorem wps_par {i j : Nat} : wps (sPar i j e e2) τ S nx rt bk ct = wp (e τ) S fun t S1 => wp (e2 τ) S1 fun u S2 => nx ((τ.set i (some t)).set j (some u)) S2 := by
  unfold wps sPar
  rw [wps_bndS]
  congr 1
  funext t S1
  rw [wps_bndS]
@[simp] theorem wps_asg {g : Tg} : wps (sAsg g e) τ S nx rt bk ct = wp (e τ) S fun t S1 => wp (g t τ) S1 nx := by
  unfold wps sAsg
  rw [wps_bndS]
  congr 1
  funext t S1
  unfold wp
  cases g t τ S1 <;> rfl
@[simp] theorem wp_tgName {i : Nat} {t : T} : wp (tgName i t τ) S nx = nx (τ.set i (some t)) S := nr rfl
@[simp] theorem wp_tgTup {u : List T → Slots → M Slots} {ts : List T} : wp (tgTup u (.tup ts) τ) S nx = wp (u ts τ) S nx := nr rfl
@[simp] theorem wp_tgNil : wp (tgNil [] τ) S nx = nx τ S := nr rfl
@[simp] theorem wp_tgCons {g : Tg} {u : List T → Slots → M Slots} {t : T} {ts : List T} : wp (tgCons g u (t :: ts) τ) S nx = wp (g t τ) S fun τ' S' => wp (u ts τ') S' nx := by unfold tgCons; simp
@[simp] theorem wp_tgSub {o i : Slots → M T} {t : T} : wp (tgSub o i t τ) S nx = wp (o τ) S fun x S1 => wp (i τ) S1 fun y S2 => wp (setT x y t) S2 fun _ S3 => nx τ S3 := by unfold tgSub; simp
/-- a loop -/
def wpl (chk : Store → Prop) (g : Tg) (body : MS) (ts : List T) (τ : Slots) (S : Store) (nx : Slots → Store → Prop) (rt : T → Store → Prop) : Prop := match loopS chk g body ts τ S with
  | .nx τ' S' => nx τ' S'
  | .rt t S' => rt t S'
  | _ => False
theorem wpl_nil {chk : Store → Prop} {g : Tg} {body : MS} : wpl chk g body [] τ S nx rt = (chk S ∧ nx τ S) := by
  unfold wpl loopS
  by_cases h : chk S
  · rw [if_pos h]; simp [h]
  · rw [if_neg h]; simp [h]
theorem wpl_cons {chk : Store → Prop} {g : Tg} {body : MS} {t : T} {ts : List T} : wpl chk g body (t :: ts) τ S nx rt = (chk S ∧ wp (g t τ) S fun τ1 S1 => wps body τ1 S1 (fun τ2 S2 => wpl chk g body ts τ2 S2 nx rt) rt nx (fun τ2 S2 => wpl chk g body ts τ2 S2 nx rt)) := by
  unfold wpl
  rw [loopS]
  by_cases h : chk S
  · rw [if_pos h]
    simp only [h, true_and]
    unfold wp
    cases g t τ S with
    | ok τ1 S1 =>
      dsimp only
      unfold wps
      cases body τ1 S1 <;> rfl
    | exc e S1 => rfl
    | bad => rfl
  · rw [if_neg h]; simp [h]
theorem wps_for {it : Slots → M Src} {g : Tg} {body : MS} : wps (sFor it g body) τ S nx rt bk ct = wp (it τ) S fun src S1 => wpl src.chk g body src.items τ S1 nx rt := by
  unfold wps sFor
  rw [wps_bndS]
  congr 1
  funext src S1
  have no : ∀ (ts : List T) (τ : Slots) (S : Store) (τ' : Slots) (S' : Store), loopS src.chk g body ts τ S ≠ .bk τ' S' ∧ loopS src.chk g body ts τ S ≠ .ct τ' S' := by
    intro ts
    induction ts with
    | nil =>
      intro τ S τ' S'
      unfold loopS
      split <;> simp
    | cons t ts ih =>
      intro τ S τ' S'
      rw [loopS]
      split
      · split
        · split <;> first | exact ih _ _ _ _ | simp
        · simp
      · simp
  unfold wpl
  have := no src.items τ S1
  revert this
  cases loopS src.chk g body src.items τ S1 with
  | bk τ' S' => exact fun h => absurd rfl (h τ' S').1
  | ct τ' S' => exact fun h => absurd rfl (h τ' S').2
  | _ => exact fun _ => rfl
/-- by an invariant -/
theorem wpl_inv {chk : Store → Prop} {g : Tg} {body : MS} (I : Nat → Slots → Store → Prop) : ∀ (ts : List T) (k : Nat) (τ : Slots) (S : Store), I k τ S → (∀ i τ S, I i τ S → chk S) →
    (∀ i (h : i < ts.length) τ S, I (k + i) τ S → wp (g ts[i] τ) S fun τ1 S1 => wps body τ1 S1 (I (k + i + 1)) rt nx (I (k + i + 1))) → (∀ τ S, I (k + ts.length) τ S → nx τ S) → wpl chk g body ts τ S nx rt
  | [], k, τ, S, h0, hc, hs, hd => by
    rw [wpl_nil]
    exact ⟨hc k τ S h0, hd τ S h0⟩
  | t :: ts, k, τ, S, h0, hc, hs, hd => by
    rw [wpl_cons]
    refine ⟨hc k τ S h0, wp_mono (hs 0 (by simp) τ S h0) fun τ1 S1 h1 => ?_⟩
    have next : ∀ τ2 S2, I (k + 1) τ2 S2 → wpl chk g body ts τ2 S2 nx rt := fun τ2 S2 h2 => by
      refine wpl_inv I ts (k + 1) τ2 S2 h2 hc (fun i hi τ S h => ?_) fun τ S h => hd τ S (by
        have e : k + (t :: ts).length = k + 1 + ts.length := by simp; omega
        rw [e]; exact h)
      have q := hs (i + 1) (by simp; omega) τ S (by
        have e : k + (i + 1) = k + 1 + i := by omega
        rw [e]; exact h)
      have e : k + (i + 1) + 1 = k + 1 + i + 1 := by omega
      rw [e] at q
      exact q
    exact wps_mono h1 next (fun _ _ h => h) (fun _ _ h => h) next
/-- while, by a measure -/
theorem wps_while {body : MS} (I : Nat → Slots → Store → Prop) (m : Nat) (hm : m < fuel) (h0 : I m τ S) (hs : ∀ m τ S, I m τ S → wp (c τ) S fun b S1 => if b = true then wps body τ S1 (fun τ2 S2 => ∃ m', m' < m ∧ I m' τ2 S2) rt nx (fun τ2 S2 => ∃ m', m' < m ∧ I m' τ2 S2) else nx τ S1) : wps (sWhile c body) τ S nx rt bk ct := by
  have key : ∀ (n m : Nat) (τ : Slots) (S : Store), m < n → I m τ S → wps (whileN c body n) τ S nx rt bk ct := by
    intro n
    induction n with
    | zero => intro m τ S h; omega
    | succ n ih =>
      intro m τ S h hI
      unfold wps whileN
      rw [wps_bndS]
      refine wp_mono (hs m τ S hI) fun b S1 h1 => ?_
      cases b with
      | false => exact h1
      | true =>
        rw [if_pos rfl] at h1 ⊢
        unfold wps at h1
        revert h1
        cases body τ S1 with
        | nx τ2 S2 => exact fun ⟨m', hm', hI'⟩ => ih m' τ2 S2 (by omega) hI'
        | ct τ2 S2 => exact fun ⟨m', hm', hI'⟩ => ih m' τ2 S2 (by omega) hI'
        | bk τ2 S2 => exact id
        | rt t S2 => exact id
        | exc e τ2 S2 => exact id
        | bad => exact id
  exact key fuel m τ S hm h0
end
/-! ### defs -/
section
variable {S : Store} {Q : T → Store → Prop} {ts : List T}
theorem wp_fnBody {n : Nat} {body : MS} : wp (fnBody n body ts) S Q = wps body (ts.map some ++ List.replicate (n - ts.length) none) S (fun _ S' => Q .non S') Q noK noK := by
  unfold wp fnBody wps
  cases body (ts.map some ++ List.replicate (n - ts.length) none) S <;> rfl
theorem wp_fnD {m : M T} (h : wp m S fun t S' => Clean S S' ∧ ∃ t', frzTop S' S.length t = some t' ∧ Q t' (S'.take S.length)) : wp (fnD m) S Q := by
  obtain ⟨t, S', e, cl, t', f, q⟩ := wp_ok h
  refine wp_of (a := t') (S' := S'.take S.length) ?_ q
  unfold fnD
  rw [e]
  dsimp only
  rw [if_pos cl, f]
theorem wp_arT {α : Type} {n : Nat} {den : List T → M α} {Q : α → Store → Prop} (h : ts.length = n) : wp (arT n den ts) S Q = wp (den ts) S Q := by rw [arT_ok ts h]
end
/-! ### comprehensions -/
section
variable {S : Store} {τ : Slots} {chk : Store → Prop} {own : List Nat} {g : Tg} {c : Slots → M Bool} {e : Slots → M T} {A : List T → Store → Prop}
theorem wp_lc_nil : wp (lcLoop chk own g c e τ []) S A = (chk S ∧ A [] S) := by unfold lcLoop; simp
theorem wp_lc_cons {t : T} {ts : List T} : wp (lcLoop chk own g c e τ (t :: ts)) S A = (chk S ∧ wp (g t (wipeT τ own)) S fun τ1 S1 => wp (c τ1) S1 fun b S2 => if b = true then wp (e τ1) S2 fun y S3 => wp (lcLoop chk own g c e τ ts) S3 fun ys S4 => A (y :: ys) S4 else wp (lcLoop chk own g c e τ ts) S2 A) := by
  rw [lcLoop]
  simp
theorem wp_eLc {fr : Bool} {it : Slots → M Src} {Q : T → Store → Prop} : wp (eLc fr it own g c e τ) S Q = wp (it τ) S fun src S1 => wp (lcLoop src.chk own g c e τ src.items) S1 fun ys S2 => wp (lcFin fr ys) S2 Q := by unfold eLc; simp
@[simp] theorem wp_lcFinF {ys : List T} {Q : T → Store → Prop} : wp (lcFin false ys) S Q = Q (.lst ys) S := nr rfl
@[simp] theorem wp_lcFinT {ys : List T} {Q : T → Store → Prop} : wp (lcFin true ys) S Q = Q (.ref S.length) (S ++ [some (.lst ys)]) := nr rfl
@[simp] theorem wp_yes {B : Bool → Store → Prop} : wp (yes τ) S B = B true S := nr rfl
/-- over items that stand for xs, nothing but values -/
theorem wp_lc_pure {β : Type} {enc : β → T} {cb : β → Bool} {f : β → T} : ∀ (xs : List β), chk S → (∀ x ∈ xs, ∀ Q : T → Store → Prop, Q (f x) S → wp (g (enc x) (wipeT τ own)) S fun τ1 S1 => S1 = S ∧ wp (c τ1) S fun b S2 => S2 = S ∧ b = cb x ∧ (b = true → wp (e τ1) S Q)) →
    ∀ A : List T → Store → Prop, A ((xs.filter cb).map f) S → wp (lcLoop chk own g c e τ (xs.map enc)) S A
  | [], hc, _, A, h => by
    rw [List.map_nil, wp_lc_nil]
    exact ⟨hc, h⟩
  | x :: xs, hc, hs, A, h => by
    rw [List.map_cons, wp_lc_cons]
    refine ⟨hc, ?_⟩
    by_cases hb : cb x = true
    · rw [List.filter_cons_of_pos hb, List.map_cons] at h
      refine wp_mono (hs x (List.mem_cons_self ..) (fun y S3 => wp (lcLoop chk own g c e τ (xs.map enc)) S3 fun ys S4 => A (y :: ys) S4) ?_) fun τ1 S1 ⟨e1, h1⟩ => ?_
      · exact wp_lc_pure xs hc (fun y hy => hs y (List.mem_cons_of_mem _ hy)) _ h
      · rw [e1]
        refine wp_mono h1 fun b S2 ⟨e2, e3, h2⟩ => ?_
        rw [e2]
        rw [e3, if_pos hb]
        exact h2 (e3.trans hb)
    · rw [List.filter_cons_of_neg hb] at h
      refine wp_mono (hs x (List.mem_cons_self ..) (fun _ _ => True) trivial) fun τ1 S1 ⟨e1, h1⟩ => ?_
      rw [e1]
      refine wp_mono h1 fun b S2 ⟨e2, e3, _⟩ => ?_
      rw [e2]
      rw [e3, if_neg hb]
      exact wp_lc_pure xs hc (fun y hy => hs y (List.mem_cons_of_mem _ hy)) A h
end
end Fw
set_option Elab.async false
set_option linter.all false
set_option maxRecDepth 100000
/-! FwWp2: operators and built-ins, by the kinds of their values. -/
namespace Fw
open PySem PySem.Spec PyProof.Rows L2

theorem log_lt {i : Int} {n : Nat} (h0 : 0 ≤ i) (h : i < 2 ^ n) (hn : 0 < n) : i.natAbs.log2 < n := by
  have h1 : i.natAbs < 2 ^ n := by
    have : (i.natAbs : Int) < ((2 ^ n : Nat) : Int) := by
      rw [Int.natAbs_of_nonneg h0]
      simpa using h
    exact Int.ofNat_lt.mp this
  by_cases hz : i.natAbs = 0
  · rw [hz]; simpa using hn
  · exact (Nat.log2_lt hz).mpr h1
theorem wp_cond {α : Type} {m : M α} {S S' : Store} {Q : α → Store → Prop} {c : Prop} [Decidable c] {a : α} (e : m S = if c then .ok a S' else .bad) : wp m S Q = (c ∧ Q a S') := by
  unfold wp
  rw [e]
  by_cases h : c
  · rw [if_pos h]; simp [h]
  · rw [if_neg h]; simp [h]
theorem wp_yes' {α : Type} {m : M α} {S S' : Store} {Q : α → Store → Prop} {a : α} (e : m S = .ok a S') : wp m S Q = Q a S' := by
  unfold wp
  rw [e]
def optP {β : Type} (o : Option β) (P : β → Prop) : Prop := match o with
  | some x => P x
  | none => False
@[simp] theorem optP_some {β : Type} {x : β} {P : β → Prop} : optP (some x) P = P x := rfl
@[simp] theorem optP_none {β : Type} {P : β → Prop} : optP none P = False := rfl
theorem wp_optS {α β : Type} {m : M α} {S : Store} {Q : α → Store → Prop} (o : Option β) (f : β → α) (h1 : ∀ x, o = some x → m S = .ok (f x) S) (h2 : o = none → m S = .bad) : wp m S Q = optP o fun x => Q (f x) S := by
  cases o with
  | none => unfold wp; rw [h2 rfl]; rfl
  | some x => unfold wp; rw [h1 x rfl]; rfl
/-- the list at a mutable object -/
def At (S : Store) (n : Nat) (xs : List T) : Prop := S[n]? = some (some (.lst xs))
section
variable {S : Store} {Q : T → Store → Prop} {B : Bool → Store → Prop} {i j : Int} {a b : Str} {xs ys : List T} {n : Nat} {t u : T} {p q : Bool}
theorem res_ref (h : At S n xs) : res S (.ref n) = .lst xs := by unfold res; dsimp only; rw [show S[n]? = some (some (.lst xs)) from h]
@[simp] theorem res_int : res S (.int i) = .int i := rfl
@[simp] theorem res_str : res S (.str a) = .str a := rfl
@[simp] theorem res_bl : res S (.bl p) = .bl p := rfl
@[simp] theorem res_non : res S .non = .non := rfl
@[simp] theorem res_tupl : res S (.tup xs) = .tup xs := rfl
@[simp] theorem res_lst : res S (.lst xs) = .lst xs := rfl
@[simp] theorem res_dic {q : List (T × T)} : res S (.dic q) = .dic q := rfl
@[simp] theorem res_scr {ns : List Int} : res S (.scr ns) = .scr ns := rfl
@[simp] theorem wp_add_ii : wp (addT (.int i) (.int j)) S Q = Q (.int (i + j)) S := nr rfl
@[simp] theorem wp_sub_ii : wp (subT (.int i) (.int j)) S Q = Q (.int (i - j)) S := nr rfl
@[simp] theorem wp_neg : wp (negT (.int i)) S Q = Q (.int (-i)) S := nr rfl
@[simp] theorem wp_mul_ii : wp (mulT (.int i) (.int j)) S Q = (i.natAbs.log2 + j.natAbs.log2 < 1000000 ∧ Q (.int (i * j)) S) := wp_cond (c := CM i j) rfl
@[simp] theorem wp_mod_ii : wp (modT (.int i) (.int j)) S Q = (0 < j ∧ Q (.int (i % j)) S) := wp_cond (c := CO i j) rfl
@[simp] theorem wp_fdiv_ii : wp (fdivT (.int i) (.int j)) S Q = ((0 < j ∧ j.natAbs.log2 < 9000) ∧ Q (.int (i / j)) S) := wp_cond (c := CD i j) rfl
theorem wp_pow_ii (h : CP i j) : wp (powT (.int i) (.int j)) S Q = Q (.int (i ^ j.toNat)) S := wp_yes' (by show (if CP i j then Out.ok (T.int (i ^ j.toNat)) S else Out.bad) = _; rw [if_pos h])
@[simp] theorem wp_lt_ii : wp (ltT (.int i) (.int j)) S Q = Q (.bl (decide (i < j))) S := nr rfl
@[simp] theorem wp_lt_ss : wp (ltT (.str a) (.str b)) S Q = Q (.bl (decide (a.cps.toList < b.cps.toList))) S := nr rfl
@[simp] theorem wp_le_ii : wp (leT (.int i) (.int j)) S Q = Q (.bl (decide (i ≤ j))) S := nr rfl
@[simp] theorem wp_gt_ii : wp (gtT (.int i) (.int j)) S Q = Q (.bl (decide (j < i))) S := nr rfl
@[simp] theorem wp_ge_ii : wp (geT (.int i) (.int j)) S Q = Q (.bl (decide (j ≤ i))) S := nr rfl
@[simp] theorem wp_eq_ii : wp (eqT (.int i) (.int j)) S Q = Q (.bl (decide (i = j))) S := nr rfl
@[simp] theorem wp_eq_ss : wp (eqT (.str a) (.str b)) S Q = Q (.bl (decide (a = b))) S := nr rfl
@[simp] theorem wp_ne_ii : wp (neT (.int i) (.int j)) S Q = Q (.bl (!decide (i = j))) S := nr rfl
@[simp] theorem wp_ne_ss : wp (neT (.str a) (.str b)) S Q = Q (.bl (!decide (a = b))) S := nr rfl
theorem wp_eq_data (h1 : sclT (res S t) (res S u) = none) : wp (eqT t u) S Q = ((shp (res S t) = true ∧ shp (res S u) = true) ∧ Q (.bl (PyData.eqv (data (res S t)) (data (res S u)))) S) := by
  unfold wp eqT
  rw [h1]
  dsimp only
  by_cases h : shp (res S t) = true ∧ shp (res S u) = true
  · rw [if_pos h]; simp [h]
  · rw [if_neg h]; simp only [false_iff, eq_iff_iff]; exact fun z => h z.1
theorem wp_ne_data (h1 : sclT (res S t) (res S u) = none) : wp (neT t u) S Q = ((shp (res S t) = true ∧ shp (res S u) = true) ∧ Q (.bl (!PyData.eqv (data (res S t)) (data (res S u)))) S) := by
  unfold wp neT
  rw [h1]
  dsimp only
  by_cases h : shp (res S t) = true ∧ shp (res S u) = true
  · rw [if_pos h]; simp [h]
  · rw [if_neg h]; simp only [false_iff, eq_iff_iff]; exact fun z => h z.1
@[simp] theorem wp_add_ss : wp (addT (.str a) (.str b)) S Q = (a.length + b.length ≤ sizeLine ∧ Q (.str (a ++ b)) S) := by
  unfold wp addT
  dsimp only [res]
  by_cases h : a.length + b.length ≤ sizeLine
  · rw [if_pos h]; simp [h]
  · rw [if_neg h]; simp [h]
@[simp] theorem wp_add_tt : wp (addT (.tup xs) (.tup ys)) S Q = (xs.length + ys.length ≤ sizeLine ∧ Q (.tup (xs ++ ys)) S) := by
  unfold wp addT
  dsimp only [res]
  by_cases h : xs.length + ys.length ≤ sizeLine
  · rw [if_pos h]; simp [h]
  · rw [if_neg h]; simp [h]
theorem wp_add_ll (h1 : res S t = .lst xs) (h2 : res S u = .lst ys) : wp (addT t u) S Q = (xs.length + ys.length ≤ sizeLine ∧ Q (.lst (xs ++ ys)) S) := by
  unfold wp addT
  rw [h1, h2]
  dsimp only
  by_cases h : xs.length + ys.length ≤ sizeLine
  · rw [if_pos h]; simp [h]
  · rw [if_neg h]; simp [h]
theorem wp_mul_si (h : 0 ≤ i ∧ i ≤ 1000 ∧ a.length ≤ 1000) : wp (mulT (.str a) (.int i)) S Q = Q (.str (strRep a i)) S := by
  unfold wp mulT
  dsimp only [res]
  rw [if_pos h]
theorem wp_len_r (h : res S t = .lst xs) : wp (lenT [t]) S Q = Q (.int xs.length) S := by
  unfold wp lenT
  dsimp only
  rw [h]
@[simp] theorem wp_len_l : wp (lenT [.lst xs]) S Q = Q (.int xs.length) S := nr rfl
@[simp] theorem wp_len_t : wp (lenT [.tup xs]) S Q = Q (.int xs.length) S := nr rfl
@[simp] theorem wp_len_c {ns : List Int} : wp (lenT [.scr ns]) S Q = Q (.int ns.length) S := nr rfl
@[simp] theorem wp_len_s : wp (lenT [.str a]) S Q = (a.length ≤ sizeLine ∧ Q (.int a.length) S) := by
  unfold wp lenT
  dsimp only [res]
  by_cases h : a.length ≤ sizeLine
  · rw [if_pos h]; simp [h]
  · rw [if_neg h]; simp [h]
@[simp] theorem wp_abs : wp (absT [.int i]) S Q = Q (.int (if i < 0 then -i else i)) S := nr rfl
@[simp] theorem wp_max2 : wp (max2T [.int i, .int j]) S Q = Q (.int (if j > i then j else i)) S := nr rfl
@[simp] theorem wp_min2 : wp (min2T [.int i, .int j]) S Q = Q (.int (if j < i then j else i)) S := nr rfl
@[simp] theorem wp_int_i : wp (intT [.int i]) S Q = Q (.int i) S := nr rfl
@[simp] theorem wp_int_b : wp (intT [.bl p]) S Q = Q (.int (if p then 1 else 0)) S := nr rfl
@[simp] theorem wp_tuple_l : wp (tupleT [.lst xs]) S Q = Q (.tup xs) S := nr rfl
@[simp] theorem wp_tuple_t : wp (tupleT [.tup xs]) S Q = Q (.tup xs) S := nr rfl
theorem wp_tuple_r (h : res S t = .lst xs) : wp (tupleT [t]) S Q = Q (.tup xs) S := by
  unfold wp tupleT
  dsimp only
  rw [h]
@[simp] theorem wp_list_l : wp (listT [.lst xs]) S Q = Q (.lst xs) S := nr rfl
@[simp] theorem wp_list_t : wp (listT [.tup xs]) S Q = Q (.lst xs) S := nr rfl
@[simp] theorem wp_isi {n : String} : wp (isiT [t, .ty n]) S Q = match tyN (res S t) with
    | some a => n ∈ isiNames ∧ Q (.bl (isiB a n)) S
    | none => False := by
  unfold wp isiT
  dsimp only
  cases tyN (res S t) with
  | none => rfl
  | some a =>
    dsimp only
    by_cases h : n ∈ isiNames
    · rw [if_pos h]; simp [h]
    · rw [if_neg h]; simp [h]
@[simp] theorem isi_mem : "int" ∈ isiNames ∧ "bool" ∈ isiNames ∧ "str" ∈ isiNames ∧ "tuple" ∈ isiNames ∧ "list" ∈ isiNames ∧ "dict" ∈ isiNames := by decide
@[simp] theorem isi_int : "int" ∈ isiNames := by decide
@[simp] theorem isi_bool : "bool" ∈ isiNames := by decide
@[simp] theorem isi_str : "str" ∈ isiNames := by decide
@[simp] theorem isi_tuple : "tuple" ∈ isiNames := by decide
@[simp] theorem isi_list : "list" ∈ isiNames := by decide
@[simp] theorem isi_dict : "dict" ∈ isiNames := by decide
@[simp] theorem tyN_int : tyN (.int i) = some "int" := rfl
@[simp] theorem tyN_str : tyN (.str a) = some "str" := rfl
@[simp] theorem tyN_bl : tyN (.bl p) = some "bool" := rfl
@[simp] theorem tyN_non : tyN .non = some "NoneType" := rfl
@[simp] theorem tyN_tup : tyN (.tup xs) = some "tuple" := rfl
@[simp] theorem tyN_lst : tyN (.lst xs) = some "list" := rfl
@[simp] theorem wp_tru_b : wp (truT (.bl p)) S B = B p S := nr rfl
@[simp] theorem wp_tru_i : wp (truT (.int i)) S B = B (i != 0) S := nr rfl
@[simp] theorem wp_tru_l : wp (truT (.lst xs)) S B = B (!xs.isEmpty) S := nr rfl
@[simp] theorem wp_tru_t : wp (truT (.tup xs)) S B = B (!xs.isEmpty) S := nr rfl
/-! ### subscripts -/
@[simp] theorem atI_0 {α : Type} {x : α} {l : List α} : L2.atI (x :: l) 0 = some x := atI_nat (j := 0) rfl
@[simp] theorem atI_1 {α : Type} {x y : α} {l : List α} : L2.atI (x :: y :: l) 1 = some y := atI_nat (j := 1) rfl
@[simp] theorem atI_2 {α : Type} {x y z : α} {l : List α} : L2.atI (x :: y :: z :: l) 2 = some z := atI_nat (j := 2) rfl
@[simp] theorem wp_ix_t : wp (subT' (.tup xs) (.int i)) S Q = optP (L2.atI xs i) fun t => Q t S := wp_optS (L2.atI xs i) id (fun x e => by unfold subT' ixT; simp only [res, e]; rfl) (fun e => by unfold subT' ixT; simp only [res, e])
theorem wp_ix_r (h : res S t = .lst xs) : wp (subT' t (.int i)) S Q = optP (L2.atI xs i) fun t => Q t S := wp_optS (L2.atI xs i) id (fun x e => by unfold subT' ixT; simp only [h, res_int, e]; rfl) (fun e => by unfold subT' ixT; simp only [h, res_int, e])
@[simp] theorem wp_ix_l : wp (subT' (.lst xs) (.int i)) S Q = optP (L2.atI xs i) fun t => Q t S := wp_ix_r rfl
@[simp] theorem wp_ix_c {ns : List Int} : wp (subT' (.scr ns) (.int i)) S Q = optP (L2.atI ns i) fun n => Q (.int n) S := wp_optS (L2.atI ns i) (fun n => T.int n) (fun x e => by unfold subT' ixT; simp only [res, e]) (fun e => by unfold subT' ixT; simp only [res, e])
theorem wp_ix_s (h : a.length ≤ sizeLine) : wp (subT' (.str a) (.int i)) S Q = optP (L2.atI a.cps.toList i) fun c => Q (.str ⟨#[c]⟩) S := wp_optS (L2.atI a.cps.toList i) (fun c => T.str ⟨#[c]⟩) (fun x e => by unfold subT' ixT; simp only [res, e, if_pos h]) (fun e => by unfold subT' ixT; simp only [res, e, if_pos h])
theorem wp_ix_d {qs : List (T × T)} {k : Key} (hk : keysOk qs = true) (e : keyOf t = some k) : wp (subT' (.dic qs) t) S Q = optP (getD qs k) fun v => Q v S :=
  wp_optS (getD qs k) id (fun x e2 => by unfold subT'; simp only [res, if_pos hk, e, e2]; rfl) (fun e2 => by unfold subT'; simp only [res, if_pos hk, e, e2])
/-! ### changes -/
theorem At.set (h : At S n xs) : At (S.set n (some (.lst ys))) n ys := by
  have hl := (List.getElem?_eq_some_iff.mp h).1
  exact List.getElem?_set_self hl
theorem wp_setT (h : At S n xs) {k : Int} {j : Nat} (hj : ixN xs.length k = some j) {R : Unit → Store → Prop} : wp (setT (.ref n) (.int k) t) S R = R () (S.set n (some (.lst (xs.set j t)))) := by
  refine wp_yes' ?_
  unfold setT
  dsimp only
  rw [show S[n]? = some (some (.lst xs)) from h]
  dsimp only
  rw [hj]
theorem ty_ref (h : At S n xs) : tyMth "list" (res S (.ref n)) = true := by
  rw [res_ref h]
  rfl
theorem wp_append (h : At S n xs) : wp (appendT (.ref n) [t]) S Q = (xs.length < sizeLine ∧ Q .non (S.set n (some (.lst (xs ++ [t]))))) := by
  unfold wp appendT onLst
  dsimp only
  rw [show S[n]? = some (some (.lst xs)) from h]
  dsimp only
  by_cases hl : xs.length < sizeLine
  · rw [if_pos hl]; simp [hl]
  · rw [if_neg hl]; simp [hl]
theorem wp_extend (h : At S n xs) (h2 : res S t = .lst ys) : wp (extendT (.ref n) [t]) S Q = (xs.length + ys.length ≤ sizeLine ∧ Q .non (S.set n (some (.lst (xs ++ ys))))) := by
  unfold wp extendT onLst
  dsimp only
  rw [h2]
  dsimp only
  rw [show S[n]? = some (some (.lst xs)) from h]
  dsimp only
  by_cases hl : xs.length + ys.length ≤ sizeLine
  · rw [if_pos hl]; simp [hl]
  · rw [if_neg hl]; simp [hl]
/-! ### what is walked -/
section
variable {R : Src → Store → Prop}
@[simp] theorem wp_iter_t : wp (iterT (.tup xs)) S R = R ⟨xs, fun _ => True⟩ S := nr rfl
@[simp] theorem wp_iter_l : wp (iterT (.lst xs)) S R = R ⟨xs, fun _ => True⟩ S := nr rfl
theorem wp_iter_r (h : At S n xs) : wp (iterT (.ref n)) S R = R ⟨xs, fun S' => At S' n xs⟩ S := by
  have e : iterT (.ref n) S = .ok ⟨xs, stands (.ref n) xs⟩ S := by unfold iterT; rw [res_ref h]
  exact wp_yes' e
theorem wp_iter_s (h : a.length ≤ sizeLine) : wp (iterT (.str a)) S R = R ⟨signs a, fun _ => True⟩ S := wp_yes' (by show (if a.length ≤ sizeLine then Out.ok (⟨signs a, fun _ => True⟩ : Src) S else .bad) = _; rw [if_pos h])
theorem wp_range1 (h : 0 ≤ i) (h2 : i ≤ 1000000) : wp (range1 [.int i]) S R = R ⟨(List.range i.toNat).map fun (k : Nat) => T.int (k : Int), fun _ => True⟩ S := by
  unfold range1
  dsimp only
  rw [if_pos ⟨by omega, by omega⟩]
  unfold rangeT
  rw [if_pos (by rw [sizeLine_eq]; omega)]
  rw [wp_ret]
  simp only [Int.zero_add]
@[simp] theorem wp_enum_l : wp (enumT [.lst xs]) S R = R ⟨enumL 0 xs, fun _ => True⟩ S := nr rfl
@[simp] theorem wp_enum_t : wp (enumT [.tup xs]) S R = R ⟨enumL 0 xs, fun _ => True⟩ S := nr rfl
theorem wp_enum_r (h : At S n xs) : wp (enumT [.ref n]) S R = R ⟨enumL 0 xs, fun S' => At S' n xs⟩ S := by
  have e : enumT [.ref n] S = .ok ⟨enumL 0 xs, stands (.ref n) xs⟩ S := by unfold enumT; dsimp only; rw [res_ref h]
  exact wp_yes' e
@[simp] theorem wp_zip_l : wp (zipT [.lst xs, .lst ys]) S R = R ⟨zipL xs ys, fun _ => True ∧ True⟩ S := nr rfl
@[simp] theorem wp_zip_t : wp (zipT [.tup xs, .tup ys]) S R = R ⟨zipL xs ys, fun _ => True⟩ S := nr rfl
end
/-! ### sorted, repr, all, any -/
theorem wp_sorted (h : res S t = .lst xs) : wp (sortedT [t]) S Q = (sortOk xs = true ∧ Q (.lst (sortT xs)) S) := by
  unfold wp sortedT
  dsimp only
  rw [h]
  dsimp only
  by_cases hl : sortOk xs = true
  · rw [if_pos hl]; simp [hl]
  · rw [if_neg hl]; simp [hl]
@[simp] theorem wp_sorted_l : wp (sortedT [.lst xs]) S Q = (sortOk xs = true ∧ Q (.lst (sortT xs)) S) := wp_sorted rfl
/-- it can be shown -/
def shows (t : T) : Prop := pureT t = true ∧ (data t).showable = true ∧ (data t).depth ≤ 64 ∧ (data t).shown.length ≤ sizeLine
theorem wp_repr : wp (reprT [t]) S Q = (shows (res S t) ∧ Q (.str (data (res S t)).shown) S) := by
  unfold wp reprT shows
  dsimp only
  by_cases h : pureT (res S t) = true ∧ (data (res S t)).showable = true ∧ (data (res S t)).depth ≤ 64 ∧ (data (res S t)).shown.length ≤ sizeLine
  · rw [if_pos h]; simp [h]
  · rw [if_neg h]; simp only [false_iff, eq_iff_iff]; exact fun z => h z.1
theorem allBl_map {α : Type} (f : α → Bool) : ∀ l : List α, allBl (l.map fun x => T.bl (f x)) = some (l.map f)
  | [] => rfl
  | x :: l => by
    rw [List.map_cons]
    unfold allBl
    rw [allBl_map f l]
    rfl
@[simp] theorem wp_all_map {α : Type} {f : α → Bool} {l : List α} : wp (allT [.lst (l.map fun x => T.bl (f x))]) S Q = Q (.bl (l.all f)) S := by
  unfold wp allT
  dsimp only [res]
  rw [allBl_map]
  simp [List.all_map]
@[simp] theorem wp_any_map {α : Type} {f : α → Bool} {l : List α} : wp (anyT [.lst (l.map fun x => T.bl (f x))]) S Q = Q (.bl (l.any f)) S := by
  unfold wp anyT
  dsimp only [res]
  rw [allBl_map]
  simp [List.any_map]
end
/-! ### calls -/
section
variable {S : Store} {Q : T → Store → Prop} {n : Nat} {b : MS} {x y z u : T}
theorem wp_call1 : wp (arT 1 (fnBody n b) [x]) S Q = wps b (some x :: List.replicate (n - 1) none) S (fun _ S' => Q .non S') Q noK noK := by
  rw [wp_arT (show [x].length = 1 from rfl), wp_fnBody]
  rfl
theorem wp_call2 : wp (arT 2 (fnBody n b) [x, y]) S Q = wps b (some x :: some y :: List.replicate (n - 2) none) S (fun _ S' => Q .non S') Q noK noK := by
  rw [wp_arT (show [x, y].length = 2 from rfl), wp_fnBody]
  rfl
theorem wp_call3 : wp (arT 3 (fnBody n b) [x, y, z]) S Q = wps b (some x :: some y :: some z :: List.replicate (n - 3) none) S (fun _ S' => Q .non S') Q noK noK := by
  rw [wp_arT (show [x, y, z].length = 3 from rfl), wp_fnBody]
  rfl
theorem wp_call4 : wp (arT 4 (fnBody n b) [x, y, z, u]) S Q = wps b (some x :: some y :: some z :: some u :: List.replicate (n - 4) none) S (fun _ S' => Q .non S') Q noK noK := by
  rw [wp_arT (show [x, y, z, u].length = 4 from rfl), wp_fnBody]
  rfl
/-- .. its locals gone -/
abbrev fin' (S : Store) (Q : T → Store → Prop) : T → Store → Prop := fun t S' => Clean S S' ∧ ∃ t', frzTop S' S.length t = some t' ∧ Q t' (S'.take S.length)
theorem wp_callD1 (h : wps b (some x :: List.replicate (n - 1) none) S (fun _ S' => fin' S Q .non S') (fin' S Q) noK noK) : wp (arT 1 (fun ts => fnD (fnBody n b ts)) [x]) S Q := by
  rw [wp_arT (show [x].length = 1 from rfl)]
  refine wp_fnD ?_
  rw [wp_fnBody]
  exact h
theorem wp_callD2 (h : wps b (some x :: some y :: List.replicate (n - 2) none) S (fun _ S' => fin' S Q .non S') (fin' S Q) noK noK) : wp (arT 2 (fun ts => fnD (fnBody n b ts)) [x, y]) S Q := by
  rw [wp_arT (show [x, y].length = 2 from rfl)]
  refine wp_fnD ?_
  rw [wp_fnBody]
  exact h
theorem wp_callD3 (h : wps b (some x :: some y :: some z :: List.replicate (n - 3) none) S (fun _ S' => fin' S Q .non S') (fin' S Q) noK noK) : wp (arT 3 (fun ts => fnD (fnBody n b ts)) [x, y, z]) S Q := by
  rw [wp_arT (show [x, y, z].length = 3 from rfl)]
  refine wp_fnD ?_
  rw [wp_fnBody]
  exact h
end
end Fw
set_option Elab.async false
set_option linter.all false
set_option maxRecDepth 100000
/-! FwData: data that stand for plain values: ==, in, sorted, repr. -/
namespace Fw
open PySem PySem.Spec PyProof.Rows L2

mutual
/-- data of that depth at most, texts in order -/
def okT : Nat → T → Bool
  | _, .non => true
  | _, .bl _ => true
  | _, .int _ => true
  | _, .str x => PyData.strOk x
  | 0, .tup _ => false
  | d + 1, .tup ts => okAll d ts
  | 0, .lst _ => false
  | d + 1, .lst ts => okAll d ts
  | _, _ => false
def okAll : Nat → List T → Bool
  | _, [] => true
  | d, t :: ts => okT d t && okAll d ts
end
theorem okAll_all (d : Nat) : ∀ ts : List T, okAll d ts = ts.all (okT d)
  | [] => rfl
  | t :: ts => by rw [okAll, okAll_all d ts]; rfl
mutual
theorem okT_data : ∀ (d : Nat) (t : T), okT d t = true → pureT t = true ∧ (data t).canLay0 = true ∧ (data t).depth ≤ d
  | d, .non, _ => ⟨by simp [pureT], by simp [data, PyData.canLay0], by simp [data, PyData.depth]⟩
  | d, .bl b, _ => ⟨by simp [pureT], by simp [data, PyData.canLay0], by simp [data, PyData.depth]⟩
  | d, .int i, _ => ⟨by simp [pureT], by simp [data, PyData.canLay0], by simp [data, PyData.depth]⟩
  | d, .str x, h => ⟨by simp [pureT], by simpa [data, PyData.canLay0, okT] using h, by simp [data, PyData.depth]⟩
  | 0, .tup ts, h => by simp [okT] at h
  | d + 1, .tup ts, h => by
    have q := okAll_data d ts (by simpa [okT] using h)
    exact ⟨by simpa [pureT] using q.1, by simpa [data, PyData.canLay0] using q.2.1, by simp only [data, PyData.depth]; omega⟩
  | 0, .lst ts, h => by simp [okT] at h
  | d + 1, .lst ts, h => by
    have q := okAll_data d ts (by simpa [okT] using h)
    exact ⟨by simpa [pureT] using q.1, by simpa [data, PyData.canLay0] using q.2.1, by simp only [data, PyData.depth]; omega⟩
  | d, .dic _, h => by simp [okT] at h
  | d, .ref _, h => by simp [okT] at h
  | d, .ty _, h => by simp [okT] at h
  | d, .own _, h => by simp [okT] at h
  | d, .obj _ _, h => by simp [okT] at h
  | d, .scr _, h => by simp [okT] at h
theorem okAll_data : ∀ (d : Nat) (ts : List T), okAll d ts = true → pureAll ts = true ∧ PyData.canLayAll0 (dataAll ts) = true ∧ PyData.depthAll (dataAll ts) ≤ d
  | d, [], _ => ⟨rfl, by simp [dataAll, PyData.canLayAll0], by simp [dataAll, PyData.depthAll]⟩
  | d, t :: ts, h => by
    rw [okAll, Bool.and_eq_true] at h
    have q1 := okT_data d t h.1
    have q2 := okAll_data d ts h.2
    refine ⟨by rw [pureAll, q1.1, q2.1]; rfl, by rw [dataAll, PyData.canLayAll0, q1.2.1, q2.2.1]; rfl, ?_⟩
    rw [dataAll, PyData.depthAll]
    omega
end
theorem okT_shp {d : Nat} {t : T} (h : okT d t = true) (hd : d ≤ 64) : shp t = true := by
  obtain ⟨h1, h2, h3⟩ := okT_data d t h
  unfold shp SeqAt.shaped
  rw [h1, h2, decide_eq_true (by omega)]
  rfl
theorem okT_res {d : Nat} {t : T} {S : Store} (h : okT d t = true) : res S t = t := by
  cases t <;> first | rfl | (simp [okT] at h)
theorem okT_noRef {d : Nat} {t : T} (h : okT d t = true) (n : Nat) : lowT n t = true := by
  have key : ∀ (d : Nat), (∀ t : T, okT d t = true → lowT n t = true) ∧ (∀ ts : List T, okAll d ts = true → lowAll n ts = true) := by
    intro d
    induction d with
    | zero =>
      have a : ∀ t : T, okT 0 t = true → lowT n t = true := fun t h => by cases t <;> simp_all [okT, lowT]
      refine ⟨a, fun ts => ?_⟩
      induction ts with
      | nil => exact fun _ => rfl
      | cons t ts ih =>
        intro h
        rw [okAll, Bool.and_eq_true] at h
        rw [lowAll, a t h.1, ih h.2]
        rfl
    | succ d ih =>
      have a : ∀ t : T, okT (d + 1) t = true → lowT n t = true := fun t h => by
        cases t <;> first | (simp [okT] at h; done) | (simp [lowT]; done) | skip
        · rw [okT] at h; rw [lowT]; exact ih.2 _ h
        · rw [okT] at h; rw [lowT]; exact ih.2 _ h
      refine ⟨a, fun ts => ?_⟩
      induction ts with
      | nil => exact fun _ => rfl
      | cons t ts ih =>
        intro h
        rw [okAll, Bool.and_eq_true] at h
        rw [lowAll, a t h.1, ih h.2]
        rfl
  exact (key d).1 t h
theorem scl_eqv {t u : T} {b : Bool} (h : sclT t u = some b) : PyData.eqv (data t) (data u) = b := by
  unfold sclT at h
  split at h <;> cases h
  · simp only [data, PyData.eqv]; rw [Bool.eq_iff_iff]; simp
  · simp only [data, PyData.eqv]; rw [Bool.eq_iff_iff]; simp
  · simp only [data, PyData.eqv]; rw [Bool.eq_iff_iff]; simp
  · simp only [data, PyData.eqv]
section
variable {S : Store} {Q : T → Store → Prop} {t u : T}
theorem wp_eq_ok (h1 : okT 64 t = true) (h2 : okT 64 u = true) : wp (eqT t u) S Q = Q (.bl (PyData.eqv (data t) (data u))) S := by
  have e1 := okT_res (S := S) h1
  have e2 := okT_res (S := S) h2
  cases e : sclT t u with
  | some b =>
    refine wp_yes' ?_
    unfold eqT
    rw [e1, e2, e]
    rw [scl_eqv e]
  | none =>
    rw [wp_eq_data (by rw [e1, e2]; exact e), e1, e2]
    simp [okT_shp h1 (by decide), okT_shp h2 (by decide)]
theorem wp_ne_ok (h1 : okT 64 t = true) (h2 : okT 64 u = true) : wp (neT t u) S Q = Q (.bl (!PyData.eqv (data t) (data u))) S := by
  have e1 := okT_res (S := S) h1
  have e2 := okT_res (S := S) h2
  cases e : sclT t u with
  | some b =>
    refine wp_yes' ?_
    unfold neT
    rw [e1, e2, e]
    rw [scl_eqv e]
  | none =>
    rw [wp_ne_data (by rw [e1, e2]; exact e), e1, e2]
    simp [okT_shp h1 (by decide), okT_shp h2 (by decide)]
theorem wp_mem_t {ts : List T} {neg : Bool} (h1 : okT 64 t = true) (h2 : okT 64 (.tup ts) = true) : wp (memT neg t (.tup ts)) S Q = Q (.bl (neg ^^ ts.any fun z => PyData.eqv (data z) (data t))) S := by
  have e1 := okT_res (S := S) h1
  refine wp_yes' ?_
  show inT neg t (.tup ts) S = _
  have c : shp t = true ∧ shp (.tup ts) = true := ⟨okT_shp h1 (by decide), okT_shp h2 (by decide)⟩
  have q : inT neg t (.tup ts) S = if shp (res S t) = true ∧ shp (.tup ts) = true then .ok (.bl (neg ^^ (ts.any fun z => PyData.eqv (data z) (data (res S t))))) S else .bad := by
    unfold inT
    rw [res_tupl]
    cases res S t <;> rfl
  rw [q, e1, if_pos c]
theorem wp_mem_l {ts : List T} {x : T} {neg : Bool} (e : res S x = .lst ts) (h1 : okT 64 t = true) (h2 : okT 64 (.lst ts) = true) : wp (memT neg t x) S Q = Q (.bl (neg ^^ ts.any fun z => PyData.eqv (data z) (data t))) S := by
  have e1 := okT_res (S := S) h1
  refine wp_yes' ?_
  have c : shp t = true ∧ shp (.lst ts) = true := ⟨okT_shp h1 (by decide), okT_shp h2 (by decide)⟩
  have q : memT neg t x S = if shp (res S t) = true ∧ shp (.lst ts) = true then .ok (.bl (neg ^^ (ts.any fun z => PyData.eqv (data z) (data (res S t))))) S else .bad := by
    unfold memT
    rw [e]
    dsimp only
    unfold inT
    rw [e]
    cases res S t <;> rfl
  rw [q, e1, if_pos c]
end

/-! ### plain values as data -/
/-- f makes data of the values that are P: equal ones of equal values -/
structure Enc {α : Type} [DecidableEq α] (f : α → T) (P : α → Prop) (d : Nat) : Prop where
  ok : ∀ x, P x → okT d (f x) = true
  eq : ∀ x y, PyData.eqv (data (f x)) (data (f y)) = decide (x = y)
section
variable {α β : Type} [DecidableEq α] [DecidableEq β] {f : α → T} {g : β → T} {P : α → Prop} {R : β → Prop} {d : Nat}
theorem enc_int : Enc T.int (fun _ => True) 0 := ⟨fun x _ => by simp [okT], fun x y => by simp only [data, PyData.eqv]; rw [Bool.eq_iff_iff]; simp⟩
theorem enc_str : Enc T.str (fun x => PyData.strOk x = true) 0 := ⟨fun x h => by simpa [okT] using h, fun x y => by simp only [data, PyData.eqv]; rw [Bool.eq_iff_iff]; simp⟩
theorem okT_mono : ∀ {d d' : Nat} (t : T), d ≤ d' → okT d t = true → okT d' t = true := by
  have key : ∀ (d : Nat), (∀ (t : T) (d' : Nat), d ≤ d' → okT d t = true → okT d' t = true) ∧ (∀ (ts : List T) (d' : Nat), d ≤ d' → okAll d ts = true → okAll d' ts = true) := by
    intro d
    induction d with
    | zero =>
      have a : ∀ (t : T) (d' : Nat), 0 ≤ d' → okT 0 t = true → okT d' t = true := fun t d' _ h => by cases t <;> first | (simp [okT] at h; done) | (simp [okT]; done) | (simpa [okT] using h)
      refine ⟨a, fun ts => ?_⟩
      induction ts with
      | nil => intro d' _ _; rfl
      | cons t ts ih =>
        intro d' hd h
        rw [okAll, Bool.and_eq_true] at h ⊢
        exact ⟨a t d' hd h.1, ih d' hd h.2⟩
    | succ d ih =>
      have a : ∀ (t : T) (d' : Nat), d + 1 ≤ d' → okT (d + 1) t = true → okT d' t = true := fun t d' hd h => by
        obtain ⟨e, rfl⟩ : ∃ e, d' = e + 1 := ⟨d' - 1, by omega⟩
        cases t <;> first | (simp [okT] at h; done) | (simp [okT]; done) | skip
        · simpa [okT] using h
        · rw [okT] at h ⊢; exact ih.2 _ e (by omega) h
        · rw [okT] at h ⊢; exact ih.2 _ e (by omega) h
      refine ⟨a, fun ts => ?_⟩
      induction ts with
      | nil => intro d' _ _; rfl
      | cons t ts ih2 =>
        intro d' hd h
        rw [okAll, Bool.and_eq_true] at h ⊢
        exact ⟨a t d' hd h.1, ih2 d' hd h.2⟩
  exact fun {d d'} t hd h => (key d).1 t d' hd h
theorem Enc.mono (E : Enc f P d) {d' : Nat} (h : d ≤ d') : Enc f P d' := ⟨fun x hx => okT_mono _ h (E.ok x hx), E.eq⟩
theorem Enc.weak (E : Enc f P d) {P' : α → Prop} (h : ∀ x, P' x → P x) : Enc f P' d := ⟨fun x hx => E.ok x (h x hx), E.eq⟩
theorem Enc.okAll (E : Enc f P d) {xs : List α} (h : ∀ x ∈ xs, P x) : Fw.okAll d (xs.map f) = true := by
  rw [okAll_all, List.all_map, List.all_eq_true]
  exact fun x hx => E.ok x (h x hx)
theorem Enc.eqAll (E : Enc f P d) : ∀ xs ys : List α, PyData.eqvAll (dataAll (xs.map f)) (dataAll (ys.map f)) = decide (xs = ys)
  | [], [] => by simp [dataAll, PyData.eqvAll]
  | [], y :: ys => by simp [dataAll, PyData.eqvAll]
  | x :: xs, [] => by simp [dataAll, PyData.eqvAll]
  | x :: xs, y :: ys => by
    rw [List.map_cons, List.map_cons, dataAll, dataAll, PyData.eqvAll, E.eq, E.eqAll xs ys, Bool.eq_iff_iff]
    simp
theorem Enc.tup (E : Enc f P d) : Enc (fun xs : List α => T.tup (xs.map f)) (fun xs => ∀ x ∈ xs, P x) (d + 1) :=
  ⟨fun xs h => by rw [okT]; exact E.okAll h, fun xs ys => by simp only [data, PyData.eqv]; exact E.eqAll xs ys⟩
theorem Enc.lst (E : Enc f P d) : Enc (fun xs : List α => T.lst (xs.map f)) (fun xs => ∀ x ∈ xs, P x) (d + 1) :=
  ⟨fun xs h => by rw [okT]; exact E.okAll h, fun xs ys => by simp only [data, PyData.eqv]; exact E.eqAll xs ys⟩
theorem Enc.pair (E : Enc f P d) (F : Enc g R d) : Enc (fun p : α × β => T.tup [f p.1, g p.2]) (fun p => P p.1 ∧ R p.2) (d + 1) := by
  refine ⟨fun p h => ?_, fun p q => ?_⟩
  · rw [okT, Fw.okAll, Fw.okAll, Fw.okAll, E.ok _ h.1, F.ok _ h.2]
    rfl
  · simp only [data, dataAll, PyData.eqv, PyData.eqvAll, E.eq, F.eq]
    rw [Bool.eq_iff_iff]
    simp [Prod.ext_iff]
theorem Enc.any (E : Enc f P d) (x : α) : ∀ ys : List α, ((ys.map f).any fun z => PyData.eqv (data z) (data (f x))) = decide (x ∈ ys)
  | [] => by simp
  | y :: ys => by
    rw [List.map_cons, List.any_cons, E.eq, E.any x ys, Bool.eq_iff_iff, Bool.or_eq_true, decide_eq_true_eq, decide_eq_true_eq, decide_eq_true_eq, List.mem_cons]
    exact ⟨fun h => h.imp Eq.symm id, fun h => h.imp Eq.symm id⟩
variable {S : Store} {Q : T → Store → Prop}
theorem dec_same {p : Prop} (i j : Decidable p) : @decide p i = @decide p j := by
  cases Subsingleton.elim i j
  rfl
theorem Enc.wp_eq (E : Enc f P d) (hd : d ≤ 64) {x y : α} [i : Decidable (x = y)] (hx : P x) (hy : P y) : wp (eqT (f x) (f y)) S Q = Q (.bl (@decide (x = y) i)) S := by
  rw [wp_eq_ok (okT_mono _ hd (E.ok x hx)) (okT_mono _ hd (E.ok y hy)), E.eq, dec_same _ i]
theorem Enc.wp_ne (E : Enc f P d) (hd : d ≤ 64) {x y : α} [i : Decidable (x = y)] (hx : P x) (hy : P y) : wp (neT (f x) (f y)) S Q = Q (.bl (!@decide (x = y) i)) S := by
  rw [wp_ne_ok (okT_mono _ hd (E.ok x hx)) (okT_mono _ hd (E.ok y hy)), E.eq, dec_same _ i]
theorem Enc.wp_mem (E : Enc f P d) (hd : d + 1 ≤ 64) {x : α} {ys : List α} [i : Decidable (x ∈ ys)] {neg : Bool} (hx : P x) (hy : ∀ y ∈ ys, P y) : wp (memT neg (f x) (.tup (ys.map f))) S Q = Q (.bl (neg ^^ @decide (x ∈ ys) i)) S := by
  rw [wp_mem_t (okT_mono _ (by omega) (E.ok x hx)) (okT_mono _ hd (by rw [okT]; exact E.okAll hy)), E.any, dec_same _ i]
theorem Enc.wp_memL (E : Enc f P d) (hd : d + 1 ≤ 64) {x : α} {ys : List α} [i : Decidable (x ∈ ys)] {neg : Bool} {t : T} (e : res S t = .lst (ys.map f)) (hx : P x) (hy : ∀ y ∈ ys, P y) : wp (memT neg (f x) t) S Q = Q (.bl (neg ^^ @decide (x ∈ ys) i)) S := by
  rw [wp_mem_l e (okT_mono _ (by omega) (E.ok x hx)) (okT_mono _ hd (by rw [okT]; exact E.okAll hy)), E.any, dec_same _ i]
end
/-! ### order -/
/-- .. and lt is Python's order of them -/
structure Ordd {α : Type} (f : α → T) (lt : α → α → Bool) : Prop where
  alike : ∀ x y, PySem.W.alike (data (f x)) (data (f y)) = true
  lt : ∀ x y, PySem.W.dataLt (data (f x)) (data (f y)) = lt x y
def ltStr (x y : Str) : Bool := decide (x.cps.toList < y.cps.toList)
def ltInts (x y : List Int) : Bool := decide (x < y)
theorem ord_int : Ordd T.int fun x y => decide (x < y) := ⟨fun x y => by simp [data, PySem.W.alike], fun x y => by simp only [data]; exact PySem.W.dataLt_int x y⟩
theorem ord_str : Ordd T.str ltStr := ⟨fun x y => by simp [data, PySem.W.alike], fun x y => by simp only [data]; exact PySem.W.dataLt_str x y⟩
theorem data_ints : ∀ xs : List Int, dataAll (xs.map T.int) = xs.map PyData.int
  | [] => rfl
  | x :: xs => by rw [List.map_cons, dataAll, data_ints xs]; rfl
theorem ord_ints : Ordd (fun xs : List Int => T.tup (xs.map T.int)) ltInts := by
  refine ⟨fun x y => ?_, fun x y => ?_⟩
  · simp only [data, data_ints, PySem.W.alike]
    exact PySem.W.alike_ints x y
  · simp only [data, data_ints]
    rw [PySem.W.dataLt_tuple]
    exact PySem.W.dataLt_ints x y
section
variable {α β : Type} {f : α → T} {g : β → T} {lt : α → α → Bool} {lt2 : β → β → Bool}
theorem Ordd.pair [DecidableEq α] [DecidableEq β] {P : α → Prop} {R : β → Prop} {d : Nat} (O : Ordd f lt) (E : Enc f P d) (O2 : Ordd g lt2) (E2 : Enc g R d) (irr : ∀ x, lt2 x x = false) : Ordd (fun p : α × β => T.tup [f p.1, g p.2]) fun p q => if p.1 = q.1 then lt2 p.2 q.2 else lt p.1 q.1 := by
  refine ⟨fun p q => ?_, fun p q => ?_⟩
  · simp only [data, dataAll, PySem.W.alike, PySem.W.alikeAll, O.alike, O2.alike]
    rfl
  · simp only [data, dataAll]
    rw [PySem.W.dataLt_pair (O.alike _ _) (O2.alike _ _), E.eq, E2.eq, O.lt, O2.lt]
    by_cases h : p.1 = q.1
    · rw [if_pos (decide_eq_true h), if_pos h]
      by_cases h2 : p.2 = q.2
      · rw [if_pos (decide_eq_true h2), h2, irr]
      · rw [if_neg (by simpa using h2)]
    · rw [if_neg (by simpa using h), if_neg h]
def leOf (lt : α → α → Bool) (x y : α) : Bool := !lt y x
theorem Ordd.le (O : Ordd f lt) (x y : α) : leT' (f x) (f y) = leOf lt x y := by
  show (!PySem.W.dataLt (data (f y)) (data (f x))) = _
  rw [O.lt]
  rfl
theorem Ordd.sort (O : Ordd f lt) (xs : List α) : sortT (xs.map f) = (xs.mergeSort (leOf lt)).map f := by
  unfold sortT
  exact (PySem.W.sort_maps f fun a _ b _ => (O.le a b).symm).symm
theorem sortOk_of {d : Nat} {ts : List T} (h1 : okAll d ts = true) (hd : d ≤ 64) (h2 : alikeAllB ts = true) (h3 : (ts.all isTupC || ts.all isFlat) = true) : sortOk ts = true := by
  unfold sortOk
  rw [(okAll_data d ts h1).1, h2, h3]
  simp only [Bool.true_and, List.all_eq_true, decide_eq_true_eq]
  intro t ht
  rw [okAll_all, List.all_eq_true] at h1
  have := (okT_data d t (h1 t ht)).2.2
  omega
theorem Ordd.alikeB (O : Ordd f lt) (xs : List α) : alikeAllB (xs.map f) = true := by
  unfold alikeAllB
  rw [List.all_eq_true]
  intro a ha
  rw [List.all_eq_true]
  intro b hb
  obtain ⟨x, _, rfl⟩ := List.mem_map.1 ha
  obtain ⟨y, _, rfl⟩ := List.mem_map.1 hb
  exact O.alike x y
theorem Ordd.wp_sorted [DecidableEq α] {P : α → Prop} {d : Nat} (O : Ordd f lt) (E : Enc f P d) (hd : d ≤ 64) {xs : List α} (hx : ∀ x ∈ xs, P x) (hk : (∀ x ∈ xs, isTupC (f x) = true) ∨ ∀ x ∈ xs, isFlat (f x) = true) {S : Store} {Q : T → Store → Prop} {t : T} (e : res S t = .lst (xs.map f)) :
    wp (sortedT [t]) S Q = Q (.lst ((xs.mergeSort (leOf lt)).map f)) S := by
  have ok : sortOk (xs.map f) = true := sortOk_of (E.okAll hx) hd (O.alikeB xs) (by
    rcases hk with h | h
    · rw [show (xs.map f).all isTupC = true by rw [List.all_map, List.all_eq_true]; exact h]; rfl
    · rw [show (xs.map f).all isFlat = true by rw [List.all_map, List.all_eq_true]; exact h, Bool.or_true])
  rw [Fw.wp_sorted e, ok, O.sort]
  simp
end
end Fw
set_option Elab.async false
set_option linter.all false
set_option maxRecDepth 100000
/-! FwData2: slices, texts, loops that count, ascending lists. -/
namespace Fw
open PySem PySem.Spec PyProof.Rows L2
theorem cutL_from {α : Type} (xs : List α) (k : Nat) : cutL xs (some (k : Int)) none = xs.drop k := by
  unfold cutL
  rw [HT.sIx_nat, HT.sIx_none]
  rcases Nat.le_total k xs.length with h | h
  · rw [Nat.min_eq_left h]
    exact List.take_of_length_le (by simp)
  · rw [Nat.min_eq_right h]
    simp [List.drop_of_length_le h]
theorem cutL_to {α : Type} (xs : List α) (k : Nat) : cutL xs none (some (k : Int)) = xs.take k := by
  unfold cutL
  rw [HT.sIx_nat, HT.sIx_none]
  simp [List.take_eq_take_iff]
theorem cutS_cutL (z : Str) (lo hi : Option Int) : cutS z lo hi = ⟨(cutL z.cps.toList lo hi).toArray⟩ := by
  unfold cutS cutL
  rw [show z.length = z.cps.toList.length from (Array.length_toList).symm]
section
variable {S : Store} {Q : T → Store → Prop} {t u : T} {lo hi : Option Int} {xs : List T} {a b : Str}
@[simp] theorem wp_cut_t : wp (cutT (.tup xs) lo hi) S Q = Q (.tup (cutL xs lo hi)) S := nr rfl
@[simp] theorem wp_cut_l : wp (cutT (.lst xs) lo hi) S Q = Q (.lst (cutL xs lo hi)) S := nr rfl
theorem wp_cut_r (h : res S t = .lst xs) : wp (cutT t lo hi) S Q = Q (.lst (cutL xs lo hi)) S := wp_yes' (by unfold cutT; rw [h])
theorem wp_cut_s (h : a.length ≤ sizeLine) : wp (cutT (.str a) lo hi) S Q = Q (.str (cutS a lo hi)) S := wp_yes' (by unfold cutT; simp only [res_str]; rw [if_pos h])
@[simp] theorem wp_in_ss {neg : Bool} : wp (memT neg (.str a) (.str b)) S Q = Q (.bl (neg ^^ !(Builtin.Str.occurrences b a 0 b.length 1).isEmpty)) S := nr rfl
end
section
variable {S : Store} {τ : Slots} {chk : Store → Prop} {own : List Nat} {g : Tg} {c : Slots → M Bool} {e : Slots → M T} {A : List T → Store → Prop}
/-- by an invariant: some of the items, each by f -/
theorem wp_lc_inv {β : Type} {enc : β → T} {f : β → T} (I : Nat → Store → Prop) : ∀ (xs : List β) (k : Nat) (S : Store) (A : List T → Store → Prop), I k S → (∀ i S, I i S → chk S) →
    (∀ i (h : i < xs.length) S, I (k + i) S → wp (g (enc xs[i]) (wipeT τ own)) S fun τ1 S1 => wp (c τ1) S1 fun b S2 => if b = true then wp (e τ1) S2 fun y S3 => y = f xs[i] ∧ I (k + i + 1) S3 else I (k + i + 1) S2) →
    (∀ zs : List β, zs.Sublist xs → ∀ S, I (k + xs.length) S → A (zs.map f) S) → wp (lcLoop chk own g c e τ (xs.map enc)) S A
  | [], k, S, A, h0, hc, hs, hd => by
    rw [List.map_nil, wp_lc_nil]
    exact ⟨hc k S h0, hd [] (List.Sublist.refl _) S h0⟩
  | x :: xs, k, S, A, h0, hc, hs, hd => by
    rw [List.map_cons, wp_lc_cons]
    have next : ∀ (S2 : Store) (B : List T → Store → Prop), I (k + 1) S2 → (∀ zs : List β, zs.Sublist xs → ∀ S, I (k + 1 + xs.length) S → B (zs.map f) S) → wp (lcLoop chk own g c e τ (xs.map enc)) S2 B := fun S2 B h2 hB => by
      refine wp_lc_inv I xs (k + 1) S2 B h2 hc (fun i hi S h => ?_) hB
      have q := hs (i + 1) (by simp; omega) S (by
        have e : k + (i + 1) = k + 1 + i := by omega
        rw [e]; exact h)
      have e : k + (i + 1) + 1 = k + 1 + i + 1 := by omega
      rw [e] at q
      exact q
    have len : k + (x :: xs).length = k + 1 + xs.length := by simp; omega
    rw [len] at hd
    refine ⟨hc k S h0, wp_mono (hs 0 (by simp) S h0) fun τ1 S1 h1 => wp_mono h1 fun b S2 h2 => ?_⟩
    cases b with
    | true =>
      rw [if_pos rfl] at h2 ⊢
      refine wp_mono h2 fun y S3 ⟨ey, h3⟩ => next S3 _ h3 fun zs hz S' h' => ?_
      rw [ey, show f (x :: xs)[0] :: zs.map f = (x :: zs).map f from rfl]
      exact hd (x :: zs) (hz.cons₂ x) S' h'
    | false =>
      rw [if_neg (by decide)] at h2 ⊢
      exact next S2 _ h2 fun zs hz S' h' => hd zs (hz.cons x) S' h'
end
/-! ### ascending -/
def asc {α : Type} (lt : α → α → Bool) : List α → Bool
  | [] => true
  | [_] => true
  | x :: y :: r => lt x y && asc lt (y :: r)
theorem asc_of_pairwise {α : Type} {lt : α → α → Bool} : ∀ {xs : List α}, xs.Pairwise (fun x y => lt x y = true) → asc lt xs = true
  | [], _ => rfl
  | [_], _ => rfl
  | x :: y :: r, h => by
    rw [List.pairwise_cons] at h
    rw [asc, h.1 y (List.mem_cons_self ..), asc_of_pairwise h.2]
    rfl
def adj {α : Type} : List α → List (α × α)
  | [] => []
  | [_] => []
  | x :: y :: r => (x, y) :: adj (y :: r)
theorem adj_all {α : Type} {lt : α → α → Bool} : ∀ xs : List α, ((adj xs).all fun p => lt p.1 p.2) = asc lt xs
  | [] => rfl
  | [_] => rfl
  | x :: y :: r => by rw [adj, List.all_cons, adj_all (y :: r)]; rfl
theorem zipL_adj {α : Type} (f : α → T) : ∀ xs : List α, zipL (xs.map f) ((xs.map f).drop 1) = (adj xs).map fun p => .tup [f p.1, f p.2]
  | [] => rfl
  | [_] => rfl
  | x :: y :: r => by
    have q := zipL_adj f (y :: r)
    simp only [List.map_cons, List.drop_succ_cons, List.drop_zero, zipL, adj] at q ⊢
    rw [q]
theorem adj_mem {α : Type} : ∀ {xs : List α} {p : α × α}, p ∈ adj xs → p.1 ∈ xs ∧ p.2 ∈ xs
  | [], p, h => by simp [adj] at h
  | [_], p, h => by simp [adj] at h
  | x :: y :: r, p, h => by
    rw [adj, List.mem_cons] at h
    rcases h with rfl | h
    · simp
    · have := adj_mem h
      exact ⟨List.mem_cons_of_mem _ this.1, List.mem_cons_of_mem _ this.2⟩
theorem filter_true {α : Type} (xs : List α) : xs.filter (fun _ => true) = xs := by simp
end Fw
set_option Elab.async false
set_option linter.all false
set_option maxRecDepth 100000
/-! FwData3: comprehensions of dicts, two fors, generators. -/
namespace Fw
open PySem PySem.Spec PyProof.Rows L2
/-! ### dicts -/
theorem putD_new {qs : List (T × T)} {k : Key} {t : T} (h : ∀ q ∈ qs, isKey k q.1 = false) : putD qs k t = qs ++ [(keyT k, t)] := by
  unfold putD
  rw [if_neg]
  rw [List.any_eq_true]
  exact fun ⟨q, hq, e⟩ => by rw [h q hq] at e; cases e
theorem keyOf_keyT (k : Key) : keyOf (keyT k) = some k := by cases k <;> rfl
section
variable {β : Type} {kf : β → Key} {vf : β → T}
def dicL (kf : β → Key) (vf : β → T) (xs : List β) : List (T × T) := xs.map fun x => (keyT (kf x), vf x)
theorem dicL_ok (xs : List β) : keysOk (dicL kf vf xs) = true := by
  unfold keysOk dicL
  rw [List.all_map, List.all_eq_true]
  intro x _
  simp [keyOf_keyT]
theorem getD_dicL : ∀ {xs : List β}, (xs.map kf).Nodup → ∀ {x : β}, x ∈ xs → getD (dicL kf vf xs) (kf x) = some (vf x)
  | [], _, x, h => by simp at h
  | y :: ys, hn, x, h => by
    rw [List.map_cons, List.nodup_cons] at hn
    unfold getD dicL
    rw [List.map_cons, List.find?_cons]
    dsimp only
    rw [isKey_keyT]
    by_cases e : kf y = kf x
    · rw [decide_eq_true e]
      rcases List.mem_cons.1 h with rfl | h'
      · rfl
      · exact absurd (List.mem_map_of_mem h') (e ▸ hn.1)
    · rw [decide_eq_false e]
      have h' : x ∈ ys := by
        rcases List.mem_cons.1 h with rfl | h'
        · exact absurd rfl e
        · exact h'
      exact getD_dicL hn.2 h'
theorem getD_dicL_none : ∀ {xs : List β} {k : Key}, k ∉ xs.map kf → getD (dicL kf vf xs) k = none
  | [], k, _ => rfl
  | y :: ys, k, h => by
    rw [List.map_cons, List.mem_cons, not_or] at h
    unfold getD dicL
    rw [List.map_cons, List.find?_cons]
    dsimp only
    rw [isKey_keyT, decide_eq_false (Ne.symm h.1)]
    exact getD_dicL_none h.2
variable {S : Store} {τ : Slots} {chk : Store → Prop} {own : List Nat} {g : Tg} {c : Slots → M Bool} {ek ev : Slots → M T}
theorem wp_dc_nil {acc : List (T × T)} {A : List (T × T) → Store → Prop} : wp (dcLoop chk own g c ek ev τ acc []) S A = (chk S ∧ A acc S) := by unfold dcLoop; simp
theorem wp_dc_cons {acc : List (T × T)} {t : T} {ts : List T} {A : List (T × T) → Store → Prop} : wp (dcLoop chk own g c ek ev τ acc (t :: ts)) S A = (chk S ∧ wp (g t (wipeT τ own)) S fun τ1 S1 => wp (c τ1) S1 fun b S2 => if b = true then wp (ek τ1) S2 fun y S3 => wp (ev τ1) S3 fun z S4 => optP (keyOf y) (fun k => wp (dcLoop chk own g c ek ev τ (putD acc k z) ts) S4 A) else wp (dcLoop chk own g c ek ev τ acc ts) S2 A) := by
  rw [dcLoop]
  simp only [wp_bnd, wp_noX, wp_guardS, wp_ite]
  congr 1
  congr 1
  funext τ1 S1
  congr 1
  funext b S2
  congr 1
  congr 1
  funext y S3
  congr 1
  funext z S4
  cases keyOf y <;> rfl
theorem wp_eDc {fr : Bool} {it : Slots → M Src} {Q : T → Store → Prop} : wp (eDc fr it own g c ek ev τ) S Q = wp (it τ) S fun src S1 => wp (dcLoop src.chk own g c ek ev τ [] src.items) S1 fun ys S2 => wp (dcFin fr ys) S2 Q := by unfold eDc; simp
@[simp] theorem wp_dcFinF {ys : List (T × T)} {Q : T → Store → Prop} : wp (dcFin false ys) S Q = Q (.dic ys) S := nr rfl
@[simp] theorem wp_dcFinT {ys : List (T × T)} {Q : T → Store → Prop} : wp (dcFin true ys) S Q = Q (.ref S.length) (S ++ [some (.dic ys)]) := nr rfl
/-- over items that stand for xs, keys all different, nothing but values -/
theorem wp_dc_pure {enc : β → T} : ∀ (xs pre : List β), ((pre ++ xs).map kf).Nodup → chk S → (∀ x ∈ xs, ∀ Q : T → T → Prop, Q (keyT (kf x)) (vf x) → wp (g (enc x) (wipeT τ own)) S fun τ1 S1 => S1 = S ∧ wp (c τ1) S fun b S2 => b = true ∧ S2 = S ∧ wp (ek τ1) S fun y S3 => S3 = S ∧ wp (ev τ1) S fun z S4 => S4 = S ∧ Q y z) →
    ∀ A : List (T × T) → Store → Prop, A (dicL kf vf (pre ++ xs)) S → wp (dcLoop chk own g c ek ev τ (dicL kf vf pre) (xs.map enc)) S A
  | [], pre, hn, hc, _, A, h => by
    rw [List.append_nil] at h
    rw [List.map_nil, wp_dc_nil]
    exact ⟨hc, h⟩
  | x :: xs, pre, hn, hc, hs, A, h => by
    rw [List.map_cons, wp_dc_cons]
    have eq : pre ++ x :: xs = (pre ++ [x]) ++ xs := by simp
    rw [eq] at h
    refine ⟨hc, wp_mono (hs x (List.mem_cons_self ..) (fun y z => y = keyT (kf x) ∧ z = vf x) ⟨rfl, rfl⟩) fun τ1 S1 ⟨e1, h1⟩ => ?_⟩
    rw [e1]
    refine wp_mono h1 fun b S2 ⟨e2, e3, h2⟩ => ?_
    rw [e3, if_pos e2]
    refine wp_mono h2 fun y S3 ⟨e4, h3⟩ => ?_
    rw [e4]
    refine wp_mono h3 fun z S4 ⟨e5, e6, e7⟩ => ?_
    rw [e5, e6, e7, keyOf_keyT, optP_some, putD_new, show dicL kf vf pre ++ [(keyT (kf x), vf x)] = dicL kf vf (pre ++ [x]) by simp [dicL]]
    · exact wp_dc_pure xs (pre ++ [x]) (by rw [← eq]; exact hn) hc (fun y hy => hs y (List.mem_cons_of_mem _ hy)) A h
    · intro q hq
      obtain ⟨p, hp, rfl⟩ := List.mem_map.1 hq
      rw [isKey_keyT]
      refine decide_eq_false fun e => ?_
      rw [List.map_append, List.nodup_append] at hn
      exact hn.2.2 _ (List.mem_map_of_mem hp) _ (by simp) e
end
/-! ### two fors -/
section
variable {S : Store} {τ : Slots} {chk : Store → Prop} {own own1 : List Nat} {g g1 : Tg} {c c1 : Slots → M Bool} {it1 : Slots → M Src} {e : Slots → M T}
theorem wp_lc2_nil {A : List T → Store → Prop} : wp (lc2Loop chk own own1 g g1 c c1 it1 e τ []) S A = (chk S ∧ A [] S) := by unfold lc2Loop; simp
theorem wp_lc2_cons {t : T} {ts : List T} {A : List T → Store → Prop} : wp (lc2Loop chk own own1 g g1 c c1 it1 e τ (t :: ts)) S A = (chk S ∧ wp (g t (wipeT τ own)) S fun τ1 S1 => wp (c τ1) S1 fun b S2 => if b = true then wp (it1 τ1) S2 fun src S3 => src.items.length ≤ 1000 ∧ wp (lcLoop src.chk own1 g1 c1 e τ1 src.items) S3 fun ys S4 => wp (lc2Loop chk own own1 g g1 c c1 it1 e τ ts) S4 fun zs S5 => A (ys ++ zs) S5 else wp (lc2Loop chk own own1 g g1 c c1 it1 e τ ts) S2 A) := by
  rw [lc2Loop]
  simp
theorem wp_eLc2 {fr : Bool} {it : Slots → M Src} {Q : T → Store → Prop} : wp (eLc2 fr it own own1 g g1 c c1 it1 e τ) S Q = wp (it τ) S fun src S1 => src.items.length ≤ 1000 ∧ wp (lc2Loop src.chk own own1 g g1 c c1 it1 e τ src.items) S1 fun ys S2 => wp (lcFin fr ys) S2 Q := by unfold eLc2; simp
/-- over items that stand for xs, each with its list, nothing but values -/
theorem wp_lc2_pure {β : Type} {enc : β → T} {f : β → List T} : ∀ (xs : List β), chk S → (∀ x ∈ xs, ∀ Q : List T → Store → Prop, Q (f x) S → wp (g (enc x) (wipeT τ own)) S fun τ1 S1 => S1 = S ∧ wp (c τ1) S fun b S2 => b = true ∧ S2 = S ∧ wp (it1 τ1) S fun src S3 => S3 = S ∧ src.items.length ≤ 1000 ∧ wp (lcLoop src.chk own1 g1 c1 e τ1 src.items) S Q) →
    ∀ A : List T → Store → Prop, A (xs.flatMap f) S → wp (lc2Loop chk own own1 g g1 c c1 it1 e τ (xs.map enc)) S A
  | [], hc, _, A, h => by
    rw [List.map_nil, wp_lc2_nil]
    exact ⟨hc, h⟩
  | x :: xs, hc, hs, A, h => by
    rw [List.map_cons, wp_lc2_cons]
    rw [List.flatMap_cons] at h
    refine ⟨hc, wp_mono (hs x (List.mem_cons_self ..) (fun ys S' => wp (lc2Loop chk own own1 g g1 c c1 it1 e τ (xs.map enc)) S' fun zs S5 => A (ys ++ zs) S5) ?_) fun τ1 S1 ⟨e1, h1⟩ => ?_⟩
    · exact wp_lc2_pure xs hc (fun y hy => hs y (List.mem_cons_of_mem _ hy)) _ h
    · rw [e1]
      refine wp_mono h1 fun b S2 ⟨e2, e3, h2⟩ => ?_
      rw [e3, if_pos e2]
      refine wp_mono h2 fun src S3 ⟨e4, l, h3⟩ => ?_
      rw [e4]
      exact ⟨l, h3⟩
end
/-! ### generators -/
section
variable {S : Store} {τ : Slots} {ys : List T} {nx : List T → Slots → Store → Prop}
def wpg (f : MGn) (ys : List T) (τ : Slots) (S : Store) (nx : List T → Slots → Store → Prop) : Prop := match f ys τ S with
  | .nx ys' τ' S' => nx ys' τ' S'
  | _ => False
theorem wpg_mono {f : MGn} {nx' : List T → Slots → Store → Prop} (h : wpg f ys τ S nx) (k : ∀ ys τ S, nx ys τ S → nx' ys τ S) : wpg f ys τ S nx' := by
  unfold wpg at h ⊢
  revert h
  cases f ys τ S with
  | nx => exact k _ _ _
  | _ => exact id
@[simp] theorem wpg_next : wpg gNext ys τ S nx = nx ys τ S := nr rfl
@[simp] theorem wpg_plain {m : MS} : wpg (gPlain m) ys τ S nx = wps m τ S (nx ys) (fun _ _ => False) (fun _ _ => False) (fun _ _ => False) := by
  unfold wpg gPlain wps
  cases m τ S <;> rfl
@[simp] theorem wpg_seq {a b : MGn} : wpg (gSeq a b) ys τ S nx = wpg a ys τ S fun ys' τ' S' => wpg b ys' τ' S' nx := by
  unfold wpg gSeq
  cases a ys τ S <;> rfl
theorem wpg_bnd {α : Type} {m : M α} {k : α → Store → OutG} : (match bndG m τ k S with
  | .nx ys' τ' S' => nx ys' τ' S'
  | _ => False) = wp m S fun a S' => match k a S' with
    | .nx ys' τ' S' => nx ys' τ' S'
    | _ => False := by
  unfold bndG wp
  cases m S <;> rfl
@[simp] theorem wpg_if {c : Slots → M Bool} {a b : MGn} : wpg (gIf c a b) ys τ S nx = wp (c τ) S fun k S' => if k = true then wpg a ys τ S' nx else wpg b ys τ S' nx := by
  unfold wpg gIf
  rw [wpg_bnd]
  congr 1
  funext k S'
  cases k <;> rfl
@[simp] theorem wpg_yield {e : Slots → M T} : wpg (gYield e) ys τ S nx = (ys.length < sizeLine ∧ wp (e τ) S fun t S' => nx (ys ++ [t]) τ S') := by
  unfold wpg gYield
  by_cases h : ys.length < sizeLine
  · rw [if_pos h, wpg_bnd]
    simp [h]
  · rw [if_neg h]
    simp [h]
theorem wpg_for {it : Slots → M Src} {g : Tg} {body : MGn} : wpg (gFor it g body) ys τ S nx = wp (it τ) S fun src S' => wpg (loopG src.chk g body src.items) ys τ S' nx := by
  unfold gFor
  show (match bndG (it τ) τ (fun src S => loopG src.chk g body src.items ys τ S) S with
    | .nx ys' τ' S' => nx ys' τ' S'
    | _ => False) = _
  rw [wpg_bnd]
  rfl
theorem wpg_inv {chk : Store → Prop} {g : Tg} {body : MGn} (I : Nat → List T → Slots → Store → Prop) : ∀ (ts : List T) (k : Nat) (ys : List T) (τ : Slots) (S : Store), I k ys τ S → (∀ i ys τ S, I i ys τ S → chk S) →
    (∀ i (h : i < ts.length) ys τ S, I (k + i) ys τ S → wp (g ts[i] τ) S fun τ1 S1 => wpg body ys τ1 S1 (I (k + i + 1))) → (∀ ys τ S, I (k + ts.length) ys τ S → nx ys τ S) → wpg (loopG chk g body ts) ys τ S nx
  | [], k, ys, τ, S, h0, hc, hs, hd => by
    unfold wpg loopG
    rw [if_pos (hc k ys τ S h0)]
    exact hd ys τ S h0
  | t :: ts, k, ys, τ, S, h0, hc, hs, hd => by
    have next : ∀ ys2 τ2 S2, I (k + 1) ys2 τ2 S2 → wpg (loopG chk g body ts) ys2 τ2 S2 nx := fun ys2 τ2 S2 h2 => by
      refine wpg_inv I ts (k + 1) ys2 τ2 S2 h2 hc (fun i hi ys τ S h => ?_) fun ys τ S h => hd ys τ S (by
        have e : k + (t :: ts).length = k + 1 + ts.length := by simp; omega
        rw [e]; exact h)
      have q := hs (i + 1) (by simp; omega) ys τ S (by
        have e : k + (i + 1) = k + 1 + i := by omega
        rw [e]; exact h)
      have e : k + (i + 1) + 1 = k + 1 + i + 1 := by omega
      rw [e] at q
      exact q
    obtain ⟨τ1, S1, e1, h1⟩ := wp_ok (hs 0 (by simp) ys τ S h0)
    have e1' : g t τ S = .ok τ1 S1 := e1
    unfold wpg loopG
    rw [if_pos (hc k ys τ S h0), e1']
    dsimp only
    unfold wpg at h1
    revert h1
    cases body ys τ1 S1 with
    | nx ys2 τ2 S2 => exact fun h2 => next ys2 τ2 S2 h2
    | _ => exact fun h => h.elim
theorem wp_genBody {n : Nat} {body : MGn} {ts : List T} {Q : List T → Store → Prop} (h : wpg body [] (ts.map some ++ List.replicate (n - ts.length) none) S fun ys _ S' => Q ys S') : wp (genBody n body ts) S Q := by
  unfold wpg at h
  unfold wp genBody
  revert h
  cases body [] (ts.map some ++ List.replicate (n - ts.length) none) S with
  | nx => exact id
  | _ => exact fun h => h.elim
@[simp] theorem wp_listGT {den : List T → M (List T)} {ts : List T} {Q : T → Store → Prop} : wp (listGT den ts) S Q = wp (den ts) S fun ys S' => ys.length ≤ sizeLine ∧ Q (.lst ys) S' := by
  unfold listGT
  simp only [wp_bnd, wp_noX]
  congr 1
  funext ys S'
  by_cases h : ys.length ≤ sizeLine
  · rw [if_pos h]; simp [h]
  · rw [if_neg h]; simp [h]
end
end Fw
set_option Elab.async false
set_option linter.all false
set_option maxRecDepth 100000
/-! FwShow: repr of small data. -/
namespace Fw
open PySem PySem.Spec PyProof.Rows L2
structure Shw (t : T) (d w : Nat) : Prop where
  ok : okT d t = true
  sh : (data t).showable = true
  lf : (data t).leavesShort 13 = true
  wt : (data t).weight ≤ w
structure ShwA (ts : List T) (d w : Nat) : Prop where
  ok : okAll d ts = true
  sh : PyData.showableAll (dataAll ts) = true
  lf : PyData.leavesShortAll 13 (dataAll ts) = true
  wt : PyData.weightAll (dataAll ts) ≤ w
theorem Shw.mono {t : T} {d w d' w' : Nat} (h : Shw t d w) (hd : d ≤ d') (hw : w ≤ w') : Shw t d' w' := ⟨okT_mono _ hd h.ok, h.sh, h.lf, Nat.le_trans h.wt hw⟩
theorem Shw.shows {t : T} {d w : Nat} (h : Shw t d w) (hd : d ≤ 64) (hw : w ≤ 2 ^ 20) : shows t := by
  have q := okT_data d t h.ok
  exact ⟨q.1, h.sh, by have := q.2.2; omega, PyData.shown_fits (B := 13) (by decide) (by decide) h.lf (Nat.le_trans h.wt hw)⟩
theorem Shw.wp {t : T} {d w : Nat} (h : Shw t d w) (hd : d ≤ 64) (hw : w ≤ 2 ^ 20) {S : Store} {Q : T → Store → Prop} : Fw.wp (reprT [t]) S Q = Q (.str (data t).shown) S := by
  rw [wp_repr, okT_res h.ok]
  simp [h.shows hd hw]
theorem shw_non {d : Nat} : Shw .non d 0 := ⟨by simp [okT], by simp [data, PyData.showable], by simp [data, PyData.leavesShort], by simp [data, PyData.weight]⟩
theorem shw_bl {b : Bool} {d : Nat} : Shw (.bl b) d 0 := ⟨by simp [okT], by simp [data, PyData.showable], by simp [data, PyData.leavesShort], by simp [data, PyData.weight]⟩
theorem shw_int {i : Int} {d : Nat} (h : i.natAbs < 2 ^ 32) : Shw (.int i) d 32 := by
  have lg : i.natAbs.log2 < 32 := by
    rcases Nat.eq_zero_or_pos i.natAbs with e | e
    · rw [e]; decide
    · exact (Nat.log2_lt (by omega)).2 h
  refine ⟨by simp [okT], ?_, ?_, ?_⟩
  · simp only [data, PyData.showable]
    exact decide_eq_true (by omega)
  · simp only [data, PyData.leavesShort]
    exact decide_eq_true (PyData.shown_int_le (by omega))
  · simp only [data, PyData.weight]
    split <;> omega
theorem shw_str {a : Str} {d : Nat} (h : PyData.strOk a = true) : Shw (.str a) d a.length := by
  refine ⟨by simpa [okT] using h, by simp [data, PyData.showable], ?_, ?_⟩
  · simp only [data, PyData.leavesShort, List.all_eq_true]
    intro c hc
    unfold PyData.strOk at h
    rw [← Array.all_toList, List.all_eq_true] at h
    have := of_decide_eq_true (h c hc)
    exact decide_eq_true (by omega)
  · simp only [data, PyData.weight]
    exact Nat.le_refl _
theorem ShwA.nil {d : Nat} : ShwA [] d 0 := ⟨rfl, by simp [dataAll, PyData.showableAll], by simp [dataAll, PyData.leavesShortAll], by simp [dataAll, PyData.weightAll]⟩
theorem ShwA.cons {t : T} {ts : List T} {d w w2 : Nat} (h : Shw t d w) (h2 : ShwA ts d w2) : ShwA (t :: ts) d (w + 1 + w2) := by
  refine ⟨by rw [okAll, h.ok, h2.ok]; rfl, ?_, ?_, ?_⟩
  · rw [dataAll, PyData.showableAll, h.sh, h2.sh]; rfl
  · rw [dataAll, PyData.leavesShortAll, h.lf, h2.lf]; rfl
  · rw [dataAll, PyData.weightAll]
    have := h.wt
    have := h2.wt
    omega
theorem ShwA.mono {ts : List T} {d w w' : Nat} (h : ShwA ts d w) (hw : w ≤ w') : ShwA ts d w' := ⟨h.ok, h.sh, h.lf, Nat.le_trans h.wt hw⟩
theorem ShwA.all {d w : Nat} : ∀ {ts : List T} (n : Nat), (∀ t ∈ ts, Shw t d w) → ts.length ≤ n → ShwA ts d (n * (w + 1))
  | [], n, _, _ => ShwA.nil.mono (Nat.zero_le _)
  | t :: ts, 0, _, l => by simp at l
  | t :: ts, n + 1, h, l => by
    have q := ShwA.all (ts := ts) n (fun u hu => h u (List.mem_cons_of_mem _ hu)) (by simpa using l)
    refine (ShwA.cons (h t (List.mem_cons_self ..)) q).mono ?_
    rw [Nat.succ_mul]
    omega
theorem ShwA.tup {ts : List T} {d w : Nat} (h : ShwA ts d w) : Shw (.tup ts) (d + 1) w := ⟨by rw [okT]; exact h.ok, by simpa only [data, PyData.showable] using h.sh, by simpa only [data, PyData.leavesShort] using h.lf, by simpa only [data, PyData.weight] using h.wt⟩
theorem ShwA.lst {ts : List T} {d w : Nat} (h : ShwA ts d w) : Shw (.lst ts) (d + 1) w := ⟨by rw [okT]; exact h.ok, by simpa only [data, PyData.showable] using h.sh, by simpa only [data, PyData.leavesShort] using h.lf, by simpa only [data, PyData.weight] using h.wt⟩
theorem ShwA.map {α : Type} {f : α → T} {xs : List α} {d w : Nat} (n : Nat) (h : ∀ x ∈ xs, Shw (f x) d w) (l : xs.length ≤ n) : ShwA (xs.map f) d (n * (w + 1)) := ShwA.all n (fun t ht => by
  obtain ⟨x, hx, rfl⟩ := List.mem_map.1 ht
  exact h x hx) (by simpa using l)
end Fw
set_option Elab.async false
set_option linter.all false
set_option maxRecDepth 100000
/-! FwSortL: sorted lists, plainly. -/
namespace Fw
open PySem PySem.Spec PyProof.Rows L2
structure STot {α : Type} (lt : α → α → Bool) : Prop where
  irr : ∀ a, lt a a = false
  tr : ∀ {a b c}, lt a b = true → lt b c = true → lt a c = true
  tri : ∀ a b, lt a b = true ∨ a = b ∨ lt b a = true
theorem lex_tri {α : Type} [LT α] [DecidableLT α] (irr : ∀ a : α, ¬ a < a) (tri : ∀ a b : α, a < b ∨ a = b ∨ b < a) : ∀ a b : List α, a < b ∨ a = b ∨ b < a
  | [], [] => Or.inr (Or.inl rfl)
  | [], y :: ys => Or.inl List.Lex.nil
  | x :: xs, [] => Or.inr (Or.inr List.Lex.nil)
  | x :: xs, y :: ys => by
    rcases tri x y with h | rfl | h
    · exact Or.inl (List.Lex.rel h)
    · rcases lex_tri irr tri xs ys with h | rfl | h
      · exact Or.inl (List.Lex.cons h)
      · exact Or.inr (Or.inl rfl)
      · exact Or.inr (Or.inr (List.Lex.cons h))
    · exact Or.inr (Or.inr (List.Lex.rel h))
def ltI (x y : Int) : Bool := decide (x < y)
theorem tot_int : STot ltI := ⟨fun a => by simp [ltI], fun {a b c} h1 h2 => by simp only [ltI, decide_eq_true_eq] at h1 h2 ⊢; omega, fun a b => by simp only [ltI, decide_eq_true_eq]; omega⟩
theorem tot_str : STot ltStr := by
  refine ⟨fun a => decide_eq_false (List.lt_irrefl _), fun {a b c} h1 h2 => decide_eq_true (List.lt_trans (of_decide_eq_true h1) (of_decide_eq_true h2)), fun a b => ?_⟩
  unfold ltStr
  simp only [decide_eq_true_eq]
  rcases lex_tri (fun a : Nat => Nat.lt_irrefl a) (fun a b => Nat.lt_trichotomy a b) a.cps.toList b.cps.toList with h | h | h
  · exact Or.inl h
  · refine Or.inr (Or.inl ?_)
    cases a
    cases b
    simp only [Str.mk.injEq]
    exact Array.toList_inj.1 h
  · exact Or.inr (Or.inr h)
theorem tot_ints : STot ltInts := by
  refine ⟨fun a => decide_eq_false (List.lt_irrefl _), fun {a b c} h1 h2 => decide_eq_true (List.lt_trans (of_decide_eq_true h1) (of_decide_eq_true h2)), fun a b => ?_⟩
  unfold ltInts
  simp only [decide_eq_true_eq]
  exact lex_tri (fun a : Int => Int.lt_irrefl a) (fun a b => by omega) a b
def ltPair {α β : Type} [DecidableEq α] (lt : α → α → Bool) (lt2 : β → β → Bool) (p q : α × β) : Bool := if p.1 = q.1 then lt2 p.2 q.2 else lt p.1 q.1
theorem tot_pair {α β : Type} [DecidableEq α] {lt : α → α → Bool} {lt2 : β → β → Bool} (h : STot lt) (h2 : STot lt2) : STot (ltPair lt lt2) := by
  refine ⟨fun a => ?_, fun {a b c} g1 g2 => ?_, fun a b => ?_⟩
  · unfold ltPair
    rw [if_pos rfl]
    exact h2.irr _
  · unfold ltPair at g1 g2 ⊢
    by_cases e1 : a.1 = b.1
    · rw [if_pos e1] at g1
      by_cases e2 : b.1 = c.1
      · rw [if_pos e2] at g2
        rw [if_pos (e1.trans e2)]
        exact h2.tr g1 g2
      · rw [if_neg e2] at g2
        rw [if_neg (fun z => e2 (e1.symm.trans z)), e1]
        exact g2
    · rw [if_neg e1] at g1
      by_cases e2 : b.1 = c.1
      · rw [if_neg (fun z => e1 (z.trans e2.symm)), ← e2]
        exact g1
      · rw [if_neg e2] at g2
        have g3 := h.tr g1 g2
        rw [if_neg (fun z => by rw [z, h.irr] at g3; cases g3)]
        exact g3
  · unfold ltPair
    by_cases e : a.1 = b.1
    · rw [if_pos e, if_pos e.symm]
      rcases h2.tri a.2 b.2 with g | g | g
      · exact Or.inl g
      · exact Or.inr (Or.inl (Prod.ext e g))
      · exact Or.inr (Or.inr g)
    · rw [if_neg e, if_neg (Ne.symm e)]
      rcases h.tri a.1 b.1 with g | g | g
      · exact Or.inl g
      · exact absurd g e
      · exact Or.inr (Or.inr g)
section
variable {α : Type} {lt : α → α → Bool}
def srt (lt : α → α → Bool) (xs : List α) : List α := xs.mergeSort (leOf lt)
theorem srt_perm (xs : List α) : (srt lt xs).Perm xs := List.mergeSort_perm xs _
theorem mem_srt {xs : List α} {a : α} : a ∈ srt lt xs ↔ a ∈ xs := (srt_perm xs).mem_iff
theorem srt_len (xs : List α) : (srt lt xs).length = xs.length := (srt_perm xs).length_eq
theorem STot.le_tr (h : STot lt) {a b c : α} (h1 : leOf lt a b = true) (h2 : leOf lt b c = true) : leOf lt a c = true := by
  unfold leOf at h1 h2 ⊢
  cases e : lt c a with
  | false => rfl
  | true =>
    rcases h.tri b c with g | g | g
    · rw [h.tr g e] at h1; exact absurd h1 (by decide)
    · rw [g] at h1; rw [e] at h1; exact absurd h1 (by decide)
    · rw [g] at h2; exact absurd h2 (by decide)
theorem STot.le_tot (h : STot lt) (a b : α) : (leOf lt a b || leOf lt b a) = true := by
  unfold leOf
  cases e : lt b a with
  | false => rfl
  | true =>
    cases e2 : lt a b with
    | false => rfl
    | true =>
      have g := h.tr e2 e
      rw [h.irr] at g
      cases g
theorem STot.sorted (h : STot lt) (xs : List α) : (srt lt xs).Pairwise fun x y => leOf lt x y = true := List.pairwise_mergeSort (le := leOf lt) (fun a b c h1 h2 => h.le_tr h1 h2) (fun a b => h.le_tot a b) xs
theorem STot.strict (h : STot lt) {xs : List α} (hn : xs.Nodup) : (srt lt xs).Pairwise fun x y => lt x y = true := by
  have h1 := h.sorted xs
  have h2 : (srt lt xs).Nodup := hn.perm (srt_perm xs).symm
  refine (h1.and h2).imp fun {x y} ⟨g1, g2⟩ => ?_
  unfold leOf at g1
  rcases h.tri x y with g | g | g
  · exact g
  · exact absurd g g2
  · rw [g] at g1; exact absurd g1 (by decide)
theorem STot.nodup (h : STot lt) {xs : List α} (p : xs.Pairwise fun x y => lt x y = true) : xs.Nodup := p.imp fun {x y} g e => by rw [e, h.irr] at g; cases g
theorem STot.uniq (h : STot lt) {xs ys : List α} (p : xs.Pairwise fun x y => lt x y = true) (q : ys.Pairwise fun x y => lt x y = true) (m : ∀ a, a ∈ xs ↔ a ∈ ys) : xs = ys := by
  have pm : xs.Perm ys := (List.perm_ext_iff_of_nodup (h.nodup p) (h.nodup q)).2 m
  refine pm.eq_of_pairwise (le := fun x y => lt x y = true) (fun a b _ _ h1 h2 => ?_) p q
  have := h.tr h1 h2
  rw [h.irr] at this
  cases this
theorem STot.srt_congr (h : STot lt) {xs ys : List α} (hx : xs.Nodup) (hy : ys.Nodup) (m : ∀ a, a ∈ xs ↔ a ∈ ys) : srt lt xs = srt lt ys := h.uniq (h.strict hx) (h.strict hy) fun a => by rw [mem_srt, mem_srt, m a]
theorem STot.srt_id (h : STot lt) {xs : List α} (p : xs.Pairwise fun x y => lt x y = true) : srt lt xs = xs := List.mergeSort_of_pairwise (p.imp fun {x y} g => by
  unfold leOf
  cases e : lt y x with
  | false => rfl
  | true =>
    have := h.tr g e
    rw [h.irr] at this
    cases this)
/-- sorted, to compute with -/
def ins (lt : α → α → Bool) (x : α) : List α → List α
  | [] => [x]
  | y :: ys => if lt y x = true then y :: ins lt x ys else x :: y :: ys
def isort (lt : α → α → Bool) : List α → List α
  | [] => []
  | x :: xs => ins lt x (isort lt xs)
theorem ins_perm (x : α) : ∀ ys : List α, (ins lt x ys).Perm (x :: ys)
  | [] => List.Perm.refl _
  | y :: ys => by
    rw [ins]
    split
    · exact ((ins_perm x ys).cons y).trans (List.Perm.swap x y ys)
    · exact List.Perm.refl _
theorem isort_perm : ∀ xs : List α, (isort lt xs).Perm xs
  | [] => List.Perm.refl _
  | x :: xs => (ins_perm x _).trans ((isort_perm xs).cons x)
theorem STot.ins_sorted (h : STot lt) (x : α) : ∀ ys : List α, ys.Pairwise (fun a b => leOf lt a b = true) → (ins lt x ys).Pairwise fun a b => leOf lt a b = true
  | [], _ => List.pairwise_singleton ..
  | y :: ys, p => by
    rw [List.pairwise_cons] at p
    rw [ins]
    split
    · rename_i e
      refine List.Pairwise.cons (fun z hz => ?_) (h.ins_sorted x ys p.2)
      rcases List.mem_cons.1 ((ins_perm x ys).mem_iff.1 hz) with rfl | hz
      · unfold leOf
        cases e2 : lt z y with
        | false => rfl
        | true =>
          have g := h.tr e e2
          rw [h.irr] at g
          cases g
      · exact p.1 z hz
    · rename_i e
      have le : leOf lt x y = true := by unfold leOf; rw [Bool.not_eq_true] at e; rw [e]; rfl
      refine List.Pairwise.cons (fun z hz => ?_) (List.pairwise_cons.2 p)
      rcases List.mem_cons.1 hz with rfl | hz
      · exact le
      · exact h.le_tr le (p.1 z hz)
theorem STot.isort_sorted (h : STot lt) : ∀ xs : List α, (isort lt xs).Pairwise fun a b => leOf lt a b = true
  | [] => List.Pairwise.nil
  | x :: xs => h.ins_sorted x _ (h.isort_sorted xs)
theorem STot.srt_isort (h : STot lt) (xs : List α) : srt lt xs = isort lt xs := by
  refine ((srt_perm xs).trans (isort_perm xs).symm).eq_of_pairwise (le := fun a b => leOf lt a b = true) (fun a b _ _ h1 h2 => ?_) (h.sorted xs) (h.isort_sorted xs)
  unfold leOf at h1 h2
  rcases h.tri a b with g | g | g
  · rw [g] at h2; exact absurd h2 (by decide)
  · exact g
  · rw [g] at h1; exact absurd h1 (by decide)
end
theorem leOf_ltI : leOf ltI = leOf fun x y : Int => decide (x < y) := rfl
/-- sorted(..) of what stands for xs -/
theorem wp_srt {α : Type} [DecidableEq α] {f : α → T} {lt : α → α → Bool} {P : α → Prop} {d : Nat} (O : Ordd f lt) (E : Enc f P d) (hd : d ≤ 64) {xs : List α} (hx : ∀ x ∈ xs, P x) (hk : (∀ x ∈ xs, isTupC (f x) = true) ∨ ∀ x ∈ xs, isFlat (f x) = true) {S : Store} {Q : T → Store → Prop} {t : T} (e : res S t = .lst (xs.map f)) :
    wp (sortedT [t]) S Q = Q (.lst ((srt lt xs).map f)) S := O.wp_sorted E hd hx hk e
theorem ordI : Ordd T.int ltI := ord_int
theorem wp_srtI {xs : List Int} {S : Store} {Q : T → Store → Prop} {t : T} (e : res S t = .lst (xs.map T.int)) : wp (sortedT [t]) S Q = Q (.lst ((srt ltI xs).map T.int)) S := wp_srt ordI enc_int (by decide) (fun _ _ => trivial) (Or.inr fun _ _ => rfl) e
theorem wp_srtS {xs : List Str} {S : Store} {Q : T → Store → Prop} {t : T} (h : ∀ x ∈ xs, PyData.strOk x = true) (e : res S t = .lst (xs.map T.str)) : wp (sortedT [t]) S Q = Q (.lst ((srt ltStr xs).map T.str)) S := wp_srt ord_str enc_str (by decide) h (Or.inr fun _ _ => rfl) e
theorem wp_srtIs {xs : List (List Int)} {S : Store} {Q : T → Store → Prop} {t : T} (h : ∀ x ∈ xs, x ≠ []) (e : res S t = .lst (xs.map fun p => T.tup (p.map T.int))) : wp (sortedT [t]) S Q = Q (.lst ((srt ltInts xs).map fun p => T.tup (p.map T.int))) S := wp_srt ord_ints (Enc.tup enc_int) (by decide) (fun _ _ _ _ => trivial) (Or.inl fun x hx => by
    cases x with
    | nil => exact absurd rfl (h _ hx)
    | cons => rfl) e
end Fw
set_option Elab.async false
set_option linter.all false
set_option maxRecDepth 100000
/-! FwExt: stores that grow; ints in lists. -/
namespace Fw
open PySem PySem.Spec PyProof.Rows L2
theorem wp_ne_res {S : Store} {t u t1 u1 : T} {d : Nat} {Q : T → Store → Prop} (e1 : res S t = t1) (e2 : res S u = u1) (h1 : okT d t1 = true) (h2 : okT d u1 = true) : wp (neT t u) S Q = wp (neT t1 u1) S Q := by
  have f1 := okT_res (S := S) h1
  have f2 := okT_res (S := S) h2
  unfold wp Fw.neT
  rw [e1, e2, f1, f2]
def Ext (S S' : Store) : Prop := S.length ≤ S'.length ∧ ∀ m, m < S.length → S'[m]? = S[m]?
theorem Ext.refl {S : Store} : Ext S S := ⟨Nat.le_refl _, fun _ _ => rfl⟩
theorem Ext.trans {S S' S2 : Store} (h : Ext S S') (h2 : Ext S' S2) : Ext S S2 := ⟨Nat.le_trans h.1 h2.1, fun m hm => (h2.2 m (by have := h.1; omega)).trans (h.2 m hm)⟩
theorem Ext.app {S X : Store} : Ext S (S ++ X) := ⟨by simp, fun m hm => List.getElem?_append_left hm⟩
theorem Ext.set {S S' : Store} {p : Nat} {c : Option Cell} (h : Ext S S') (hp : S.length ≤ p) : Ext S (S'.set p c) := ⟨by rw [List.length_set]; exact h.1, fun m hm => by rw [List.getElem?_set_ne (by omega)]; exact h.2 m hm⟩
theorem Ext.take {S S' : Store} (h : Ext S S') : S'.take S.length = S := by
  refine List.ext_getElem? fun m => ?_
  by_cases hm : m < S.length
  · rw [List.getElem?_take_of_lt hm]
    exact h.2 m hm
  · rw [List.getElem?_eq_none (by rw [List.length_take]; omega), List.getElem?_eq_none (by omega)]
theorem At.app {S X : Store} {n : Nat} {xs : List T} (h : At S n xs) : At (S ++ X) n xs := by
  unfold At
  rw [List.getElem?_append_left (List.getElem?_eq_some_iff.mp h).1]
  exact h
theorem At.lt {S : Store} {n : Nat} {xs : List T} (h : At S n xs) : n < S.length := (List.getElem?_eq_some_iff.mp h).1
theorem At.ne {S : Store} {n m : Nat} {xs : List T} {c : Option Cell} (h : At S n xs) (hm : m ≠ n) : At (S.set m c) n xs := by
  unfold At
  rw [List.getElem?_set_ne hm]
  exact h
theorem At.new {S : Store} {xs : List T} : At (S ++ [some (.lst xs)]) S.length xs := List.getElem?_concat_length
/-- the end of a def that changed nothing -/
theorem fin_ext {S S' : Store} {t : T} {Q : T → Store → Prop} (hk : Ext S S') (ht : lowT S.length t = true) (hr : ∀ m, t ≠ .ref m) (q : Q t S) : fin' S Q t S' := by
  refine ⟨⟨hk.1, fun m hm => Or.inl (hk.2 m hm)⟩, t, ?_, by rw [hk.take]; exact q⟩
  unfold frzTop
  cases t <;> first | exact absurd rfl (hr _) | (dsimp only; rw [if_pos ht])
theorem wipe1 {τ : Slots} {i : Nat} {x : Option T} : (wipeT τ [i]).set i x = τ.set i x := by
  show (τ.set i none).set i x = _
  rw [List.set_set]
theorem lc_ints {S : Store} {τ : Slots} {pl : List Int} {i : Nat} {c : Slots → M Bool} {cb : Int → Bool} {A : List T → Store → Prop} (hl : i < τ.length) (hc : ∀ x ∈ pl, ∀ Q : Bool → Store → Prop, Q (cb x) S → wp (c (τ.set i (some (.int x)))) S Q) (h : A ((pl.filter cb).map T.int) S) :
    wp (lcLoop (fun _ => True) [i] (tgName i) c (eVar i) τ (pl.map T.int)) S A := by
  refine wp_lc_pure (cb := cb) (f := T.int) pl trivial (fun x hx Q hQ => ?_) A h
  rw [wp_tgName, wipe1]
  refine ⟨rfl, hc x hx _ ⟨rfl, rfl, fun _ => ?_⟩⟩
  rw [wp_eVar, List.getElem?_set_self hl]
  exact hQ
theorem wp_notin_r {S : Store} {m : Nat} {xs : List Int} {x : Int} {Q : T → Store → Prop} {neg : Bool} (h : At S m (xs.map T.int)) : wp (memT neg (.int x) (.ref m)) S Q = Q (.bl (neg ^^ decide (x ∈ xs))) S := enc_int.wp_memL (by decide) (res_ref h) trivial (fun _ _ => trivial)
theorem wp_notin_l {S : Store} {xs : List Int} {x : Int} {Q : T → Store → Prop} {neg : Bool} : wp (memT neg (.int x) (.lst (xs.map T.int))) S Q = Q (.bl (neg ^^ decide (x ∈ xs))) S := enc_int.wp_memL (by decide) rfl trivial (fun _ _ => trivial)
theorem wp_ne_nil {S : Store} {xs : List Int} {t : T} {Q : T → Store → Prop} (e : res S t = .lst (xs.map T.int)) : wp (neT t (.lst [])) S Q = Q (.bl (!decide (xs = []))) S := by
  rw [wp_ne_res (d := 1) (t1 := .lst (xs.map T.int)) (u1 := .lst []) e rfl ((Enc.lst enc_int).ok xs fun _ _ => trivial) rfl]
  exact (Enc.lst enc_int).wp_ne (S := S) (Q := Q) (by decide) (x := xs) (y := []) (fun _ _ => trivial) (fun _ _ => trivial)
end Fw
set_option Elab.async false
set_option linter.all false
set_option maxRecDepth 100000
/-! FwSet: sorted(set(xs)) of a list of ints. -/
namespace Fw
open PySem PySem.Spec PyProof.Rows L2
section
variable {P : Program} {w : World} {A : Around} {E : Value → Shared → Prop} {s : Shared}
/-- a set as it is made, empty -/
abbrev setOb (w : World) : Obj := { cls := .type "set", dict := none, data := .set #[] 0 (.fresh 0 0 (!w.params.followText "set-order")) }
/-- the set of ns lies at a, all else stands -/
def Made (w : World) (g : Heap) (ns : List Int) (g' : Heap) (c : Nat) : Prop :=
  SetR w g' g.objs.size (fun j => decide (j ∈ ns)) c ∧ c ≤ ns.length ∧ ∀ b o, g.get? b = some o → g'.get? b = some o
set_option maxHeartbeats 3200000 in
theorem set_ofList {l : Addr} {its : Array Value} (ns : List Int) {Q : Value → Shared → Prop} (hh : A.handled = none) (lo : s.heap.IsList l its) (hi : IntsAre its.toList ns) (room : ns.length + 1 < scanBound)
    (fin : ∀ (g' : Heap) (tk c : Nat), Made w s.heap ns g' c → Q (.ref s.heap.objs.size) { s with heap := g', toks := tk }) : wpAny (model P w) A (call (.type "set") [.ref l]) Q E s := by
  have sz : its.size = ns.length := by have q := IntsAre.length hi; rwa [Array.length_toList] at q
  obtain ⟨c0, tl, mro⟩ := F.called_set.mro
  have made := F.called_set.made; have sub := F.called_set.sub
  refine wpAny_call (codeAny_of_tree (show wpAny _ _ (callAny (.type "set") _) _ _ _ from wpAny_pure ⟨Code.quiet_builtin _ (by decide +kernel), codeAny_builtin F.entry_type_call ?_⟩))
  rw [Around.under_plain (weight_type_call_type "set" [.ref l] []) rfl]
  have nt := F.called_set.notType; have cr := F.called_set.canCreate; have tc := F.typeCall_set_1 (.ref l)
  repeat (any_goals (first | assumption | wp_step))
  refine codeAny_mono (code_set_led1 (.ref l) (E := E) (Q₁ := fun ob s₁ => ob = .ref s.heap.objs.size ∧ s₁ = { s with heap := s.heap.push (setOb w) }) ⟨rfl, rfl⟩) fun r1 s1 h1 => ?_
  cases r1 with
  | error e => exact h1
  | ok fl => cases fl with
    | ret ob =>
      obtain ⟨rfl, rfl⟩ := h1
      have at1 : (s.heap.push (setOb w)).get? s.heap.objs.size = some (setOb w) := Heap.get?_push_size _ rfl
      have ty1 : Shared.TypeIs { s with heap := s.heap.push (setOb w) } (.ref s.heap.objs.size) "set" := ⟨_, at1, rfl⟩
      have li := F.called_set.init.lookup; have bi := F.called_set.init.bind (.ref s.heap.objs.size)
      repeat (any_goals (first | assumption | wp_step))
      refine codeAny_mono (codeAny_call_builtin (R := wants (fun r s₂ => r = .none ∧ ∃ g' tk c, s₂ = { s with heap := g', toks := tk } ∧ Made w s.heap ns g' c) E) F.called_set.init.plain F.entry_set_init (check_set_init_1 ty1 ?_)) fun r2 s2 h2 => ?_
      · obtain ⟨⟨cls, dict, dat, slots⟩, lh, lc, n0, ld⟩ := lo
        simp only at lc ld; subst lc; subst ld
        have lh1 : (s.heap.push (setOb w)).get? l = some { cls := .type "list", dict := dict, data := .seq its n0, slots := slots } := Heap.get?_push_of_some _ lh
        have b1 := F.sub_list_set; have b2 := F.sub_list_frozenset
        have nd : (Value.type "list" == Value.type "dict") = false := by decide
        have ll : (s.heap.push (setOb w)).IsList l its := ⟨_, lh1, rfl, n0, rfl⟩
        unfold Builtin.«set.__init__» noKeywords Builtin.Frozenset.updateFrom
        generalize hit : pyIter = it0
        wp_walk
        subst hit
        refine wpAny_pyIter_list ll (wpAny_bind (wpAny_runValue ?_))
        have low : l < s.heap.objs.size := Heap.lt_size lh
        have ps : (s.heap.push (setOb w)).objs.size = s.heap.objs.size + 1 := Heap.size_push ..
        have ne1 : l ≠ (s.heap.push (setOb w)).objs.size := by rw [ps]; exact Nat.ne_of_lt (Nat.lt_succ_of_lt low)
        have nin : s.heap.objs.size ∉ [(s.heap.push (setOb w)).objs.size, l] := by
          rw [ps]; simp only [List.mem_cons, List.not_mem_nil, or_false, not_or]; exact ⟨Nat.ne_of_lt (Nat.lt_succ_self _), Nat.ne_of_gt low⟩
        have each : ∀ (i : Nat) (v : Value), its[i]? = some v → ∃ k t, ns[i]? = some k ∧ v = .int k t := fun i v hv => by
          have lt : i < ns.length := by rw [← sz]; exact (Array.getElem?_eq_some_iff.mp hv).1
          obtain ⟨t, e⟩ := IntsAre.int_at hi i v (by rw [Array.getElem?_toList]; exact hv)
          exact ⟨ns[i], t, List.getElem?_eq_getElem lt, by rw [e, List.getD_eq_getElem?_getD, List.getElem?_eq_getElem lt]; rfl⟩
        refine set_update_ints ((Walks.list (by simp [hh]) _ l ne1 its).toS) s.heap.objs.size nin ns sz room each its.size 0 _ rfl (Nat.zero_le _) ⟨⟨_, Heap.get?_push_size _ rfl, rfl, rfl⟩, ll.push _⟩ ⟨0, Nat.le_refl 0, setR_new_at (Heap.get?_push_of_some _ at1)⟩ fun s3 c3 mv le3 R3 => ?_
        obtain ⟨g3, gn, dr, tk3, os3⟩ := s3
        have e1 : gn = s.gens := mv.gens
        have e2 : dr = s.drawn := mv.drawn
        have e3 : os3 = s.os := mv.os
        subst e1; subst e2; subst e3
        refine (show wpAny _ _ _ _ _ _ from wpAny_pure (show wpAny _ _ (PySem.ret Value.none) _ _ _ from wpAny_pure ⟨rfl, g3, tk3, c3, rfl, R3, by rw [← sz]; exact le3, fun b o e => ?_⟩))
        have bl : b < s.heap.objs.size := Heap.lt_size e
        refine mv.heap b o ?_ (Heap.get?_push_of_some _ (Heap.get?_push_of_some _ e))
        simp only [List.mem_cons, List.not_mem_nil, or_false, not_or]; rw [ps]; exact ⟨Nat.ne_of_lt bl, Nat.ne_of_lt (Nat.lt_succ_of_lt bl)⟩
      · cases r2 with
        | error e => exact h2
        | ok fl2 => cases fl2 with
          | ret r =>
            obtain ⟨rfl, g', tk, c, rfl, hm⟩ := h2
            repeat (any_goals (first | assumption | wp_step))
            exact fin _ _ _ hm
          | _ => exact h2.elim
    | _ => exact h1.elim
end
def rSetOfL (w : World) (K : PySem.W.Frag) : List V → Hp → VK → Prop := fun xs H Q => ∃ (l : Addr) (ns : List Int), xs = [V.ref l] ∧ SqL K H l (ns.map V.int) ∧ ns.length ≤ 1000 ∧
  ∀ (p : Addr) (c : Nat), H p = none → c ≤ ns.length → Q (.ref p) (upd H p (SetO w p (fun j => decide (j ∈ ns)) c))
section
variable {X : Cx}
theorem cr_setOfL (hc : X.calm = true) : CallR X (.type "set") (rSetOfL X.w X.K) := by
  intro pins s σ H xs us Q I r h
  obtain ⟨l, ns, rfl, hq, hl, q⟩ := h
  rw [Vals.ref1 r]
  obtain ⟨its, rv, pl, hz⟩ := I.list hq
  refine set_ofList ns (I.ok.hd hc) (pl.isList) (by simpa using rv.ints) (by unfold scanBound; omega) fun g' tk c ⟨hR, hle, hk⟩ => ?_
  exact ⟨.ref _, upd H s.heap.objs.size (SetO X.w s.heap.objs.size (fun j => decide (j ∈ ns)) c), I.laid (t' := tk) (fun b u e => hk b u e) (Nat.le_refl _) (setO_new hR), rfl, q _ c (I.hok.fresh (Nat.le_refl _)) hle⟩
/-- the list that sorted(set(ts)) makes -/
def once : List Int → List Int
  | [] => []
  | a :: l => if a ∈ l then once l else a :: once l
theorem mem_once {k : Int} : ∀ {l : List Int}, k ∈ once l ↔ k ∈ l
  | [] => Iff.rfl
  | a :: l => by
    unfold once
    split
    · rename_i h
      rw [mem_once, List.mem_cons]
      exact ⟨Or.inr, fun q => q.elim (fun e => e ▸ h) id⟩
    · rw [List.mem_cons, List.mem_cons, mem_once]
theorem once_nodup : ∀ {l : List Int}, (once l).Nodup
  | [] => List.nodup_nil
  | a :: l => by
    unfold once
    split
    · exact once_nodup
    · rename_i h
      exact List.nodup_cons.2 ⟨fun q => h (mem_once.1 q), once_nodup⟩
def setSrt (ns : List Int) : List Int := srt ltI (once ns)
theorem setSrt_uniq {ns out : List Int} (h : out.Pairwise (· < ·)) (hm : ∀ k, k ∈ out ↔ k ∈ ns) : out = setSrt ns := by
  refine tot_int.uniq (h.imp fun {a b} q => decide_eq_true q) (tot_int.strict once_nodup) fun a => ?_
  unfold setSrt
  rw [mem_srt, mem_once, hm]
def sortedSetT (t : T) : M T := fun S => match res S t with
  | .lst ts => (match intsOf ts with
    | some ns => if ns.length < 64 then .ok (.lst ((setSrt ns).map T.int)) S else .bad
    | none => .bad)
  | _ => .bad
variable {W : WX} {e : Expr} {fe : Slots → M T} {p p2 q pos : Pos}
theorem pe_sortedSetF (hc : X.calm = true) (hg : Gl X "sorted") (hm : X.mg "sorted" = none) (hg2 : Gl X "set") (hm2 : X.mg "set" = none) (ha : PE X e (dT X W fe)) (hs : starEach [e] X.env = (false, eval e X.env) :: starEach [] X.env := by rfl)
    (hs2 : starEach [Expr.Call (.Name "set" p2) [e] [] q] X.env = (false, eval (Expr.Call (.Name "set" p2) [e] [] q) X.env) :: starEach [] X.env := by rfl) :
    PE X (.Call (.Name "sorted" p) [.Call (.Name "set" p2) [e] [] q] [] pos) (dT X W (eUn sortedSetT fe)) := by
  refine PE.weak (pe_callB (cr_sortedSet hc) hg hm (by decide +kernel) (pa_cons (pe_callTy (cr_setOfL hc) hg2 hm2 (by decide +kernel) (pa_cons ha pa_nil hs) (he := hs)) pa_nil hs2) (he := hs2)) fun σ H Q h => ?_
  refine dT_mono (one_part σ H Q h) fun x H1 ⟨φ, S, Mk, t, Wx, R, r1, p⟩ => ?_
  unfold sortedSetT at p
  split at p <;> first | exact p.elim | skip
  rename_i ts e1
  split at p <;> first | exact p.elim | skip
  rename_i ns e2
  split at p <;> first | exact p.elim | skip
  rename_i hl
  obtain ⟨a, vs, rfl, g1, ra, l⟩ := rep_lst R r1 e1
  rw [repAll_ints ra e2] at g1
  refine ⟨a, ns, rfl, .inl (.inl g1), by omega, fun p1 c hp hle => ⟨p1, _, c, rfl, upd_same, by omega, fun out p3 up hmem hlen hp3 => ?_⟩⟩
  obtain ⟨st, _⟩ := Step.new (o := SetO X.w p1 (fun j => decide (j ∈ ns)) c) R hp
  obtain ⟨st2, g3⟩ := Step.new (o := .lst (out.map V.int)) st.rel hp3
  have eo : out = setSrt ns := setSrt_uniq up fun k => by rw [hmem]; simp
  refine Post.ok (t := T.lst ((setSrt ns).map T.int)) p (st.trans st2) (.lst g3 (eo ▸ repAll_int) ?_)
  rw [List.length_map, ← eo, hlen, sizeLine_eq]
  omega
end
end Fw
set_option Elab.async false
set_option linter.all false
set_option maxRecDepth 100000
/-! FwMore3: dict displays, dict(pairs), sorted(dict), list(range(..)), [x] * n to be changed. -/
namespace Fw
open PySem PySem.Spec PyProof.Rows L2
/-! ### displays of dicts -/
noncomputable def dispLoop (τ : Slots) : List (T × T) → List ((Slots → M T) × (Slots → M T)) → M (List (T × T))
  | acc, [] => ret acc
  | acc, (fk, fv) :: r => bnd (noX (fk τ)) fun y => bnd (noX (fv τ)) fun z => (match keyOf y with
      | some k => dispLoop τ (putD acc k z) r
      | none => bad)
noncomputable def eDisp (fr : Bool) (fs : List ((Slots → M T) × (Slots → M T))) : Slots → M T := fun τ => bnd (dispLoop τ [] fs) (dcFin fr)
def eDic0 (fr : Bool) : Slots → M T := fun _ => dcFin fr []
def dPs (X : Cx) : List ((Slots → M T) × (Slots → M T)) → List (TE × TE)
  | [] => []
  | (a, b) :: r => (dT X W0 a, dT X W0 b) :: dPs X r
section
variable {K : PySem.W.Frag} {mg : Str → Option Value} {φ : List Addr} {S : Store} {Mk : List Addr} {H : Hp}
/-- a new dict laid down -/
theorem dcFin_new {fr : Bool} {kvs : List (Key × V)} {ys : List (T × T)} {Wx : Value → Option Addr → Hp → Prop} {Q : VK} {D : Addr} (R : Rel K mg φ S Mk H) (ra : RepK K mg (G φ S Mk H) φ kvs ys) (l : ys.length ≤ sizeLine) (p : Post K mg (Rep K mg) φ S Mk H (dcFin fr ys S) Wx Q) (hD : H D = none) :
    Q (.ref D) (upd H D (.dK kvs)) := by
  have m := Mak.start (o := HO.dK kvs) R hD
  exact m.doneD (not_masked R hD) upd_same (ra.mono m.keep m.pre) l p
end
section
variable {X : Cx} {W : WX} {fr : Bool} {fs : List ((Slots → M T) × (Slots → M T))} {pos : Pos}
theorem pe_dic0F : PE X (.Dict [] [] pos) (dT X W (eDic0 fr)) := PE.weak pe_dnewK fun σ H Q ⟨φ, S, Mk, τ, R, sl, h⟩ D hD => dcFin_new R .nil (Nat.zero_le _) h hD
theorem mergeK_snoc (ks : List (Key × V)) (k : Key) (v : V) : mergeK [] (ks ++ [(k, v)]) = putK (mergeK [] ks) k v := by
  unfold mergeK
  rw [List.foldl_append]
  rfl
theorem disp_imp (hl : fs.length ≤ 15) (σ : L2.St) (H : Hp) (Q : VK) (h : dT X W (eDisp fr fs) σ H Q) : tDisp (dPs X fs) σ H Q := by
  obtain ⟨φ, S, Mk, τ, R, sl, h⟩ := h
  intro D hD
  have nm := not_masked R hD
  let PP : Out T → Prop := fun o => Post X.K X.mg (Rep X.K X.mg) φ S Mk H o (fun c d H' => W c d σ H') Q
  have hbad : ¬ PP .bad := fun z => z
  have key : ∀ (gs : List ((Slots → M T) × (Slots → M T))) (ks : List (Key × V)) (acc : List (T × T)) (φ' : List Addr) (S' : Store) (H' : Hp) (QQ : List (V × V) → Hp → Prop), Mak X.K X.mg φ S Mk H D φ' S' H' → H' D = some (.dK []) →
      RepK X.K X.mg (G φ' S' (D :: Mk) H') φ' (mergeK [] ks) acc → acc.length ≤ ks.length → ks.length + gs.length ≤ 15 → PP (bnd (dispLoop τ acc gs) (dcFin fr) S') →
      (∀ ps H2, (H2 D = some (.dK []) ∧ ∃ kvs : List (Key × V), ps = kvs.map (fun kv => (kV kv.1, kv.2)) ∧ (ks ++ kvs).length ≤ 15 ∧ Q (.ref D) (upd H2 D (.dK (mergeK [] (ks ++ kvs))))) → QQ ps H2) → tPairs (dPs X gs) σ H' QQ := fun gs => by
    induction gs with
    | nil =>
      intro ks acc φ' S' H' QQ mk hd ra la lk p fin
      unfold dispLoop at p
      rw [bnd_ret] at p
      refine fin [] H' ⟨hd, [], rfl, by rw [List.append_nil]; simpa using lk, ?_⟩
      rw [List.append_nil]
      have hs : acc.length ≤ sizeLine := by
        have : ks.length ≤ 15 := by simpa using lk
        rw [sizeLine_eq]
        omega
      exact (mk.write nm).doneD nm upd_same (ra.mono (fun b u gb => G_hid (List.mem_cons_self ..) gb) ⟨[], by simp⟩) hs p
    | cons g gs ih =>
      obtain ⟨fk, fv⟩ := g
      intro ks acc φ' S' H' QQ mk hd ra la lk p fin
      unfold dispLoop at p
      rw [bnd_assoc] at p
      refine ⟨φ', S', D :: Mk, τ, mk.rel, mk.slots sl, post_noX (P := PP) hbad p fun y S5 p5 φ5 v5 H5 s5 r5 => ?_⟩
      rw [bnd_assoc] at p5
      have mk5 := mk.step s5
      refine ⟨φ5, S5, D :: Mk, τ, s5.rel, mk5.slots sl, post_noX (P := PP) hbad p5 fun z S6 p6 φ6 v6 H6 s6 r6 => ?_⟩
      cases ek : keyOf y with
      | none => rw [ek] at p6; exact (hbad p6).elim
      | some k =>
        rw [ek] at p6
        have st := s5.trans s6
        have ra6 : RepK X.K X.mg (G φ6 S6 (D :: Mk) H6) φ6 (mergeK [] ks) acc := ra.mono st.keep st.pre
        have ey := rep_key r5 ek
        subst ey
        refine ih (ks ++ [(k, v6)]) (putD acc k z) φ6 S6 H6 _ (mk5.step s6) ((st.msk D (List.mem_cons_self ..)).trans hd) (by rw [mergeK_snoc]; exact ra6.put r6) ?_ ?_ p6 fun ps H2 ⟨h1, kvs, e1, l1, q1⟩ => ?_
        · rw [List.length_append]
          have := len_putD acc k z
          simp only [List.length_singleton]
          omega
        · rw [List.length_append]
          simp only [List.length_cons, List.length_nil] at lk ⊢
          omega
        · refine fin _ H2 ⟨h1, (k, v6) :: kvs, by rw [e1]; rfl, ?_, ?_⟩
          · rw [show ks ++ (k, v6) :: kvs = ks ++ [(k, v6)] ++ kvs by simp]
            exact l1
          · rw [show ks ++ (k, v6) :: kvs = ks ++ [(k, v6)] ++ kvs by simp]
            exact q1
  exact key fs [] [] φ S _ _ (Mak.start R hD) upd_same .nil (Nat.zero_le _) (by simpa using hl) h fun ps H2 q => q
theorem pe_dispF {keys : List (Option Expr)} {values : List Expr} (h : PPs X pos keys values (dPs X fs)) (hf : fs.length ≤ 15 := by decide) (hall : keys.all (·.isSome) = true := by rfl) (hl : keys.length = values.length := by rfl) (h0 : keys ≠ [] := by exact fun z => nomatch z)
    (h15 : keys.length ≤ 15 := by decide) : PE X (.Dict keys values pos) (dT X W (eDisp fr fs)) := PE.weak (pe_disp h hall hl h0 h15) (disp_imp hf)
theorem pps_consF {k v : Expr} {ks : List (Option Expr)} {vs : List Expr} {fk fv : Slots → M T} (hk : PE X k (dT X W0 fk)) (hv : PE X v (dT X W0 fv)) (hr : PPs X pos ks vs (dPs X fs)) : PPs X pos (some k :: ks) (v :: vs) (dPs X ((fk, fv) :: fs)) := pps_cons hk hv hr
theorem pps_nilF : PPs X pos [] [] (dPs X []) := pps_nil
end
/-! ### dict(pairs), dict(d) -/
def pairsOf : List T → Option (List (Key × T))
  | [] => some []
  | .tup [a, b] :: r => (match keyOf a, pairsOf r with
    | some k, some ps => some ((k, b) :: ps)
    | _, _ => none)
  | _ => none
def mergeD (acc : List (T × T)) (ps : List (Key × T)) : List (T × T) := ps.foldl (fun a p => putD a p.1 p.2) acc
def dictT (fr : Bool) : List T → M T
  | [t] => fun S => match res S t with
    | .lst ts => (match pairsOf ts with
      | some ps => dcFin fr (mergeD [] ps) S
      | none => .bad)
    | .dic qs => if keysOk qs = true then dcFin fr qs S else .bad
    | _ => .bad
  | _ => bad
theorem len_mergeD : ∀ (ps : List (Key × T)) (acc : List (T × T)), (mergeD acc ps).length ≤ acc.length + ps.length
  | [], acc => Nat.le_refl _
  | p :: ps, acc => by
    have h := len_mergeD ps (putD acc p.1 p.2)
    have h2 := len_putD acc p.1 p.2
    show (mergeD (putD acc p.1 p.2) ps).length ≤ _
    rw [List.length_cons]
    omega
theorem len_pairsOf : ∀ {ts : List T} {ps : List (Key × T)}, pairsOf ts = some ps → ps.length = ts.length
  | [], ps, e => by cases e; rfl
  | t :: ts, ps, e => by
    unfold pairsOf at e
    split at e <;> first | (cases e; done) | skip
    · rename_i h; cases h
    · rename_i a b r h
      cases h
      split at e
      · rename_i k qs e1 e2
        cases e
        rw [List.length_cons, List.length_cons, len_pairsOf e2]
      · cases e
section
variable {K : PySem.W.Frag} {mg : Str → Option Value} {φ : List Addr} {S : Store} {Mk : List Addr} {H : Hp}
theorem RepK.mergeR {g : Gr} : ∀ {more : List (Key × V)} {qs : List (Key × T)} {kvs : List (Key × V)} {acc : List (T × T)}, Paired (fun p q => p.1 = q.1 ∧ Rep K mg g φ p.2 q.2) more qs → RepK K mg g φ kvs acc → RepK K mg g φ (mergeK kvs more) (mergeD acc qs)
  | _, _, _, _, .nil, r => r
  | _, _, kvs, acc, .cons (a := p) (b := q) h t, r => by
    have e : putK kvs p.1 p.2 = putK kvs q.1 p.2 := by rw [h.1]
    have r2 : RepK K mg g φ (putK kvs p.1 p.2) (putD acc q.1 q.2) := e ▸ r.put h.2
    exact RepK.mergeR (kvs := putK kvs p.1 p.2) (acc := putD acc q.1 q.2) t r2
theorem pairs_rep : ∀ {ts : List T} {vs : List V} {qs : List (Key × T)}, RepAll K mg (G φ S Mk H) φ vs ts → pairsOf ts = some qs →
    ∃ (ps : List Addr) (kvs : List (Key × V)), vs = ps.map V.ref ∧ Paired (fun p kv => SqT K H p [kV kv.1, kv.2]) ps kvs ∧ Paired (fun p q => p.1 = q.1 ∧ Rep K mg (G φ S Mk H) φ p.2 q.2) kvs qs
  | [], _, qs, h, e => by
    cases e
    cases h
    exact ⟨[], [], rfl, .nil, .nil⟩
  | t :: ts, _, qs, h, e => by
    unfold pairsOf at e
    split at e <;> first | (cases e; done) | skip
    · rename_i h; cases h
    · rename_i a b r ht
      cases ht
      split at e
      · rename_i k qs' e1 e2
        cases e
        cases h with
        | cons h1 h2 =>
          obtain ⟨ps, kvs, rfl, h3, h4⟩ := pairs_rep h2 e2
          cases h1 with
          | tup hr ha hl =>
            obtain ⟨x, y, rfl, rx, ry⟩ := rep2 ha
            have ex := rep_key rx e1
            subst ex
            exact ⟨_ :: ps, (k, y) :: kvs, rfl, .cons hr.sq h3, .cons ⟨rfl, ry⟩ h4⟩
      · cases e
end
section
variable {X : Cx} {fr : Bool}
theorem v_dict (hc : X.calm = true) : VCall X (.type "dict") (dictT fr) := by
  intro pins s σ H xs us φ S Mk ts Wx Q I r1 R h1 p
  unfold dictT at p
  split at p <;> first | exact p.elim | skip
  rename_i t
  obtain ⟨x, rfl, h⟩ := rep1 h1
  split at p <;> first | exact p.elim | skip
  · rename_i ys e
    obtain ⟨a, vs, rfl, hs, ra, l⟩ := rep_lst R h e
    split at p <;> first | exact p.elim | skip
    rename_i qs eq
    obtain ⟨ps, kvs, rfl, h3, h4⟩ := pairs_rep ra eq
    refine call_dictP hc pins s σ H _ us Q I r1 ⟨a, ps, kvs, rfl, .inl (.inl hs), h3, fun D hD => dcFin_new R (RepK.mergeR h4 .nil) ?_ p hD⟩
    have := len_mergeD qs []
    rw [len_pairsOf eq] at this
    simp only [List.length_nil] at this
    omega
  · rename_i qs e
    split at p <;> first | exact p.elim | skip
    rename_i hq
    obtain ⟨l, a, kvs, rfl, hk, r⟩ := dic_k R h e hq
    exact call_dictD pins s σ H _ us Q I r1 ⟨a, kvs, rfl, .inl hk, fun D hD => dcFin_new R r l p hD⟩
/-! ### sorted(d), keys ints; list(d) -/
theorem keys_rep {K : PySem.W.Frag} {mg : Str → Option Value} {g : Gr} {φ : List Addr} : ∀ {kvs : List (Key × V)} {qs : List (T × T)} {ns : List Int}, RepK K mg g φ kvs qs → intsOf (qs.map (·.1)) = some ns → kvs.map (·.1) = ns.map Sum.inl
  | _, _, ns, .nil, e => by cases e; rfl
  | _, _, ns, .cons (k := k) h r, e => by
    cases k with
    | inr x => cases e
    | inl i =>
      rw [List.map_cons] at e
      unfold keyT intsOf at e
      split at e
      · rename_i is e2
        cases e
        rw [List.map_cons, List.map_cons, keys_rep r e2]
      · cases e
def sortedDT : List T → M T
  | [t] => fun S => match res S t with
    | .dic qs => (match intsOf (qs.map (·.1)) with
      | some ns => if ns.length < 64 ∧ keysOk qs = true then .ok (.lst ((srt ltI ns).map T.int)) S else .bad
      | none => .bad)
    | _ => sortedT [t] S
  | _ => bad
theorem srtI_uniq {ns ys : List Int} (h : ys.Perm ns) (p : ys.Pairwise (· ≤ ·)) : ys = srt ltI ns := by
  refine List.Perm.eq_of_pairwise (le := fun a b => a ≤ b) (fun a b _ _ h1 h2 => Int.le_antisymm h1 h2) p ?_ (h.trans (srt_perm ns).symm)
  refine (tot_int.sorted ns).imp fun {a b} q => ?_
  unfold leOf ltI at q
  have := of_decide_eq_false (Bool.not_eq_true' _ ▸ q)
  omega
theorem v_sortedD (hc : X.calm = true) (hu : X.A.units + 70 < cLine) : VCall X (.builtin "sorted") sortedDT := by
  intro pins s σ H xs us φ S Mk ts Wx Q I r1 R h1 p
  unfold sortedDT at p
  split at p <;> first | exact p.elim | skip
  rename_i t
  split at p
  · rename_i qs e
    obtain ⟨x, rfl, h⟩ := rep1 h1
    split at p <;> first | exact p.elim | skip
    rename_i ns en
    split at p <;> first | exact p.elim | skip
    rename_i hl
    obtain ⟨l, a, kvs, rfl, hk, r⟩ := dic_k R h e hl.2
    refine call_sortedDI hc pins s σ H _ us Q I r1 ⟨a, kvs, ns, rfl, .inl hk, keys_rep r en, hl.1, fun ys D pm pw hD => ?_⟩
    have ey := srtI_uniq pm pw
    subst ey
    obtain ⟨st, g⟩ := Step.new (o := .lst ((srt ltI ns).map V.int)) R hD
    refine Post.ok (t := T.lst ((srt ltI ns).map T.int)) p st (.lst g repAll_int ?_)
    rw [List.length_map, pm.length_eq, sizeLine_eq]
    omega
  · exact v_sorted hu pins s σ H xs us φ S Mk [t] Wx Q I r1 R h1 p
end
/-! ### list(range(..)) -/
def rgL (a b : Int) : List T := (List.range (b - a).toNat).map fun i : Nat => T.int (a + (i : Nat))
def RgF (a b : Int) : Prop := -(2 ^ 62) ≤ a ∧ a < 2 ^ 62 ∧ -(2 ^ 62) ≤ b ∧ b < 2 ^ 62 ∧ (b - a).toNat ≤ 2 ^ 24
instance (a b : Int) : Decidable (RgF a b) := by unfold RgF; infer_instance
def listRg1 (x : T) : M T := fun S => match res S x with
  | .int n => if RgF 0 n then .ok (.lst (rgL 0 n)) S else .bad
  | _ => .bad
def listRg2 (x y : T) : M T := fun S => match res S x, res S y with
  | .int a, .int b => if RgF a b then .ok (.lst (rgL a b)) S else .bad
  | _, _ => .bad
section
variable {X : Cx} {W : WX} {a b : Expr} {fa fb : Slots → M T} {p p2 pos pos2 : Pos}
theorem repAll_rg {K : PySem.W.Frag} {mg : Str → Option Value} {g : Gr} {φ : List Addr} (a b : Int) : RepAll K mg g φ (rgV a b) (rgL a b) := by
  unfold rgV rgL
  generalize List.range (b - a).toNat = l
  induction l with
  | nil => exact .nil
  | cons x l ih => exact .cons (.int _) ih
theorem rg_done {φ : List Addr} {S : Store} {Mk : List Addr} {H : Hp} {Wx : Value → Option Addr → Hp → Prop} {Q : VK} {a b : Int} (R : Rel X.K X.mg φ S Mk H) (h : RgF a b) (p : Post X.K X.mg (Rep X.K X.mg) φ S Mk H (.ok (.lst (rgL a b)) S) Wx Q) (q : Addr) (hq : H q = none) : Q (.ref q) (upd H q (.lst (rgV a b))) := by
  obtain ⟨st, g⟩ := Step.new (o := .lst (rgV a b)) R hq
  refine Post.ok (t := T.lst (rgL a b)) p st (.lst g (repAll_rg a b) ?_)
  unfold rgL
  rw [List.length_map, List.length_range, sizeLine_eq]
  have := h.2.2.2.2
  omega
theorem pe_listRg1F (hc : X.calm = true) (hg : Gl X "list") (hm : X.mg "list" = none) (hg2 : Gl X "range") (hm2 : X.mg "range" = none) (ha : PE X a (dT X W fa)) (hs : starEach [a] X.env = (false, eval a X.env) :: starEach [] X.env := by rfl)
    (hs2 : starEach [Expr.Call (.Name "range" p2) [a] [] pos2] X.env = (false, eval (Expr.Call (.Name "range" p2) [a] [] pos2) X.env) :: starEach [] X.env := by rfl) :
    PE X (.Call (.Name "list" p) [.Call (.Name "range" p2) [a] [] pos2] [] pos) (dT X W (eUn listRg1 fa)) := by
  refine PE.weak (pe_listRg hc hg hm (prg_1 hg2 hm2 ha hs) hs2) fun σ H Q h => ?_
  refine dT_mono (one_part σ H Q h) fun x H1 ⟨φ, S, Mk, t, Wx, R, r1, p⟩ => ?_
  unfold listRg1 at p
  split at p <;> first | exact p.elim | skip
  rename_i n e
  split at p <;> first | exact p.elim | skip
  rename_i hr
  exact ⟨n, rep_int R r1 e, hr, rg_done R hr p⟩
theorem pe_listRg2F (hc : X.calm = true) (hg : Gl X "list") (hm : X.mg "list" = none) (hg2 : Gl X "range") (hm2 : X.mg "range" = none) (ha : PE X a (dT X W fa)) (hb : PE X b (dT X W fb)) (hs : starEach [a, b] X.env = (false, eval a X.env) :: starEach [b] X.env := by rfl) (hs' : starEach [b] X.env = (false, eval b X.env) :: starEach [] X.env := by rfl)
    (hpl : (backTo pos2 (starEach [b] X.env)).any (·.1) = false := by rfl) (hs2 : starEach [Expr.Call (.Name "range" p2) [a, b] [] pos2] X.env = (false, eval (Expr.Call (.Name "range" p2) [a, b] [] pos2) X.env) :: starEach [] X.env := by rfl) :
    PE X (.Call (.Name "list" p) [.Call (.Name "range" p2) [a, b] [] pos2] [] pos) (dT X W (eBin listRg2 fa fb)) := by
  refine PE.weak (pe_listRg hc hg hm (prg_2 hg2 hm2 ha hb hs hs' hpl) hs2) fun σ H Q h => ?_
  refine dT_mono (two_parts σ H Q h) fun x H1 h1 => dT_mono h1 fun y H2 ⟨φ, S, Mk, tx, ty, Wx, R, r1, r2, p⟩ => ?_
  unfold listRg2 at p
  split at p <;> first | exact p.elim | skip
  rename_i i j e1 e2
  split at p <;> first | exact p.elim | skip
  rename_i hr
  exact ⟨i, j, rep_int R r1 e1, rep_int R r2 e2, hr, rg_done R hr p⟩
/-! ### xs * n, to be changed -/
def mulRT (x y : T) : M T := fun S => match res S x, res S y with
  | .lst a, .int n => if 0 ≤ n ∧ n ≤ 1000000 ∧ a.length * n.toNat ≤ sizeLine then .ok (.ref S.length) (S ++ [some (.lst (List.replicate n.toNat a).flatten)]) else .bad
  | _, _ => .bad
theorem v_mulR : VOp2 X (binaryOp .Mult) mulRT := by
  intro pins s σ H x y u v φ S Mk tx ty Wx Q I r1 r2 R h1 h2 p
  unfold mulRT at p
  split at p <;> first | exact p.elim | skip
  rename_i a n e1 e2
  obtain ⟨a1, vs1, rfl, g1, ra1, l1⟩ := rep_lst R h1 e1
  rw [rep_int R h2 e2] at r2
  split at p <;> first | exact p.elim | skip
  rename_i hc
  obtain ⟨hn, hn2, hl⟩ := hc
  refine op_rep pins s σ H _ _ u v Q I r1 r2 ⟨a1, n, vs1, rfl, rfl, g1, by omega, by omega, by rw [ra1.length]; exact hl, fun q hq => ?_⟩
  have st := Step.alloc (K := X.K) (mg := X.mg) (c := .lst (List.replicate n.toNat a).flatten) (o := .lst (List.replicate n.toNat vs1).flatten) R hq fun g' k => ⟨by rw [len_flat, Nat.mul_comm]; exact hl, _, upd_same, (ra1.mono k ⟨[q], rfl⟩).flat _⟩
  exact p.ok st (.ref (by rw [← R.len]; exact List.getElem?_concat_length))
end
end Fw
set_option Elab.async false
set_option linter.all false
set_option maxRecDepth 100000
/-! FwWp3: weakest preconditions of FwMore2, FwSet, FwMore3. -/
namespace Fw
open PySem PySem.Spec PyProof.Rows L2
section
variable {S : Store} {τ : Slots} {Q : T → Store → Prop} {n : Nat} {i j : Int} {t u x y : T} {xs ys a : List T}
/-! ### cells that are dicts -/
def AtD (S : Store) (n : Nat) (qs : List (T × T)) : Prop := S[n]? = some (some (.dic qs))
theorem res_refD {qs : List (T × T)} (h : AtD S n qs) : res S (.ref n) = .dic qs := by unfold res; dsimp only; rw [show S[n]? = some (some (.dic qs)) from h]
theorem AtD.lt {qs : List (T × T)} (h : AtD S n qs) : n < S.length := (List.getElem?_eq_some_iff.mp h).1
theorem AtD.app {X : Store} {qs : List (T × T)} (h : AtD S n qs) : AtD (S ++ X) n qs := by
  unfold AtD
  rw [List.getElem?_append_left h.lt]
  exact h
theorem AtD.new {qs : List (T × T)} : AtD (S ++ [some (.dic qs)]) S.length qs := List.getElem?_concat_length
theorem AtD.set {qs rs : List (T × T)} (h : AtD S n qs) : AtD (S.set n (some (.dic rs))) n rs := List.getElem?_set_self h.lt
theorem AtD.ne {qs : List (T × T)} {m : Nat} {c : Option Cell} (h : AtD S n qs) (hm : m ≠ n) : AtD (S.set m c) n qs := by
  unfold AtD
  rw [List.getElem?_set_ne hm]
  exact h
/-- a dict that stands for a set of ints -/
def setD (ks : List Int) : List (T × T) := ks.map fun k => (T.int k, T.bl true)
def addI (ks : List Int) (x : Int) : List Int := if x ∈ ks then ks else ks ++ [x]
theorem mem_addI {ks : List Int} {x y : Int} : y ∈ addI ks x ↔ y ∈ ks ∨ y = x := by
  unfold addI
  split
  · rename_i h
    exact ⟨Or.inl, fun q => q.elim id fun e => e ▸ h⟩
  · simp
theorem addI_nodup {ks : List Int} {x : Int} (h : ks.Nodup) : (addI ks x).Nodup := by
  unfold addI
  split
  · exact h
  · rename_i hx
    rw [List.nodup_append]
    refine ⟨h, by simp, fun p hp q hq e => ?_⟩
    rw [List.mem_singleton] at hq
    exact hx (by rw [← hq, ← e]; exact hp)
theorem setD_ok (ks : List Int) : keysOk (setD ks) = true := by
  unfold keysOk setD
  rw [List.all_map, List.all_eq_true]
  intro x _
  rfl
theorem any_setD (ks : List Int) (x : Int) : ((setD ks).any fun q => isKey (Sum.inl x) q.1) = decide (x ∈ ks) := by
  induction ks with
  | nil => rfl
  | cons k ks ih =>
    unfold setD at ih ⊢
    rw [List.map_cons, List.any_cons, ih, Bool.eq_iff_iff]
    have : isKey (Sum.inl x) (T.int k) = decide (k = x) := by
      rw [show T.int k = keyT (Sum.inl k) from rfl, isKey_keyT, Bool.eq_iff_iff]
      simp
    simp only [this, Bool.or_eq_true, decide_eq_true_eq, List.mem_cons]
    exact ⟨fun h => h.elim (fun e => Or.inl e.symm) Or.inr, fun h => h.elim (fun e => Or.inl e.symm) Or.inr⟩
theorem put_setD (ks : List Int) (x : Int) : putD (setD ks) (Sum.inl x) (.bl true) = setD (addI ks x) := by
  unfold putD
  rw [any_setD]
  unfold addI
  by_cases h : x ∈ ks
  · rw [if_pos (decide_eq_true h), if_pos h]
    unfold setD
    rw [List.map_map]
    refine List.map_congr_left fun k _ => ?_
    simp only [Function.comp]
    split <;> rfl
  · rw [if_neg (by simpa using h), if_neg h]
    unfold setD
    rw [List.map_append]
    rfl
theorem get_setD (ks : List Int) (x : Int) : (getD (setD ks) (Sum.inl x)).isSome = decide (x ∈ ks) := by
  rw [← any_setD]
  unfold getD
  rw [Option.isSome_map, Bool.eq_iff_iff, List.find?_isSome, List.any_eq_true]
theorem wp_put (h : AtD S n (setD ks)) (hl : ks.length < sizeLine) {R : Unit → Store → Prop} : wp (setT (.ref n) (.int i) (.bl true)) S R = R () (S.set n (some (.dic (setD (addI ks i))))) := by
  refine wp_yes' ?_
  unfold setT
  dsimp only
  rw [show S[n]? = some (some (.dic (setD ks))) from h]
  dsimp only
  rw [if_pos ⟨setD_ok ks, by unfold setD; rw [List.length_map]; exact hl⟩, show keyOf (.int i) = some (Sum.inl i) from rfl]
  dsimp only
  rw [put_setD]
theorem wp_inD (h : AtD S n (setD ks)) {neg : Bool} : wp (memT neg (.int i) (.ref n)) S Q = Q (.bl (neg ^^ decide (i ∈ ks))) S := by
  refine wp_yes' ?_
  unfold memT
  rw [res_refD h]
  dsimp only
  rw [if_pos (setD_ok ks), show keyOf (.int i) = some (Sum.inl i) from rfl]
  dsimp only
  rw [get_setD]
theorem ints_setD (ks : List Int) : intsOf ((setD ks).map (·.1)) = some ks := by
  unfold setD
  rw [List.map_map]
  exact intsOf_map ks
theorem wp_sortD (h : AtD S n (setD ks)) (hl : ks.length < 64) : wp (sortedDT [.ref n]) S Q = Q (.lst ((srt ltI ks).map T.int)) S := by
  refine wp_yes' ?_
  unfold sortedDT
  dsimp only
  rw [res_refD h]
  dsimp only
  rw [ints_setD]
  dsimp only
  rw [if_pos ⟨hl, setD_ok ks⟩]
theorem wp_sortDL (h : res S t = .lst xs) : wp (sortedDT [t]) S Q = wp (sortedT [t]) S Q := by
  unfold wp sortedDT
  dsimp only
  rw [h]
@[simp] theorem wp_eDic0 {fr : Bool} : wp (eDic0 fr τ) S Q = wp (dcFin fr []) S Q := nr rfl
theorem wp_eDisp1 {fr : Bool} {fk fv : Slots → M T} : wp (eDisp fr [(fk, fv)] τ) S Q = wp (fk τ) S fun y S1 => wp (fv τ) S1 fun z S2 => optP (keyOf y) fun k => wp (dcFin fr [(keyT k, z)]) S2 Q := by
  unfold eDisp dispLoop
  simp only [wp_bnd, wp_noX]
  congr 1
  funext y S1
  congr 1
  funext z S2
  cases keyOf y with
  | none => rfl
  | some k =>
    dsimp only
    unfold dispLoop
    rw [wp_ret, optP_some]
    rfl
/-! ### dict of pairs -/
section
variable {β : Type} {kf : β → Key} {vf : β → T}
theorem pairsOf_map : ∀ xs : List β, pairsOf (xs.map fun x => T.tup [keyT (kf x), vf x]) = some (xs.map fun x => (kf x, vf x))
  | [] => rfl
  | x :: xs => by rw [List.map_cons, pairsOf, keyOf_keyT, pairsOf_map xs]; rfl
theorem mergeD_new : ∀ (xs pre : List β), ((pre ++ xs).map kf).Nodup → mergeD (dicL kf vf pre) (xs.map fun x => (kf x, vf x)) = dicL kf vf (pre ++ xs)
  | [], pre, _ => by rw [List.append_nil]; rfl
  | x :: xs, pre, hn => by
    have e : pre ++ x :: xs = (pre ++ [x]) ++ xs := by simp
    rw [e, ← mergeD_new xs (pre ++ [x]) (by rw [← e]; exact hn)]
    show mergeD (putD (dicL kf vf pre) (kf x) (vf x)) _ = _
    rw [putD_new fun q hq => ?_]
    · simp [dicL]
    · obtain ⟨p, hp, rfl⟩ := List.mem_map.1 hq
      rw [isKey_keyT]
      refine decide_eq_false fun e => ?_
      rw [List.map_append, List.nodup_append] at hn
      exact hn.2.2 _ (List.mem_map_of_mem hp) _ (by simp) e
theorem wp_dictL {fr : Bool} (xs : List β) (hn : (xs.map kf).Nodup) (e : res S t = .lst (xs.map fun x => T.tup [keyT (kf x), vf x])) : wp (dictT fr [t]) S Q = wp (dcFin fr (dicL kf vf xs)) S Q := by
  unfold wp dictT
  dsimp only
  rw [e]
  dsimp only
  rw [pairsOf_map]
  dsimp only
  rw [show mergeD [] (xs.map fun x => (kf x, vf x)) = dicL kf vf xs from mergeD_new xs [] hn]
end
/-! ### lists of ints -/
theorem wp_max1 {ns : List Int} (e : res S t = .lst (ns.map T.int)) (h : ns ≠ []) : wp (max1T [t]) S Q = Q (.int (maxI ns)) S := by
  refine wp_yes' ?_
  unfold max1T ofInts
  dsimp only
  rw [e]
  dsimp only
  rw [intsOf_map]
  dsimp only
  rw [if_neg h]
theorem wp_min1 {ns : List Int} (e : res S t = .lst (ns.map T.int)) (h : ns ≠ []) : wp (min1T [t]) S Q = Q (.int (minI ns)) S := by
  refine wp_yes' ?_
  unfold min1T ofInts
  dsimp only
  rw [e]
  dsimp only
  rw [intsOf_map]
  dsimp only
  rw [if_neg h]
theorem wp_sum {ns : List Int} (e : res S t = .lst (ns.map T.int)) : wp (sumT [t]) S Q = Q (.int ns.sum) S := by
  refine wp_yes' ?_
  unfold sumT ofInts
  dsimp only
  rw [e]
  dsimp only
  rw [intsOf_map]
theorem wp_sortSet {ns : List Int} (e : res S t = .lst (ns.map T.int)) (h : ns.length < 64) : wp (sortedSetT t) S Q = Q (.lst ((setSrt ns).map T.int)) S := by
  refine wp_yes' ?_
  unfold sortedSetT
  rw [e]
  dsimp only
  rw [intsOf_map]
  dsimp only
  rw [if_pos h]
theorem wp_listRg1 {m : Nat} (h : m ≤ 1000000) : wp (listRg1 (.int (m : Int))) S Q = Q (.lst ((List.range m).map fun k : Nat => T.int (k : Int))) S := by
  refine wp_yes' ?_
  unfold listRg1
  dsimp only [res]
  rw [if_pos (by unfold RgF; omega)]
  unfold rgL
  rw [Int.sub_zero, Int.toNat_natCast]
  simp only [Int.zero_add]
theorem wp_down {m : Nat} (h : m ≤ 1000000) {R : Src → Store → Prop} : wp (range3 [.int ((m : Int) - 1), .int (-1), .int (-1)]) S R = R ⟨(List.range m).map fun k : Nat => T.int ((m : Int) - 1 - (k : Int)), fun _ => True⟩ S := by
  refine wp_yes' ?_
  unfold range3
  dsimp only
  rw [if_pos (by omega)]
  unfold rangeC
  have e : ((m : Int) - 1 - -1).toNat = m := by omega
  rw [e, if_pos (by rw [sizeLine_eq]; omega)]
  congr 2
  refine List.map_congr_left fun k _ => ?_
  rw [Int.mul_neg, Int.mul_one]
  rfl
/-! ### times -/
theorem flat_one {α : Type} (x : α) : ∀ n : Nat, (List.replicate n [x]).flatten = List.replicate n x
  | 0 => rfl
  | n + 1 => by rw [List.replicate_succ, List.flatten_cons, flat_one x n, List.replicate_succ]; rfl
theorem wp_mulR1 {m : Nat} (h : m ≤ 1000000) : wp (mulRT (.lst [x]) (.int (m : Int))) S Q = Q (.ref S.length) (S ++ [some (.lst (List.replicate m x))]) := by
  refine wp_yes' ?_
  unfold mulRT
  dsimp only [res]
  rw [if_pos ⟨by omega, by omega, by rw [sizeLine_eq, Int.toNat_natCast]; simp; omega⟩, Int.toNat_natCast, flat_one]
theorem wp_mulT {m : Nat} (h : m ≤ 1000) (hl : a.length ≤ 1000) : wp (mulT (.tup a) (.int (m : Int))) S Q = Q (.tup (List.replicate m a).flatten) S := by
  refine wp_yes' ?_
  unfold mulT
  dsimp only [res]
  rw [if_pos ⟨by omega, by omega, hl⟩, Int.toNat_natCast]
theorem wp_mulT1 {m : Nat} (h : m ≤ 1000) : wp (mulT (.tup [x]) (.int (m : Int))) S Q = Q (.tup (List.replicate m x)) S := by
  rw [wp_mulT h (by show 1 ≤ 1000; decide), flat_one]
@[simp] theorem wp_isNot : wp (isNotT t .non) S Q = Q (.bl (!isNon t)) S := nr rfl
@[simp] theorem wp_is : wp (isT t .non) S Q = Q (.bl (isNon t)) S := nr rfl
theorem res_tup_ : res S (.tup xs) = .tup xs := rfl
theorem wp_iter_rd {ns : List Int} {R : Src → Store → Prop} : wp (iterT (.lst (ns.map T.int))) S R = R ⟨ns.map T.int, fun _ => True⟩ S := nr rfl
end
end Fw
namespace Fw
open PySem PySem.Spec PyProof.Rows L2
section
variable {S : Store} {τ : Slots} {chk : Store → Prop} {own : List Nat} {g : Tg} {c : Slots → M Bool} {e : Slots → M T}
/-- a comprehension by an invariant over what it has made -/
theorem wp_lc_acc {β : Type} {enc : β → T} (I : Nat → List T → Store → Prop) : ∀ (xs : List β) (k : Nat) (acc : List T) (S : Store), I k acc S → (∀ i acc S, I i acc S → chk S) →
    (∀ i (h : i < xs.length) acc S, I (k + i) acc S → wp (g (enc xs[i]) (wipeT τ own)) S fun τ1 S1 => wp (c τ1) S1 fun b S2 => if b = true then wp (e τ1) S2 fun y S3 => I (k + i + 1) (acc ++ [y]) S3 else I (k + i + 1) acc S2) →
    wp (lcLoop chk own g c e τ (xs.map enc)) S fun ys S' => I (k + xs.length) (acc ++ ys) S'
  | [], k, acc, S, h0, hc, hs => by
    rw [List.map_nil, wp_lc_nil]
    refine ⟨hc k acc S h0, ?_⟩
    rw [List.append_nil]
    exact h0
  | x :: xs, k, acc, S, h0, hc, hs => by
    rw [List.map_cons, wp_lc_cons]
    have len : k + (x :: xs).length = k + 1 + xs.length := by simp; omega
    have next : ∀ (acc : List T) (S2 : Store), I (k + 1) acc S2 → wp (lcLoop chk own g c e τ (xs.map enc)) S2 fun ys S' => I (k + (x :: xs).length) (acc ++ ys) S' := fun acc S2 h2 => by
      rw [len]
      refine wp_lc_acc I xs (k + 1) acc S2 h2 hc fun i hi acc S h => ?_
      have q := hs (i + 1) (by simp; omega) acc S (by
        have e : k + (i + 1) = k + 1 + i := by omega
        rw [e]; exact h)
      have e : k + (i + 1) + 1 = k + 1 + i + 1 := by omega
      rw [e] at q
      exact q
    refine ⟨hc k acc S h0, wp_mono (hs 0 (by simp) acc S h0) fun τ1 S1 h1 => wp_mono h1 fun b S2 h2 => ?_⟩
    cases b with
    | true =>
      rw [if_pos rfl] at h2 ⊢
      refine wp_mono h2 fun y S3 h3 => wp_mono (next _ S3 h3) fun ys S' h4 => ?_
      rw [show acc ++ y :: ys = acc ++ [y] ++ ys by simp]
      exact h4
    | false =>
      rw [if_neg (by decide)] at h2 ⊢
      exact next acc S2 h2
end
/-- small displays -/
theorem wp_tupS {xs : List T} {S : Store} {Q : T → Store → Prop} (h : xs.length ≤ 100) : wp (mkTup xs) S Q = Q (.tup xs) S := by
  rw [wp_mkTup]
  exact propext ⟨fun h => h.2, fun q => ⟨Nat.le_trans h (by decide), q⟩⟩
theorem wp_lstS {xs : List T} {S : Store} {Q : T → Store → Prop} (h : xs.length ≤ 100) : wp (mkLst xs) S Q = Q (.lst xs) S := by
  rw [wp_mkLst]
  exact propext ⟨fun h => h.2, fun q => ⟨Nat.le_trans h (by decide), q⟩⟩
end Fw
set_option Elab.async false
set_option linter.all false
set_option maxRecDepth 100000
/-! The walk of law_k39_news_tables_met: printed by gen.py. -/
namespace W_k39
open PySem PySem.Spec PyProof.Rows L2 Fw
def topS (i : Nat) : Stmt := PySem.Challenge.pw_meetwide_k39_news_tables_met.main.body.getD i (.Pass ⟨0, 0, 0, 0⟩)
abbrev s__law_places : Stmt := topS 38
theorem sc__law_places : FnScope ["alphabet", "letter", "place"] ["alphabet"] (defScope s__law_places) := ⟨rfl, rfl, rfl, by decide +kernel, rfl, by decide +kernel, by decide +kernel⟩
abbrev s_is_ascending : Stmt := topS 13
theorem sc_is_ascending : FnScope ["items", "one", "other"] ["items"] (defScope s_is_ascending) := ⟨rfl, rfl, rfl, by decide +kernel, rfl, by decide +kernel, by decide +kernel⟩
abbrev s_is_integer : Stmt := topS 10
theorem sc_is_integer : FnScope ["value"] ["value"] (defScope s_is_integer) := ⟨rfl, rfl, rfl, by decide +kernel, rfl, by decide +kernel, by decide +kernel⟩
abbrev s_is_between : Stmt := topS 11
theorem sc_is_between : FnScope ["value", "low", "high"] ["value", "low", "high"] (defScope s_is_between) := ⟨rfl, rfl, rfl, by decide +kernel, rfl, by decide +kernel, by decide +kernel⟩
abbrev s_is_name : Stmt := topS 12
theorem sc_is_name : FnScope ["value", "sign"] ["value"] (defScope s_is_name) := ⟨rfl, rfl, rfl, by decide +kernel, rfl, by decide +kernel, by decide +kernel⟩
abbrev s_are_processes : Stmt := topS 14
theorem sc_are_processes : FnScope ["many", "value", "process"] ["many", "value"] (defScope s_are_processes) := ⟨rfl, rfl, rfl, by decide +kernel, rfl, by decide +kernel, by decide +kernel⟩
abbrev s_is_set_of : Stmt := topS 15
theorem sc_is_set_of : FnScope ["many", "value"] ["many", "value"] (defScope s_is_set_of) := ⟨rfl, rfl, rfl, by decide +kernel, rfl, by decide +kernel, by decide +kernel⟩
abbrev s_is_row : Stmt := topS 16
theorem sc_is_row : FnScope ["many", "value"] ["many", "value"] (defScope s_is_row) := ⟨rfl, rfl, rfl, by decide +kernel, rfl, by decide +kernel, by decide +kernel⟩
abbrev s_is_alphabet : Stmt := topS 17
theorem sc_is_alphabet : FnScope ["value", "many", "rows", "row", "letter", "place"] ["value"] (defScope s_is_alphabet) := ⟨rfl, rfl, rfl, by decide +kernel, rfl, by decide +kernel, by decide +kernel⟩
abbrev s_require_alphabet : Stmt := topS 18
theorem sc_require_alphabet : FnScope ["alphabet"] ["alphabet"] (defScope s_require_alphabet) := ⟨rfl, rfl, rfl, by decide +kernel, rfl, by decide +kernel, by decide +kernel⟩
abbrev s_letters_in : Stmt := topS 19
theorem sc_letters_in : FnScope ["alphabet", "letter", "place"] ["alphabet"] (defScope s_letters_in) := ⟨rfl, rfl, rfl, by decide +kernel, rfl, by decide +kernel, by decide +kernel⟩
abbrev s_is_letter_in : Stmt := topS 22
theorem sc_is_letter_in : FnScope ["alphabet", "value"] ["alphabet", "value"] (defScope s_is_letter_in) := ⟨rfl, rfl, rfl, by decide +kernel, rfl, by decide +kernel, by decide +kernel⟩
abbrev s_require_letter : Stmt := topS 23
theorem sc_require_letter : FnScope ["alphabet", "letter"] ["alphabet", "letter"] (defScope s_require_letter) := ⟨rfl, rfl, rfl, by decide +kernel, rfl, by decide +kernel, by decide +kernel⟩
abbrev s_newest_in : Stmt := topS 28
theorem sc_newest_in : FnScope ["tables", "process", "found", "at", "table"] ["tables", "process"] (defScope s_newest_in) := ⟨rfl, rfl, rfl, by decide +kernel, rfl, by decide +kernel, by decide +kernel⟩
abbrev s_met_in : Stmt := topS 29
theorem sc_met_in : FnScope ["many", "place", "tables", "holders", "process", "clock", "clocks"] ["many", "place", "tables"] (defScope s_met_in) := ⟨rfl, rfl, rfl, by decide +kernel, rfl, by decide +kernel, by decide +kernel⟩
abbrev s_places_in : Stmt := topS 20
theorem sc_places_in : FnScope ["alphabet", "letter", "place"] ["alphabet"] (defScope s_places_in) := ⟨rfl, rfl, rfl, by decide +kernel, rfl, by decide +kernel, by decide +kernel⟩
abbrev s_place_in : Stmt := topS 21
theorem sc_place_in : FnScope ["alphabet", "letter"] ["alphabet", "letter"] (defScope s_place_in) := ⟨rfl, rfl, rfl, by decide +kernel, rfl, by decide +kernel, by decide +kernel⟩
abbrev s_is_clock_in : Stmt := topS 26
theorem sc_is_clock_in : FnScope ["many", "value", "count"] ["many", "value"] (defScope s_is_clock_in) := ⟨rfl, rfl, rfl, by decide +kernel, rfl, by decide +kernel, by decide +kernel⟩
abbrev s_is_table_in : Stmt := topS 27
theorem sc_is_table_in : FnScope ["many", "value", "clock"] ["many", "value"] (defScope s_is_table_in) := ⟨rfl, rfl, rfl, by decide +kernel, rfl, by decide +kernel, by decide +kernel⟩
abbrev s_met_tables : Stmt := topS 31
theorem sc_met_tables : FnScope ["alphabet", "letter", "tables", "many", "place", "table"] ["alphabet", "letter", "tables"] (defScope s_met_tables) := ⟨rfl, rfl, rfl, by decide +kernel, rfl, by decide +kernel, by decide +kernel⟩
abbrev s_zero_table : Stmt := topS 25
theorem sc_zero_table : FnScope ["many", "zeros"] ["many"] (defScope s_zero_table) := ⟨rfl, rfl, rfl, by decide +kernel, rfl, by decide +kernel, by decide +kernel⟩
abbrev s_first_table : Stmt := topS 30
theorem sc_first_table : FnScope ["alphabet"] ["alphabet"] (defScope s_first_table) := ⟨rfl, rfl, rfl, by decide +kernel, rfl, by decide +kernel, by decide +kernel⟩
abbrev s__law_meet : Stmt := topS 40
theorem sc__law_meet : FnScope ["one", "other", "process"] ["one", "other"] (defScope s__law_meet) := ⟨rfl, rfl, rfl, by decide +kernel, rfl, by decide +kernel, by decide +kernel⟩
abbrev s__law_pasts : Stmt := topS 41
theorem sc__law_pasts : FnScope ["alphabet", "word", "places", "found", "at", "letter", "inside", "earlier", "other"] ["alphabet", "word"] (defScope s__law_pasts) := ⟨rfl, rfl, rfl, by decide +kernel, rfl, by decide +kernel, by decide +kernel⟩
abbrev s__law_last : Stmt := topS 42
theorem sc__law_last : FnScope ["alphabet", "word", "process", "inside", "places", "found", "at"] ["alphabet", "word", "process", "inside"] (defScope s__law_last) := ⟨rfl, rfl, rfl, by decide +kernel, rfl, by decide +kernel, by decide +kernel⟩
abbrev s__law_view : Stmt := topS 43
theorem sc__law_view : FnScope ["alphabet", "word", "group", "pasts", "inside", "process", "last", "at"] ["alphabet", "word", "group"] (defScope s__law_view) := ⟨rfl, rfl, rfl, by decide +kernel, rfl, by decide +kernel, by decide +kernel⟩
abbrev s__law_counts : Stmt := topS 44
theorem sc__law_counts : FnScope ["alphabet", "word", "inside", "places", "found", "at", "process"] ["alphabet", "word", "inside"] (defScope s__law_counts) := ⟨rfl, rfl, rfl, by decide +kernel, rfl, by decide +kernel, by decide +kernel⟩
abbrev s__law_table : Stmt := topS 45
theorem sc__law_table : FnScope ["alphabet", "word", "process", "pasts", "seen", "clocks", "other", "last"] ["alphabet", "word", "process"] (defScope s__law_table) := ⟨rfl, rfl, rfl, by decide +kernel, rfl, by decide +kernel, by decide +kernel⟩
abbrev s__law_right : Stmt := topS 46
theorem sc__law_right : FnScope ["alphabet", "word", "places", "tables", "at", "letter", "given", "process", "kept", "told"] ["alphabet", "word"] (defScope s__law_right) := ⟨rfl, rfl, rfl, by decide +kernel, rfl, by decide +kernel, by decide +kernel⟩
abbrev s__law_stream : Stmt := topS 33
theorem sc__law_stream : FnScope ["script", "at", "cell", "great", "mixed"] ["script", "at"] (defScope s__law_stream) := ⟨rfl, rfl, rfl, by decide +kernel, rfl, by decide +kernel, by decide +kernel⟩
abbrev s__law_draw : Stmt := topS 34
theorem sc__law_draw : FnScope ["stream", "total", "found", "one", "two"] ["stream", "total"] (defScope s__law_draw) := ⟨rfl, rfl, rfl, by decide +kernel, rfl, by decide +kernel, by decide +kernel⟩
abbrev s__law_alphabet : Stmt := topS 36
theorem sc__law_alphabet : FnScope ["stream", "most", "letters", "total", "places", "signs", "at", "place", "process", "rows", "word", "sign"] ["stream", "most", "letters"] (defScope s__law_alphabet) := ⟨rfl, rfl, rfl, by decide +kernel, rfl, by decide +kernel, by decide +kernel⟩
abbrev s__law_meeting_alphabet : Stmt := topS 37
theorem sc__law_meeting_alphabet : FnScope ["stream", "most", "total", "rows", "process"] ["stream", "most"] (defScope s__law_meeting_alphabet) := ⟨rfl, rfl, rfl, by decide +kernel, rfl, by decide +kernel, by decide +kernel⟩
abbrev s__law_pick : Stmt := topS 35
theorem sc__law_pick : FnScope ["stream", "items"] ["stream", "items"] (defScope s__law_pick) := ⟨rfl, rfl, rfl, by decide +kernel, rfl, by decide +kernel, by decide +kernel⟩
abbrev s__law_word : Stmt := topS 39
theorem sc__law_word : FnScope ["stream", "alphabet", "total", "letters", "letter", "place", "turn"] ["stream", "alphabet", "total"] (defScope s__law_word) := ⟨rfl, rfl, rfl, by decide +kernel, rfl, by decide +kernel, by decide +kernel⟩
abbrev s_law : Stmt := topS 47
theorem sc_law : FnScope ["script", "at", "stream", "alphabet", "ring", "full", "line"] ["script"] (defScope s_law) := ⟨rfl, rfl, rfl, by decide +kernel, rfl, by decide +kernel, by decide +kernel⟩
/-! ### denotations -/
noncomputable def b__law_places : MS := (sRet (eCall (dictT false) (eCons (eLc false (eIter (eBin subT' (eVar 0) (eC (.int 1)))) [1, 2] (tgTup (tgCons (tgName 1) (tgCons (tgName 2) tgNil))) yes (eTup (eCons (eVar 1) (eCons (eVar 2) eNil)))) eNil)))
noncomputable def d__law_places : List T → M T := arT 1 (fnBody 3 b__law_places)
noncomputable def b_is_ascending : MS := (sRet (eCall allT (eCons (eLc false (eRange zipT (eCons (eVar 0) (eCons (eCut (eVar 0) (some (eC (.int 1))) none) eNil))) [1, 2] (tgTup (tgCons (tgName 1) (tgCons (tgName 2) tgNil))) yes (eBin ltT (eVar 1) (eVar 2))) eNil)))
noncomputable def d_is_ascending : List T → M T := arT 1 (fnBody 3 b_is_ascending)
noncomputable def b_is_integer : MS := (sRet (eAnd (eCall isiT (eCons (eVar 0) (eCons (eC (.ty "int")) eNil))) (eNot (eCall isiT (eCons (eVar 0) (eCons (eC (.ty "bool")) eNil))))))
noncomputable def d_is_integer : List T → M T := arT 1 (fnBody 1 b_is_integer)
noncomputable def b_is_between : MS := (sRet (eAnd (eCall d_is_integer (eCons (eVar 0) eNil)) (eCmp2 leT leT (eVar 1) (eVar 0) (eVar 2))))
noncomputable def d_is_between : List T → M T := arT 3 (fnBody 3 b_is_between)
noncomputable def b_is_name : MS := (sRet (eAnd (eCall isiT (eCons (eVar 0) (eCons (eC (.ty "str")) eNil))) (eAnd (eCmp2 leT leT (eC (.int 1)) (eCall lenT (eCons (eVar 0) eNil)) (eC (.int 8))) (eCall allT (eCons (eLc false (eIter (eVar 0)) [1] (tgName 1) yes (eBin (memT false) (eVar 1) (eC (.str "abcdefghijklmnopqrstuvwxyz")))) eNil)))))
noncomputable def d_is_name : List T → M T := arT 1 (fnBody 2 b_is_name)
noncomputable def b_are_processes : MS := (sRet (eAnd (eCall isiT (eCons (eVar 1) (eCons (eC (.ty "tuple")) eNil))) (eAnd (eBin neT (eVar 1) (eTup eNil)) (eCall allT (eCons (eLc false (eIter (eVar 1)) [2] (tgName 2) yes (eCall d_is_between (eCons (eVar 2) (eCons (eC (.int 0)) (eCons (eBin subT (eVar 0) (eC (.int 1))) eNil))))) eNil)))))
noncomputable def d_are_processes : List T → M T := arT 2 (fnBody 3 b_are_processes)
noncomputable def b_is_set_of : MS := (sRet (eAnd (eCall d_are_processes (eCons (eVar 0) (eCons (eVar 1) eNil))) (eCall d_is_ascending (eCons (eVar 1) eNil))))
noncomputable def d_is_set_of : List T → M T := arT 2 (fnBody 2 b_is_set_of)
noncomputable def b_is_row : MS := (sRet (eAnd (eCall isiT (eCons (eVar 1) (eCons (eC (.ty "tuple")) eNil))) (eAnd (eBin eqT (eCall lenT (eCons (eVar 1) eNil)) (eC (.int 2))) (eAnd (eCall d_is_name (eCons (eBin subT' (eVar 1) (eC (.int 0))) eNil)) (eCall d_is_set_of (eCons (eVar 0) (eCons (eBin subT' (eVar 1) (eC (.int 1))) eNil)))))))
noncomputable def d_is_row : List T → M T := arT 2 (fnBody 2 b_is_row)
noncomputable def b_is_alphabet : MS := (sSeq (sIf (bOr (bNot (eTru (eCall isiT (eCons (eVar 0) (eCons (eC (.ty "tuple")) eNil))))) (bOr (eB (eBin neT (eCall lenT (eCons (eVar 0) eNil)) (eC (.int 2)))) (bNot (eTru (eCall d_is_between (eCons (eBin subT' (eVar 0) (eC (.int 0))) (eCons (eC (.int 1)) (eCons (eC (.int 5)) eNil)))))))) (sRet (eC (.bl false))) sNext) (sSeq (sAsg (tgTup (tgCons (tgName 1) (tgCons (tgName 2) tgNil))) (eVar 0)) (sSeq (sIf (bOr (bNot (eTru (eCall isiT (eCons (eVar 2) (eCons (eC (.ty "tuple")) eNil))))) (bNot (eB (eCmp2 leT leT (eC (.int 1)) (eCall lenT (eCons (eVar 2) eNil)) (eC (.int 10)))))) (sRet (eC (.bl false))) sNext) (sRet (eAnd (eCall allT (eCons (eLc false (eIter (eVar 2)) [3] (tgName 3) yes (eCall d_is_row (eCons (eVar 1) (eCons (eVar 3) eNil)))) eNil)) (eCall d_is_ascending (eCons (eLc false (eIter (eVar 2)) [4, 5] (tgTup (tgCons (tgName 4) (tgCons (tgName 5) tgNil))) yes (eVar 4)) eNil)))))))
noncomputable def d_is_alphabet : List T → M T := arT 1 (fnBody 6 b_is_alphabet)
noncomputable def b_require_alphabet : MS := (sIf (bNot (eTru (eCall d_is_alphabet (eCons (eVar 0) eNil)))) sBad sNext)
noncomputable def d_require_alphabet : List T → M T := arT 1 (fnBody 1 b_require_alphabet)
noncomputable def b_letters_in : MS := (sRet (eCall tupleT (eCons (eLc false (eIter (eBin subT' (eVar 0) (eC (.int 1)))) [1, 2] (tgTup (tgCons (tgName 1) (tgCons (tgName 2) tgNil))) yes (eVar 1)) eNil)))
noncomputable def d_letters_in : List T → M T := arT 1 (fnBody 3 b_letters_in)
noncomputable def b_is_letter_in : MS := (sRet (eAnd (eCall isiT (eCons (eVar 1) (eCons (eC (.ty "str")) eNil))) (eBin (memT false) (eVar 1) (eCall d_letters_in (eCons (eVar 0) eNil)))))
noncomputable def d_is_letter_in : List T → M T := arT 2 (fnBody 2 b_is_letter_in)
noncomputable def b_require_letter : MS := (sIf (bNot (eTru (eCall d_is_letter_in (eCons (eVar 0) (eCons (eVar 1) eNil))))) sBad sNext)
noncomputable def d_require_letter : List T → M T := arT 2 (fnBody 2 b_require_letter)
noncomputable def b_newest_in : MS := (sSeq (sSet 2 (eC (.int 0))) (sSeq (sFor (eRange enumT (eCons (eVar 0) eNil)) (tgTup (tgCons (tgName 3) (tgCons (tgName 4) tgNil))) (sIf (eB (eBin gtT (eBin subT' (eBin subT' (eVar 4) (eC (.int 0))) (eVar 1)) (eBin subT' (eBin subT' (eBin subT' (eVar 0) (eVar 2)) (eC (.int 0))) (eVar 1)))) (sSet 2 (eVar 3)) sNext)) (sRet (eVar 2))))
noncomputable def d_newest_in : List T → M T := arT 2 (fnBody 5 b_newest_in)
noncomputable def b_met_in : MS := (sSeq (sSet 3 (eLc false (eRange range1 (eCons (eVar 0) eNil)) [4] (tgName 4) yes (eBin subT' (eVar 2) (eCall d_newest_in (eCons (eVar 2) (eCons (eVar 4) eNil)))))) (sSeq (sSet 5 (eCall tupleT (eCons (eLc false (eRange range1 (eCons (eVar 0) eNil)) [4] (tgName 4) yes (eBin addT (eBin subT' (eBin subT' (eBin subT' (eVar 3) (eVar 4)) (eC (.int 0))) (eVar 4)) (eCall intT (eCons (eBin (memT false) (eVar 4) (eVar 1)) eNil)))) eNil))) (sSeq (sSet 6 (eLc false (eRange range1 (eCons (eVar 0) eNil)) [4] (tgName 4) yes (eIf (eB (eBin (memT false) (eVar 4) (eVar 1))) (eVar 5) (eBin subT' (eBin subT' (eBin subT' (eVar 3) (eVar 4)) (eC (.int 1))) (eVar 4))))) (sRet (eTup (eCons (eVar 5) (eCons (eCall tupleT (eCons (eVar 6) eNil)) eNil)))))))
noncomputable def d_met_in : List T → M T := arT 3 (fnBody 7 b_met_in)
noncomputable def b_places_in : MS := (sRet (eDc false (eIter (eBin subT' (eVar 0) (eC (.int 1)))) [1, 2] (tgTup (tgCons (tgName 1) (tgCons (tgName 2) tgNil))) yes (eVar 1) (eVar 2)))
noncomputable def d_places_in : List T → M T := arT 1 (fnBody 3 b_places_in)
noncomputable def b_place_in : MS := (sRet (eBin subT' (eCall d_places_in (eCons (eVar 0) eNil)) (eVar 1)))
noncomputable def d_place_in : List T → M T := arT 2 (fnBody 2 b_place_in)
noncomputable def b_is_clock_in : MS := (sSeq (sIf (bOr (bNot (eTru (eCall isiT (eCons (eVar 1) (eCons (eC (.ty "tuple")) eNil))))) (eB (eBin neT (eCall lenT (eCons (eVar 1) eNil)) (eVar 0)))) (sRet (eC (.bl false))) sNext) (sRet (eCall allT (eCons (eLc false (eIter (eVar 1)) [2] (tgName 2) yes (eAnd (eCall d_is_integer (eCons (eVar 2) eNil)) (eBin geT (eVar 2) (eC (.int 0))))) eNil))))
noncomputable def d_is_clock_in : List T → M T := arT 2 (fnBody 3 b_is_clock_in)
noncomputable def b_is_table_in : MS := (sSeq (sIf (bOr (bNot (eTru (eCall isiT (eCons (eVar 1) (eCons (eC (.ty "tuple")) eNil))))) (bOr (eB (eBin neT (eCall lenT (eCons (eVar 1) eNil)) (eC (.int 2)))) (bNot (eTru (eCall d_is_clock_in (eCons (eVar 0) (eCons (eBin subT' (eVar 1) (eC (.int 0))) eNil))))))) (sRet (eC (.bl false))) sNext) (sSeq (sIf (bOr (bNot (eTru (eCall isiT (eCons (eBin subT' (eVar 1) (eC (.int 1))) (eCons (eC (.ty "tuple")) eNil))))) (eB (eBin neT (eCall lenT (eCons (eBin subT' (eVar 1) (eC (.int 1))) eNil)) (eVar 0)))) (sRet (eC (.bl false))) sNext) (sRet (eCall allT (eCons (eLc false (eIter (eBin subT' (eVar 1) (eC (.int 1)))) [2] (tgName 2) yes (eCall d_is_clock_in (eCons (eVar 0) (eCons (eVar 2) eNil)))) eNil)))))
noncomputable def d_is_table_in : List T → M T := arT 2 (fnBody 3 b_is_table_in)
noncomputable def b_met_tables : MS := (sSeq (sDrop (eCall d_require_alphabet (eCons (eVar 0) eNil))) (sSeq (sDrop (eCall d_require_letter (eCons (eVar 0) (eCons (eVar 1) eNil)))) (sSeq (sAsg (tgTup (tgCons (tgName 3) (tgCons (tgName 4) tgNil))) (eTup (eCons (eBin subT' (eVar 0) (eC (.int 0))) (eCons (eCall d_place_in (eCons (eVar 0) (eCons (eVar 1) eNil))) eNil)))) (sSeq (sIf (bOr (bNot (eTru (eCall isiT (eCons (eVar 2) (eCons (eC (.ty "tuple")) eNil))))) (eB (eBin neT (eCall lenT (eCons (eVar 2) eNil)) (eCall lenT (eCons (eVar 4) eNil))))) sBad sNext) (sSeq (sIf (bNot (eTru (eCall allT (eCons (eLc false (eIter (eVar 2)) [5] (tgName 5) yes (eCall d_is_table_in (eCons (eVar 3) (eCons (eVar 5) eNil)))) eNil)))) sBad sNext) (sRet (eCall d_met_in (eCons (eVar 3) (eCons (eVar 4) (eCons (eVar 2) eNil))))))))))
noncomputable def d_met_tables : List T → M T := arT 3 (fnBody 6 b_met_tables)
noncomputable def b_zero_table : MS := (sSeq (sSet 1 (eBin mulT (eTup (eCons (eC (.int 0)) eNil)) (eVar 0))) (sRet (eTup (eCons (eVar 1) (eCons (eBin mulT (eTup (eCons (eVar 1) eNil)) (eVar 0)) eNil)))))
noncomputable def d_zero_table : List T → M T := arT 1 (fnBody 2 b_zero_table)
noncomputable def b_first_table : MS := (sSeq (sDrop (eCall d_require_alphabet (eCons (eVar 0) eNil))) (sRet (eCall d_zero_table (eCons (eBin subT' (eVar 0) (eC (.int 0))) eNil))))
noncomputable def d_first_table : List T → M T := arT 1 (fnBody 1 b_first_table)
noncomputable def b__law_meet : MS := (sRet (eBin neT (eLc false (eIter (eVar 0)) [2] (tgName 2) (eB (eBin (memT false) (eVar 2) (eVar 1))) (eVar 2)) (eLst eNil)))
noncomputable def d__law_meet : List T → M T := arT 2 (fnBody 3 b__law_meet)
noncomputable def b__law_pasts : MS := (sSeq (sPar 2 3 (eCall d__law_places (eCons (eVar 0) eNil)) (eRef eNil)) (sSeq (sFor (eRange enumT (eCons (eVar 1) eNil)) (tgTup (tgCons (tgName 4) (tgCons (tgName 5) tgNil))) (sSeq (sSet 6 (eDisp true [((eVar 4), (eC (.bl true)))])) (sSeq (sFor (eRange range3 (eCons (eBin subT (eVar 4) (eC (.int 1))) (eCons (eUn negT (eC (.int 1))) (eCons (eUn negT (eC (.int 1))) eNil)))) (tgName 7) (sIf (bAnd (eB (eBin (memT true) (eVar 7) (eVar 6))) (eTru (eCall d__law_meet (eCons (eBin subT' (eVar 2) (eBin subT' (eVar 1) (eVar 7))) (eCons (eBin subT' (eVar 2) (eVar 5)) eNil))))) (sFor (eIter (eBin subT' (eVar 3) (eVar 7))) (tgName 8) (sAsg (tgSub (eVar 6) (eVar 8)) (eC (.bl true)))) sNext)) (sDrop (eMth "list" appendT (eVar 3) (eCons (eCall sortedDT (eCons (eVar 6) eNil)) eNil)))))) (sRet (eVar 3))))
noncomputable def d__law_pasts : List T → M T := arT 2 (fun ts => fnD (fnBody 9 b__law_pasts ts))
noncomputable def b__law_last : MS := (sSeq (sSet 4 (eCall d__law_places (eCons (eVar 0) eNil))) (sSeq (sSet 5 (eLc false (eIter (eVar 3)) [6] (tgName 6) (eB (eBin (memT false) (eVar 2) (eBin subT' (eVar 4) (eBin subT' (eVar 1) (eVar 6))))) (eVar 6))) (sRet (eIf (eB (eBin neT (eVar 5) (eLst eNil))) (eCall max1T (eCons (eVar 5) eNil)) (eC .non)))))
noncomputable def d__law_last : List T → M T := arT 4 (fnBody 7 b__law_last)
noncomputable def b__law_view : MS := (sSeq (sPar 3 4 (eCall d__law_pasts (eCons (eVar 0) (eCons (eVar 1) eNil))) (eDic0 true)) (sSeq (sFor (eIter (eVar 2)) (tgName 5) (sSeq (sSet 6 (eCall d__law_last (eCons (eVar 0) (eCons (eVar 1) (eCons (eVar 5) (eCons (eUn listRg1 (eCall lenT (eCons (eVar 1) eNil))) eNil)))))) (sFor (eIter (eIf (eB (eBin isNotT (eVar 6) (eC .non))) (eBin subT' (eVar 3) (eVar 6)) (eLst eNil))) (tgName 7) (sAsg (tgSub (eVar 4) (eVar 7)) (eC (.bl true)))))) (sRet (eCall sortedDT (eCons (eVar 4) eNil)))))
noncomputable def d__law_view : List T → M T := arT 3 (fun ts => fnD (fnBody 8 b__law_view ts))
noncomputable def b__law_counts : MS := (sSeq (sSet 3 (eCall d__law_places (eCons (eVar 0) eNil))) (sSeq (sSet 4 (eBin mulRT (eLst (eCons (eC (.int 0)) eNil)) (eBin subT' (eVar 0) (eC (.int 0))))) (sSeq (sFor (eIter (eVar 2)) (tgName 5) (sFor (eIter (eBin subT' (eVar 3) (eBin subT' (eVar 1) (eVar 5)))) (tgName 6) (sAsg (tgSub (eVar 4) (eVar 6)) (eBin addT (eBin subT' (eVar 4) (eVar 6)) (eC (.int 1)))))) (sRet (eCall tupleT (eCons (eVar 4) eNil))))))
noncomputable def d__law_counts : List T → M T := arT 3 (fun ts => fnD (fnBody 7 b__law_counts ts))
noncomputable def b__law_table : MS := (sSeq (sPar 3 4 (eCall d__law_pasts (eCons (eVar 0) (eCons (eVar 1) eNil))) (eCall d__law_view (eCons (eVar 0) (eCons (eVar 1) (eCons (eTup (eCons (eVar 2) eNil)) eNil))))) (sSeq (sSet 5 (eRef eNil)) (sSeq (sFor (eRange range1 (eCons (eBin subT' (eVar 0) (eC (.int 0))) eNil)) (tgName 6) (sSeq (sSet 7 (eCall d__law_last (eCons (eVar 0) (eCons (eVar 1) (eCons (eVar 6) (eCons (eVar 4) eNil)))))) (sDrop (eMth "list" appendT (eVar 5) (eCons (eCall d__law_counts (eCons (eVar 0) (eCons (eVar 1) (eCons (eIf (eB (eBin isNotT (eVar 7) (eC .non))) (eBin subT' (eVar 3) (eVar 7)) (eLst eNil)) eNil)))) eNil))))) (sRet (eTup (eCons (eCall d__law_counts (eCons (eVar 0) (eCons (eVar 1) (eCons (eVar 4) eNil)))) (eCons (eCall tupleT (eCons (eVar 5) eNil)) eNil)))))))
noncomputable def d__law_table : List T → M T := arT 3 (fun ts => fnD (fnBody 8 b__law_table ts))
noncomputable def b__law_right : MS := (sSeq (sSet 2 (eCall d__law_places (eCons (eVar 0) eNil))) (sSeq (sSet 3 (eBin mulRT (eLst (eCons (eCall d_first_table (eCons (eVar 0) eNil)) eNil)) (eBin subT' (eVar 0) (eC (.int 0))))) (sSeq (sFor (eRange enumT (eCons (eVar 1) eNil)) (tgTup (tgCons (tgName 4) (tgCons (tgName 5) tgNil))) (sSeq (sSet 6 (eCall tupleT (eCons (eLc false (eIter (eBin subT' (eVar 2) (eVar 5))) [7] (tgName 7) yes (eBin subT' (eVar 3) (eVar 7))) eNil))) (sSeq (sSet 8 (eCall reprT (eCons (eVar 6) eNil))) (sSeq (sSet 9 (eCall d_met_tables (eCons (eVar 0) (eCons (eVar 5) (eCons (eVar 6) eNil))))) (sSeq (sIf (bOr (eB (eBin neT (eCall reprT (eCons (eVar 6) eNil)) (eVar 8))) (eB (eBin neT (eCall reprT (eCons (eCall d_met_tables (eCons (eVar 0) (eCons (eVar 5) (eCons (eVar 6) eNil)))) eNil)) (eCall reprT (eCons (eVar 9) eNil))))) (sRet (eC (.bl false))) sNext) (sSeq (sIf (eB (eBin neT (eCall reprT (eCons (eVar 9) eNil)) (eCall reprT (eCons (eCall d__law_table (eCons (eVar 0) (eCons (eCut (eVar 1) none (some (eBin addT (eVar 4) (eC (.int 1))))) (eCons (eBin subT' (eBin subT' (eVar 2) (eVar 5)) (eC (.int 0))) eNil)))) eNil)))) (sRet (eC (.bl false))) sNext) (sFor (eIter (eBin subT' (eVar 2) (eVar 5))) (tgName 7) (sAsg (tgSub (eVar 3) (eVar 7)) (eVar 9))))))))) (sSeq (sFor (eRange range1 (eCons (eBin subT' (eVar 0) (eC (.int 0))) eNil)) (tgName 7) (sIf (eB (eBin neT (eBin subT' (eVar 3) (eVar 7)) (eCall d__law_table (eCons (eVar 0) (eCons (eVar 1) (eCons (eVar 7) eNil)))))) (sRet (eC (.bl false))) sNext)) (sRet (eC (.bl true)))))))
noncomputable def d__law_right : List T → M T := arT 2 (fun ts => fnD (fnBody 10 b__law_right ts))
noncomputable def b__law_stream : MS := (sSeq (sSet 2 (eBin addT (eBin mulT (eC (.int 13)) (eVar 1)) (eC (.int 5)))) (sSeq (sIf (eB (eBin ltT (eVar 1) (eCall lenT (eCons (eVar 0) eNil)))) (sSet 2 (eBin subT' (eVar 0) (eVar 1))) sNext) (sSeq (sSet 3 (eBin modT (eCall absT (eCons (eVar 2) eNil)) (eBin powT (eBin powT (eC (.int 10)) (eC (.int 60))) (eC (.int 12))))) (sSeq (sSet 4 (eBin modT (eBin addT (eBin addT (eBin addT (eBin mulT (eBin modT (eVar 3) (eC (.int 2147483563))) (eC (.int 40692))) (eBin mulT (eC (.int 1013)) (eVar 1))) (eBin mulT (eC (.int 5)) (eCall intT (eCons (eBin ltT (eVar 2) (eC (.int 0))) eNil)))) (eC (.int 19))) (eC (.int 2147483399)))) (sRet (eRef (eCons (eCall max2T (eCons (eC (.int 0)) (eCons (eBin subT (eVar 3) (eBin powT (eC (.int 10)) (eC (.int 18)))) eNil))) (eCons (eVar 4) (eCons (eC (.int 0)) eNil)))))))))
noncomputable def d__law_stream : List T → M T := arT 2 (fnBody 5 b__law_stream)
noncomputable def b__law_draw : MS := (sSeq (sIf (eB (eBin gtT (eBin subT' (eVar 0) (eC (.int 0))) (eC (.int 0)))) (sSeq (sSet 2 (eBin modT (eBin subT' (eVar 0) (eC (.int 0))) (eVar 1))) (sSeq (sAsg (tgSub (eVar 0) (eC (.int 0))) (eBin fdivT (eBin subT' (eVar 0) (eC (.int 0))) (eVar 1))) (sRet (eVar 2)))) sNext) (sSeq (sAsg (tgSub (eVar 0) (eC (.int 2))) (eBin addT (eBin subT' (eVar 0) (eC (.int 2))) (eC (.int 1)))) (sSeq (sSet 3 (eBin modT (eBin addT (eBin subT' (eVar 0) (eC (.int 1))) (eBin mulT (eC (.int 1000081)) (eBin subT' (eVar 0) (eC (.int 2))))) (eC (.int 2305843009213693951)))) (sSeq (sSet 4 (eBin modT (eBin addT (eBin mulT (eBin modT (eBin mulT (eVar 3) (eVar 3)) (eC (.int 2305843009213693921))) (eVar 3)) (eBin mulT (eC (.int 7927)) (eBin subT' (eVar 0) (eC (.int 2))))) (eC (.int 2305843009213693907)))) (sRet (eBin modT (eBin fdivT (eVar 4) (eC (.int 8192))) (eVar 1)))))))
noncomputable def d__law_draw : List T → M T := arT 2 (fnBody 5 b__law_draw)
noncomputable def b__law_alphabet : MS := (sSeq (sSet 3 (eBin addT (eC (.int 1)) (eCall d__law_draw (eCons (eVar 0) (eCons (eVar 1) eNil))))) (sSeq (sPar 4 5 (eRef eNil) (eC (.str "abcdefghijklmnopqrstuvwxyz"))) (sSeq (sFor (eRange range1 (eCons (eBin addT (eC (.int 1)) (eCall d__law_draw (eCons (eVar 0) (eCons (eVar 2) eNil)))) eNil)) (tgName 6) (sSeq (sSet 7 (eLc false (eRange range1 (eCons (eVar 3) eNil)) [8] (tgName 8) (eB (eBin eqT (eCall d__law_draw (eCons (eVar 0) (eCons (eC (.int 3)) eNil))) (eC (.int 0)))) (eVar 8))) (sDrop (eMth "list" appendT (eVar 4) (eCons (eCall tupleT (eCons (eIf (eB (eBin neT (eVar 7) (eLst eNil))) (eVar 7) (eLst (eCons (eCall d__law_draw (eCons (eVar 0) (eCons (eVar 3) eNil))) eNil))) eNil)) eNil))))) (sSeq (sPar 9 10 (eRef eNil) (eC (.str ""))) (sSeq (sFor (eRange enumT (eCons (eVar 4) eNil)) (tgTup (tgCons (tgName 6) (tgCons (tgName 7) tgNil))) (sSeq (sSet 11 (eBin subT' (eVar 5) (eBin addT (eBin mulT (eC (.int 2)) (eVar 6)) (eCall d__law_draw (eCons (eVar 0) (eCons (eC (.int 2)) eNil)))))) (sSeq (sIf (bAnd (eB (eCmp2 ltT ltT (eC (.int 0)) (eCall lenT (eCons (eVar 10) eNil)) (eC (.int 8)))) (eB (eBin eqT (eCall d__law_draw (eCons (eVar 0) (eCons (eC (.int 4)) eNil))) (eC (.int 0))))) (sSet 10 (eBin addT (eVar 10) (eCut (eVar 10) none (some (eC (.int 1)))))) (sSet 10 (eBin mulT (eVar 11) (eBin subT' (eLst (eCons (eC (.int 1)) (eCons (eC (.int 1)) (eCons (eC (.int 1)) (eCons (eC (.int 3)) eNil))))) (eCall d__law_draw (eCons (eVar 0) (eCons (eC (.int 4)) eNil))))))) (sDrop (eMth "list" appendT (eVar 9) (eCons (eTup (eCons (eVar 10) (eCons (eVar 7) eNil))) eNil)))))) (sRet (eTup (eCons (eVar 3) (eCons (eCall tupleT (eCons (eCall sortedT (eCons (eVar 9) eNil)) eNil)) eNil)))))))))
noncomputable def d__law_alphabet : List T → M T := arT 3 (fun ts => fnD (fnBody 12 b__law_alphabet ts))
noncomputable def b__law_meeting_alphabet : MS := (sSeq (sPar 2 3 (eBin addT (eC (.int 2)) (eCall d__law_draw (eCons (eVar 0) (eCons (eBin subT (eVar 1) (eC (.int 1))) eNil)))) (eRef eNil)) (sSeq (sFor (eRange range1 (eCons (eVar 2) eNil)) (tgName 4) (sSeq (sDrop (eMth "list" appendT (eVar 3) (eCons (eTup (eCons (eBin addT (eC (.str "m")) (eBin subT' (eC (.str "abcde")) (eVar 4))) (eCons (eCall tupleT (eCons (eUn sortedSetT (eLst (eCons (eVar 4) (eCons (eBin modT (eBin addT (eVar 4) (eC (.int 1))) (eVar 2)) eNil)))) eNil)) eNil))) eNil))) (sIf (eB (eBin eqT (eCall d__law_draw (eCons (eVar 0) (eCons (eC (.int 2)) eNil))) (eC (.int 0)))) (sDrop (eMth "list" appendT (eVar 3) (eCons (eTup (eCons (eBin addT (eC (.str "own")) (eBin subT' (eC (.str "abcde")) (eVar 4))) (eCons (eTup (eCons (eVar 4) eNil)) eNil))) eNil))) sNext))) (sRet (eTup (eCons (eVar 2) (eCons (eCall tupleT (eCons (eCall sortedT (eCons (eVar 3) eNil)) eNil)) eNil))))))
noncomputable def d__law_meeting_alphabet : List T → M T := arT 2 (fun ts => fnD (fnBody 5 b__law_meeting_alphabet ts))
noncomputable def b__law_pick : MS := (sRet (eBin subT' (eVar 1) (eCall d__law_draw (eCons (eVar 0) (eCons (eCall lenT (eCons (eVar 1) eNil)) eNil)))))
noncomputable def d__law_pick : List T → M T := arT 2 (fnBody 2 b__law_pick)
noncomputable def b__law_word : MS := (sSeq (sSet 3 (eLc false (eIter (eBin subT' (eVar 1) (eC (.int 1)))) [4, 5] (tgTup (tgCons (tgName 4) (tgCons (tgName 5) tgNil))) yes (eVar 4))) (sRet (eCall tupleT (eCons (eLc false (eRange range1 (eCons (eVar 2) eNil)) [6] (tgName 6) yes (eCall d__law_pick (eCons (eVar 0) (eCons (eVar 3) eNil)))) eNil))))
noncomputable def d__law_word : List T → M T := arT 3 (fnBody 7 b__law_word)
noncomputable def b_law : MS := (sSeq (sFor (eRange range1 (eCons (eCall max2T (eCons (eC (.int 1)) (eCons (eCall min2T (eCons (eC (.int 6)) (eCons (eCall lenT (eCons (eVar 0) eNil)) eNil))) eNil))) eNil)) (tgName 1) (sSeq (sSet 2 (eCall d__law_stream (eCons (eVar 0) (eCons (eVar 1) eNil)))) (sSeq (sSet 3 (eBin subT' (eLst (eCons (eCall d__law_alphabet (eCons (eVar 2) (eCons (eC (.int 5)) (eCons (eC (.int 8)) eNil)))) (eCons (eCall d__law_meeting_alphabet (eCons (eVar 2) (eCons (eC (.int 5)) eNil))) eNil))) (eCall d__law_draw (eCons (eVar 2) (eCons (eC (.int 2)) eNil))))) (sIf (bNot (eTru (eCall d__law_right (eCons (eVar 3) (eCons (eCall d__law_word (eCons (eVar 2) (eCons (eVar 3) (eCons (eBin addT (eC (.int 5)) (eCall d__law_draw (eCons (eVar 2) (eCons (eC (.int 26)) eNil)))) eNil)))) eNil))))) (sRet (eC (.bl false))) sNext)))) (sSeq (sSet 4 (eTup (eCons (eC (.int 3)) (eCons (eTup (eCons (eTup (eCons (eC (.str "pq")) (eCons (eTup (eCons (eC (.int 0)) (eCons (eC (.int 1)) eNil))) eNil))) (eCons (eTup (eCons (eC (.str "pr")) (eCons (eTup (eCons (eC (.int 0)) (eCons (eC (.int 2)) eNil))) eNil))) (eCons (eTup (eCons (eC (.str "qr")) (eCons (eTup (eCons (eC (.int 1)) (eCons (eC (.int 2)) eNil))) eNil))) eNil)))) eNil)))) (sSeq (sSet 5 (eTup (eCons (eC (.int 5)) (eCons (eTup (eCons (eTup (eCons (eC (.str "all")) (eCons (eTup (eCons (eC (.int 0)) (eCons (eC (.int 1)) (eCons (eC (.int 2)) (eCons (eC (.int 3)) (eCons (eC (.int 4)) eNil)))))) eNil))) (eCons (eTup (eCons (eC (.str "one")) (eCons (eTup (eCons (eC (.int 3)) eNil)) eNil))) (eCons (eTup (eCons (eC (.str "two")) (eCons (eTup (eCons (eC (.int 0)) (eCons (eC (.int 4)) eNil))) eNil))) eNil)))) eNil)))) (sSeq (sIf (bNot (eTru (eCall d__law_right (eCons (eVar 5) (eCons (eTup (eCons (eC (.str "one")) (eCons (eC (.str "two")) (eCons (eC (.str "all")) (eCons (eC (.str "one")) (eCons (eC (.str "one")) (eCons (eC (.str "two")) eNil))))))) eNil))))) (sRet (eC (.bl false))) sNext) (sSeq (sSet 6 (eTup (eCons (eC (.int 3)) (eCons (eTup (eCons (eTup (eCons (eC (.str "own")) (eCons (eTup (eCons (eC (.int 0)) eNil)) eNil))) (eCons (eTup (eCons (eC (.str "pq")) (eCons (eTup (eCons (eC (.int 0)) (eCons (eC (.int 1)) eNil))) eNil))) (eCons (eTup (eCons (eC (.str "qr")) (eCons (eTup (eCons (eC (.int 1)) (eCons (eC (.int 2)) eNil))) eNil))) eNil)))) eNil)))) (sSeq (sIf (bNot (eTru (eCall d__law_right (eCons (eVar 6) (eCons (eTup (eCons (eC (.str "qr")) (eCons (eC (.str "own")) (eCons (eC (.str "own")) (eCons (eC (.str "own")) (eCons (eC (.str "pq")) eNil)))))) eNil))))) (sRet (eC (.bl false))) sNext) (sRet (eCall d__law_right (eCons (eVar 4) (eCons (eBin mulT (eTup (eCons (eC (.str "pq")) (eCons (eC (.str "qr")) (eCons (eC (.str "pr")) (eCons (eC (.str "pq")) eNil))))) (eC (.int 3))) eNil))))))))))
noncomputable def d_law : List T → M T := arT 1 (fun ts => fnD (fnBody 7 b_law ts))
/-! ### what the top has written -/
structure Al (K : PySem.W.Frag) (mg : Str → Option Value) (a__law_places a_is_ascending a_is_integer a_is_between a_is_name a_are_processes a_is_set_of a_is_row a_is_alphabet a_require_alphabet a_letters_in a_is_letter_in a_require_letter a_newest_in a_met_in a_places_in a_place_in a_is_clock_in a_is_table_in a_met_tables a_zero_table a_first_table a__law_meet a__law_pasts a__law_last a__law_view a__law_counts a__law_table a__law_right a__law_stream a__law_draw a__law_alphabet a__law_meeting_alphabet a__law_pick a__law_word a_law : Addr) (c__law_places c_is_ascending c_is_integer c_is_between c_is_name c_are_processes c_is_set_of c_is_row c_is_alphabet c_require_alphabet c_letters_in c_is_letter_in c_require_letter c_newest_in c_met_in c_places_in c_place_in c_is_clock_in c_is_table_in c_met_tables c_zero_table c_first_table c__law_meet c__law_pasts c__law_last c__law_view c__law_counts c__law_table c__law_right c__law_stream c__law_draw c__law_alphabet c__law_meeting_alphabet c__law_pick c__law_word c_law : FuncData) (t_MAX_LETTERS t_MAX_NAME t_MAX_PROCESSES t_SIGNS : Tok) : Prop where
  F__law_places : Fun K "_law_places" "_law_places" s__law_places a__law_places c__law_places
  b__law_places : Binds K c__law_places ["alphabet"] []
  m__law_places : mg "_law_places" = some (.ref a__law_places)
  F_is_ascending : Fun K "is_ascending" "is_ascending" s_is_ascending a_is_ascending c_is_ascending
  b_is_ascending : Binds K c_is_ascending ["items"] []
  m_is_ascending : mg "is_ascending" = some (.ref a_is_ascending)
  F_is_integer : Fun K "is_integer" "is_integer" s_is_integer a_is_integer c_is_integer
  b_is_integer : Binds K c_is_integer ["value"] []
  m_is_integer : mg "is_integer" = some (.ref a_is_integer)
  F_is_between : Fun K "is_between" "is_between" s_is_between a_is_between c_is_between
  b_is_between : Binds K c_is_between ["value", "low", "high"] []
  m_is_between : mg "is_between" = some (.ref a_is_between)
  F_is_name : Fun K "is_name" "is_name" s_is_name a_is_name c_is_name
  b_is_name : Binds K c_is_name ["value"] []
  m_is_name : mg "is_name" = some (.ref a_is_name)
  F_are_processes : Fun K "are_processes" "are_processes" s_are_processes a_are_processes c_are_processes
  b_are_processes : Binds K c_are_processes ["many", "value"] []
  m_are_processes : mg "are_processes" = some (.ref a_are_processes)
  F_is_set_of : Fun K "is_set_of" "is_set_of" s_is_set_of a_is_set_of c_is_set_of
  b_is_set_of : Binds K c_is_set_of ["many", "value"] []
  m_is_set_of : mg "is_set_of" = some (.ref a_is_set_of)
  F_is_row : Fun K "is_row" "is_row" s_is_row a_is_row c_is_row
  b_is_row : Binds K c_is_row ["many", "value"] []
  m_is_row : mg "is_row" = some (.ref a_is_row)
  F_is_alphabet : Fun K "is_alphabet" "is_alphabet" s_is_alphabet a_is_alphabet c_is_alphabet
  b_is_alphabet : Binds K c_is_alphabet ["value"] []
  m_is_alphabet : mg "is_alphabet" = some (.ref a_is_alphabet)
  F_require_alphabet : Fun K "require_alphabet" "require_alphabet" s_require_alphabet a_require_alphabet c_require_alphabet
  b_require_alphabet : Binds K c_require_alphabet ["alphabet"] []
  m_require_alphabet : mg "require_alphabet" = some (.ref a_require_alphabet)
  F_letters_in : Fun K "letters_in" "letters_in" s_letters_in a_letters_in c_letters_in
  b_letters_in : Binds K c_letters_in ["alphabet"] []
  m_letters_in : mg "letters_in" = some (.ref a_letters_in)
  F_is_letter_in : Fun K "is_letter_in" "is_letter_in" s_is_letter_in a_is_letter_in c_is_letter_in
  b_is_letter_in : Binds K c_is_letter_in ["alphabet", "value"] []
  m_is_letter_in : mg "is_letter_in" = some (.ref a_is_letter_in)
  F_require_letter : Fun K "require_letter" "require_letter" s_require_letter a_require_letter c_require_letter
  b_require_letter : Binds K c_require_letter ["alphabet", "letter"] []
  m_require_letter : mg "require_letter" = some (.ref a_require_letter)
  F_newest_in : Fun K "newest_in" "newest_in" s_newest_in a_newest_in c_newest_in
  b_newest_in : Binds K c_newest_in ["tables", "process"] []
  m_newest_in : mg "newest_in" = some (.ref a_newest_in)
  F_met_in : Fun K "met_in" "met_in" s_met_in a_met_in c_met_in
  b_met_in : Binds K c_met_in ["many", "place", "tables"] []
  m_met_in : mg "met_in" = some (.ref a_met_in)
  F_places_in : Fun K "places_in" "places_in" s_places_in a_places_in c_places_in
  b_places_in : Binds K c_places_in ["alphabet"] []
  m_places_in : mg "places_in" = some (.ref a_places_in)
  F_place_in : Fun K "place_in" "place_in" s_place_in a_place_in c_place_in
  b_place_in : Binds K c_place_in ["alphabet", "letter"] []
  m_place_in : mg "place_in" = some (.ref a_place_in)
  F_is_clock_in : Fun K "is_clock_in" "is_clock_in" s_is_clock_in a_is_clock_in c_is_clock_in
  b_is_clock_in : Binds K c_is_clock_in ["many", "value"] []
  m_is_clock_in : mg "is_clock_in" = some (.ref a_is_clock_in)
  F_is_table_in : Fun K "is_table_in" "is_table_in" s_is_table_in a_is_table_in c_is_table_in
  b_is_table_in : Binds K c_is_table_in ["many", "value"] []
  m_is_table_in : mg "is_table_in" = some (.ref a_is_table_in)
  F_met_tables : Fun K "met_tables" "met_tables" s_met_tables a_met_tables c_met_tables
  b_met_tables : Binds K c_met_tables ["alphabet", "letter", "tables"] []
  m_met_tables : mg "met_tables" = some (.ref a_met_tables)
  F_zero_table : Fun K "zero_table" "zero_table" s_zero_table a_zero_table c_zero_table
  b_zero_table : Binds K c_zero_table ["many"] []
  m_zero_table : mg "zero_table" = some (.ref a_zero_table)
  F_first_table : Fun K "first_table" "first_table" s_first_table a_first_table c_first_table
  b_first_table : Binds K c_first_table ["alphabet"] []
  m_first_table : mg "first_table" = some (.ref a_first_table)
  F__law_meet : Fun K "_law_meet" "_law_meet" s__law_meet a__law_meet c__law_meet
  b__law_meet : Binds K c__law_meet ["one", "other"] []
  m__law_meet : mg "_law_meet" = some (.ref a__law_meet)
  F__law_pasts : Fun K "_law_pasts" "_law_pasts" s__law_pasts a__law_pasts c__law_pasts
  b__law_pasts : Binds K c__law_pasts ["alphabet", "word"] []
  m__law_pasts : mg "_law_pasts" = some (.ref a__law_pasts)
  F__law_last : Fun K "_law_last" "_law_last" s__law_last a__law_last c__law_last
  b__law_last : Binds K c__law_last ["alphabet", "word", "process", "inside"] []
  m__law_last : mg "_law_last" = some (.ref a__law_last)
  F__law_view : Fun K "_law_view" "_law_view" s__law_view a__law_view c__law_view
  b__law_view : Binds K c__law_view ["alphabet", "word", "group"] []
  m__law_view : mg "_law_view" = some (.ref a__law_view)
  F__law_counts : Fun K "_law_counts" "_law_counts" s__law_counts a__law_counts c__law_counts
  b__law_counts : Binds K c__law_counts ["alphabet", "word", "inside"] []
  m__law_counts : mg "_law_counts" = some (.ref a__law_counts)
  F__law_table : Fun K "_law_table" "_law_table" s__law_table a__law_table c__law_table
  b__law_table : Binds K c__law_table ["alphabet", "word", "process"] []
  m__law_table : mg "_law_table" = some (.ref a__law_table)
  F__law_right : Fun K "_law_right" "_law_right" s__law_right a__law_right c__law_right
  b__law_right : Binds K c__law_right ["alphabet", "word"] []
  m__law_right : mg "_law_right" = some (.ref a__law_right)
  F__law_stream : Fun K "_law_stream" "_law_stream" s__law_stream a__law_stream c__law_stream
  b__law_stream : Binds K c__law_stream ["script", "at"] []
  m__law_stream : mg "_law_stream" = some (.ref a__law_stream)
  F__law_draw : Fun K "_law_draw" "_law_draw" s__law_draw a__law_draw c__law_draw
  b__law_draw : Binds K c__law_draw ["stream", "total"] []
  m__law_draw : mg "_law_draw" = some (.ref a__law_draw)
  F__law_alphabet : Fun K "_law_alphabet" "_law_alphabet" s__law_alphabet a__law_alphabet c__law_alphabet
  b__law_alphabet : Binds K c__law_alphabet ["stream", "most", "letters"] []
  m__law_alphabet : mg "_law_alphabet" = some (.ref a__law_alphabet)
  F__law_meeting_alphabet : Fun K "_law_meeting_alphabet" "_law_meeting_alphabet" s__law_meeting_alphabet a__law_meeting_alphabet c__law_meeting_alphabet
  b__law_meeting_alphabet : Binds K c__law_meeting_alphabet ["stream", "most"] []
  m__law_meeting_alphabet : mg "_law_meeting_alphabet" = some (.ref a__law_meeting_alphabet)
  F__law_pick : Fun K "_law_pick" "_law_pick" s__law_pick a__law_pick c__law_pick
  b__law_pick : Binds K c__law_pick ["stream", "items"] []
  m__law_pick : mg "_law_pick" = some (.ref a__law_pick)
  F__law_word : Fun K "_law_word" "_law_word" s__law_word a__law_word c__law_word
  b__law_word : Binds K c__law_word ["stream", "alphabet", "total"] []
  m__law_word : mg "_law_word" = some (.ref a__law_word)
  F_law : Fun K "law" "law" s_law a_law c_law
  b_law : Binds K c_law ["script"] []
  m_law : mg "law" = some (.ref a_law)
  z_abs : mg "abs" = none
  z_all : mg "all" = none
  z_bool : mg "bool" = none
  z_dict : mg "dict" = none
  z_enumerate : mg "enumerate" = none
  z_int : mg "int" = none
  z_isinstance : mg "isinstance" = none
  z_len : mg "len" = none
  z_list : mg "list" = none
  z_max : mg "max" = none
  z_min : mg "min" = none
  z_range : mg "range" = none
  z_repr : mg "repr" = none
  z_set : mg "set" = none
  z_sorted : mg "sorted" = none
  z_str : mg "str" = none
  z_tuple : mg "tuple" = none
  z_zip : mg "zip" = none
  g_MAX_LETTERS : mg "MAX_LETTERS" = some (.int 10 t_MAX_LETTERS)
  g_MAX_NAME : mg "MAX_NAME" = some (.int 8 t_MAX_NAME)
  g_MAX_PROCESSES : mg "MAX_PROCESSES" = some (.int 5 t_MAX_PROCESSES)
  g_SIGNS : mg "SIGNS" = some (.str "abcdefghijklmnopqrstuvwxyz" t_SIGNS)
section
variable {K : PySem.W.Frag} {mg : Str → Option Value} {a__law_places a_is_ascending a_is_integer a_is_between a_is_name a_are_processes a_is_set_of a_is_row a_is_alphabet a_require_alphabet a_letters_in a_is_letter_in a_require_letter a_newest_in a_met_in a_places_in a_place_in a_is_clock_in a_is_table_in a_met_tables a_zero_table a_first_table a__law_meet a__law_pasts a__law_last a__law_view a__law_counts a__law_table a__law_right a__law_stream a__law_draw a__law_alphabet a__law_meeting_alphabet a__law_pick a__law_word a_law : Addr} {c__law_places c_is_ascending c_is_integer c_is_between c_is_name c_are_processes c_is_set_of c_is_row c_is_alphabet c_require_alphabet c_letters_in c_is_letter_in c_require_letter c_newest_in c_met_in c_places_in c_place_in c_is_clock_in c_is_table_in c_met_tables c_zero_table c_first_table c__law_meet c__law_pasts c__law_last c__law_view c__law_counts c__law_table c__law_right c__law_stream c__law_draw c__law_alphabet c__law_meeting_alphabet c__law_pick c__law_word c_law : FuncData} {t_MAX_LETTERS t_MAX_NAME t_MAX_PROCESSES t_SIGNS : Tok}
theorem Al.o__law_places (L : Al K mg a__law_places a_is_ascending a_is_integer a_is_between a_is_name a_are_processes a_is_set_of a_is_row a_is_alphabet a_require_alphabet a_letters_in a_is_letter_in a_require_letter a_newest_in a_met_in a_places_in a_place_in a_is_clock_in a_is_table_in a_met_tables a_zero_table a_first_table a__law_meet a__law_pasts a__law_last a__law_view a__law_counts a__law_table a__law_right a__law_stream a__law_draw a__law_alphabet a__law_meeting_alphabet a__law_pick a__law_word a_law c__law_places c_is_ascending c_is_integer c_is_between c_is_name c_are_processes c_is_set_of c_is_row c_is_alphabet c_require_alphabet c_letters_in c_is_letter_in c_require_letter c_newest_in c_met_in c_places_in c_place_in c_is_clock_in c_is_table_in c_met_tables c_zero_table c_first_table c__law_meet c__law_pasts c__law_last c__law_view c__law_counts c__law_table c__law_right c__law_stream c__law_draw c__law_alphabet c__law_meeting_alphabet c__law_pick c__law_word c_law t_MAX_LETTERS t_MAX_NAME t_MAX_PROCESSES t_SIGNS) (P : Program) (w : World) (base : Heap) :
    FnG P w K mg base false 1 a__law_places c__law_places ["alphabet"] (spD K mg 1 d__law_places) := by
  have nd := sc__law_places.nd
  have O := Fw.Fun.okG L.F__law_places (P := P) (w := w) (mg := mg) (base := base) (gb := false) (k := 0) sc__law_places (fun cdv A outer s H E hr hgd0 => (pss_oneF (ps_retF (pe_callTyF (v_dict (fr := false) rfl) (by rfl) L.z_dict (by decide +kernel) (pa_consF (pe_lcF (fr := false) (ownS := [("letter", 1), ("place", 2)]) rfl nd (pi_iterF (pe_subF (hu1 hr) (pe_varF (i := 0)) pe_intF)) (blkOk_by (N := ["alphabet", "letter", "place"]) (sc := defScope s__law_places) (own := [("letter", 1), ("place", 2)]) (by decide +kernel)) (by decide) (fun _ _ _ _ _ => (pg_tupF (n := 2) rfl (pgs_consF (pg_nameF (i := 1) nd rfl (by first | exact .inl rfl | exact .inr rfl)) (pgs_consF (pg_nameF (i := 2) nd rfl (by first | exact .inl rfl | exact .inr rfl)) pgs_nilF)) (tgl_cons ng_name (tgl_cons ng_name tgl_nil)).len)) (fun _ _ _ _ _ => pts_nilF) (fun _ _ _ _ _ => (pe_tupF (pa_consF (pe_varF (i := 1)) (pa_consF (pe_varF (i := 2)) pa_nilF))))) pa_nilF)))))
  exact O.ar
theorem Al.o_is_ascending (L : Al K mg a__law_places a_is_ascending a_is_integer a_is_between a_is_name a_are_processes a_is_set_of a_is_row a_is_alphabet a_require_alphabet a_letters_in a_is_letter_in a_require_letter a_newest_in a_met_in a_places_in a_place_in a_is_clock_in a_is_table_in a_met_tables a_zero_table a_first_table a__law_meet a__law_pasts a__law_last a__law_view a__law_counts a__law_table a__law_right a__law_stream a__law_draw a__law_alphabet a__law_meeting_alphabet a__law_pick a__law_word a_law c__law_places c_is_ascending c_is_integer c_is_between c_is_name c_are_processes c_is_set_of c_is_row c_is_alphabet c_require_alphabet c_letters_in c_is_letter_in c_require_letter c_newest_in c_met_in c_places_in c_place_in c_is_clock_in c_is_table_in c_met_tables c_zero_table c_first_table c__law_meet c__law_pasts c__law_last c__law_view c__law_counts c__law_table c__law_right c__law_stream c__law_draw c__law_alphabet c__law_meeting_alphabet c__law_pick c__law_word c_law t_MAX_LETTERS t_MAX_NAME t_MAX_PROCESSES t_SIGNS) (P : Program) (w : World) (base : Heap) :
    FnG P w K mg base false 1 a_is_ascending c_is_ascending ["items"] (spD K mg 1 d_is_ascending) := by
  have nd := sc_is_ascending.nd
  have O := Fw.Fun.okG L.F_is_ascending (P := P) (w := w) (mg := mg) (base := base) (gb := false) (k := 0) sc_is_ascending (fun cdv A outer s H E hr hgd0 => (pss_oneF (ps_retF (pe_callBF (v_all rfl) (by rfl) L.z_all (by decide +kernel) (pa_consF (pe_lcF (fr := false) (ownS := [("one", 1), ("other", 2)]) rfl nd (pi_zipF (by rfl) L.z_zip (pa_consF (pe_varF (i := 0)) (pa_consF (pe_cutF (pe_varF (i := 0)) (po_someF pe_intF) po_noneF) pa_nilF))) (blkOk_by (N := ["items", "one", "other"]) (sc := defScope s_is_ascending) (own := [("one", 1), ("other", 2)]) (by decide +kernel)) (by decide) (fun _ _ _ _ _ => (pg_tupF (n := 2) rfl (pgs_consF (pg_nameF (i := 1) nd rfl (by first | exact .inl rfl | exact .inr rfl)) (pgs_consF (pg_nameF (i := 2) nd rfl (by first | exact .inl rfl | exact .inr rfl)) pgs_nilF)) (tgl_cons ng_name (tgl_cons ng_name tgl_nil)).len)) (fun _ _ _ _ _ => pts_nilF) (fun _ _ _ _ _ => (pe_cmpF v_lt (pe_varF (i := 1)) (pe_varF (i := 2)) (nomark _)))) pa_nilF)))))
  exact O.ar
theorem Al.o_is_integer (L : Al K mg a__law_places a_is_ascending a_is_integer a_is_between a_is_name a_are_processes a_is_set_of a_is_row a_is_alphabet a_require_alphabet a_letters_in a_is_letter_in a_require_letter a_newest_in a_met_in a_places_in a_place_in a_is_clock_in a_is_table_in a_met_tables a_zero_table a_first_table a__law_meet a__law_pasts a__law_last a__law_view a__law_counts a__law_table a__law_right a__law_stream a__law_draw a__law_alphabet a__law_meeting_alphabet a__law_pick a__law_word a_law c__law_places c_is_ascending c_is_integer c_is_between c_is_name c_are_processes c_is_set_of c_is_row c_is_alphabet c_require_alphabet c_letters_in c_is_letter_in c_require_letter c_newest_in c_met_in c_places_in c_place_in c_is_clock_in c_is_table_in c_met_tables c_zero_table c_first_table c__law_meet c__law_pasts c__law_last c__law_view c__law_counts c__law_table c__law_right c__law_stream c__law_draw c__law_alphabet c__law_meeting_alphabet c__law_pick c__law_word c_law t_MAX_LETTERS t_MAX_NAME t_MAX_PROCESSES t_SIGNS) (P : Program) (w : World) (base : Heap) :
    FnG P w K mg base false 1 a_is_integer c_is_integer ["value"] (spD K mg 1 d_is_integer) := by
  have nd := sc_is_integer.nd
  have O := Fw.Fun.okG L.F_is_integer (P := P) (w := w) (mg := mg) (base := base) (gb := false) (k := 0) sc_is_integer (fun cdv A outer s H E hr hgd0 => (pss_oneF (ps_retF (pe_andF (pe_callBF v_isi (by rfl) L.z_isinstance (by decide +kernel) (pa_consF (pe_varF (i := 0)) (pa_consF (pe_bltnF (v := .ty "int") (by rfl) L.z_int (by decide +kernel) rfl (fun _ _ => .ty _)) pa_nilF))) (pe_one (pe_notF (pe_callBF v_isi (by rfl) L.z_isinstance (by decide +kernel) (pa_consF (pe_varF (i := 0)) (pa_consF (pe_bltnF (v := .ty "bool") (by rfl) L.z_bool (by decide +kernel) rfl (fun _ _ => .ty _)) pa_nilF)))))))))
  exact O.ar
theorem Al.o_is_between (L : Al K mg a__law_places a_is_ascending a_is_integer a_is_between a_is_name a_are_processes a_is_set_of a_is_row a_is_alphabet a_require_alphabet a_letters_in a_is_letter_in a_require_letter a_newest_in a_met_in a_places_in a_place_in a_is_clock_in a_is_table_in a_met_tables a_zero_table a_first_table a__law_meet a__law_pasts a__law_last a__law_view a__law_counts a__law_table a__law_right a__law_stream a__law_draw a__law_alphabet a__law_meeting_alphabet a__law_pick a__law_word a_law c__law_places c_is_ascending c_is_integer c_is_between c_is_name c_are_processes c_is_set_of c_is_row c_is_alphabet c_require_alphabet c_letters_in c_is_letter_in c_require_letter c_newest_in c_met_in c_places_in c_place_in c_is_clock_in c_is_table_in c_met_tables c_zero_table c_first_table c__law_meet c__law_pasts c__law_last c__law_view c__law_counts c__law_table c__law_right c__law_stream c__law_draw c__law_alphabet c__law_meeting_alphabet c__law_pick c__law_word c_law t_MAX_LETTERS t_MAX_NAME t_MAX_PROCESSES t_SIGNS) (P : Program) (w : World) (base : Heap) :
    FnG P w K mg base false 2 a_is_between c_is_between ["value", "low", "high"] (spD K mg 3 d_is_between) := by
  have nd := sc_is_between.nd
  have O := Fw.Fun.okG L.F_is_between (P := P) (w := w) (mg := mg) (base := base) (gb := false) (k := 1) sc_is_between (fun cdv A outer s H E hr hgd0 => (pss_oneF (ps_retF (pe_andF (pe_callG (L.o_is_integer P w base) arT_len (hr.mono (by decide)) (fun z => nomatch z) (by rfl) L.m_is_integer L.F_is_integer.kp L.b_is_integer takes_cxK (pa_consF (pe_varF (i := 0)) pa_nilF)) (pe_one (pe_cmp2F v_le v_le (pe_varF (i := 1)) (pe_varF (i := 0)) (pe_varF (i := 2)) (by with_unfolding_all rfl)))))))
  exact O.ar
theorem Al.o_is_name (L : Al K mg a__law_places a_is_ascending a_is_integer a_is_between a_is_name a_are_processes a_is_set_of a_is_row a_is_alphabet a_require_alphabet a_letters_in a_is_letter_in a_require_letter a_newest_in a_met_in a_places_in a_place_in a_is_clock_in a_is_table_in a_met_tables a_zero_table a_first_table a__law_meet a__law_pasts a__law_last a__law_view a__law_counts a__law_table a__law_right a__law_stream a__law_draw a__law_alphabet a__law_meeting_alphabet a__law_pick a__law_word a_law c__law_places c_is_ascending c_is_integer c_is_between c_is_name c_are_processes c_is_set_of c_is_row c_is_alphabet c_require_alphabet c_letters_in c_is_letter_in c_require_letter c_newest_in c_met_in c_places_in c_place_in c_is_clock_in c_is_table_in c_met_tables c_zero_table c_first_table c__law_meet c__law_pasts c__law_last c__law_view c__law_counts c__law_table c__law_right c__law_stream c__law_draw c__law_alphabet c__law_meeting_alphabet c__law_pick c__law_word c_law t_MAX_LETTERS t_MAX_NAME t_MAX_PROCESSES t_SIGNS) (P : Program) (w : World) (base : Heap) :
    FnG P w K mg base false 1 a_is_name c_is_name ["value"] (spD K mg 1 d_is_name) := by
  have nd := sc_is_name.nd
  have O := Fw.Fun.okG L.F_is_name (P := P) (w := w) (mg := mg) (base := base) (gb := false) (k := 0) sc_is_name (fun cdv A outer s H E hr hgd0 => (pss_oneF (ps_retF (pe_andF (pe_callBF v_isi (by rfl) L.z_isinstance (by decide +kernel) (pa_consF (pe_varF (i := 0)) (pa_consF (pe_bltnF (v := .ty "str") (by rfl) L.z_str (by decide +kernel) rfl (fun _ _ => .ty _)) pa_nilF))) (pe_andF (pe_cmp2F v_le v_le pe_intF (pe_callBF v_len (by rfl) L.z_len (by decide +kernel) (pa_consF (pe_varF (i := 0)) pa_nilF)) (pe_globF (v := .int 8) (by rfl) L.g_MAX_NAME ⟨_, rfl⟩ (fun _ _ => .int _)) (by with_unfolding_all rfl)) (pe_one (pe_callBF (v_all rfl) (by rfl) L.z_all (by decide +kernel) (pa_consF (pe_lcF (fr := false) (ownS := [("sign", 1)]) rfl nd (pi_iterF (pe_varF (i := 0))) (blkOk_by (N := ["value", "sign"]) (sc := defScope s_is_name) (own := [("sign", 1)]) (by decide +kernel)) (by decide) (fun _ _ _ _ _ => (pg_nameF (i := 1) nd rfl (by first | exact .inl rfl | exact .inr rfl))) (fun _ _ _ _ _ => pts_nilF) (fun _ _ _ _ _ => (pe_cmpF (v_mem (hu65 hr)) (pe_varF (i := 1)) (pe_globF (v := .str "abcdefghijklmnopqrstuvwxyz") (by rfl) L.g_SIGNS ⟨_, rfl⟩ (fun _ _ => .str _)) (by with_unfolding_all rfl)))) pa_nilF))))))))
  exact O.ar
theorem Al.o_are_processes (L : Al K mg a__law_places a_is_ascending a_is_integer a_is_between a_is_name a_are_processes a_is_set_of a_is_row a_is_alphabet a_require_alphabet a_letters_in a_is_letter_in a_require_letter a_newest_in a_met_in a_places_in a_place_in a_is_clock_in a_is_table_in a_met_tables a_zero_table a_first_table a__law_meet a__law_pasts a__law_last a__law_view a__law_counts a__law_table a__law_right a__law_stream a__law_draw a__law_alphabet a__law_meeting_alphabet a__law_pick a__law_word a_law c__law_places c_is_ascending c_is_integer c_is_between c_is_name c_are_processes c_is_set_of c_is_row c_is_alphabet c_require_alphabet c_letters_in c_is_letter_in c_require_letter c_newest_in c_met_in c_places_in c_place_in c_is_clock_in c_is_table_in c_met_tables c_zero_table c_first_table c__law_meet c__law_pasts c__law_last c__law_view c__law_counts c__law_table c__law_right c__law_stream c__law_draw c__law_alphabet c__law_meeting_alphabet c__law_pick c__law_word c_law t_MAX_LETTERS t_MAX_NAME t_MAX_PROCESSES t_SIGNS) (P : Program) (w : World) (base : Heap) :
    FnG P w K mg base false 3 a_are_processes c_are_processes ["many", "value"] (spD K mg 2 d_are_processes) := by
  have nd := sc_are_processes.nd
  have O := Fw.Fun.okG L.F_are_processes (P := P) (w := w) (mg := mg) (base := base) (gb := false) (k := 2) sc_are_processes (fun cdv A outer s H E hr hgd0 => (pss_oneF (ps_retF (pe_andF (pe_callBF v_isi (by rfl) L.z_isinstance (by decide +kernel) (pa_consF (pe_varF (i := 1)) (pa_consF (pe_bltnF (v := .ty "tuple") (by rfl) L.z_tuple (by decide +kernel) rfl (fun _ _ => .ty _)) pa_nilF))) (pe_andF (pe_cmpF (v_ne (hu64 hr)) (pe_varF (i := 1)) (pe_tupF pa_nilF) (nomark _)) (pe_one (pe_callBF (v_all rfl) (by rfl) L.z_all (by decide +kernel) (pa_consF (pe_lcF (fr := false) (ownS := [("process", 2)]) rfl nd (pi_iterF (pe_varF (i := 1))) (blkOk_by (N := ["many", "value", "process"]) (sc := defScope s_are_processes) (own := [("process", 2)]) (by decide +kernel)) (by decide) (fun _ _ _ _ _ => (pg_nameF (i := 2) nd rfl (by first | exact .inl rfl | exact .inr rfl))) (fun _ _ _ _ _ => pts_nilF) (fun _ _ _ _ _ => (pe_callG (L.o_is_between P w base) arT_len (hr.mono (by decide)) (fun z => nomatch z) (by rfl) L.m_is_between L.F_is_between.kp L.b_is_between Fw.takes0 (pa_consF (pe_varF (i := 2)) (pa_consF pe_intF (pa_consF (pe_binF v_sub (pe_varF (i := 0)) pe_intF) pa_nilF)))))) pa_nilF))))))))
  exact O.ar
theorem Al.o_is_set_of (L : Al K mg a__law_places a_is_ascending a_is_integer a_is_between a_is_name a_are_processes a_is_set_of a_is_row a_is_alphabet a_require_alphabet a_letters_in a_is_letter_in a_require_letter a_newest_in a_met_in a_places_in a_place_in a_is_clock_in a_is_table_in a_met_tables a_zero_table a_first_table a__law_meet a__law_pasts a__law_last a__law_view a__law_counts a__law_table a__law_right a__law_stream a__law_draw a__law_alphabet a__law_meeting_alphabet a__law_pick a__law_word a_law c__law_places c_is_ascending c_is_integer c_is_between c_is_name c_are_processes c_is_set_of c_is_row c_is_alphabet c_require_alphabet c_letters_in c_is_letter_in c_require_letter c_newest_in c_met_in c_places_in c_place_in c_is_clock_in c_is_table_in c_met_tables c_zero_table c_first_table c__law_meet c__law_pasts c__law_last c__law_view c__law_counts c__law_table c__law_right c__law_stream c__law_draw c__law_alphabet c__law_meeting_alphabet c__law_pick c__law_word c_law t_MAX_LETTERS t_MAX_NAME t_MAX_PROCESSES t_SIGNS) (P : Program) (w : World) (base : Heap) :
    FnG P w K mg base false 4 a_is_set_of c_is_set_of ["many", "value"] (spD K mg 2 d_is_set_of) := by
  have nd := sc_is_set_of.nd
  have O := Fw.Fun.okG L.F_is_set_of (P := P) (w := w) (mg := mg) (base := base) (gb := false) (k := 3) sc_is_set_of (fun cdv A outer s H E hr hgd0 => (pss_oneF (ps_retF (pe_andF (pe_callG (L.o_are_processes P w base) arT_len (hr.mono (by decide)) (fun z => nomatch z) (by rfl) L.m_are_processes L.F_are_processes.kp L.b_are_processes takes_cxK (pa_consF (pe_varF (i := 0)) (pa_consF (pe_varF (i := 1)) pa_nilF))) (pe_one (pe_callG (L.o_is_ascending P w base) arT_len (hr.mono (by decide)) (fun z => nomatch z) (by rfl) L.m_is_ascending L.F_is_ascending.kp L.b_is_ascending takes_cxK (pa_consF (pe_varF (i := 1)) pa_nilF)))))))
  exact O.ar
theorem Al.o_is_row (L : Al K mg a__law_places a_is_ascending a_is_integer a_is_between a_is_name a_are_processes a_is_set_of a_is_row a_is_alphabet a_require_alphabet a_letters_in a_is_letter_in a_require_letter a_newest_in a_met_in a_places_in a_place_in a_is_clock_in a_is_table_in a_met_tables a_zero_table a_first_table a__law_meet a__law_pasts a__law_last a__law_view a__law_counts a__law_table a__law_right a__law_stream a__law_draw a__law_alphabet a__law_meeting_alphabet a__law_pick a__law_word a_law c__law_places c_is_ascending c_is_integer c_is_between c_is_name c_are_processes c_is_set_of c_is_row c_is_alphabet c_require_alphabet c_letters_in c_is_letter_in c_require_letter c_newest_in c_met_in c_places_in c_place_in c_is_clock_in c_is_table_in c_met_tables c_zero_table c_first_table c__law_meet c__law_pasts c__law_last c__law_view c__law_counts c__law_table c__law_right c__law_stream c__law_draw c__law_alphabet c__law_meeting_alphabet c__law_pick c__law_word c_law t_MAX_LETTERS t_MAX_NAME t_MAX_PROCESSES t_SIGNS) (P : Program) (w : World) (base : Heap) :
    FnG P w K mg base false 5 a_is_row c_is_row ["many", "value"] (spD K mg 2 d_is_row) := by
  have nd := sc_is_row.nd
  have O := Fw.Fun.okG L.F_is_row (P := P) (w := w) (mg := mg) (base := base) (gb := false) (k := 4) sc_is_row (fun cdv A outer s H E hr hgd0 => (pss_oneF (ps_retF (pe_andF (pe_callBF v_isi (by rfl) L.z_isinstance (by decide +kernel) (pa_consF (pe_varF (i := 1)) (pa_consF (pe_bltnF (v := .ty "tuple") (by rfl) L.z_tuple (by decide +kernel) rfl (fun _ _ => .ty _)) pa_nilF))) (pe_andF (pe_cmpF (v_eq (hu64 hr)) (pe_callBF v_len (by rfl) L.z_len (by decide +kernel) (pa_consF (pe_varF (i := 1)) pa_nilF)) pe_intF (nomark _)) (pe_andF (pe_callG (L.o_is_name P w base) arT_len (hr.mono (by decide)) (fun z => nomatch z) (by rfl) L.m_is_name L.F_is_name.kp L.b_is_name takes_cxK (pa_consF (pe_subF (hu1 hr) (pe_varF (i := 1)) pe_intF) pa_nilF)) (pe_one (pe_callG (L.o_is_set_of P w base) arT_len (hr.mono (by decide)) (fun z => nomatch z) (by rfl) L.m_is_set_of L.F_is_set_of.kp L.b_is_set_of takes_cxK (pa_consF (pe_varF (i := 0)) (pa_consF (pe_subF (hu1 hr) (pe_varF (i := 1)) pe_intF) pa_nilF))))))))))
  exact O.ar
theorem Al.o_is_alphabet (L : Al K mg a__law_places a_is_ascending a_is_integer a_is_between a_is_name a_are_processes a_is_set_of a_is_row a_is_alphabet a_require_alphabet a_letters_in a_is_letter_in a_require_letter a_newest_in a_met_in a_places_in a_place_in a_is_clock_in a_is_table_in a_met_tables a_zero_table a_first_table a__law_meet a__law_pasts a__law_last a__law_view a__law_counts a__law_table a__law_right a__law_stream a__law_draw a__law_alphabet a__law_meeting_alphabet a__law_pick a__law_word a_law c__law_places c_is_ascending c_is_integer c_is_between c_is_name c_are_processes c_is_set_of c_is_row c_is_alphabet c_require_alphabet c_letters_in c_is_letter_in c_require_letter c_newest_in c_met_in c_places_in c_place_in c_is_clock_in c_is_table_in c_met_tables c_zero_table c_first_table c__law_meet c__law_pasts c__law_last c__law_view c__law_counts c__law_table c__law_right c__law_stream c__law_draw c__law_alphabet c__law_meeting_alphabet c__law_pick c__law_word c_law t_MAX_LETTERS t_MAX_NAME t_MAX_PROCESSES t_SIGNS) (P : Program) (w : World) (base : Heap) :
    FnG P w K mg base false 6 a_is_alphabet c_is_alphabet ["value"] (spD K mg 1 d_is_alphabet) := by
  have nd := sc_is_alphabet.nd
  have O := Fw.Fun.okG L.F_is_alphabet (P := P) (w := w) (mg := mg) (base := base) (gb := false) (k := 5) sc_is_alphabet (fun cdv A outer s H E hr hgd0 => (pss_consF (ps_ifF (pt_pwF (pw_orF (pt_notF (pt_truF (pe_callBF v_isi (by rfl) L.z_isinstance (by decide +kernel) (pa_consF (pe_varF (i := 0)) (pa_consF (pe_bltnF (v := .ty "tuple") (by rfl) L.z_tuple (by decide +kernel) rfl (fun _ _ => .ty _)) pa_nilF))))) (pw_orF (pt_cmpF (v_ne (hu64 hr)) (pe_callBF v_len (by rfl) L.z_len (by decide +kernel) (pa_consF (pe_varF (i := 0)) pa_nilF)) pe_intF (nomark _)) (pw_or1 (pt_notF (pt_truF (pe_callG (L.o_is_between P w base) arT_len (hr.mono (by decide)) (fun z => nomatch z) (by rfl) L.m_is_between L.F_is_between.kp L.b_is_between takes_cxK (pa_consF (pe_subF (hu1 hr) (pe_varF (i := 0)) pe_intF) (pa_consF pe_intF (pa_consF (pe_globF (v := .int 5) (by rfl) L.g_MAX_PROCESSES ⟨_, rfl⟩ (fun _ _ => .int _)) pa_nilF)))))))))) (pss_oneF (ps_retF pe_blF)) pss_nilF) (pss_consF (ps_asgF (pe_varF (i := 0)) (pg_tupF (n := 2) rfl (pgs_consF (pg_nameF (i := 1) nd rfl (by first | exact .inl rfl | exact .inr rfl)) (pgs_consF (pg_nameF (i := 2) nd rfl (by first | exact .inl rfl | exact .inr rfl)) pgs_nilF)) (tgl_cons ng_name (tgl_cons ng_name tgl_nil)).len)) (pss_consF (ps_ifF (pt_pwF (pw_orF (pt_notF (pt_truF (pe_callBF v_isi (by rfl) L.z_isinstance (by decide +kernel) (pa_consF (pe_varF (i := 2)) (pa_consF (pe_bltnF (v := .ty "tuple") (by rfl) L.z_tuple (by decide +kernel) rfl (fun _ _ => .ty _)) pa_nilF))))) (pw_or1 (pt_notF (pt_cmp2F v_le v_le pe_intF (pe_callBF v_len (by rfl) L.z_len (by decide +kernel) (pa_consF (pe_varF (i := 2)) pa_nilF)) (pe_globF (v := .int 10) (by rfl) L.g_MAX_LETTERS ⟨_, rfl⟩ (fun _ _ => .int _)) (by with_unfolding_all rfl)))))) (pss_oneF (ps_retF pe_blF)) pss_nilF) (pss_oneF (ps_retF (pe_andF (pe_callBF (v_all rfl) (by rfl) L.z_all (by decide +kernel) (pa_consF (pe_lcF (fr := false) (ownS := [("row", 3)]) rfl nd (pi_iterF (pe_varF (i := 2))) (blkOk_by (N := ["value", "many", "rows", "row", "letter", "place"]) (sc := defScope s_is_alphabet) (own := [("row", 3)]) (by decide +kernel)) (by decide) (fun _ _ _ _ _ => (pg_nameF (i := 3) nd rfl (by first | exact .inl rfl | exact .inr rfl))) (fun _ _ _ _ _ => pts_nilF) (fun _ _ _ _ _ => (pe_callG (L.o_is_row P w base) arT_len (hr.mono (by decide)) (fun z => nomatch z) (by rfl) L.m_is_row L.F_is_row.kp L.b_is_row Fw.takes0 (pa_consF (pe_varF (i := 1)) (pa_consF (pe_varF (i := 3)) pa_nilF))))) pa_nilF)) (pe_one (pe_callG (L.o_is_ascending P w base) arT_len (hr.mono (by decide)) (fun z => nomatch z) (by rfl) L.m_is_ascending L.F_is_ascending.kp L.b_is_ascending takes_cxK (pa_consF (pe_lcF (fr := false) (ownS := [("letter", 4), ("place", 5)]) rfl nd (pi_iterF (pe_varF (i := 2))) (blkOk_by (N := ["value", "many", "rows", "row", "letter", "place"]) (sc := defScope s_is_alphabet) (own := [("letter", 4), ("place", 5)]) (by decide +kernel)) (by decide) (fun _ _ _ _ _ => (pg_tupF (n := 2) rfl (pgs_consF (pg_nameF (i := 4) nd rfl (by first | exact .inl rfl | exact .inr rfl)) (pgs_consF (pg_nameF (i := 5) nd rfl (by first | exact .inl rfl | exact .inr rfl)) pgs_nilF)) (tgl_cons ng_name (tgl_cons ng_name tgl_nil)).len)) (fun _ _ _ _ _ => pts_nilF) (fun _ _ _ _ _ => (pe_varF (i := 4)))) pa_nilF))))))))))
  exact O.ar
theorem Al.o_require_alphabet (L : Al K mg a__law_places a_is_ascending a_is_integer a_is_between a_is_name a_are_processes a_is_set_of a_is_row a_is_alphabet a_require_alphabet a_letters_in a_is_letter_in a_require_letter a_newest_in a_met_in a_places_in a_place_in a_is_clock_in a_is_table_in a_met_tables a_zero_table a_first_table a__law_meet a__law_pasts a__law_last a__law_view a__law_counts a__law_table a__law_right a__law_stream a__law_draw a__law_alphabet a__law_meeting_alphabet a__law_pick a__law_word a_law c__law_places c_is_ascending c_is_integer c_is_between c_is_name c_are_processes c_is_set_of c_is_row c_is_alphabet c_require_alphabet c_letters_in c_is_letter_in c_require_letter c_newest_in c_met_in c_places_in c_place_in c_is_clock_in c_is_table_in c_met_tables c_zero_table c_first_table c__law_meet c__law_pasts c__law_last c__law_view c__law_counts c__law_table c__law_right c__law_stream c__law_draw c__law_alphabet c__law_meeting_alphabet c__law_pick c__law_word c_law t_MAX_LETTERS t_MAX_NAME t_MAX_PROCESSES t_SIGNS) (P : Program) (w : World) (base : Heap) :
    FnG P w K mg base false 7 a_require_alphabet c_require_alphabet ["alphabet"] (spD K mg 1 d_require_alphabet) := by
  have nd := sc_require_alphabet.nd
  have O := Fw.Fun.okG L.F_require_alphabet (P := P) (w := w) (mg := mg) (base := base) (gb := false) (k := 6) sc_require_alphabet (fun cdv A outer s H E hr hgd0 => (pss_oneF (ps_ifF (pt_notF (pt_truF (pe_callG (L.o_is_alphabet P w base) arT_len (hr.mono (by decide)) (fun z => nomatch z) (by rfl) L.m_is_alphabet L.F_is_alphabet.kp L.b_is_alphabet takes_cxK (pa_consF (pe_varF (i := 0)) pa_nilF)))) (pss_oneF ps_badF) pss_nilF)))
  exact O.ar
theorem Al.o_letters_in (L : Al K mg a__law_places a_is_ascending a_is_integer a_is_between a_is_name a_are_processes a_is_set_of a_is_row a_is_alphabet a_require_alphabet a_letters_in a_is_letter_in a_require_letter a_newest_in a_met_in a_places_in a_place_in a_is_clock_in a_is_table_in a_met_tables a_zero_table a_first_table a__law_meet a__law_pasts a__law_last a__law_view a__law_counts a__law_table a__law_right a__law_stream a__law_draw a__law_alphabet a__law_meeting_alphabet a__law_pick a__law_word a_law c__law_places c_is_ascending c_is_integer c_is_between c_is_name c_are_processes c_is_set_of c_is_row c_is_alphabet c_require_alphabet c_letters_in c_is_letter_in c_require_letter c_newest_in c_met_in c_places_in c_place_in c_is_clock_in c_is_table_in c_met_tables c_zero_table c_first_table c__law_meet c__law_pasts c__law_last c__law_view c__law_counts c__law_table c__law_right c__law_stream c__law_draw c__law_alphabet c__law_meeting_alphabet c__law_pick c__law_word c_law t_MAX_LETTERS t_MAX_NAME t_MAX_PROCESSES t_SIGNS) (P : Program) (w : World) (base : Heap) :
    FnG P w K mg base false 1 a_letters_in c_letters_in ["alphabet"] (spD K mg 1 d_letters_in) := by
  have nd := sc_letters_in.nd
  have O := Fw.Fun.okG L.F_letters_in (P := P) (w := w) (mg := mg) (base := base) (gb := false) (k := 0) sc_letters_in (fun cdv A outer s H E hr hgd0 => (pss_oneF (ps_retF (pe_callTyF v_tuple (by rfl) L.z_tuple (by decide +kernel) (pa_consF (pe_lcF (fr := false) (ownS := [("letter", 1), ("place", 2)]) rfl nd (pi_iterF (pe_subF (hu1 hr) (pe_varF (i := 0)) pe_intF)) (blkOk_by (N := ["alphabet", "letter", "place"]) (sc := defScope s_letters_in) (own := [("letter", 1), ("place", 2)]) (by decide +kernel)) (by decide) (fun _ _ _ _ _ => (pg_tupF (n := 2) rfl (pgs_consF (pg_nameF (i := 1) nd rfl (by first | exact .inl rfl | exact .inr rfl)) (pgs_consF (pg_nameF (i := 2) nd rfl (by first | exact .inl rfl | exact .inr rfl)) pgs_nilF)) (tgl_cons ng_name (tgl_cons ng_name tgl_nil)).len)) (fun _ _ _ _ _ => pts_nilF) (fun _ _ _ _ _ => (pe_varF (i := 1)))) pa_nilF)))))
  exact O.ar
theorem Al.o_is_letter_in (L : Al K mg a__law_places a_is_ascending a_is_integer a_is_between a_is_name a_are_processes a_is_set_of a_is_row a_is_alphabet a_require_alphabet a_letters_in a_is_letter_in a_require_letter a_newest_in a_met_in a_places_in a_place_in a_is_clock_in a_is_table_in a_met_tables a_zero_table a_first_table a__law_meet a__law_pasts a__law_last a__law_view a__law_counts a__law_table a__law_right a__law_stream a__law_draw a__law_alphabet a__law_meeting_alphabet a__law_pick a__law_word a_law c__law_places c_is_ascending c_is_integer c_is_between c_is_name c_are_processes c_is_set_of c_is_row c_is_alphabet c_require_alphabet c_letters_in c_is_letter_in c_require_letter c_newest_in c_met_in c_places_in c_place_in c_is_clock_in c_is_table_in c_met_tables c_zero_table c_first_table c__law_meet c__law_pasts c__law_last c__law_view c__law_counts c__law_table c__law_right c__law_stream c__law_draw c__law_alphabet c__law_meeting_alphabet c__law_pick c__law_word c_law t_MAX_LETTERS t_MAX_NAME t_MAX_PROCESSES t_SIGNS) (P : Program) (w : World) (base : Heap) :
    FnG P w K mg base false 2 a_is_letter_in c_is_letter_in ["alphabet", "value"] (spD K mg 2 d_is_letter_in) := by
  have nd := sc_is_letter_in.nd
  have O := Fw.Fun.okG L.F_is_letter_in (P := P) (w := w) (mg := mg) (base := base) (gb := false) (k := 1) sc_is_letter_in (fun cdv A outer s H E hr hgd0 => (pss_oneF (ps_retF (pe_andF (pe_callBF v_isi (by rfl) L.z_isinstance (by decide +kernel) (pa_consF (pe_varF (i := 1)) (pa_consF (pe_bltnF (v := .ty "str") (by rfl) L.z_str (by decide +kernel) rfl (fun _ _ => .ty _)) pa_nilF))) (pe_one (pe_cmpF (v_mem (hu65 hr)) (pe_varF (i := 1)) (pe_callG (L.o_letters_in P w base) arT_len (hr.mono (by decide)) (fun z => nomatch z) (by rfl) L.m_letters_in L.F_letters_in.kp L.b_letters_in takes_cxK (pa_consF (pe_varF (i := 0)) pa_nilF)) (by with_unfolding_all rfl)))))))
  exact O.ar
theorem Al.o_require_letter (L : Al K mg a__law_places a_is_ascending a_is_integer a_is_between a_is_name a_are_processes a_is_set_of a_is_row a_is_alphabet a_require_alphabet a_letters_in a_is_letter_in a_require_letter a_newest_in a_met_in a_places_in a_place_in a_is_clock_in a_is_table_in a_met_tables a_zero_table a_first_table a__law_meet a__law_pasts a__law_last a__law_view a__law_counts a__law_table a__law_right a__law_stream a__law_draw a__law_alphabet a__law_meeting_alphabet a__law_pick a__law_word a_law c__law_places c_is_ascending c_is_integer c_is_between c_is_name c_are_processes c_is_set_of c_is_row c_is_alphabet c_require_alphabet c_letters_in c_is_letter_in c_require_letter c_newest_in c_met_in c_places_in c_place_in c_is_clock_in c_is_table_in c_met_tables c_zero_table c_first_table c__law_meet c__law_pasts c__law_last c__law_view c__law_counts c__law_table c__law_right c__law_stream c__law_draw c__law_alphabet c__law_meeting_alphabet c__law_pick c__law_word c_law t_MAX_LETTERS t_MAX_NAME t_MAX_PROCESSES t_SIGNS) (P : Program) (w : World) (base : Heap) :
    FnG P w K mg base false 3 a_require_letter c_require_letter ["alphabet", "letter"] (spD K mg 2 d_require_letter) := by
  have nd := sc_require_letter.nd
  have O := Fw.Fun.okG L.F_require_letter (P := P) (w := w) (mg := mg) (base := base) (gb := false) (k := 2) sc_require_letter (fun cdv A outer s H E hr hgd0 => (pss_oneF (ps_ifF (pt_notF (pt_truF (pe_callG (L.o_is_letter_in P w base) arT_len (hr.mono (by decide)) (fun z => nomatch z) (by rfl) L.m_is_letter_in L.F_is_letter_in.kp L.b_is_letter_in takes_cxK (pa_consF (pe_varF (i := 0)) (pa_consF (pe_varF (i := 1)) pa_nilF))))) (pss_oneF ps_badF) pss_nilF)))
  exact O.ar
theorem Al.o_newest_in (L : Al K mg a__law_places a_is_ascending a_is_integer a_is_between a_is_name a_are_processes a_is_set_of a_is_row a_is_alphabet a_require_alphabet a_letters_in a_is_letter_in a_require_letter a_newest_in a_met_in a_places_in a_place_in a_is_clock_in a_is_table_in a_met_tables a_zero_table a_first_table a__law_meet a__law_pasts a__law_last a__law_view a__law_counts a__law_table a__law_right a__law_stream a__law_draw a__law_alphabet a__law_meeting_alphabet a__law_pick a__law_word a_law c__law_places c_is_ascending c_is_integer c_is_between c_is_name c_are_processes c_is_set_of c_is_row c_is_alphabet c_require_alphabet c_letters_in c_is_letter_in c_require_letter c_newest_in c_met_in c_places_in c_place_in c_is_clock_in c_is_table_in c_met_tables c_zero_table c_first_table c__law_meet c__law_pasts c__law_last c__law_view c__law_counts c__law_table c__law_right c__law_stream c__law_draw c__law_alphabet c__law_meeting_alphabet c__law_pick c__law_word c_law t_MAX_LETTERS t_MAX_NAME t_MAX_PROCESSES t_SIGNS) (P : Program) (w : World) (base : Heap) :
    FnG P w K mg base false 1 a_newest_in c_newest_in ["tables", "process"] (spD K mg 2 d_newest_in) := by
  have nd := sc_newest_in.nd
  have O := Fw.Fun.okG L.F_newest_in (P := P) (w := w) (mg := mg) (base := base) (gb := false) (k := 0) sc_newest_in (fun cdv A outer s H E hr hgd0 => (pss_consF (ps_setF (i := 2) nd rfl (by first | exact .inl rfl | exact .inr rfl) pe_intF) (pss_consF (ps_forF owns_cxK rfl (pi_enumF (by rfl) L.z_enumerate (pa_consF (pe_varF (i := 0)) pa_nilF)) (pg_tupF (n := 2) rfl (pgs_consF (pg_nameF (i := 3) nd rfl (by first | exact .inl rfl | exact .inr rfl)) (pgs_consF (pg_nameF (i := 4) nd rfl (by first | exact .inl rfl | exact .inr rfl)) pgs_nilF)) (tgl_cons ng_name (tgl_cons ng_name tgl_nil)).len) (pss_oneF (ps_ifF (pt_cmpF v_gt (pe_subF (hu1 hr) (pe_subF (hu1 hr) (pe_varF (i := 4)) pe_intF) (pe_varF (i := 1))) (pe_subF (hu1 hr) (pe_subF (hu1 hr) (pe_subF (hu1 hr) (pe_varF (i := 0)) (pe_varF (i := 2))) pe_intF) (pe_varF (i := 1))) (nomark _)) (pss_oneF (ps_setF (i := 2) nd rfl (by first | exact .inl rfl | exact .inr rfl) (pe_varF (i := 3)))) pss_nilF))) (pss_oneF (ps_retF (pe_varF (i := 2)))))))
  exact O.ar
theorem Al.o_met_in (L : Al K mg a__law_places a_is_ascending a_is_integer a_is_between a_is_name a_are_processes a_is_set_of a_is_row a_is_alphabet a_require_alphabet a_letters_in a_is_letter_in a_require_letter a_newest_in a_met_in a_places_in a_place_in a_is_clock_in a_is_table_in a_met_tables a_zero_table a_first_table a__law_meet a__law_pasts a__law_last a__law_view a__law_counts a__law_table a__law_right a__law_stream a__law_draw a__law_alphabet a__law_meeting_alphabet a__law_pick a__law_word a_law c__law_places c_is_ascending c_is_integer c_is_between c_is_name c_are_processes c_is_set_of c_is_row c_is_alphabet c_require_alphabet c_letters_in c_is_letter_in c_require_letter c_newest_in c_met_in c_places_in c_place_in c_is_clock_in c_is_table_in c_met_tables c_zero_table c_first_table c__law_meet c__law_pasts c__law_last c__law_view c__law_counts c__law_table c__law_right c__law_stream c__law_draw c__law_alphabet c__law_meeting_alphabet c__law_pick c__law_word c_law t_MAX_LETTERS t_MAX_NAME t_MAX_PROCESSES t_SIGNS) (P : Program) (w : World) (base : Heap) :
    FnG P w K mg base false 2 a_met_in c_met_in ["many", "place", "tables"] (spD K mg 3 d_met_in) := by
  have nd := sc_met_in.nd
  have O := Fw.Fun.okG L.F_met_in (P := P) (w := w) (mg := mg) (base := base) (gb := false) (k := 1) sc_met_in (fun cdv A outer s H E hr hgd0 => (pss_consF (ps_setF (i := 3) nd rfl (by first | exact .inl rfl | exact .inr rfl) (pe_lcF (fr := false) (ownS := [("process", 4)]) rfl nd (pi_range1F (by rfl) L.z_range (pa_consF (pe_varF (i := 0)) pa_nilF)) (blkOk_by (N := ["many", "place", "tables", "holders", "process", "clock", "clocks"]) (sc := defScope s_met_in) (own := [("process", 4)]) (by decide +kernel)) (by decide) (fun _ _ _ _ _ => (pg_nameF (i := 4) nd rfl (by first | exact .inl rfl | exact .inr rfl))) (fun _ _ _ _ _ => pts_nilF) (fun _ _ _ _ _ => (pe_subF (hu1 hr) (pe_varF (i := 2)) (pe_callG (L.o_newest_in P w base) arT_len (hr.mono (by decide)) (fun z => nomatch z) (by rfl) L.m_newest_in L.F_newest_in.kp L.b_newest_in Fw.takes0 (pa_consF (pe_varF (i := 2)) (pa_consF (pe_varF (i := 4)) pa_nilF))))))) (pss_consF (ps_setF (i := 5) nd rfl (by first | exact .inl rfl | exact .inr rfl) (pe_callTyF v_tuple (by rfl) L.z_tuple (by decide +kernel) (pa_consF (pe_lcF (fr := false) (ownS := [("process", 4)]) rfl nd (pi_range1F (by rfl) L.z_range (pa_consF (pe_varF (i := 0)) pa_nilF)) (blkOk_by (N := ["many", "place", "tables", "holders", "process", "clock", "clocks"]) (sc := defScope s_met_in) (own := [("process", 4)]) (by decide +kernel)) (by decide) (fun _ _ _ _ _ => (pg_nameF (i := 4) nd rfl (by first | exact .inl rfl | exact .inr rfl))) (fun _ _ _ _ _ => pts_nilF) (fun _ _ _ _ _ => (pe_binF v_add (pe_subF (hu1 hr) (pe_subF (hu1 hr) (pe_subF (hu1 hr) (pe_varF (i := 3)) (pe_varF (i := 4))) pe_intF) (pe_varF (i := 4))) (pe_callTyF v_int (by rfl) L.z_int (by decide +kernel) (pa_consF (pe_cmpF (v_mem (hu65 hr)) (pe_varF (i := 4)) (pe_varF (i := 1)) (by with_unfolding_all rfl)) pa_nilF))))) pa_nilF))) (pss_consF (ps_setLcF (i := 6) (fr := false) (ownS := [("process", 4)]) rfl nd rfl rfl (sw_true rfl rfl rfl (by decide +kernel)) (pi_range1F (by rfl) L.z_range (pa_consF (pe_varF (i := 0)) pa_nilF)) (blkOk_by (N := ["many", "place", "tables", "holders", "process", "clock", "clocks"]) (sc := defScope s_met_in) (own := [("process", 4)]) (by decide +kernel)) (by decide) (fun _ _ _ _ _ => (pg_nameF (i := 4) nd rfl (by first | exact .inl rfl | exact .inr rfl))) (fun _ _ _ _ _ => pts_nilF) (fun _ _ _ _ _ => (pe_ifF (pt_cmpF (v_mem (hu65 hr)) (pe_varF (i := 4)) (pe_varF (i := 1)) (by with_unfolding_all rfl)) (pe_varF (i := 5)) (pe_subF (hu1 hr) (pe_subF (hu1 hr) (pe_subF (hu1 hr) (pe_varF (i := 3)) (pe_varF (i := 4))) pe_intF) (pe_varF (i := 4)))))) (pss_oneF (ps_retF (pe_tupF (pa_consF (pe_varF (i := 5)) (pa_consF (pe_callTyF v_tuple (by rfl) L.z_tuple (by decide +kernel) (pa_consF (pe_varF (i := 6)) pa_nilF)) pa_nilF)))))))))
  exact O.ar
theorem Al.o_places_in (L : Al K mg a__law_places a_is_ascending a_is_integer a_is_between a_is_name a_are_processes a_is_set_of a_is_row a_is_alphabet a_require_alphabet a_letters_in a_is_letter_in a_require_letter a_newest_in a_met_in a_places_in a_place_in a_is_clock_in a_is_table_in a_met_tables a_zero_table a_first_table a__law_meet a__law_pasts a__law_last a__law_view a__law_counts a__law_table a__law_right a__law_stream a__law_draw a__law_alphabet a__law_meeting_alphabet a__law_pick a__law_word a_law c__law_places c_is_ascending c_is_integer c_is_between c_is_name c_are_processes c_is_set_of c_is_row c_is_alphabet c_require_alphabet c_letters_in c_is_letter_in c_require_letter c_newest_in c_met_in c_places_in c_place_in c_is_clock_in c_is_table_in c_met_tables c_zero_table c_first_table c__law_meet c__law_pasts c__law_last c__law_view c__law_counts c__law_table c__law_right c__law_stream c__law_draw c__law_alphabet c__law_meeting_alphabet c__law_pick c__law_word c_law t_MAX_LETTERS t_MAX_NAME t_MAX_PROCESSES t_SIGNS) (P : Program) (w : World) (base : Heap) :
    FnG P w K mg base false 1 a_places_in c_places_in ["alphabet"] (spD K mg 1 d_places_in) := by
  have nd := sc_places_in.nd
  have O := Fw.Fun.okG L.F_places_in (P := P) (w := w) (mg := mg) (base := base) (gb := false) (k := 0) sc_places_in (fun cdv A outer s H E hr hgd0 => (pss_oneF (ps_retF (pe_dcF (fr := false) (ownS := [("letter", 1), ("place", 2)]) rfl nd (pi_iterF (pe_subF (hu1 hr) (pe_varF (i := 0)) pe_intF)) (blkOk_by (N := ["alphabet", "letter", "place"]) (sc := defScope s_places_in) (own := [("letter", 1), ("place", 2)]) (by decide +kernel)) (by decide) (fun _ _ _ _ _ => (pg_tupF (n := 2) rfl (pgs_consF (pg_nameF (i := 1) nd rfl (by first | exact .inl rfl | exact .inr rfl)) (pgs_consF (pg_nameF (i := 2) nd rfl (by first | exact .inl rfl | exact .inr rfl)) pgs_nilF)) (tgl_cons ng_name (tgl_cons ng_name tgl_nil)).len)) (fun _ _ _ _ _ => pts_nilF) (fun _ _ _ _ _ => (pe_varF (i := 1))) (fun _ _ _ _ _ => (pe_varF (i := 2)))))))
  exact O.ar
theorem Al.o_place_in (L : Al K mg a__law_places a_is_ascending a_is_integer a_is_between a_is_name a_are_processes a_is_set_of a_is_row a_is_alphabet a_require_alphabet a_letters_in a_is_letter_in a_require_letter a_newest_in a_met_in a_places_in a_place_in a_is_clock_in a_is_table_in a_met_tables a_zero_table a_first_table a__law_meet a__law_pasts a__law_last a__law_view a__law_counts a__law_table a__law_right a__law_stream a__law_draw a__law_alphabet a__law_meeting_alphabet a__law_pick a__law_word a_law c__law_places c_is_ascending c_is_integer c_is_between c_is_name c_are_processes c_is_set_of c_is_row c_is_alphabet c_require_alphabet c_letters_in c_is_letter_in c_require_letter c_newest_in c_met_in c_places_in c_place_in c_is_clock_in c_is_table_in c_met_tables c_zero_table c_first_table c__law_meet c__law_pasts c__law_last c__law_view c__law_counts c__law_table c__law_right c__law_stream c__law_draw c__law_alphabet c__law_meeting_alphabet c__law_pick c__law_word c_law t_MAX_LETTERS t_MAX_NAME t_MAX_PROCESSES t_SIGNS) (P : Program) (w : World) (base : Heap) :
    FnG P w K mg base false 2 a_place_in c_place_in ["alphabet", "letter"] (spD K mg 2 d_place_in) := by
  have nd := sc_place_in.nd
  have O := Fw.Fun.okG L.F_place_in (P := P) (w := w) (mg := mg) (base := base) (gb := false) (k := 1) sc_place_in (fun cdv A outer s H E hr hgd0 => (pss_oneF (ps_retF (pe_subF (hu1 hr) (pe_callG (L.o_places_in P w base) arT_len (hr.mono (by decide)) (fun z => nomatch z) (by rfl) L.m_places_in L.F_places_in.kp L.b_places_in takes_cxK (pa_consF (pe_varF (i := 0)) pa_nilF)) (pe_varF (i := 1))))))
  exact O.ar
theorem Al.o_is_clock_in (L : Al K mg a__law_places a_is_ascending a_is_integer a_is_between a_is_name a_are_processes a_is_set_of a_is_row a_is_alphabet a_require_alphabet a_letters_in a_is_letter_in a_require_letter a_newest_in a_met_in a_places_in a_place_in a_is_clock_in a_is_table_in a_met_tables a_zero_table a_first_table a__law_meet a__law_pasts a__law_last a__law_view a__law_counts a__law_table a__law_right a__law_stream a__law_draw a__law_alphabet a__law_meeting_alphabet a__law_pick a__law_word a_law c__law_places c_is_ascending c_is_integer c_is_between c_is_name c_are_processes c_is_set_of c_is_row c_is_alphabet c_require_alphabet c_letters_in c_is_letter_in c_require_letter c_newest_in c_met_in c_places_in c_place_in c_is_clock_in c_is_table_in c_met_tables c_zero_table c_first_table c__law_meet c__law_pasts c__law_last c__law_view c__law_counts c__law_table c__law_right c__law_stream c__law_draw c__law_alphabet c__law_meeting_alphabet c__law_pick c__law_word c_law t_MAX_LETTERS t_MAX_NAME t_MAX_PROCESSES t_SIGNS) (P : Program) (w : World) (base : Heap) :
    FnG P w K mg base false 2 a_is_clock_in c_is_clock_in ["many", "value"] (spD K mg 2 d_is_clock_in) := by
  have nd := sc_is_clock_in.nd
  have O := Fw.Fun.okG L.F_is_clock_in (P := P) (w := w) (mg := mg) (base := base) (gb := false) (k := 1) sc_is_clock_in (fun cdv A outer s H E hr hgd0 => (pss_consF (ps_ifF (pt_pwF (pw_orF (pt_notF (pt_truF (pe_callBF v_isi (by rfl) L.z_isinstance (by decide +kernel) (pa_consF (pe_varF (i := 1)) (pa_consF (pe_bltnF (v := .ty "tuple") (by rfl) L.z_tuple (by decide +kernel) rfl (fun _ _ => .ty _)) pa_nilF))))) (pw_or1 (pt_cmpF (v_ne (hu64 hr)) (pe_callBF v_len (by rfl) L.z_len (by decide +kernel) (pa_consF (pe_varF (i := 1)) pa_nilF)) (pe_varF (i := 0)) (nomark _))))) (pss_oneF (ps_retF pe_blF)) pss_nilF) (pss_oneF (ps_retF (pe_callBF (v_all rfl) (by rfl) L.z_all (by decide +kernel) (pa_consF (pe_lcF (fr := false) (ownS := [("count", 2)]) rfl nd (pi_iterF (pe_varF (i := 1))) (blkOk_by (N := ["many", "value", "count"]) (sc := defScope s_is_clock_in) (own := [("count", 2)]) (by decide +kernel)) (by decide) (fun _ _ _ _ _ => (pg_nameF (i := 2) nd rfl (by first | exact .inl rfl | exact .inr rfl))) (fun _ _ _ _ _ => pts_nilF) (fun _ _ _ _ _ => (pe_andF (pe_callG (L.o_is_integer P w base) arT_len (hr.mono (by decide)) (fun z => nomatch z) (by rfl) L.m_is_integer L.F_is_integer.kp L.b_is_integer Fw.takes0 (pa_consF (pe_varF (i := 2)) pa_nilF)) (pe_one (pe_cmpF v_ge (pe_varF (i := 2)) pe_intF (nomark _)))))) pa_nilF))))))
  exact O.ar
theorem Al.o_is_table_in (L : Al K mg a__law_places a_is_ascending a_is_integer a_is_between a_is_name a_are_processes a_is_set_of a_is_row a_is_alphabet a_require_alphabet a_letters_in a_is_letter_in a_require_letter a_newest_in a_met_in a_places_in a_place_in a_is_clock_in a_is_table_in a_met_tables a_zero_table a_first_table a__law_meet a__law_pasts a__law_last a__law_view a__law_counts a__law_table a__law_right a__law_stream a__law_draw a__law_alphabet a__law_meeting_alphabet a__law_pick a__law_word a_law c__law_places c_is_ascending c_is_integer c_is_between c_is_name c_are_processes c_is_set_of c_is_row c_is_alphabet c_require_alphabet c_letters_in c_is_letter_in c_require_letter c_newest_in c_met_in c_places_in c_place_in c_is_clock_in c_is_table_in c_met_tables c_zero_table c_first_table c__law_meet c__law_pasts c__law_last c__law_view c__law_counts c__law_table c__law_right c__law_stream c__law_draw c__law_alphabet c__law_meeting_alphabet c__law_pick c__law_word c_law t_MAX_LETTERS t_MAX_NAME t_MAX_PROCESSES t_SIGNS) (P : Program) (w : World) (base : Heap) :
    FnG P w K mg base false 3 a_is_table_in c_is_table_in ["many", "value"] (spD K mg 2 d_is_table_in) := by
  have nd := sc_is_table_in.nd
  have O := Fw.Fun.okG L.F_is_table_in (P := P) (w := w) (mg := mg) (base := base) (gb := false) (k := 2) sc_is_table_in (fun cdv A outer s H E hr hgd0 => (pss_consF (ps_ifF (pt_pwF (pw_orF (pt_notF (pt_truF (pe_callBF v_isi (by rfl) L.z_isinstance (by decide +kernel) (pa_consF (pe_varF (i := 1)) (pa_consF (pe_bltnF (v := .ty "tuple") (by rfl) L.z_tuple (by decide +kernel) rfl (fun _ _ => .ty _)) pa_nilF))))) (pw_orF (pt_cmpF (v_ne (hu64 hr)) (pe_callBF v_len (by rfl) L.z_len (by decide +kernel) (pa_consF (pe_varF (i := 1)) pa_nilF)) pe_intF (nomark _)) (pw_or1 (pt_notF (pt_truF (pe_callG (L.o_is_clock_in P w base) arT_len (hr.mono (by decide)) (fun z => nomatch z) (by rfl) L.m_is_clock_in L.F_is_clock_in.kp L.b_is_clock_in takes_cxK (pa_consF (pe_varF (i := 0)) (pa_consF (pe_subF (hu1 hr) (pe_varF (i := 1)) pe_intF) pa_nilF))))))))) (pss_oneF (ps_retF pe_blF)) pss_nilF) (pss_consF (ps_ifF (pt_pwF (pw_orF (pt_notF (pt_truF (pe_callBF v_isi (by rfl) L.z_isinstance (by decide +kernel) (pa_consF (pe_subF (hu1 hr) (pe_varF (i := 1)) pe_intF) (pa_consF (pe_bltnF (v := .ty "tuple") (by rfl) L.z_tuple (by decide +kernel) rfl (fun _ _ => .ty _)) pa_nilF))))) (pw_or1 (pt_cmpF (v_ne (hu64 hr)) (pe_callBF v_len (by rfl) L.z_len (by decide +kernel) (pa_consF (pe_subF (hu1 hr) (pe_varF (i := 1)) pe_intF) pa_nilF)) (pe_varF (i := 0)) (nomark _))))) (pss_oneF (ps_retF pe_blF)) pss_nilF) (pss_oneF (ps_retF (pe_callBF (v_all rfl) (by rfl) L.z_all (by decide +kernel) (pa_consF (pe_lcF (fr := false) (ownS := [("clock", 2)]) rfl nd (pi_iterF (pe_subF (hu1 hr) (pe_varF (i := 1)) pe_intF)) (blkOk_by (N := ["many", "value", "clock"]) (sc := defScope s_is_table_in) (own := [("clock", 2)]) (by decide +kernel)) (by decide) (fun _ _ _ _ _ => (pg_nameF (i := 2) nd rfl (by first | exact .inl rfl | exact .inr rfl))) (fun _ _ _ _ _ => pts_nilF) (fun _ _ _ _ _ => (pe_callG (L.o_is_clock_in P w base) arT_len (hr.mono (by decide)) (fun z => nomatch z) (by rfl) L.m_is_clock_in L.F_is_clock_in.kp L.b_is_clock_in Fw.takes0 (pa_consF (pe_varF (i := 0)) (pa_consF (pe_varF (i := 2)) pa_nilF))))) pa_nilF)))))))
  exact O.ar
theorem Al.o_met_tables (L : Al K mg a__law_places a_is_ascending a_is_integer a_is_between a_is_name a_are_processes a_is_set_of a_is_row a_is_alphabet a_require_alphabet a_letters_in a_is_letter_in a_require_letter a_newest_in a_met_in a_places_in a_place_in a_is_clock_in a_is_table_in a_met_tables a_zero_table a_first_table a__law_meet a__law_pasts a__law_last a__law_view a__law_counts a__law_table a__law_right a__law_stream a__law_draw a__law_alphabet a__law_meeting_alphabet a__law_pick a__law_word a_law c__law_places c_is_ascending c_is_integer c_is_between c_is_name c_are_processes c_is_set_of c_is_row c_is_alphabet c_require_alphabet c_letters_in c_is_letter_in c_require_letter c_newest_in c_met_in c_places_in c_place_in c_is_clock_in c_is_table_in c_met_tables c_zero_table c_first_table c__law_meet c__law_pasts c__law_last c__law_view c__law_counts c__law_table c__law_right c__law_stream c__law_draw c__law_alphabet c__law_meeting_alphabet c__law_pick c__law_word c_law t_MAX_LETTERS t_MAX_NAME t_MAX_PROCESSES t_SIGNS) (P : Program) (w : World) (base : Heap) :
    FnG P w K mg base false 8 a_met_tables c_met_tables ["alphabet", "letter", "tables"] (spD K mg 3 d_met_tables) := by
  have nd := sc_met_tables.nd
  have O := Fw.Fun.okG L.F_met_tables (P := P) (w := w) (mg := mg) (base := base) (gb := false) (k := 7) sc_met_tables (fun cdv A outer s H E hr hgd0 => (pss_consF (ps_exprF (pe_callG (L.o_require_alphabet P w base) arT_len (hr.mono (by decide)) (fun z => nomatch z) (by rfl) L.m_require_alphabet L.F_require_alphabet.kp L.b_require_alphabet takes_cxK (pa_consF (pe_varF (i := 0)) pa_nilF))) (pss_consF (ps_exprF (pe_callG (L.o_require_letter P w base) arT_len (hr.mono (by decide)) (fun z => nomatch z) (by rfl) L.m_require_letter L.F_require_letter.kp L.b_require_letter takes_cxK (pa_consF (pe_varF (i := 0)) (pa_consF (pe_varF (i := 1)) pa_nilF)))) (pss_consF (ps_asgF (pe_tupF (pa_consF (pe_subF (hu1 hr) (pe_varF (i := 0)) pe_intF) (pa_consF (pe_callG (L.o_place_in P w base) arT_len (hr.mono (by decide)) (fun z => nomatch z) (by rfl) L.m_place_in L.F_place_in.kp L.b_place_in takes_cxK (pa_consF (pe_varF (i := 0)) (pa_consF (pe_varF (i := 1)) pa_nilF))) pa_nilF))) (pg_tupF (n := 2) rfl (pgs_consF (pg_nameF (i := 3) nd rfl (by first | exact .inl rfl | exact .inr rfl)) (pgs_consF (pg_nameF (i := 4) nd rfl (by first | exact .inl rfl | exact .inr rfl)) pgs_nilF)) (tgl_cons ng_name (tgl_cons ng_name tgl_nil)).len)) (pss_consF (ps_ifF (pt_pwF (pw_orF (pt_notF (pt_truF (pe_callBF v_isi (by rfl) L.z_isinstance (by decide +kernel) (pa_consF (pe_varF (i := 2)) (pa_consF (pe_bltnF (v := .ty "tuple") (by rfl) L.z_tuple (by decide +kernel) rfl (fun _ _ => .ty _)) pa_nilF))))) (pw_or1 (pt_cmpF (v_ne (hu64 hr)) (pe_callBF v_len (by rfl) L.z_len (by decide +kernel) (pa_consF (pe_varF (i := 2)) pa_nilF)) (pe_callBF v_len (by rfl) L.z_len (by decide +kernel) (pa_consF (pe_varF (i := 4)) pa_nilF)) (nomark _))))) (pss_oneF ps_badF) pss_nilF) (pss_consF (ps_ifF (pt_notF (pt_truF (pe_callBF (v_all rfl) (by rfl) L.z_all (by decide +kernel) (pa_consF (pe_lcF (fr := false) (ownS := [("table", 5)]) rfl nd (pi_iterF (pe_varF (i := 2))) (blkOk_by (N := ["alphabet", "letter", "tables", "many", "place", "table"]) (sc := defScope s_met_tables) (own := [("table", 5)]) (by decide +kernel)) (by decide) (fun _ _ _ _ _ => (pg_nameF (i := 5) nd rfl (by first | exact .inl rfl | exact .inr rfl))) (fun _ _ _ _ _ => pts_nilF) (fun _ _ _ _ _ => (pe_callG (L.o_is_table_in P w base) arT_len (hr.mono (by decide)) (fun z => nomatch z) (by rfl) L.m_is_table_in L.F_is_table_in.kp L.b_is_table_in Fw.takes0 (pa_consF (pe_varF (i := 3)) (pa_consF (pe_varF (i := 5)) pa_nilF))))) pa_nilF)))) (pss_oneF ps_badF) pss_nilF) (pss_oneF (ps_retF (pe_callG (L.o_met_in P w base) arT_len (hr.mono (by decide)) (fun z => nomatch z) (by rfl) L.m_met_in L.F_met_in.kp L.b_met_in takes_cxK (pa_consF (pe_varF (i := 3)) (pa_consF (pe_varF (i := 4)) (pa_consF (pe_varF (i := 2)) pa_nilF))))))))))))
  exact O.ar
theorem Al.o_zero_table (L : Al K mg a__law_places a_is_ascending a_is_integer a_is_between a_is_name a_are_processes a_is_set_of a_is_row a_is_alphabet a_require_alphabet a_letters_in a_is_letter_in a_require_letter a_newest_in a_met_in a_places_in a_place_in a_is_clock_in a_is_table_in a_met_tables a_zero_table a_first_table a__law_meet a__law_pasts a__law_last a__law_view a__law_counts a__law_table a__law_right a__law_stream a__law_draw a__law_alphabet a__law_meeting_alphabet a__law_pick a__law_word a_law c__law_places c_is_ascending c_is_integer c_is_between c_is_name c_are_processes c_is_set_of c_is_row c_is_alphabet c_require_alphabet c_letters_in c_is_letter_in c_require_letter c_newest_in c_met_in c_places_in c_place_in c_is_clock_in c_is_table_in c_met_tables c_zero_table c_first_table c__law_meet c__law_pasts c__law_last c__law_view c__law_counts c__law_table c__law_right c__law_stream c__law_draw c__law_alphabet c__law_meeting_alphabet c__law_pick c__law_word c_law t_MAX_LETTERS t_MAX_NAME t_MAX_PROCESSES t_SIGNS) (P : Program) (w : World) (base : Heap) :
    FnG P w K mg base false 1 a_zero_table c_zero_table ["many"] (spD K mg 1 d_zero_table) := by
  have nd := sc_zero_table.nd
  have O := Fw.Fun.okG L.F_zero_table (P := P) (w := w) (mg := mg) (base := base) (gb := false) (k := 0) sc_zero_table (fun cdv A outer s H E hr hgd0 => (pss_consF (ps_setF (i := 1) nd rfl (by first | exact .inl rfl | exact .inr rfl) (pe_binF v_mul (pe_tupF (pa_consF pe_intF pa_nilF)) (pe_varF (i := 0)))) (pss_oneF (ps_retF (pe_tupF (pa_consF (pe_varF (i := 1)) (pa_consF (pe_binF v_mul (pe_tupF (pa_consF (pe_varF (i := 1)) pa_nilF)) (pe_varF (i := 0))) pa_nilF)))))))
  exact O.ar
theorem Al.o_first_table (L : Al K mg a__law_places a_is_ascending a_is_integer a_is_between a_is_name a_are_processes a_is_set_of a_is_row a_is_alphabet a_require_alphabet a_letters_in a_is_letter_in a_require_letter a_newest_in a_met_in a_places_in a_place_in a_is_clock_in a_is_table_in a_met_tables a_zero_table a_first_table a__law_meet a__law_pasts a__law_last a__law_view a__law_counts a__law_table a__law_right a__law_stream a__law_draw a__law_alphabet a__law_meeting_alphabet a__law_pick a__law_word a_law c__law_places c_is_ascending c_is_integer c_is_between c_is_name c_are_processes c_is_set_of c_is_row c_is_alphabet c_require_alphabet c_letters_in c_is_letter_in c_require_letter c_newest_in c_met_in c_places_in c_place_in c_is_clock_in c_is_table_in c_met_tables c_zero_table c_first_table c__law_meet c__law_pasts c__law_last c__law_view c__law_counts c__law_table c__law_right c__law_stream c__law_draw c__law_alphabet c__law_meeting_alphabet c__law_pick c__law_word c_law t_MAX_LETTERS t_MAX_NAME t_MAX_PROCESSES t_SIGNS) (P : Program) (w : World) (base : Heap) :
    FnG P w K mg base false 8 a_first_table c_first_table ["alphabet"] (spD K mg 1 d_first_table) := by
  have nd := sc_first_table.nd
  have O := Fw.Fun.okG L.F_first_table (P := P) (w := w) (mg := mg) (base := base) (gb := false) (k := 7) sc_first_table (fun cdv A outer s H E hr hgd0 => (pss_consF (ps_exprF (pe_callG (L.o_require_alphabet P w base) arT_len (hr.mono (by decide)) (fun z => nomatch z) (by rfl) L.m_require_alphabet L.F_require_alphabet.kp L.b_require_alphabet takes_cxK (pa_consF (pe_varF (i := 0)) pa_nilF))) (pss_oneF (ps_retF (pe_callG (L.o_zero_table P w base) arT_len (hr.mono (by decide)) (fun z => nomatch z) (by rfl) L.m_zero_table L.F_zero_table.kp L.b_zero_table takes_cxK (pa_consF (pe_subF (hu1 hr) (pe_varF (i := 0)) pe_intF) pa_nilF))))))
  exact O.ar
theorem Al.o__law_meet (L : Al K mg a__law_places a_is_ascending a_is_integer a_is_between a_is_name a_are_processes a_is_set_of a_is_row a_is_alphabet a_require_alphabet a_letters_in a_is_letter_in a_require_letter a_newest_in a_met_in a_places_in a_place_in a_is_clock_in a_is_table_in a_met_tables a_zero_table a_first_table a__law_meet a__law_pasts a__law_last a__law_view a__law_counts a__law_table a__law_right a__law_stream a__law_draw a__law_alphabet a__law_meeting_alphabet a__law_pick a__law_word a_law c__law_places c_is_ascending c_is_integer c_is_between c_is_name c_are_processes c_is_set_of c_is_row c_is_alphabet c_require_alphabet c_letters_in c_is_letter_in c_require_letter c_newest_in c_met_in c_places_in c_place_in c_is_clock_in c_is_table_in c_met_tables c_zero_table c_first_table c__law_meet c__law_pasts c__law_last c__law_view c__law_counts c__law_table c__law_right c__law_stream c__law_draw c__law_alphabet c__law_meeting_alphabet c__law_pick c__law_word c_law t_MAX_LETTERS t_MAX_NAME t_MAX_PROCESSES t_SIGNS) (P : Program) (w : World) (base : Heap) :
    FnG P w K mg base false 1 a__law_meet c__law_meet ["one", "other"] (spD K mg 2 d__law_meet) := by
  have nd := sc__law_meet.nd
  have O := Fw.Fun.okG L.F__law_meet (P := P) (w := w) (mg := mg) (base := base) (gb := false) (k := 0) sc__law_meet (fun cdv A outer s H E hr hgd0 => (pss_oneF (ps_retF (pe_cmpF (v_ne (hu64 hr)) (pe_lcF (fr := false) (ownS := [("process", 2)]) rfl nd (pi_iterF (pe_varF (i := 0))) (blkOk_by (N := ["one", "other", "process"]) (sc := defScope s__law_meet) (own := [("process", 2)]) (by decide +kernel)) (by decide) (fun _ _ _ _ _ => (pg_nameF (i := 2) nd rfl (by first | exact .inl rfl | exact .inr rfl))) (fun _ _ _ _ _ => (pts_oneF (pt_cmpF (v_mem (hu65 hr)) (pe_varF (i := 2)) (pe_varF (i := 1)) (by with_unfolding_all rfl)))) (fun _ _ _ _ _ => (pe_varF (i := 2)))) (pe_lstF pa_nilF) (nomark _)))))
  exact O.ar
theorem Al.o__law_pasts (L : Al K mg a__law_places a_is_ascending a_is_integer a_is_between a_is_name a_are_processes a_is_set_of a_is_row a_is_alphabet a_require_alphabet a_letters_in a_is_letter_in a_require_letter a_newest_in a_met_in a_places_in a_place_in a_is_clock_in a_is_table_in a_met_tables a_zero_table a_first_table a__law_meet a__law_pasts a__law_last a__law_view a__law_counts a__law_table a__law_right a__law_stream a__law_draw a__law_alphabet a__law_meeting_alphabet a__law_pick a__law_word a_law c__law_places c_is_ascending c_is_integer c_is_between c_is_name c_are_processes c_is_set_of c_is_row c_is_alphabet c_require_alphabet c_letters_in c_is_letter_in c_require_letter c_newest_in c_met_in c_places_in c_place_in c_is_clock_in c_is_table_in c_met_tables c_zero_table c_first_table c__law_meet c__law_pasts c__law_last c__law_view c__law_counts c__law_table c__law_right c__law_stream c__law_draw c__law_alphabet c__law_meeting_alphabet c__law_pick c__law_word c_law t_MAX_LETTERS t_MAX_NAME t_MAX_PROCESSES t_SIGNS) (P : Program) (w : World) (base : Heap) :
    FnG P w K mg base false 2 a__law_pasts c__law_pasts ["alphabet", "word"] (spD K mg 2 d__law_pasts) := by
  have nd := sc__law_pasts.nd
  have O := Fw.Fun.okG L.F__law_pasts (P := P) (w := w) (mg := mg) (base := base) (gb := false) (k := 1) sc__law_pasts (fun cdv A outer s H E hr hgd0 => (pss_consF (ps_parF (i := 2) (j := 3) rfl nd rfl rfl (by decide) rfl rfl (pe_callG (L.o__law_places P w base) arT_len (hr.mono (by decide)) (fun z => nomatch z) (by rfl) L.m__law_places L.F__law_places.kp L.b__law_places takes_cxK (pa_consF (pe_varF (i := 0)) pa_nilF)) (pe_refF pa_nilF) (by rfl)) (pss_consF (ps_forF owns_cxK rfl (pi_enumF (by rfl) L.z_enumerate (pa_consF (pe_varF (i := 1)) pa_nilF)) (pg_tupF (n := 2) rfl (pgs_consF (pg_nameF (i := 4) nd rfl (by first | exact .inl rfl | exact .inr rfl)) (pgs_consF (pg_nameF (i := 5) nd rfl (by first | exact .inl rfl | exact .inr rfl)) pgs_nilF)) (tgl_cons ng_name (tgl_cons ng_name tgl_nil)).len) (pss_consF (ps_setF (i := 6) nd rfl (by first | exact .inl rfl | exact .inr rfl) (pe_dispF (fr := true) (pps_consF (pe_varF (i := 4)) pe_blF pps_nilF))) (pss_consF (ps_forF owns_cxK rfl (pi_range3F (by rfl) L.z_range (pa_consF (pe_binF v_sub (pe_varF (i := 4)) pe_intF) (pa_consF (pe_unF v_neg pe_intF) (pa_consF (pe_unF v_neg pe_intF) pa_nilF)))) (pg_nameF (i := 7) nd rfl (by first | exact .inl rfl | exact .inr rfl)) (pss_oneF (ps_ifF (pt_pwF (pw_andF (pt_cmpF (v_notMem (hu65 hr)) (pe_varF (i := 7)) (pe_varF (i := 6)) (by with_unfolding_all rfl)) (pw_and1 (pt_truF (pe_callG (L.o__law_meet P w base) arT_len (hr.mono (by decide)) (fun z => nomatch z) (by rfl) L.m__law_meet L.F__law_meet.kp L.b__law_meet takes_cxK (pa_consF (pe_subF (hu1 hr) (pe_varF (i := 2)) (pe_subF (hu1 hr) (pe_varF (i := 1)) (pe_varF (i := 7)))) (pa_consF (pe_subF (hu1 hr) (pe_varF (i := 2)) (pe_varF (i := 5))) pa_nilF))))))) (pss_oneF (ps_forF owns_cxK rfl (pi_iterF (pe_subF (hu1 hr) (pe_varF (i := 3)) (pe_varF (i := 7)))) (pg_nameF (i := 8) nd rfl (by first | exact .inl rfl | exact .inr rfl)) (pss_oneF (ps_asgF pe_blF (pg_subF (hu1 hr) (pe_varF (i := 6)) (pe_varF (i := 8))))))) pss_nilF))) (pss_oneF (ps_exprF (pe_mthF PySem.F.plainAttrs_list PySem.F.slot_list_append PySem.F.type_list_append v_append (pe_varF (i := 3)) (pa_consF (pe_callBF (v_sortedD rfl (hu70 hr)) (by rfl) L.z_sorted (by decide +kernel) (pa_consF (pe_varF (i := 6)) pa_nilF)) pa_nilF))))))) (pss_oneF (ps_retF (pe_varF (i := 3)))))))
  exact O.fnD.ar
theorem Al.o__law_last (L : Al K mg a__law_places a_is_ascending a_is_integer a_is_between a_is_name a_are_processes a_is_set_of a_is_row a_is_alphabet a_require_alphabet a_letters_in a_is_letter_in a_require_letter a_newest_in a_met_in a_places_in a_place_in a_is_clock_in a_is_table_in a_met_tables a_zero_table a_first_table a__law_meet a__law_pasts a__law_last a__law_view a__law_counts a__law_table a__law_right a__law_stream a__law_draw a__law_alphabet a__law_meeting_alphabet a__law_pick a__law_word a_law c__law_places c_is_ascending c_is_integer c_is_between c_is_name c_are_processes c_is_set_of c_is_row c_is_alphabet c_require_alphabet c_letters_in c_is_letter_in c_require_letter c_newest_in c_met_in c_places_in c_place_in c_is_clock_in c_is_table_in c_met_tables c_zero_table c_first_table c__law_meet c__law_pasts c__law_last c__law_view c__law_counts c__law_table c__law_right c__law_stream c__law_draw c__law_alphabet c__law_meeting_alphabet c__law_pick c__law_word c_law t_MAX_LETTERS t_MAX_NAME t_MAX_PROCESSES t_SIGNS) (P : Program) (w : World) (base : Heap) :
    FnG P w K mg base false 2 a__law_last c__law_last ["alphabet", "word", "process", "inside"] (spD K mg 4 d__law_last) := by
  have nd := sc__law_last.nd
  have O := Fw.Fun.okG L.F__law_last (P := P) (w := w) (mg := mg) (base := base) (gb := false) (k := 1) sc__law_last (fun cdv A outer s H E hr hgd0 => (pss_consF (ps_setF (i := 4) nd rfl (by first | exact .inl rfl | exact .inr rfl) (pe_callG (L.o__law_places P w base) arT_len (hr.mono (by decide)) (fun z => nomatch z) (by rfl) L.m__law_places L.F__law_places.kp L.b__law_places takes_cxK (pa_consF (pe_varF (i := 0)) pa_nilF))) (pss_consF (ps_setLcF (i := 5) (fr := false) (ownS := [("at", 6)]) rfl nd rfl rfl (sw_true rfl rfl rfl (by decide +kernel)) (pi_iterF (pe_varF (i := 3))) (blkOk_by (N := ["alphabet", "word", "process", "inside", "places", "found", "at"]) (sc := defScope s__law_last) (own := [("at", 6)]) (by decide +kernel)) (by decide) (fun _ _ _ _ _ => (pg_nameF (i := 6) nd rfl (by first | exact .inl rfl | exact .inr rfl))) (fun _ _ _ _ _ => (pts_oneF (pt_cmpF (v_mem (hu65 hr)) (pe_varF (i := 2)) (pe_subF (hu1 hr) (pe_varF (i := 4)) (pe_subF (hu1 hr) (pe_varF (i := 1)) (pe_varF (i := 6)))) (by with_unfolding_all rfl)))) (fun _ _ _ _ _ => (pe_varF (i := 6)))) (pss_oneF (ps_retF (pe_ifF (pt_cmpF (v_ne (hu64 hr)) (pe_varF (i := 5)) (pe_lstF pa_nilF) (nomark _)) (pe_callBF (v_max1 rfl) (by rfl) L.z_max (by decide +kernel) (pa_consF (pe_varF (i := 5)) pa_nilF)) pe_nonF))))))
  exact O.ar
theorem Al.o__law_view (L : Al K mg a__law_places a_is_ascending a_is_integer a_is_between a_is_name a_are_processes a_is_set_of a_is_row a_is_alphabet a_require_alphabet a_letters_in a_is_letter_in a_require_letter a_newest_in a_met_in a_places_in a_place_in a_is_clock_in a_is_table_in a_met_tables a_zero_table a_first_table a__law_meet a__law_pasts a__law_last a__law_view a__law_counts a__law_table a__law_right a__law_stream a__law_draw a__law_alphabet a__law_meeting_alphabet a__law_pick a__law_word a_law c__law_places c_is_ascending c_is_integer c_is_between c_is_name c_are_processes c_is_set_of c_is_row c_is_alphabet c_require_alphabet c_letters_in c_is_letter_in c_require_letter c_newest_in c_met_in c_places_in c_place_in c_is_clock_in c_is_table_in c_met_tables c_zero_table c_first_table c__law_meet c__law_pasts c__law_last c__law_view c__law_counts c__law_table c__law_right c__law_stream c__law_draw c__law_alphabet c__law_meeting_alphabet c__law_pick c__law_word c_law t_MAX_LETTERS t_MAX_NAME t_MAX_PROCESSES t_SIGNS) (P : Program) (w : World) (base : Heap) :
    FnG P w K mg base false 3 a__law_view c__law_view ["alphabet", "word", "group"] (spD K mg 3 d__law_view) := by
  have nd := sc__law_view.nd
  have O := Fw.Fun.okG L.F__law_view (P := P) (w := w) (mg := mg) (base := base) (gb := false) (k := 2) sc__law_view (fun cdv A outer s H E hr hgd0 => (pss_consF (ps_parF (i := 3) (j := 4) rfl nd rfl rfl (by decide) rfl rfl (pe_callG (L.o__law_pasts P w base) arT_len (hr.mono (by decide)) (fun z => nomatch z) (by rfl) L.m__law_pasts L.F__law_pasts.kp L.b__law_pasts takes_cxK (pa_consF (pe_varF (i := 0)) (pa_consF (pe_varF (i := 1)) pa_nilF))) (pe_dic0F (fr := true)) (by rfl)) (pss_consF (ps_forF owns_cxK rfl (pi_iterF (pe_varF (i := 2))) (pg_nameF (i := 5) nd rfl (by first | exact .inl rfl | exact .inr rfl)) (pss_consF (ps_setF (i := 6) nd rfl (by first | exact .inl rfl | exact .inr rfl) (pe_callG (L.o__law_last P w base) arT_len (hr.mono (by decide)) (fun z => nomatch z) (by rfl) L.m__law_last L.F__law_last.kp L.b__law_last takes_cxK (pa_consF (pe_varF (i := 0)) (pa_consF (pe_varF (i := 1)) (pa_consF (pe_varF (i := 5)) (pa_consF (pe_listRg1F rfl (by rfl) L.z_list (by rfl) L.z_range (pe_callBF v_len (by rfl) L.z_len (by decide +kernel) (pa_consF (pe_varF (i := 1)) pa_nilF))) pa_nilF)))))) (pss_oneF (ps_forF owns_cxK rfl (pi_iterF (pe_ifF (pt_cmpF v_isNot (pe_varF (i := 6)) pe_nonF (nomark _)) (pe_subF (hu1 hr) (pe_varF (i := 3)) (pe_varF (i := 6))) (pe_lstF pa_nilF))) (pg_nameF (i := 7) nd rfl (by first | exact .inl rfl | exact .inr rfl)) (pss_oneF (ps_asgF pe_blF (pg_subF (hu1 hr) (pe_varF (i := 4)) (pe_varF (i := 7))))))))) (pss_oneF (ps_retF (pe_callBF (v_sortedD rfl (hu70 hr)) (by rfl) L.z_sorted (by decide +kernel) (pa_consF (pe_varF (i := 4)) pa_nilF)))))))
  exact O.fnD.ar
theorem Al.o__law_counts (L : Al K mg a__law_places a_is_ascending a_is_integer a_is_between a_is_name a_are_processes a_is_set_of a_is_row a_is_alphabet a_require_alphabet a_letters_in a_is_letter_in a_require_letter a_newest_in a_met_in a_places_in a_place_in a_is_clock_in a_is_table_in a_met_tables a_zero_table a_first_table a__law_meet a__law_pasts a__law_last a__law_view a__law_counts a__law_table a__law_right a__law_stream a__law_draw a__law_alphabet a__law_meeting_alphabet a__law_pick a__law_word a_law c__law_places c_is_ascending c_is_integer c_is_between c_is_name c_are_processes c_is_set_of c_is_row c_is_alphabet c_require_alphabet c_letters_in c_is_letter_in c_require_letter c_newest_in c_met_in c_places_in c_place_in c_is_clock_in c_is_table_in c_met_tables c_zero_table c_first_table c__law_meet c__law_pasts c__law_last c__law_view c__law_counts c__law_table c__law_right c__law_stream c__law_draw c__law_alphabet c__law_meeting_alphabet c__law_pick c__law_word c_law t_MAX_LETTERS t_MAX_NAME t_MAX_PROCESSES t_SIGNS) (P : Program) (w : World) (base : Heap) :
    FnG P w K mg base false 2 a__law_counts c__law_counts ["alphabet", "word", "inside"] (spD K mg 3 d__law_counts) := by
  have nd := sc__law_counts.nd
  have O := Fw.Fun.okG L.F__law_counts (P := P) (w := w) (mg := mg) (base := base) (gb := false) (k := 1) sc__law_counts (fun cdv A outer s H E hr hgd0 => (pss_consF (ps_setF (i := 3) nd rfl (by first | exact .inl rfl | exact .inr rfl) (pe_callG (L.o__law_places P w base) arT_len (hr.mono (by decide)) (fun z => nomatch z) (by rfl) L.m__law_places L.F__law_places.kp L.b__law_places takes_cxK (pa_consF (pe_varF (i := 0)) pa_nilF))) (pss_consF (ps_setF (i := 4) nd rfl (by first | exact .inl rfl | exact .inr rfl) (pe_binF v_mulR (pe_lstF (pa_consF pe_intF pa_nilF)) (pe_subF (hu1 hr) (pe_varF (i := 0)) pe_intF))) (pss_consF (ps_forF owns_cxK rfl (pi_iterF (pe_varF (i := 2))) (pg_nameF (i := 5) nd rfl (by first | exact .inl rfl | exact .inr rfl)) (pss_oneF (ps_forF owns_cxK rfl (pi_iterF (pe_subF (hu1 hr) (pe_varF (i := 3)) (pe_subF (hu1 hr) (pe_varF (i := 1)) (pe_varF (i := 5))))) (pg_nameF (i := 6) nd rfl (by first | exact .inl rfl | exact .inr rfl)) (pss_oneF (ps_asgF (pe_binF v_add (pe_subF (hu1 hr) (pe_varF (i := 4)) (pe_varF (i := 6))) pe_intF) (pg_subF (hu1 hr) (pe_varF (i := 4)) (pe_varF (i := 6)))))))) (pss_oneF (ps_retF (pe_callTyF v_tuple (by rfl) L.z_tuple (by decide +kernel) (pa_consF (pe_varF (i := 4)) pa_nilF))))))))
  exact O.fnD.ar
theorem Al.o__law_table (L : Al K mg a__law_places a_is_ascending a_is_integer a_is_between a_is_name a_are_processes a_is_set_of a_is_row a_is_alphabet a_require_alphabet a_letters_in a_is_letter_in a_require_letter a_newest_in a_met_in a_places_in a_place_in a_is_clock_in a_is_table_in a_met_tables a_zero_table a_first_table a__law_meet a__law_pasts a__law_last a__law_view a__law_counts a__law_table a__law_right a__law_stream a__law_draw a__law_alphabet a__law_meeting_alphabet a__law_pick a__law_word a_law c__law_places c_is_ascending c_is_integer c_is_between c_is_name c_are_processes c_is_set_of c_is_row c_is_alphabet c_require_alphabet c_letters_in c_is_letter_in c_require_letter c_newest_in c_met_in c_places_in c_place_in c_is_clock_in c_is_table_in c_met_tables c_zero_table c_first_table c__law_meet c__law_pasts c__law_last c__law_view c__law_counts c__law_table c__law_right c__law_stream c__law_draw c__law_alphabet c__law_meeting_alphabet c__law_pick c__law_word c_law t_MAX_LETTERS t_MAX_NAME t_MAX_PROCESSES t_SIGNS) (P : Program) (w : World) (base : Heap) :
    FnG P w K mg base false 4 a__law_table c__law_table ["alphabet", "word", "process"] (spD K mg 3 d__law_table) := by
  have nd := sc__law_table.nd
  have O := Fw.Fun.okG L.F__law_table (P := P) (w := w) (mg := mg) (base := base) (gb := false) (k := 3) sc__law_table (fun cdv A outer s H E hr hgd0 => (pss_consF (ps_parF (i := 3) (j := 4) rfl nd rfl rfl (by decide) rfl rfl (pe_callG (L.o__law_pasts P w base) arT_len (hr.mono (by decide)) (fun z => nomatch z) (by rfl) L.m__law_pasts L.F__law_pasts.kp L.b__law_pasts takes_cxK (pa_consF (pe_varF (i := 0)) (pa_consF (pe_varF (i := 1)) pa_nilF))) (pe_callG (L.o__law_view P w base) arT_len (hr.mono (by decide)) (fun z => nomatch z) (by rfl) L.m__law_view L.F__law_view.kp L.b__law_view takes_cxK (pa_consF (pe_varF (i := 0)) (pa_consF (pe_varF (i := 1)) (pa_consF (pe_tupF (pa_consF (pe_varF (i := 2)) pa_nilF)) pa_nilF)))) (by rfl)) (pss_consF (ps_setF (i := 5) nd rfl (by first | exact .inl rfl | exact .inr rfl) (pe_refF pa_nilF)) (pss_consF (ps_forF owns_cxK rfl (pi_range1F (by rfl) L.z_range (pa_consF (pe_subF (hu1 hr) (pe_varF (i := 0)) pe_intF) pa_nilF)) (pg_nameF (i := 6) nd rfl (by first | exact .inl rfl | exact .inr rfl)) (pss_consF (ps_setF (i := 7) nd rfl (by first | exact .inl rfl | exact .inr rfl) (pe_callG (L.o__law_last P w base) arT_len (hr.mono (by decide)) (fun z => nomatch z) (by rfl) L.m__law_last L.F__law_last.kp L.b__law_last takes_cxK (pa_consF (pe_varF (i := 0)) (pa_consF (pe_varF (i := 1)) (pa_consF (pe_varF (i := 6)) (pa_consF (pe_varF (i := 4)) pa_nilF)))))) (pss_oneF (ps_exprF (pe_mthF PySem.F.plainAttrs_list PySem.F.slot_list_append PySem.F.type_list_append v_append (pe_varF (i := 5)) (pa_consF (pe_callG (L.o__law_counts P w base) arT_len (hr.mono (by decide)) (fun z => nomatch z) (by rfl) L.m__law_counts L.F__law_counts.kp L.b__law_counts takes_cxK (pa_consF (pe_varF (i := 0)) (pa_consF (pe_varF (i := 1)) (pa_consF (pe_ifF (pt_cmpF v_isNot (pe_varF (i := 7)) pe_nonF (nomark _)) (pe_subF (hu1 hr) (pe_varF (i := 3)) (pe_varF (i := 7))) (pe_lstF pa_nilF)) pa_nilF)))) pa_nilF)))))) (pss_oneF (ps_retF (pe_tupF (pa_consF (pe_callG (L.o__law_counts P w base) arT_len (hr.mono (by decide)) (fun z => nomatch z) (by rfl) L.m__law_counts L.F__law_counts.kp L.b__law_counts takes_cxK (pa_consF (pe_varF (i := 0)) (pa_consF (pe_varF (i := 1)) (pa_consF (pe_varF (i := 4)) pa_nilF)))) (pa_consF (pe_callTyF v_tuple (by rfl) L.z_tuple (by decide +kernel) (pa_consF (pe_varF (i := 5)) pa_nilF)) pa_nilF)))))))))
  exact O.fnD.ar
theorem Al.o__law_right (L : Al K mg a__law_places a_is_ascending a_is_integer a_is_between a_is_name a_are_processes a_is_set_of a_is_row a_is_alphabet a_require_alphabet a_letters_in a_is_letter_in a_require_letter a_newest_in a_met_in a_places_in a_place_in a_is_clock_in a_is_table_in a_met_tables a_zero_table a_first_table a__law_meet a__law_pasts a__law_last a__law_view a__law_counts a__law_table a__law_right a__law_stream a__law_draw a__law_alphabet a__law_meeting_alphabet a__law_pick a__law_word a_law c__law_places c_is_ascending c_is_integer c_is_between c_is_name c_are_processes c_is_set_of c_is_row c_is_alphabet c_require_alphabet c_letters_in c_is_letter_in c_require_letter c_newest_in c_met_in c_places_in c_place_in c_is_clock_in c_is_table_in c_met_tables c_zero_table c_first_table c__law_meet c__law_pasts c__law_last c__law_view c__law_counts c__law_table c__law_right c__law_stream c__law_draw c__law_alphabet c__law_meeting_alphabet c__law_pick c__law_word c_law t_MAX_LETTERS t_MAX_NAME t_MAX_PROCESSES t_SIGNS) (P : Program) (w : World) (base : Heap) :
    FnG P w K mg base true 9 a__law_right c__law_right ["alphabet", "word"] (spD K mg 2 d__law_right) := by
  have nd := sc__law_right.nd
  have O := Fw.Fun.okG L.F__law_right (P := P) (w := w) (mg := mg) (base := base) (gb := true) (k := 8) sc__law_right (fun cdv A outer s H E hr hgd0 => have hgd := hgd0 rfl; (pss_consF (ps_setF (i := 2) nd rfl (by first | exact .inl rfl | exact .inr rfl) (pe_callG (L.o__law_places P w base) arT_len (hr.mono (by decide)) (fun z => nomatch z) (by rfl) L.m__law_places L.F__law_places.kp L.b__law_places takes_cxK (pa_consF (pe_varF (i := 0)) pa_nilF))) (pss_consF (ps_setF (i := 3) nd rfl (by first | exact .inl rfl | exact .inr rfl) (pe_binF v_mulR (pe_lstF (pa_consF (pe_callG (L.o_first_table P w base) arT_len (hr.mono (by decide)) (fun z => nomatch z) (by rfl) L.m_first_table L.F_first_table.kp L.b_first_table takes_cxK (pa_consF (pe_varF (i := 0)) pa_nilF)) pa_nilF)) (pe_subF (hu1 hr) (pe_varF (i := 0)) pe_intF))) (pss_consF (ps_forF owns_cxK rfl (pi_enumF (by rfl) L.z_enumerate (pa_consF (pe_varF (i := 1)) pa_nilF)) (pg_tupF (n := 2) rfl (pgs_consF (pg_nameF (i := 4) nd rfl (by first | exact .inl rfl | exact .inr rfl)) (pgs_consF (pg_nameF (i := 5) nd rfl (by first | exact .inl rfl | exact .inr rfl)) pgs_nilF)) (tgl_cons ng_name (tgl_cons ng_name tgl_nil)).len) (pss_consF (ps_setF (i := 6) nd rfl (by first | exact .inl rfl | exact .inr rfl) (pe_callTyF v_tuple (by rfl) L.z_tuple (by decide +kernel) (pa_consF (pe_lcF (fr := false) (ownS := [("process", 7)]) rfl nd (pi_iterF (pe_subF (hu1 hr) (pe_varF (i := 2)) (pe_varF (i := 5)))) (blkOk_by (N := ["alphabet", "word", "places", "tables", "at", "letter", "given", "process", "kept", "told"]) (sc := defScope s__law_right) (own := [("process", 7)]) (by decide +kernel)) (by decide) (fun _ _ _ _ _ => (pg_nameF (i := 7) nd rfl (by first | exact .inl rfl | exact .inr rfl))) (fun _ _ _ _ _ => pts_nilF) (fun _ _ _ _ _ => (pe_subF (hu1 hr) (pe_varF (i := 3)) (pe_varF (i := 7))))) pa_nilF))) (pss_consF (ps_setF (i := 8) nd rfl (by first | exact .inl rfl | exact .inr rfl) (pe_callBF (v_repr hgd (hu65 hr)) (by rfl) L.z_repr (by decide +kernel) (pa_consF (pe_varF (i := 6)) pa_nilF))) (pss_consF (ps_setF (i := 9) nd rfl (by first | exact .inl rfl | exact .inr rfl) (pe_callG (L.o_met_tables P w base) arT_len (hr.mono (by decide)) (fun z => nomatch z) (by rfl) L.m_met_tables L.F_met_tables.kp L.b_met_tables takes_cxK (pa_consF (pe_varF (i := 0)) (pa_consF (pe_varF (i := 5)) (pa_consF (pe_varF (i := 6)) pa_nilF))))) (pss_consF (ps_ifF (pt_pwF (pw_orF (pt_cmpF (v_ne (hu64 hr)) (pe_callBF (v_repr hgd (hu65 hr)) (by rfl) L.z_repr (by decide +kernel) (pa_consF (pe_varF (i := 6)) pa_nilF)) (pe_varF (i := 8)) (nomark _)) (pw_or1 (pt_cmpF (v_ne (hu64 hr)) (pe_callBF (v_repr hgd (hu65 hr)) (by rfl) L.z_repr (by decide +kernel) (pa_consF (pe_callG (L.o_met_tables P w base) arT_len (hr.mono (by decide)) (fun z => nomatch z) (by rfl) L.m_met_tables L.F_met_tables.kp L.b_met_tables takes_cxK (pa_consF (pe_varF (i := 0)) (pa_consF (pe_varF (i := 5)) (pa_consF (pe_varF (i := 6)) pa_nilF)))) pa_nilF)) (pe_callBF (v_repr hgd (hu65 hr)) (by rfl) L.z_repr (by decide +kernel) (pa_consF (pe_varF (i := 9)) pa_nilF)) (nomark _))))) (pss_oneF (ps_retF pe_blF)) pss_nilF) (pss_consF (ps_ifF (pt_cmpF (v_ne (hu64 hr)) (pe_callBF (v_repr hgd (hu65 hr)) (by rfl) L.z_repr (by decide +kernel) (pa_consF (pe_varF (i := 9)) pa_nilF)) (pe_callBF (v_repr hgd (hu65 hr)) (by rfl) L.z_repr (by decide +kernel) (pa_consF (pe_callG (L.o__law_table P w base) arT_len (hr.mono (by decide)) (fun z => nomatch z) (by rfl) L.m__law_table L.F__law_table.kp L.b__law_table takes_cxK (pa_consF (pe_varF (i := 0)) (pa_consF (pe_cutF (pe_varF (i := 1)) po_noneF (po_someF (pe_binF v_add (pe_varF (i := 4)) pe_intF))) (pa_consF (pe_subF (hu1 hr) (pe_subF (hu1 hr) (pe_varF (i := 2)) (pe_varF (i := 5))) pe_intF) pa_nilF)))) pa_nilF)) (nomark _)) (pss_oneF (ps_retF pe_blF)) pss_nilF) (pss_oneF (ps_forF owns_cxK rfl (pi_iterF (pe_subF (hu1 hr) (pe_varF (i := 2)) (pe_varF (i := 5)))) (pg_nameF (i := 7) nd rfl (by first | exact .inl rfl | exact .inr rfl)) (pss_oneF (ps_asgF (pe_varF (i := 9)) (pg_subF (hu1 hr) (pe_varF (i := 3)) (pe_varF (i := 7))))))))))))) (pss_consF (ps_forF owns_cxK rfl (pi_range1F (by rfl) L.z_range (pa_consF (pe_subF (hu1 hr) (pe_varF (i := 0)) pe_intF) pa_nilF)) (pg_nameF (i := 7) nd rfl (by first | exact .inl rfl | exact .inr rfl)) (pss_oneF (ps_ifF (pt_cmpF (v_ne (hu64 hr)) (pe_subF (hu1 hr) (pe_varF (i := 3)) (pe_varF (i := 7))) (pe_callG (L.o__law_table P w base) arT_len (hr.mono (by decide)) (fun z => nomatch z) (by rfl) L.m__law_table L.F__law_table.kp L.b__law_table takes_cxK (pa_consF (pe_varF (i := 0)) (pa_consF (pe_varF (i := 1)) (pa_consF (pe_varF (i := 7)) pa_nilF)))) (nomark _)) (pss_oneF (ps_retF pe_blF)) pss_nilF))) (pss_oneF (ps_retF pe_blF)))))))
  exact O.fnD.ar
theorem Al.o__law_stream (L : Al K mg a__law_places a_is_ascending a_is_integer a_is_between a_is_name a_are_processes a_is_set_of a_is_row a_is_alphabet a_require_alphabet a_letters_in a_is_letter_in a_require_letter a_newest_in a_met_in a_places_in a_place_in a_is_clock_in a_is_table_in a_met_tables a_zero_table a_first_table a__law_meet a__law_pasts a__law_last a__law_view a__law_counts a__law_table a__law_right a__law_stream a__law_draw a__law_alphabet a__law_meeting_alphabet a__law_pick a__law_word a_law c__law_places c_is_ascending c_is_integer c_is_between c_is_name c_are_processes c_is_set_of c_is_row c_is_alphabet c_require_alphabet c_letters_in c_is_letter_in c_require_letter c_newest_in c_met_in c_places_in c_place_in c_is_clock_in c_is_table_in c_met_tables c_zero_table c_first_table c__law_meet c__law_pasts c__law_last c__law_view c__law_counts c__law_table c__law_right c__law_stream c__law_draw c__law_alphabet c__law_meeting_alphabet c__law_pick c__law_word c_law t_MAX_LETTERS t_MAX_NAME t_MAX_PROCESSES t_SIGNS) (P : Program) (w : World) (base : Heap) :
    FnG P w K mg base false 1 a__law_stream c__law_stream ["script", "at"] (spD K mg 2 d__law_stream) := by
  have nd := sc__law_stream.nd
  have O := Fw.Fun.okG L.F__law_stream (P := P) (w := w) (mg := mg) (base := base) (gb := false) (k := 0) sc__law_stream (fun cdv A outer s H E hr hgd0 => (pss_consF (ps_setF (i := 2) nd rfl (by first | exact .inl rfl | exact .inr rfl) (pe_binF v_add (pe_binF v_mul pe_intF (pe_varF (i := 1))) pe_intF)) (pss_consF (ps_ifF (pt_cmpF v_lt (pe_varF (i := 1)) (pe_callBF v_len (by rfl) L.z_len (by decide +kernel) (pa_consF (pe_varF (i := 0)) pa_nilF)) (nomark _)) (pss_oneF (ps_setF (i := 2) nd rfl (by first | exact .inl rfl | exact .inr rfl) (pe_subF (hu1 hr) (pe_varF (i := 0)) (pe_varF (i := 1))))) pss_nilF) (pss_consF (ps_setF (i := 3) nd rfl (by first | exact .inl rfl | exact .inr rfl) (pe_binF v_mod (pe_callBF v_abs (by rfl) L.z_abs (by decide +kernel) (pa_consF (pe_varF (i := 2)) pa_nilF)) (pe_binF v_pow (pe_binF v_pow pe_intF pe_intF) pe_intF))) (pss_consF (ps_setF (i := 4) nd rfl (by first | exact .inl rfl | exact .inr rfl) (pe_binF v_mod (pe_binF v_add (pe_binF v_add (pe_binF v_add (pe_binF v_mul (pe_binF v_mod (pe_varF (i := 3)) pe_intF) pe_intF) (pe_binF v_mul pe_intF (pe_varF (i := 1)))) (pe_binF v_mul pe_intF (pe_callTyF v_int (by rfl) L.z_int (by decide +kernel) (pa_consF (pe_cmpF v_lt (pe_varF (i := 2)) pe_intF (nomark _)) pa_nilF)))) pe_intF) pe_intF)) (pss_oneF (ps_retF (pe_refF (pa_consF (pe_callBF (v_max2 rfl) (by rfl) L.z_max (by decide +kernel) (pa_consF pe_intF (pa_consF (pe_binF v_sub (pe_varF (i := 3)) (pe_binF v_pow pe_intF pe_intF)) pa_nilF))) (pa_consF (pe_varF (i := 4)) (pa_consF pe_intF pa_nilF)))))))))))
  exact O.ar
theorem Al.o__law_draw (L : Al K mg a__law_places a_is_ascending a_is_integer a_is_between a_is_name a_are_processes a_is_set_of a_is_row a_is_alphabet a_require_alphabet a_letters_in a_is_letter_in a_require_letter a_newest_in a_met_in a_places_in a_place_in a_is_clock_in a_is_table_in a_met_tables a_zero_table a_first_table a__law_meet a__law_pasts a__law_last a__law_view a__law_counts a__law_table a__law_right a__law_stream a__law_draw a__law_alphabet a__law_meeting_alphabet a__law_pick a__law_word a_law c__law_places c_is_ascending c_is_integer c_is_between c_is_name c_are_processes c_is_set_of c_is_row c_is_alphabet c_require_alphabet c_letters_in c_is_letter_in c_require_letter c_newest_in c_met_in c_places_in c_place_in c_is_clock_in c_is_table_in c_met_tables c_zero_table c_first_table c__law_meet c__law_pasts c__law_last c__law_view c__law_counts c__law_table c__law_right c__law_stream c__law_draw c__law_alphabet c__law_meeting_alphabet c__law_pick c__law_word c_law t_MAX_LETTERS t_MAX_NAME t_MAX_PROCESSES t_SIGNS) (P : Program) (w : World) (base : Heap) :
    FnG P w K mg base false 1 a__law_draw c__law_draw ["stream", "total"] (spD K mg 2 d__law_draw) := by
  have nd := sc__law_draw.nd
  have O := Fw.Fun.okG L.F__law_draw (P := P) (w := w) (mg := mg) (base := base) (gb := false) (k := 0) sc__law_draw (fun cdv A outer s H E hr hgd0 => (pss_consF (ps_ifF (pt_cmpF v_gt (pe_subF (hu1 hr) (pe_varF (i := 0)) pe_intF) pe_intF (nomark _)) (pss_consF (ps_setF (i := 2) nd rfl (by first | exact .inl rfl | exact .inr rfl) (pe_binF v_mod (pe_subF (hu1 hr) (pe_varF (i := 0)) pe_intF) (pe_varF (i := 1)))) (pss_consF (ps_asgF (pe_binF v_fdiv (pe_subF (hu1 hr) (pe_varF (i := 0)) pe_intF) (pe_varF (i := 1))) (pg_subF (hu1 hr) (pe_varF (i := 0)) pe_intF)) (pss_oneF (ps_retF (pe_varF (i := 2)))))) pss_nilF) (pss_consF (ps_asgF (pe_binF v_add (pe_subF (hu1 hr) (pe_varF (i := 0)) pe_intF) pe_intF) (pg_subF (hu1 hr) (pe_varF (i := 0)) pe_intF)) (pss_consF (ps_setF (i := 3) nd rfl (by first | exact .inl rfl | exact .inr rfl) (pe_binF v_mod (pe_binF v_add (pe_subF (hu1 hr) (pe_varF (i := 0)) pe_intF) (pe_binF v_mul pe_intF (pe_subF (hu1 hr) (pe_varF (i := 0)) pe_intF))) pe_intF)) (pss_consF (ps_setF (i := 4) nd rfl (by first | exact .inl rfl | exact .inr rfl) (pe_binF v_mod (pe_binF v_add (pe_binF v_mul (pe_binF v_mod (pe_binF v_mul (pe_varF (i := 3)) (pe_varF (i := 3))) pe_intF) (pe_varF (i := 3))) (pe_binF v_mul pe_intF (pe_subF (hu1 hr) (pe_varF (i := 0)) pe_intF))) pe_intF)) (pss_oneF (ps_retF (pe_binF v_mod (pe_binF v_fdiv (pe_varF (i := 4)) pe_intF) (pe_varF (i := 1))))))))))
  exact O.ar
theorem Al.o__law_alphabet (L : Al K mg a__law_places a_is_ascending a_is_integer a_is_between a_is_name a_are_processes a_is_set_of a_is_row a_is_alphabet a_require_alphabet a_letters_in a_is_letter_in a_require_letter a_newest_in a_met_in a_places_in a_place_in a_is_clock_in a_is_table_in a_met_tables a_zero_table a_first_table a__law_meet a__law_pasts a__law_last a__law_view a__law_counts a__law_table a__law_right a__law_stream a__law_draw a__law_alphabet a__law_meeting_alphabet a__law_pick a__law_word a_law c__law_places c_is_ascending c_is_integer c_is_between c_is_name c_are_processes c_is_set_of c_is_row c_is_alphabet c_require_alphabet c_letters_in c_is_letter_in c_require_letter c_newest_in c_met_in c_places_in c_place_in c_is_clock_in c_is_table_in c_met_tables c_zero_table c_first_table c__law_meet c__law_pasts c__law_last c__law_view c__law_counts c__law_table c__law_right c__law_stream c__law_draw c__law_alphabet c__law_meeting_alphabet c__law_pick c__law_word c_law t_MAX_LETTERS t_MAX_NAME t_MAX_PROCESSES t_SIGNS) (P : Program) (w : World) (base : Heap) :
    FnG P w K mg base false 2 a__law_alphabet c__law_alphabet ["stream", "most", "letters"] (spD K mg 3 d__law_alphabet) := by
  have nd := sc__law_alphabet.nd
  have O := Fw.Fun.okG L.F__law_alphabet (P := P) (w := w) (mg := mg) (base := base) (gb := false) (k := 1) sc__law_alphabet (fun cdv A outer s H E hr hgd0 => (pss_consF (ps_setF (i := 3) nd rfl (by first | exact .inl rfl | exact .inr rfl) (pe_binF v_add pe_intF (pe_callG (L.o__law_draw P w base) arT_len (hr.mono (by decide)) (fun z => nomatch z) (by rfl) L.m__law_draw L.F__law_draw.kp L.b__law_draw takes_cxK (pa_consF (pe_varF (i := 0)) (pa_consF (pe_varF (i := 1)) pa_nilF))))) (pss_consF (ps_parF (i := 4) (j := 5) rfl nd rfl rfl (by decide) rfl rfl (pe_refF pa_nilF) pe_strF (by rfl)) (pss_consF (ps_forF owns_cxK rfl (pi_range1F (by rfl) L.z_range (pa_consF (pe_binF v_add pe_intF (pe_callG (L.o__law_draw P w base) arT_len (hr.mono (by decide)) (fun z => nomatch z) (by rfl) L.m__law_draw L.F__law_draw.kp L.b__law_draw takes_cxK (pa_consF (pe_varF (i := 0)) (pa_consF (pe_varF (i := 2)) pa_nilF)))) pa_nilF)) (pg_nameF (i := 6) nd rfl (by first | exact .inl rfl | exact .inr rfl)) (pss_consF (ps_setLcF (i := 7) (fr := false) (ownS := [("process", 8)]) rfl nd rfl rfl (sw_true rfl rfl rfl (by decide +kernel)) (pi_range1F (by rfl) L.z_range (pa_consF (pe_varF (i := 3)) pa_nilF)) (blkOk_by (N := ["stream", "most", "letters", "total", "places", "signs", "at", "place", "process", "rows", "word", "sign"]) (sc := defScope s__law_alphabet) (own := [("process", 8)]) (by decide +kernel)) (by decide) (fun _ _ _ _ _ => (pg_nameF (i := 8) nd rfl (by first | exact .inl rfl | exact .inr rfl))) (fun _ _ _ _ _ => (pts_oneF (pt_cmpF (v_eq (hu64 hr)) (pe_callG (L.o__law_draw P w base) arT_len (hr.mono (by decide)) (fun z => nomatch z) (by rfl) L.m__law_draw L.F__law_draw.kp L.b__law_draw Fw.takes0 (pa_consF (pe_varF (i := 0)) (pa_consF pe_intF pa_nilF))) pe_intF (nomark _)))) (fun _ _ _ _ _ => (pe_varF (i := 8)))) (pss_oneF (ps_exprF (pe_mthF PySem.F.plainAttrs_list PySem.F.slot_list_append PySem.F.type_list_append v_append (pe_varF (i := 4)) (pa_consF (pe_callTyF v_tuple (by rfl) L.z_tuple (by decide +kernel) (pa_consF (pe_ifF (pt_cmpF (v_ne (hu64 hr)) (pe_varF (i := 7)) (pe_lstF pa_nilF) (nomark _)) (pe_varF (i := 7)) (pe_lstF (pa_consF (pe_callG (L.o__law_draw P w base) arT_len (hr.mono (by decide)) (fun z => nomatch z) (by rfl) L.m__law_draw L.F__law_draw.kp L.b__law_draw takes_cxK (pa_consF (pe_varF (i := 0)) (pa_consF (pe_varF (i := 3)) pa_nilF))) pa_nilF))) pa_nilF)) pa_nilF)))))) (pss_consF (ps_parF (i := 9) (j := 10) rfl nd rfl rfl (by decide) rfl rfl (pe_refF pa_nilF) pe_strF (by rfl)) (pss_consF (ps_forF owns_cxK rfl (pi_enumF (by rfl) L.z_enumerate (pa_consF (pe_varF (i := 4)) pa_nilF)) (pg_tupF (n := 2) rfl (pgs_consF (pg_nameF (i := 6) nd rfl (by first | exact .inl rfl | exact .inr rfl)) (pgs_consF (pg_nameF (i := 7) nd rfl (by first | exact .inl rfl | exact .inr rfl)) pgs_nilF)) (tgl_cons ng_name (tgl_cons ng_name tgl_nil)).len) (pss_consF (ps_setF (i := 11) nd rfl (by first | exact .inl rfl | exact .inr rfl) (pe_subF (hu1 hr) (pe_varF (i := 5)) (pe_binF v_add (pe_binF v_mul pe_intF (pe_varF (i := 6))) (pe_callG (L.o__law_draw P w base) arT_len (hr.mono (by decide)) (fun z => nomatch z) (by rfl) L.m__law_draw L.F__law_draw.kp L.b__law_draw takes_cxK (pa_consF (pe_varF (i := 0)) (pa_consF pe_intF pa_nilF)))))) (pss_consF (ps_ifF (pt_pwF (pw_andF (pt_cmp2F v_lt v_lt pe_intF (pe_callBF v_len (by rfl) L.z_len (by decide +kernel) (pa_consF (pe_varF (i := 10)) pa_nilF)) pe_intF (by with_unfolding_all rfl)) (pw_and1 (pt_cmpF (v_eq (hu64 hr)) (pe_callG (L.o__law_draw P w base) arT_len (hr.mono (by decide)) (fun z => nomatch z) (by rfl) L.m__law_draw L.F__law_draw.kp L.b__law_draw takes_cxK (pa_consF (pe_varF (i := 0)) (pa_consF pe_intF pa_nilF))) pe_intF (nomark _))))) (pss_oneF (ps_setF (i := 10) nd rfl (by first | exact .inl rfl | exact .inr rfl) (pe_binF v_add (pe_varF (i := 10)) (pe_cutF (pe_varF (i := 10)) po_noneF (po_someF pe_intF))))) (pss_oneF (ps_setF (i := 10) nd rfl (by first | exact .inl rfl | exact .inr rfl) (pe_binF v_mul (pe_varF (i := 11)) (pe_subF (hu1 hr) (pe_lstF (pa_consF pe_intF (pa_consF pe_intF (pa_consF pe_intF (pa_consF pe_intF pa_nilF))))) (pe_callG (L.o__law_draw P w base) arT_len (hr.mono (by decide)) (fun z => nomatch z) (by rfl) L.m__law_draw L.F__law_draw.kp L.b__law_draw takes_cxK (pa_consF (pe_varF (i := 0)) (pa_consF pe_intF pa_nilF)))))))) (pss_oneF (ps_exprF (pe_mthF PySem.F.plainAttrs_list PySem.F.slot_list_append PySem.F.type_list_append v_append (pe_varF (i := 9)) (pa_consF (pe_tupF (pa_consF (pe_varF (i := 10)) (pa_consF (pe_varF (i := 7)) pa_nilF))) pa_nilF))))))) (pss_oneF (ps_retF (pe_tupF (pa_consF (pe_varF (i := 3)) (pa_consF (pe_callTyF v_tuple (by rfl) L.z_tuple (by decide +kernel) (pa_consF (pe_callBF (v_sorted (hu70 hr)) (by rfl) L.z_sorted (by decide +kernel) (pa_consF (pe_varF (i := 9)) pa_nilF)) pa_nilF)) pa_nilF)))))))))))
  exact O.fnD.ar
theorem Al.o__law_meeting_alphabet (L : Al K mg a__law_places a_is_ascending a_is_integer a_is_between a_is_name a_are_processes a_is_set_of a_is_row a_is_alphabet a_require_alphabet a_letters_in a_is_letter_in a_require_letter a_newest_in a_met_in a_places_in a_place_in a_is_clock_in a_is_table_in a_met_tables a_zero_table a_first_table a__law_meet a__law_pasts a__law_last a__law_view a__law_counts a__law_table a__law_right a__law_stream a__law_draw a__law_alphabet a__law_meeting_alphabet a__law_pick a__law_word a_law c__law_places c_is_ascending c_is_integer c_is_between c_is_name c_are_processes c_is_set_of c_is_row c_is_alphabet c_require_alphabet c_letters_in c_is_letter_in c_require_letter c_newest_in c_met_in c_places_in c_place_in c_is_clock_in c_is_table_in c_met_tables c_zero_table c_first_table c__law_meet c__law_pasts c__law_last c__law_view c__law_counts c__law_table c__law_right c__law_stream c__law_draw c__law_alphabet c__law_meeting_alphabet c__law_pick c__law_word c_law t_MAX_LETTERS t_MAX_NAME t_MAX_PROCESSES t_SIGNS) (P : Program) (w : World) (base : Heap) :
    FnG P w K mg base false 2 a__law_meeting_alphabet c__law_meeting_alphabet ["stream", "most"] (spD K mg 2 d__law_meeting_alphabet) := by
  have nd := sc__law_meeting_alphabet.nd
  have O := Fw.Fun.okG L.F__law_meeting_alphabet (P := P) (w := w) (mg := mg) (base := base) (gb := false) (k := 1) sc__law_meeting_alphabet (fun cdv A outer s H E hr hgd0 => (pss_consF (ps_parF (i := 2) (j := 3) rfl nd rfl rfl (by decide) rfl rfl (pe_binF v_add pe_intF (pe_callG (L.o__law_draw P w base) arT_len (hr.mono (by decide)) (fun z => nomatch z) (by rfl) L.m__law_draw L.F__law_draw.kp L.b__law_draw takes_cxK (pa_consF (pe_varF (i := 0)) (pa_consF (pe_binF v_sub (pe_varF (i := 1)) pe_intF) pa_nilF)))) (pe_refF pa_nilF) (by rfl)) (pss_consF (ps_forF owns_cxK rfl (pi_range1F (by rfl) L.z_range (pa_consF (pe_varF (i := 2)) pa_nilF)) (pg_nameF (i := 4) nd rfl (by first | exact .inl rfl | exact .inr rfl)) (pss_consF (ps_exprF (pe_mthF PySem.F.plainAttrs_list PySem.F.slot_list_append PySem.F.type_list_append v_append (pe_varF (i := 3)) (pa_consF (pe_tupF (pa_consF (pe_binF v_add pe_strF (pe_subF (hu1 hr) pe_strF (pe_varF (i := 4)))) (pa_consF (pe_callTyF v_tuple (by rfl) L.z_tuple (by decide +kernel) (pa_consF (pe_sortedSetF rfl (by rfl) L.z_sorted (by rfl) L.z_set (pe_lstF (pa_consF (pe_varF (i := 4)) (pa_consF (pe_binF v_mod (pe_binF v_add (pe_varF (i := 4)) pe_intF) (pe_varF (i := 2))) pa_nilF)))) pa_nilF)) pa_nilF))) pa_nilF))) (pss_oneF (ps_ifF (pt_cmpF (v_eq (hu64 hr)) (pe_callG (L.o__law_draw P w base) arT_len (hr.mono (by decide)) (fun z => nomatch z) (by rfl) L.m__law_draw L.F__law_draw.kp L.b__law_draw takes_cxK (pa_consF (pe_varF (i := 0)) (pa_consF pe_intF pa_nilF))) pe_intF (nomark _)) (pss_oneF (ps_exprF (pe_mthF PySem.F.plainAttrs_list PySem.F.slot_list_append PySem.F.type_list_append v_append (pe_varF (i := 3)) (pa_consF (pe_tupF (pa_consF (pe_binF v_add pe_strF (pe_subF (hu1 hr) pe_strF (pe_varF (i := 4)))) (pa_consF (pe_tupF (pa_consF (pe_varF (i := 4)) pa_nilF)) pa_nilF))) pa_nilF)))) pss_nilF)))) (pss_oneF (ps_retF (pe_tupF (pa_consF (pe_varF (i := 2)) (pa_consF (pe_callTyF v_tuple (by rfl) L.z_tuple (by decide +kernel) (pa_consF (pe_callBF (v_sorted (hu70 hr)) (by rfl) L.z_sorted (by decide +kernel) (pa_consF (pe_varF (i := 3)) pa_nilF)) pa_nilF)) pa_nilF))))))))
  exact O.fnD.ar
theorem Al.o__law_pick (L : Al K mg a__law_places a_is_ascending a_is_integer a_is_between a_is_name a_are_processes a_is_set_of a_is_row a_is_alphabet a_require_alphabet a_letters_in a_is_letter_in a_require_letter a_newest_in a_met_in a_places_in a_place_in a_is_clock_in a_is_table_in a_met_tables a_zero_table a_first_table a__law_meet a__law_pasts a__law_last a__law_view a__law_counts a__law_table a__law_right a__law_stream a__law_draw a__law_alphabet a__law_meeting_alphabet a__law_pick a__law_word a_law c__law_places c_is_ascending c_is_integer c_is_between c_is_name c_are_processes c_is_set_of c_is_row c_is_alphabet c_require_alphabet c_letters_in c_is_letter_in c_require_letter c_newest_in c_met_in c_places_in c_place_in c_is_clock_in c_is_table_in c_met_tables c_zero_table c_first_table c__law_meet c__law_pasts c__law_last c__law_view c__law_counts c__law_table c__law_right c__law_stream c__law_draw c__law_alphabet c__law_meeting_alphabet c__law_pick c__law_word c_law t_MAX_LETTERS t_MAX_NAME t_MAX_PROCESSES t_SIGNS) (P : Program) (w : World) (base : Heap) :
    FnG P w K mg base false 2 a__law_pick c__law_pick ["stream", "items"] (spD K mg 2 d__law_pick) := by
  have nd := sc__law_pick.nd
  have O := Fw.Fun.okG L.F__law_pick (P := P) (w := w) (mg := mg) (base := base) (gb := false) (k := 1) sc__law_pick (fun cdv A outer s H E hr hgd0 => (pss_oneF (ps_retF (pe_subF (hu1 hr) (pe_varF (i := 1)) (pe_callG (L.o__law_draw P w base) arT_len (hr.mono (by decide)) (fun z => nomatch z) (by rfl) L.m__law_draw L.F__law_draw.kp L.b__law_draw takes_cxK (pa_consF (pe_varF (i := 0)) (pa_consF (pe_callBF v_len (by rfl) L.z_len (by decide +kernel) (pa_consF (pe_varF (i := 1)) pa_nilF)) pa_nilF)))))))
  exact O.ar
theorem Al.o__law_word (L : Al K mg a__law_places a_is_ascending a_is_integer a_is_between a_is_name a_are_processes a_is_set_of a_is_row a_is_alphabet a_require_alphabet a_letters_in a_is_letter_in a_require_letter a_newest_in a_met_in a_places_in a_place_in a_is_clock_in a_is_table_in a_met_tables a_zero_table a_first_table a__law_meet a__law_pasts a__law_last a__law_view a__law_counts a__law_table a__law_right a__law_stream a__law_draw a__law_alphabet a__law_meeting_alphabet a__law_pick a__law_word a_law c__law_places c_is_ascending c_is_integer c_is_between c_is_name c_are_processes c_is_set_of c_is_row c_is_alphabet c_require_alphabet c_letters_in c_is_letter_in c_require_letter c_newest_in c_met_in c_places_in c_place_in c_is_clock_in c_is_table_in c_met_tables c_zero_table c_first_table c__law_meet c__law_pasts c__law_last c__law_view c__law_counts c__law_table c__law_right c__law_stream c__law_draw c__law_alphabet c__law_meeting_alphabet c__law_pick c__law_word c_law t_MAX_LETTERS t_MAX_NAME t_MAX_PROCESSES t_SIGNS) (P : Program) (w : World) (base : Heap) :
    FnG P w K mg base false 3 a__law_word c__law_word ["stream", "alphabet", "total"] (spD K mg 3 d__law_word) := by
  have nd := sc__law_word.nd
  have O := Fw.Fun.okG L.F__law_word (P := P) (w := w) (mg := mg) (base := base) (gb := false) (k := 2) sc__law_word (fun cdv A outer s H E hr hgd0 => (pss_consF (ps_setF (i := 3) nd rfl (by first | exact .inl rfl | exact .inr rfl) (pe_lcF (fr := false) (ownS := [("letter", 4), ("place", 5)]) rfl nd (pi_iterF (pe_subF (hu1 hr) (pe_varF (i := 1)) pe_intF)) (blkOk_by (N := ["stream", "alphabet", "total", "letters", "letter", "place", "turn"]) (sc := defScope s__law_word) (own := [("letter", 4), ("place", 5)]) (by decide +kernel)) (by decide) (fun _ _ _ _ _ => (pg_tupF (n := 2) rfl (pgs_consF (pg_nameF (i := 4) nd rfl (by first | exact .inl rfl | exact .inr rfl)) (pgs_consF (pg_nameF (i := 5) nd rfl (by first | exact .inl rfl | exact .inr rfl)) pgs_nilF)) (tgl_cons ng_name (tgl_cons ng_name tgl_nil)).len)) (fun _ _ _ _ _ => pts_nilF) (fun _ _ _ _ _ => (pe_varF (i := 4))))) (pss_oneF (ps_retF (pe_callTyF v_tuple (by rfl) L.z_tuple (by decide +kernel) (pa_consF (pe_lcF (fr := false) (ownS := [("turn", 6)]) rfl nd (pi_range1F (by rfl) L.z_range (pa_consF (pe_varF (i := 2)) pa_nilF)) (blkOk_by (N := ["stream", "alphabet", "total", "letters", "letter", "place", "turn"]) (sc := defScope s__law_word) (own := [("turn", 6)]) (by decide +kernel)) (by decide) (fun _ _ _ _ _ => (pg_nameF (i := 6) nd rfl (by first | exact .inl rfl | exact .inr rfl))) (fun _ _ _ _ _ => pts_nilF) (fun _ _ _ _ _ => (pe_callG (L.o__law_pick P w base) arT_len (hr.mono (by decide)) (fun z => nomatch z) (by rfl) L.m__law_pick L.F__law_pick.kp L.b__law_pick Fw.takes0 (pa_consF (pe_varF (i := 0)) (pa_consF (pe_varF (i := 3)) pa_nilF))))) pa_nilF))))))
  exact O.ar
theorem Al.o_law (L : Al K mg a__law_places a_is_ascending a_is_integer a_is_between a_is_name a_are_processes a_is_set_of a_is_row a_is_alphabet a_require_alphabet a_letters_in a_is_letter_in a_require_letter a_newest_in a_met_in a_places_in a_place_in a_is_clock_in a_is_table_in a_met_tables a_zero_table a_first_table a__law_meet a__law_pasts a__law_last a__law_view a__law_counts a__law_table a__law_right a__law_stream a__law_draw a__law_alphabet a__law_meeting_alphabet a__law_pick a__law_word a_law c__law_places c_is_ascending c_is_integer c_is_between c_is_name c_are_processes c_is_set_of c_is_row c_is_alphabet c_require_alphabet c_letters_in c_is_letter_in c_require_letter c_newest_in c_met_in c_places_in c_place_in c_is_clock_in c_is_table_in c_met_tables c_zero_table c_first_table c__law_meet c__law_pasts c__law_last c__law_view c__law_counts c__law_table c__law_right c__law_stream c__law_draw c__law_alphabet c__law_meeting_alphabet c__law_pick c__law_word c_law t_MAX_LETTERS t_MAX_NAME t_MAX_PROCESSES t_SIGNS) (P : Program) (w : World) (base : Heap) :
    FnG P w K mg base true 10 a_law c_law ["script"] (spD K mg 1 d_law) := by
  have nd := sc_law.nd
  have O := Fw.Fun.okG L.F_law (P := P) (w := w) (mg := mg) (base := base) (gb := true) (k := 9) sc_law (fun cdv A outer s H E hr hgd0 => have hgd := hgd0 rfl; (pss_consF (ps_forF owns_cxK rfl (pi_range1F (by rfl) L.z_range (pa_consF (pe_callBF (v_max2 rfl) (by rfl) L.z_max (by decide +kernel) (pa_consF pe_intF (pa_consF (pe_callBF (v_min2 rfl) (by rfl) L.z_min (by decide +kernel) (pa_consF pe_intF (pa_consF (pe_callBF v_len (by rfl) L.z_len (by decide +kernel) (pa_consF (pe_varF (i := 0)) pa_nilF)) pa_nilF))) pa_nilF))) pa_nilF)) (pg_nameF (i := 1) nd rfl (by first | exact .inl rfl | exact .inr rfl)) (pss_consF (ps_setF (i := 2) nd rfl (by first | exact .inl rfl | exact .inr rfl) (pe_callG (L.o__law_stream P w base) arT_len (hr.mono (by decide)) (fun z => nomatch z) (by rfl) L.m__law_stream L.F__law_stream.kp L.b__law_stream takes_cxK (pa_consF (pe_varF (i := 0)) (pa_consF (pe_varF (i := 1)) pa_nilF)))) (pss_consF (ps_setF (i := 3) nd rfl (by first | exact .inl rfl | exact .inr rfl) (pe_subF (hu1 hr) (pe_lstF (pa_consF (pe_callG (L.o__law_alphabet P w base) arT_len (hr.mono (by decide)) (fun z => nomatch z) (by rfl) L.m__law_alphabet L.F__law_alphabet.kp L.b__law_alphabet takes_cxK (pa_consF (pe_varF (i := 2)) (pa_consF pe_intF (pa_consF pe_intF pa_nilF)))) (pa_consF (pe_callG (L.o__law_meeting_alphabet P w base) arT_len (hr.mono (by decide)) (fun z => nomatch z) (by rfl) L.m__law_meeting_alphabet L.F__law_meeting_alphabet.kp L.b__law_meeting_alphabet takes_cxK (pa_consF (pe_varF (i := 2)) (pa_consF pe_intF pa_nilF))) pa_nilF))) (pe_callG (L.o__law_draw P w base) arT_len (hr.mono (by decide)) (fun z => nomatch z) (by rfl) L.m__law_draw L.F__law_draw.kp L.b__law_draw takes_cxK (pa_consF (pe_varF (i := 2)) (pa_consF pe_intF pa_nilF))))) (pss_oneF (ps_ifF (pt_notF (pt_truF (pe_callG (L.o__law_right P w base) arT_len (hr.mono (by decide)) (fun _ => hgd) (by rfl) L.m__law_right L.F__law_right.kp L.b__law_right takes_cxK (pa_consF (pe_varF (i := 3)) (pa_consF (pe_callG (L.o__law_word P w base) arT_len (hr.mono (by decide)) (fun z => nomatch z) (by rfl) L.m__law_word L.F__law_word.kp L.b__law_word takes_cxK (pa_consF (pe_varF (i := 2)) (pa_consF (pe_varF (i := 3)) (pa_consF (pe_binF v_add pe_intF (pe_callG (L.o__law_draw P w base) arT_len (hr.mono (by decide)) (fun z => nomatch z) (by rfl) L.m__law_draw L.F__law_draw.kp L.b__law_draw takes_cxK (pa_consF (pe_varF (i := 2)) (pa_consF pe_intF pa_nilF)))) pa_nilF)))) pa_nilF))))) (pss_oneF (ps_retF pe_blF)) pss_nilF))))) (pss_consF (ps_setF (i := 4) nd rfl (by first | exact .inl rfl | exact .inr rfl) (pe_tupF (pa_consF pe_intF (pa_consF (pe_tupF (pa_consF (pe_tupF (pa_consF pe_strF (pa_consF (pe_tupF (pa_consF pe_intF (pa_consF pe_intF pa_nilF))) pa_nilF))) (pa_consF (pe_tupF (pa_consF pe_strF (pa_consF (pe_tupF (pa_consF pe_intF (pa_consF pe_intF pa_nilF))) pa_nilF))) (pa_consF (pe_tupF (pa_consF pe_strF (pa_consF (pe_tupF (pa_consF pe_intF (pa_consF pe_intF pa_nilF))) pa_nilF))) pa_nilF)))) pa_nilF)))) (pss_consF (ps_setF (i := 5) nd rfl (by first | exact .inl rfl | exact .inr rfl) (pe_tupF (pa_consF pe_intF (pa_consF (pe_tupF (pa_consF (pe_tupF (pa_consF pe_strF (pa_consF (pe_tupF (pa_consF pe_intF (pa_consF pe_intF (pa_consF pe_intF (pa_consF pe_intF (pa_consF pe_intF pa_nilF)))))) pa_nilF))) (pa_consF (pe_tupF (pa_consF pe_strF (pa_consF (pe_tupF (pa_consF pe_intF pa_nilF)) pa_nilF))) (pa_consF (pe_tupF (pa_consF pe_strF (pa_consF (pe_tupF (pa_consF pe_intF (pa_consF pe_intF pa_nilF))) pa_nilF))) pa_nilF)))) pa_nilF)))) (pss_consF (ps_ifF (pt_notF (pt_truF (pe_callG (L.o__law_right P w base) arT_len (hr.mono (by decide)) (fun _ => hgd) (by rfl) L.m__law_right L.F__law_right.kp L.b__law_right takes_cxK (pa_consF (pe_varF (i := 5)) (pa_consF (pe_tupF (pa_consF pe_strF (pa_consF pe_strF (pa_consF pe_strF (pa_consF pe_strF (pa_consF pe_strF (pa_consF pe_strF pa_nilF))))))) pa_nilF))))) (pss_oneF (ps_retF pe_blF)) pss_nilF) (pss_consF (ps_setF (i := 6) nd rfl (by first | exact .inl rfl | exact .inr rfl) (pe_tupF (pa_consF pe_intF (pa_consF (pe_tupF (pa_consF (pe_tupF (pa_consF pe_strF (pa_consF (pe_tupF (pa_consF pe_intF pa_nilF)) pa_nilF))) (pa_consF (pe_tupF (pa_consF pe_strF (pa_consF (pe_tupF (pa_consF pe_intF (pa_consF pe_intF pa_nilF))) pa_nilF))) (pa_consF (pe_tupF (pa_consF pe_strF (pa_consF (pe_tupF (pa_consF pe_intF (pa_consF pe_intF pa_nilF))) pa_nilF))) pa_nilF)))) pa_nilF)))) (pss_consF (ps_ifF (pt_notF (pt_truF (pe_callG (L.o__law_right P w base) arT_len (hr.mono (by decide)) (fun _ => hgd) (by rfl) L.m__law_right L.F__law_right.kp L.b__law_right takes_cxK (pa_consF (pe_varF (i := 6)) (pa_consF (pe_tupF (pa_consF pe_strF (pa_consF pe_strF (pa_consF pe_strF (pa_consF pe_strF (pa_consF pe_strF pa_nilF)))))) pa_nilF))))) (pss_oneF (ps_retF pe_blF)) pss_nilF) (pss_oneF (ps_retF (pe_callG (L.o__law_right P w base) arT_len (hr.mono (by decide)) (fun _ => hgd) (by rfl) L.m__law_right L.F__law_right.kp L.b__law_right takes_cxK (pa_consF (pe_varF (i := 4)) (pa_consF (pe_binF v_mul (pe_tupF (pa_consF pe_strF (pa_consF pe_strF (pa_consF pe_strF (pa_consF pe_strF pa_nilF))))) pe_intF) pa_nilF))))))))))))
  exact O.fnD.ar
end
set_option maxHeartbeats 0 in
theorem all_mk {l : PySem.W.OpenLaw} {w : World} {K : PySem.W.Frag} {h : Heap} {mg : Str → Option Value} {fa : Addr} (X : K.In h) (G : h.Ns mainGlobals mg) (hfa : mg "law" = some (.ref fa))
    {a__law_places a_is_ascending a_is_integer a_is_between a_is_name a_are_processes a_is_set_of a_is_row a_is_alphabet a_require_alphabet a_letters_in a_is_letter_in a_require_letter a_newest_in a_met_in a_places_in a_place_in a_is_clock_in a_is_table_in a_met_tables a_zero_table a_first_table a__law_meet a__law_pasts a__law_last a__law_view a__law_counts a__law_table a__law_right a__law_stream a__law_draw a__law_alphabet a__law_meeting_alphabet a__law_pick a__law_word a_law : Addr} {od__law_places an__law_places od_is_ascending an_is_ascending od_is_integer an_is_integer od_is_between an_is_between od_is_name an_is_name od_are_processes an_are_processes od_is_set_of an_is_set_of od_is_row an_is_row od_is_alphabet an_is_alphabet od_require_alphabet an_require_alphabet od_letters_in an_letters_in od_is_letter_in an_is_letter_in od_require_letter an_require_letter od_newest_in an_newest_in od_met_in an_met_in od_places_in an_places_in od_place_in an_place_in od_is_clock_in an_is_clock_in od_is_table_in an_is_table_in od_met_tables an_met_tables od_zero_table an_zero_table od_first_table an_first_table od__law_meet an__law_meet od__law_pasts an__law_pasts od__law_last an__law_last od__law_view an__law_view od__law_counts an__law_counts od__law_table an__law_table od__law_right an__law_right od__law_stream an__law_stream od__law_draw an__law_draw od__law_alphabet an__law_alphabet od__law_meeting_alphabet an__law_meeting_alphabet od__law_pick an__law_pick od__law_word an__law_word od_law an_law : Option Addr} {sl__law_places sl_is_ascending sl_is_integer sl_is_between sl_is_name sl_are_processes sl_is_set_of sl_is_row sl_is_alphabet sl_require_alphabet sl_letters_in sl_is_letter_in sl_require_letter sl_newest_in sl_met_in sl_places_in sl_place_in sl_is_clock_in sl_is_table_in sl_met_tables sl_zero_table sl_first_table sl__law_meet sl__law_pasts sl__law_last sl__law_view sl__law_counts sl__law_table sl__law_right sl__law_stream sl__law_draw sl__law_alphabet sl__law_meeting_alphabet sl__law_pick sl__law_word sl_law : Array (Option Value)} {oc__law_places kV__law_places dc__law_places pm__law_places cd__law_places ct__law_places oc_is_ascending kV_is_ascending dc_is_ascending pm_is_ascending cd_is_ascending ct_is_ascending oc_is_integer kV_is_integer dc_is_integer pm_is_integer cd_is_integer ct_is_integer oc_is_between kV_is_between dc_is_between pm_is_between cd_is_between ct_is_between oc_is_name kV_is_name dc_is_name pm_is_name cd_is_name ct_is_name oc_are_processes kV_are_processes dc_are_processes pm_are_processes cd_are_processes ct_are_processes oc_is_set_of kV_is_set_of dc_is_set_of pm_is_set_of cd_is_set_of ct_is_set_of oc_is_row kV_is_row dc_is_row pm_is_row cd_is_row ct_is_row oc_is_alphabet kV_is_alphabet dc_is_alphabet pm_is_alphabet cd_is_alphabet ct_is_alphabet oc_require_alphabet kV_require_alphabet dc_require_alphabet pm_require_alphabet cd_require_alphabet ct_require_alphabet oc_letters_in kV_letters_in dc_letters_in pm_letters_in cd_letters_in ct_letters_in oc_is_letter_in kV_is_letter_in dc_is_letter_in pm_is_letter_in cd_is_letter_in ct_is_letter_in oc_require_letter kV_require_letter dc_require_letter pm_require_letter cd_require_letter ct_require_letter oc_newest_in kV_newest_in dc_newest_in pm_newest_in cd_newest_in ct_newest_in oc_met_in kV_met_in dc_met_in pm_met_in cd_met_in ct_met_in oc_places_in kV_places_in dc_places_in pm_places_in cd_places_in ct_places_in oc_place_in kV_place_in dc_place_in pm_place_in cd_place_in ct_place_in oc_is_clock_in kV_is_clock_in dc_is_clock_in pm_is_clock_in cd_is_clock_in ct_is_clock_in oc_is_table_in kV_is_table_in dc_is_table_in pm_is_table_in cd_is_table_in ct_is_table_in oc_met_tables kV_met_tables dc_met_tables pm_met_tables cd_met_tables ct_met_tables oc_zero_table kV_zero_table dc_zero_table pm_zero_table cd_zero_table ct_zero_table oc_first_table kV_first_table dc_first_table pm_first_table cd_first_table ct_first_table oc__law_meet kV__law_meet dc__law_meet pm__law_meet cd__law_meet ct__law_meet oc__law_pasts kV__law_pasts dc__law_pasts pm__law_pasts cd__law_pasts ct__law_pasts oc__law_last kV__law_last dc__law_last pm__law_last cd__law_last ct__law_last oc__law_view kV__law_view dc__law_view pm__law_view cd__law_view ct__law_view oc__law_counts kV__law_counts dc__law_counts pm__law_counts cd__law_counts ct__law_counts oc__law_table kV__law_table dc__law_table pm__law_table cd__law_table ct__law_table oc__law_right kV__law_right dc__law_right pm__law_right cd__law_right ct__law_right oc__law_stream kV__law_stream dc__law_stream pm__law_stream cd__law_stream ct__law_stream oc__law_draw kV__law_draw dc__law_draw pm__law_draw cd__law_draw ct__law_draw oc__law_alphabet kV__law_alphabet dc__law_alphabet pm__law_alphabet cd__law_alphabet ct__law_alphabet oc__law_meeting_alphabet kV__law_meeting_alphabet dc__law_meeting_alphabet pm__law_meeting_alphabet cd__law_meeting_alphabet ct__law_meeting_alphabet oc__law_pick kV__law_pick dc__law_pick pm__law_pick cd__law_pick ct__law_pick oc__law_word kV__law_word dc__law_word pm__law_word cd__law_word ct__law_word oc_law kV_law dc_law pm_law cd_law ct_law : Value} {t_MAX_LETTERS t_MAX_NAME t_MAX_PROCESSES t_SIGNS : Tok}
    (a1__law_places : PySem.W.nsIn K mainGlobals "_law_places" = some (some (.ref a__law_places))) (l1__law_places : K.lookup a__law_places = some ⟨oc__law_places, od__law_places, .func (PySem.W.fnOf "_law_places" "_law_places" (defArgs s__law_places) (defBody s__law_places) (defScope s__law_places) .none kV__law_places dc__law_places pm__law_places an__law_places cd__law_places ct__law_places), sl__law_places⟩) (c1__law_places : PySem.W.codeIn K cd__law_places "_law_places" = true) (k1__law_places : PySem.W.keepIn K (.ref a__law_places) = true)
    (a1_is_ascending : PySem.W.nsIn K mainGlobals "is_ascending" = some (some (.ref a_is_ascending))) (l1_is_ascending : K.lookup a_is_ascending = some ⟨oc_is_ascending, od_is_ascending, .func (PySem.W.fnOf "is_ascending" "is_ascending" (defArgs s_is_ascending) (defBody s_is_ascending) (defScope s_is_ascending) .none kV_is_ascending dc_is_ascending pm_is_ascending an_is_ascending cd_is_ascending ct_is_ascending), sl_is_ascending⟩) (c1_is_ascending : PySem.W.codeIn K cd_is_ascending "is_ascending" = true) (k1_is_ascending : PySem.W.keepIn K (.ref a_is_ascending) = true)
    (a1_is_integer : PySem.W.nsIn K mainGlobals "is_integer" = some (some (.ref a_is_integer))) (l1_is_integer : K.lookup a_is_integer = some ⟨oc_is_integer, od_is_integer, .func (PySem.W.fnOf "is_integer" "is_integer" (defArgs s_is_integer) (defBody s_is_integer) (defScope s_is_integer) .none kV_is_integer dc_is_integer pm_is_integer an_is_integer cd_is_integer ct_is_integer), sl_is_integer⟩) (c1_is_integer : PySem.W.codeIn K cd_is_integer "is_integer" = true) (k1_is_integer : PySem.W.keepIn K (.ref a_is_integer) = true)
    (a1_is_between : PySem.W.nsIn K mainGlobals "is_between" = some (some (.ref a_is_between))) (l1_is_between : K.lookup a_is_between = some ⟨oc_is_between, od_is_between, .func (PySem.W.fnOf "is_between" "is_between" (defArgs s_is_between) (defBody s_is_between) (defScope s_is_between) .none kV_is_between dc_is_between pm_is_between an_is_between cd_is_between ct_is_between), sl_is_between⟩) (c1_is_between : PySem.W.codeIn K cd_is_between "is_between" = true) (k1_is_between : PySem.W.keepIn K (.ref a_is_between) = true)
    (a1_is_name : PySem.W.nsIn K mainGlobals "is_name" = some (some (.ref a_is_name))) (l1_is_name : K.lookup a_is_name = some ⟨oc_is_name, od_is_name, .func (PySem.W.fnOf "is_name" "is_name" (defArgs s_is_name) (defBody s_is_name) (defScope s_is_name) .none kV_is_name dc_is_name pm_is_name an_is_name cd_is_name ct_is_name), sl_is_name⟩) (c1_is_name : PySem.W.codeIn K cd_is_name "is_name" = true) (k1_is_name : PySem.W.keepIn K (.ref a_is_name) = true)
    (a1_are_processes : PySem.W.nsIn K mainGlobals "are_processes" = some (some (.ref a_are_processes))) (l1_are_processes : K.lookup a_are_processes = some ⟨oc_are_processes, od_are_processes, .func (PySem.W.fnOf "are_processes" "are_processes" (defArgs s_are_processes) (defBody s_are_processes) (defScope s_are_processes) .none kV_are_processes dc_are_processes pm_are_processes an_are_processes cd_are_processes ct_are_processes), sl_are_processes⟩) (c1_are_processes : PySem.W.codeIn K cd_are_processes "are_processes" = true) (k1_are_processes : PySem.W.keepIn K (.ref a_are_processes) = true)
    (a1_is_set_of : PySem.W.nsIn K mainGlobals "is_set_of" = some (some (.ref a_is_set_of))) (l1_is_set_of : K.lookup a_is_set_of = some ⟨oc_is_set_of, od_is_set_of, .func (PySem.W.fnOf "is_set_of" "is_set_of" (defArgs s_is_set_of) (defBody s_is_set_of) (defScope s_is_set_of) .none kV_is_set_of dc_is_set_of pm_is_set_of an_is_set_of cd_is_set_of ct_is_set_of), sl_is_set_of⟩) (c1_is_set_of : PySem.W.codeIn K cd_is_set_of "is_set_of" = true) (k1_is_set_of : PySem.W.keepIn K (.ref a_is_set_of) = true)
    (a1_is_row : PySem.W.nsIn K mainGlobals "is_row" = some (some (.ref a_is_row))) (l1_is_row : K.lookup a_is_row = some ⟨oc_is_row, od_is_row, .func (PySem.W.fnOf "is_row" "is_row" (defArgs s_is_row) (defBody s_is_row) (defScope s_is_row) .none kV_is_row dc_is_row pm_is_row an_is_row cd_is_row ct_is_row), sl_is_row⟩) (c1_is_row : PySem.W.codeIn K cd_is_row "is_row" = true) (k1_is_row : PySem.W.keepIn K (.ref a_is_row) = true)
    (a1_is_alphabet : PySem.W.nsIn K mainGlobals "is_alphabet" = some (some (.ref a_is_alphabet))) (l1_is_alphabet : K.lookup a_is_alphabet = some ⟨oc_is_alphabet, od_is_alphabet, .func (PySem.W.fnOf "is_alphabet" "is_alphabet" (defArgs s_is_alphabet) (defBody s_is_alphabet) (defScope s_is_alphabet) .none kV_is_alphabet dc_is_alphabet pm_is_alphabet an_is_alphabet cd_is_alphabet ct_is_alphabet), sl_is_alphabet⟩) (c1_is_alphabet : PySem.W.codeIn K cd_is_alphabet "is_alphabet" = true) (k1_is_alphabet : PySem.W.keepIn K (.ref a_is_alphabet) = true)
    (a1_require_alphabet : PySem.W.nsIn K mainGlobals "require_alphabet" = some (some (.ref a_require_alphabet))) (l1_require_alphabet : K.lookup a_require_alphabet = some ⟨oc_require_alphabet, od_require_alphabet, .func (PySem.W.fnOf "require_alphabet" "require_alphabet" (defArgs s_require_alphabet) (defBody s_require_alphabet) (defScope s_require_alphabet) .none kV_require_alphabet dc_require_alphabet pm_require_alphabet an_require_alphabet cd_require_alphabet ct_require_alphabet), sl_require_alphabet⟩) (c1_require_alphabet : PySem.W.codeIn K cd_require_alphabet "require_alphabet" = true) (k1_require_alphabet : PySem.W.keepIn K (.ref a_require_alphabet) = true)
    (a1_letters_in : PySem.W.nsIn K mainGlobals "letters_in" = some (some (.ref a_letters_in))) (l1_letters_in : K.lookup a_letters_in = some ⟨oc_letters_in, od_letters_in, .func (PySem.W.fnOf "letters_in" "letters_in" (defArgs s_letters_in) (defBody s_letters_in) (defScope s_letters_in) .none kV_letters_in dc_letters_in pm_letters_in an_letters_in cd_letters_in ct_letters_in), sl_letters_in⟩) (c1_letters_in : PySem.W.codeIn K cd_letters_in "letters_in" = true) (k1_letters_in : PySem.W.keepIn K (.ref a_letters_in) = true)
    (a1_is_letter_in : PySem.W.nsIn K mainGlobals "is_letter_in" = some (some (.ref a_is_letter_in))) (l1_is_letter_in : K.lookup a_is_letter_in = some ⟨oc_is_letter_in, od_is_letter_in, .func (PySem.W.fnOf "is_letter_in" "is_letter_in" (defArgs s_is_letter_in) (defBody s_is_letter_in) (defScope s_is_letter_in) .none kV_is_letter_in dc_is_letter_in pm_is_letter_in an_is_letter_in cd_is_letter_in ct_is_letter_in), sl_is_letter_in⟩) (c1_is_letter_in : PySem.W.codeIn K cd_is_letter_in "is_letter_in" = true) (k1_is_letter_in : PySem.W.keepIn K (.ref a_is_letter_in) = true)
    (a1_require_letter : PySem.W.nsIn K mainGlobals "require_letter" = some (some (.ref a_require_letter))) (l1_require_letter : K.lookup a_require_letter = some ⟨oc_require_letter, od_require_letter, .func (PySem.W.fnOf "require_letter" "require_letter" (defArgs s_require_letter) (defBody s_require_letter) (defScope s_require_letter) .none kV_require_letter dc_require_letter pm_require_letter an_require_letter cd_require_letter ct_require_letter), sl_require_letter⟩) (c1_require_letter : PySem.W.codeIn K cd_require_letter "require_letter" = true) (k1_require_letter : PySem.W.keepIn K (.ref a_require_letter) = true)
    (a1_newest_in : PySem.W.nsIn K mainGlobals "newest_in" = some (some (.ref a_newest_in))) (l1_newest_in : K.lookup a_newest_in = some ⟨oc_newest_in, od_newest_in, .func (PySem.W.fnOf "newest_in" "newest_in" (defArgs s_newest_in) (defBody s_newest_in) (defScope s_newest_in) .none kV_newest_in dc_newest_in pm_newest_in an_newest_in cd_newest_in ct_newest_in), sl_newest_in⟩) (c1_newest_in : PySem.W.codeIn K cd_newest_in "newest_in" = true) (k1_newest_in : PySem.W.keepIn K (.ref a_newest_in) = true)
    (a1_met_in : PySem.W.nsIn K mainGlobals "met_in" = some (some (.ref a_met_in))) (l1_met_in : K.lookup a_met_in = some ⟨oc_met_in, od_met_in, .func (PySem.W.fnOf "met_in" "met_in" (defArgs s_met_in) (defBody s_met_in) (defScope s_met_in) .none kV_met_in dc_met_in pm_met_in an_met_in cd_met_in ct_met_in), sl_met_in⟩) (c1_met_in : PySem.W.codeIn K cd_met_in "met_in" = true) (k1_met_in : PySem.W.keepIn K (.ref a_met_in) = true)
    (a1_places_in : PySem.W.nsIn K mainGlobals "places_in" = some (some (.ref a_places_in))) (l1_places_in : K.lookup a_places_in = some ⟨oc_places_in, od_places_in, .func (PySem.W.fnOf "places_in" "places_in" (defArgs s_places_in) (defBody s_places_in) (defScope s_places_in) .none kV_places_in dc_places_in pm_places_in an_places_in cd_places_in ct_places_in), sl_places_in⟩) (c1_places_in : PySem.W.codeIn K cd_places_in "places_in" = true) (k1_places_in : PySem.W.keepIn K (.ref a_places_in) = true)
    (a1_place_in : PySem.W.nsIn K mainGlobals "place_in" = some (some (.ref a_place_in))) (l1_place_in : K.lookup a_place_in = some ⟨oc_place_in, od_place_in, .func (PySem.W.fnOf "place_in" "place_in" (defArgs s_place_in) (defBody s_place_in) (defScope s_place_in) .none kV_place_in dc_place_in pm_place_in an_place_in cd_place_in ct_place_in), sl_place_in⟩) (c1_place_in : PySem.W.codeIn K cd_place_in "place_in" = true) (k1_place_in : PySem.W.keepIn K (.ref a_place_in) = true)
    (a1_is_clock_in : PySem.W.nsIn K mainGlobals "is_clock_in" = some (some (.ref a_is_clock_in))) (l1_is_clock_in : K.lookup a_is_clock_in = some ⟨oc_is_clock_in, od_is_clock_in, .func (PySem.W.fnOf "is_clock_in" "is_clock_in" (defArgs s_is_clock_in) (defBody s_is_clock_in) (defScope s_is_clock_in) .none kV_is_clock_in dc_is_clock_in pm_is_clock_in an_is_clock_in cd_is_clock_in ct_is_clock_in), sl_is_clock_in⟩) (c1_is_clock_in : PySem.W.codeIn K cd_is_clock_in "is_clock_in" = true) (k1_is_clock_in : PySem.W.keepIn K (.ref a_is_clock_in) = true)
    (a1_is_table_in : PySem.W.nsIn K mainGlobals "is_table_in" = some (some (.ref a_is_table_in))) (l1_is_table_in : K.lookup a_is_table_in = some ⟨oc_is_table_in, od_is_table_in, .func (PySem.W.fnOf "is_table_in" "is_table_in" (defArgs s_is_table_in) (defBody s_is_table_in) (defScope s_is_table_in) .none kV_is_table_in dc_is_table_in pm_is_table_in an_is_table_in cd_is_table_in ct_is_table_in), sl_is_table_in⟩) (c1_is_table_in : PySem.W.codeIn K cd_is_table_in "is_table_in" = true) (k1_is_table_in : PySem.W.keepIn K (.ref a_is_table_in) = true)
    (a1_met_tables : PySem.W.nsIn K mainGlobals "met_tables" = some (some (.ref a_met_tables))) (l1_met_tables : K.lookup a_met_tables = some ⟨oc_met_tables, od_met_tables, .func (PySem.W.fnOf "met_tables" "met_tables" (defArgs s_met_tables) (defBody s_met_tables) (defScope s_met_tables) .none kV_met_tables dc_met_tables pm_met_tables an_met_tables cd_met_tables ct_met_tables), sl_met_tables⟩) (c1_met_tables : PySem.W.codeIn K cd_met_tables "met_tables" = true) (k1_met_tables : PySem.W.keepIn K (.ref a_met_tables) = true)
    (a1_zero_table : PySem.W.nsIn K mainGlobals "zero_table" = some (some (.ref a_zero_table))) (l1_zero_table : K.lookup a_zero_table = some ⟨oc_zero_table, od_zero_table, .func (PySem.W.fnOf "zero_table" "zero_table" (defArgs s_zero_table) (defBody s_zero_table) (defScope s_zero_table) .none kV_zero_table dc_zero_table pm_zero_table an_zero_table cd_zero_table ct_zero_table), sl_zero_table⟩) (c1_zero_table : PySem.W.codeIn K cd_zero_table "zero_table" = true) (k1_zero_table : PySem.W.keepIn K (.ref a_zero_table) = true)
    (a1_first_table : PySem.W.nsIn K mainGlobals "first_table" = some (some (.ref a_first_table))) (l1_first_table : K.lookup a_first_table = some ⟨oc_first_table, od_first_table, .func (PySem.W.fnOf "first_table" "first_table" (defArgs s_first_table) (defBody s_first_table) (defScope s_first_table) .none kV_first_table dc_first_table pm_first_table an_first_table cd_first_table ct_first_table), sl_first_table⟩) (c1_first_table : PySem.W.codeIn K cd_first_table "first_table" = true) (k1_first_table : PySem.W.keepIn K (.ref a_first_table) = true)
    (a1__law_meet : PySem.W.nsIn K mainGlobals "_law_meet" = some (some (.ref a__law_meet))) (l1__law_meet : K.lookup a__law_meet = some ⟨oc__law_meet, od__law_meet, .func (PySem.W.fnOf "_law_meet" "_law_meet" (defArgs s__law_meet) (defBody s__law_meet) (defScope s__law_meet) .none kV__law_meet dc__law_meet pm__law_meet an__law_meet cd__law_meet ct__law_meet), sl__law_meet⟩) (c1__law_meet : PySem.W.codeIn K cd__law_meet "_law_meet" = true) (k1__law_meet : PySem.W.keepIn K (.ref a__law_meet) = true)
    (a1__law_pasts : PySem.W.nsIn K mainGlobals "_law_pasts" = some (some (.ref a__law_pasts))) (l1__law_pasts : K.lookup a__law_pasts = some ⟨oc__law_pasts, od__law_pasts, .func (PySem.W.fnOf "_law_pasts" "_law_pasts" (defArgs s__law_pasts) (defBody s__law_pasts) (defScope s__law_pasts) .none kV__law_pasts dc__law_pasts pm__law_pasts an__law_pasts cd__law_pasts ct__law_pasts), sl__law_pasts⟩) (c1__law_pasts : PySem.W.codeIn K cd__law_pasts "_law_pasts" = true) (k1__law_pasts : PySem.W.keepIn K (.ref a__law_pasts) = true)
    (a1__law_last : PySem.W.nsIn K mainGlobals "_law_last" = some (some (.ref a__law_last))) (l1__law_last : K.lookup a__law_last = some ⟨oc__law_last, od__law_last, .func (PySem.W.fnOf "_law_last" "_law_last" (defArgs s__law_last) (defBody s__law_last) (defScope s__law_last) .none kV__law_last dc__law_last pm__law_last an__law_last cd__law_last ct__law_last), sl__law_last⟩) (c1__law_last : PySem.W.codeIn K cd__law_last "_law_last" = true) (k1__law_last : PySem.W.keepIn K (.ref a__law_last) = true)
    (a1__law_view : PySem.W.nsIn K mainGlobals "_law_view" = some (some (.ref a__law_view))) (l1__law_view : K.lookup a__law_view = some ⟨oc__law_view, od__law_view, .func (PySem.W.fnOf "_law_view" "_law_view" (defArgs s__law_view) (defBody s__law_view) (defScope s__law_view) .none kV__law_view dc__law_view pm__law_view an__law_view cd__law_view ct__law_view), sl__law_view⟩) (c1__law_view : PySem.W.codeIn K cd__law_view "_law_view" = true) (k1__law_view : PySem.W.keepIn K (.ref a__law_view) = true)
    (a1__law_counts : PySem.W.nsIn K mainGlobals "_law_counts" = some (some (.ref a__law_counts))) (l1__law_counts : K.lookup a__law_counts = some ⟨oc__law_counts, od__law_counts, .func (PySem.W.fnOf "_law_counts" "_law_counts" (defArgs s__law_counts) (defBody s__law_counts) (defScope s__law_counts) .none kV__law_counts dc__law_counts pm__law_counts an__law_counts cd__law_counts ct__law_counts), sl__law_counts⟩) (c1__law_counts : PySem.W.codeIn K cd__law_counts "_law_counts" = true) (k1__law_counts : PySem.W.keepIn K (.ref a__law_counts) = true)
    (a1__law_table : PySem.W.nsIn K mainGlobals "_law_table" = some (some (.ref a__law_table))) (l1__law_table : K.lookup a__law_table = some ⟨oc__law_table, od__law_table, .func (PySem.W.fnOf "_law_table" "_law_table" (defArgs s__law_table) (defBody s__law_table) (defScope s__law_table) .none kV__law_table dc__law_table pm__law_table an__law_table cd__law_table ct__law_table), sl__law_table⟩) (c1__law_table : PySem.W.codeIn K cd__law_table "_law_table" = true) (k1__law_table : PySem.W.keepIn K (.ref a__law_table) = true)
    (a1__law_right : PySem.W.nsIn K mainGlobals "_law_right" = some (some (.ref a__law_right))) (l1__law_right : K.lookup a__law_right = some ⟨oc__law_right, od__law_right, .func (PySem.W.fnOf "_law_right" "_law_right" (defArgs s__law_right) (defBody s__law_right) (defScope s__law_right) .none kV__law_right dc__law_right pm__law_right an__law_right cd__law_right ct__law_right), sl__law_right⟩) (c1__law_right : PySem.W.codeIn K cd__law_right "_law_right" = true) (k1__law_right : PySem.W.keepIn K (.ref a__law_right) = true)
    (a1__law_stream : PySem.W.nsIn K mainGlobals "_law_stream" = some (some (.ref a__law_stream))) (l1__law_stream : K.lookup a__law_stream = some ⟨oc__law_stream, od__law_stream, .func (PySem.W.fnOf "_law_stream" "_law_stream" (defArgs s__law_stream) (defBody s__law_stream) (defScope s__law_stream) .none kV__law_stream dc__law_stream pm__law_stream an__law_stream cd__law_stream ct__law_stream), sl__law_stream⟩) (c1__law_stream : PySem.W.codeIn K cd__law_stream "_law_stream" = true) (k1__law_stream : PySem.W.keepIn K (.ref a__law_stream) = true)
    (a1__law_draw : PySem.W.nsIn K mainGlobals "_law_draw" = some (some (.ref a__law_draw))) (l1__law_draw : K.lookup a__law_draw = some ⟨oc__law_draw, od__law_draw, .func (PySem.W.fnOf "_law_draw" "_law_draw" (defArgs s__law_draw) (defBody s__law_draw) (defScope s__law_draw) .none kV__law_draw dc__law_draw pm__law_draw an__law_draw cd__law_draw ct__law_draw), sl__law_draw⟩) (c1__law_draw : PySem.W.codeIn K cd__law_draw "_law_draw" = true) (k1__law_draw : PySem.W.keepIn K (.ref a__law_draw) = true)
    (a1__law_alphabet : PySem.W.nsIn K mainGlobals "_law_alphabet" = some (some (.ref a__law_alphabet))) (l1__law_alphabet : K.lookup a__law_alphabet = some ⟨oc__law_alphabet, od__law_alphabet, .func (PySem.W.fnOf "_law_alphabet" "_law_alphabet" (defArgs s__law_alphabet) (defBody s__law_alphabet) (defScope s__law_alphabet) .none kV__law_alphabet dc__law_alphabet pm__law_alphabet an__law_alphabet cd__law_alphabet ct__law_alphabet), sl__law_alphabet⟩) (c1__law_alphabet : PySem.W.codeIn K cd__law_alphabet "_law_alphabet" = true) (k1__law_alphabet : PySem.W.keepIn K (.ref a__law_alphabet) = true)
    (a1__law_meeting_alphabet : PySem.W.nsIn K mainGlobals "_law_meeting_alphabet" = some (some (.ref a__law_meeting_alphabet))) (l1__law_meeting_alphabet : K.lookup a__law_meeting_alphabet = some ⟨oc__law_meeting_alphabet, od__law_meeting_alphabet, .func (PySem.W.fnOf "_law_meeting_alphabet" "_law_meeting_alphabet" (defArgs s__law_meeting_alphabet) (defBody s__law_meeting_alphabet) (defScope s__law_meeting_alphabet) .none kV__law_meeting_alphabet dc__law_meeting_alphabet pm__law_meeting_alphabet an__law_meeting_alphabet cd__law_meeting_alphabet ct__law_meeting_alphabet), sl__law_meeting_alphabet⟩) (c1__law_meeting_alphabet : PySem.W.codeIn K cd__law_meeting_alphabet "_law_meeting_alphabet" = true) (k1__law_meeting_alphabet : PySem.W.keepIn K (.ref a__law_meeting_alphabet) = true)
    (a1__law_pick : PySem.W.nsIn K mainGlobals "_law_pick" = some (some (.ref a__law_pick))) (l1__law_pick : K.lookup a__law_pick = some ⟨oc__law_pick, od__law_pick, .func (PySem.W.fnOf "_law_pick" "_law_pick" (defArgs s__law_pick) (defBody s__law_pick) (defScope s__law_pick) .none kV__law_pick dc__law_pick pm__law_pick an__law_pick cd__law_pick ct__law_pick), sl__law_pick⟩) (c1__law_pick : PySem.W.codeIn K cd__law_pick "_law_pick" = true) (k1__law_pick : PySem.W.keepIn K (.ref a__law_pick) = true)
    (a1__law_word : PySem.W.nsIn K mainGlobals "_law_word" = some (some (.ref a__law_word))) (l1__law_word : K.lookup a__law_word = some ⟨oc__law_word, od__law_word, .func (PySem.W.fnOf "_law_word" "_law_word" (defArgs s__law_word) (defBody s__law_word) (defScope s__law_word) .none kV__law_word dc__law_word pm__law_word an__law_word cd__law_word ct__law_word), sl__law_word⟩) (c1__law_word : PySem.W.codeIn K cd__law_word "_law_word" = true) (k1__law_word : PySem.W.keepIn K (.ref a__law_word) = true)
    (a1_law : PySem.W.nsIn K mainGlobals "law" = some (some (.ref a_law))) (l1_law : K.lookup a_law = some ⟨oc_law, od_law, .func (PySem.W.fnOf "law" "law" (defArgs s_law) (defBody s_law) (defScope s_law) .none kV_law dc_law pm_law an_law cd_law ct_law), sl_law⟩) (c1_law : PySem.W.codeIn K cd_law "law" = true) (k1_law : PySem.W.keepIn K (.ref a_law) = true)
    (z1_abs : PySem.W.nsIn K mainGlobals "abs" = some none)
    (z1_all : PySem.W.nsIn K mainGlobals "all" = some none)
    (z1_bool : PySem.W.nsIn K mainGlobals "bool" = some none)
    (z1_dict : PySem.W.nsIn K mainGlobals "dict" = some none)
    (z1_enumerate : PySem.W.nsIn K mainGlobals "enumerate" = some none)
    (z1_int : PySem.W.nsIn K mainGlobals "int" = some none)
    (z1_isinstance : PySem.W.nsIn K mainGlobals "isinstance" = some none)
    (z1_len : PySem.W.nsIn K mainGlobals "len" = some none)
    (z1_list : PySem.W.nsIn K mainGlobals "list" = some none)
    (z1_max : PySem.W.nsIn K mainGlobals "max" = some none)
    (z1_min : PySem.W.nsIn K mainGlobals "min" = some none)
    (z1_range : PySem.W.nsIn K mainGlobals "range" = some none)
    (z1_repr : PySem.W.nsIn K mainGlobals "repr" = some none)
    (z1_set : PySem.W.nsIn K mainGlobals "set" = some none)
    (z1_sorted : PySem.W.nsIn K mainGlobals "sorted" = some none)
    (z1_str : PySem.W.nsIn K mainGlobals "str" = some none)
    (z1_tuple : PySem.W.nsIn K mainGlobals "tuple" = some none)
    (z1_zip : PySem.W.nsIn K mainGlobals "zip" = some none)
    (g1_MAX_LETTERS : PySem.W.nsIn K mainGlobals "MAX_LETTERS" = some (some (.int 10 t_MAX_LETTERS)))
    (g1_MAX_NAME : PySem.W.nsIn K mainGlobals "MAX_NAME" = some (some (.int 8 t_MAX_NAME)))
    (g1_MAX_PROCESSES : PySem.W.nsIn K mainGlobals "MAX_PROCESSES" = some (some (.int 5 t_MAX_PROCESSES)))
    (g1_SIGNS : PySem.W.nsIn K mainGlobals "SIGNS" = some (some (.str "abcdefghijklmnopqrstuvwxyz" t_SIGNS)))
    : ∃ fd : FuncData, (∀ (s : Shared) (v : Value), BindsTo s fd ⟨[v], []⟩ [("script", v)]) ∧ ∀ base : Heap, K.In base → base.Ns mainGlobals mg → FnG l.prog w K mg base true 10 fa fd ["script"] (spD K mg 1 d_law) := by
  have e := hfa.symm.trans (PySem.W.mg_of X G a1_law)
  cases e
  have F__law_places := fun_mk (st := s__law_places) l1__law_places c1__law_places k1__law_places
  have b__law_places := F__law_places.binds (ps := ["alphabet"]) fun _ _ _ _ _ _ us hl => match us, hl with | [_], _ => rfl
  have F_is_ascending := fun_mk (st := s_is_ascending) l1_is_ascending c1_is_ascending k1_is_ascending
  have b_is_ascending := F_is_ascending.binds (ps := ["items"]) fun _ _ _ _ _ _ us hl => match us, hl with | [_], _ => rfl
  have F_is_integer := fun_mk (st := s_is_integer) l1_is_integer c1_is_integer k1_is_integer
  have b_is_integer := F_is_integer.binds (ps := ["value"]) fun _ _ _ _ _ _ us hl => match us, hl with | [_], _ => rfl
  have F_is_between := fun_mk (st := s_is_between) l1_is_between c1_is_between k1_is_between
  have b_is_between := F_is_between.binds (ps := ["value", "low", "high"]) fun _ _ _ _ _ _ us hl => match us, hl with | [_, _, _], _ => rfl
  have F_is_name := fun_mk (st := s_is_name) l1_is_name c1_is_name k1_is_name
  have b_is_name := F_is_name.binds (ps := ["value"]) fun _ _ _ _ _ _ us hl => match us, hl with | [_], _ => rfl
  have F_are_processes := fun_mk (st := s_are_processes) l1_are_processes c1_are_processes k1_are_processes
  have b_are_processes := F_are_processes.binds (ps := ["many", "value"]) fun _ _ _ _ _ _ us hl => match us, hl with | [_, _], _ => rfl
  have F_is_set_of := fun_mk (st := s_is_set_of) l1_is_set_of c1_is_set_of k1_is_set_of
  have b_is_set_of := F_is_set_of.binds (ps := ["many", "value"]) fun _ _ _ _ _ _ us hl => match us, hl with | [_, _], _ => rfl
  have F_is_row := fun_mk (st := s_is_row) l1_is_row c1_is_row k1_is_row
  have b_is_row := F_is_row.binds (ps := ["many", "value"]) fun _ _ _ _ _ _ us hl => match us, hl with | [_, _], _ => rfl
  have F_is_alphabet := fun_mk (st := s_is_alphabet) l1_is_alphabet c1_is_alphabet k1_is_alphabet
  have b_is_alphabet := F_is_alphabet.binds (ps := ["value"]) fun _ _ _ _ _ _ us hl => match us, hl with | [_], _ => rfl
  have F_require_alphabet := fun_mk (st := s_require_alphabet) l1_require_alphabet c1_require_alphabet k1_require_alphabet
  have b_require_alphabet := F_require_alphabet.binds (ps := ["alphabet"]) fun _ _ _ _ _ _ us hl => match us, hl with | [_], _ => rfl
  have F_letters_in := fun_mk (st := s_letters_in) l1_letters_in c1_letters_in k1_letters_in
  have b_letters_in := F_letters_in.binds (ps := ["alphabet"]) fun _ _ _ _ _ _ us hl => match us, hl with | [_], _ => rfl
  have F_is_letter_in := fun_mk (st := s_is_letter_in) l1_is_letter_in c1_is_letter_in k1_is_letter_in
  have b_is_letter_in := F_is_letter_in.binds (ps := ["alphabet", "value"]) fun _ _ _ _ _ _ us hl => match us, hl with | [_, _], _ => rfl
  have F_require_letter := fun_mk (st := s_require_letter) l1_require_letter c1_require_letter k1_require_letter
  have b_require_letter := F_require_letter.binds (ps := ["alphabet", "letter"]) fun _ _ _ _ _ _ us hl => match us, hl with | [_, _], _ => rfl
  have F_newest_in := fun_mk (st := s_newest_in) l1_newest_in c1_newest_in k1_newest_in
  have b_newest_in := F_newest_in.binds (ps := ["tables", "process"]) fun _ _ _ _ _ _ us hl => match us, hl with | [_, _], _ => rfl
  have F_met_in := fun_mk (st := s_met_in) l1_met_in c1_met_in k1_met_in
  have b_met_in := F_met_in.binds (ps := ["many", "place", "tables"]) fun _ _ _ _ _ _ us hl => match us, hl with | [_, _, _], _ => rfl
  have F_places_in := fun_mk (st := s_places_in) l1_places_in c1_places_in k1_places_in
  have b_places_in := F_places_in.binds (ps := ["alphabet"]) fun _ _ _ _ _ _ us hl => match us, hl with | [_], _ => rfl
  have F_place_in := fun_mk (st := s_place_in) l1_place_in c1_place_in k1_place_in
  have b_place_in := F_place_in.binds (ps := ["alphabet", "letter"]) fun _ _ _ _ _ _ us hl => match us, hl with | [_, _], _ => rfl
  have F_is_clock_in := fun_mk (st := s_is_clock_in) l1_is_clock_in c1_is_clock_in k1_is_clock_in
  have b_is_clock_in := F_is_clock_in.binds (ps := ["many", "value"]) fun _ _ _ _ _ _ us hl => match us, hl with | [_, _], _ => rfl
  have F_is_table_in := fun_mk (st := s_is_table_in) l1_is_table_in c1_is_table_in k1_is_table_in
  have b_is_table_in := F_is_table_in.binds (ps := ["many", "value"]) fun _ _ _ _ _ _ us hl => match us, hl with | [_, _], _ => rfl
  have F_met_tables := fun_mk (st := s_met_tables) l1_met_tables c1_met_tables k1_met_tables
  have b_met_tables := F_met_tables.binds (ps := ["alphabet", "letter", "tables"]) fun _ _ _ _ _ _ us hl => match us, hl with | [_, _, _], _ => rfl
  have F_zero_table := fun_mk (st := s_zero_table) l1_zero_table c1_zero_table k1_zero_table
  have b_zero_table := F_zero_table.binds (ps := ["many"]) fun _ _ _ _ _ _ us hl => match us, hl with | [_], _ => rfl
  have F_first_table := fun_mk (st := s_first_table) l1_first_table c1_first_table k1_first_table
  have b_first_table := F_first_table.binds (ps := ["alphabet"]) fun _ _ _ _ _ _ us hl => match us, hl with | [_], _ => rfl
  have F__law_meet := fun_mk (st := s__law_meet) l1__law_meet c1__law_meet k1__law_meet
  have b__law_meet := F__law_meet.binds (ps := ["one", "other"]) fun _ _ _ _ _ _ us hl => match us, hl with | [_, _], _ => rfl
  have F__law_pasts := fun_mk (st := s__law_pasts) l1__law_pasts c1__law_pasts k1__law_pasts
  have b__law_pasts := F__law_pasts.binds (ps := ["alphabet", "word"]) fun _ _ _ _ _ _ us hl => match us, hl with | [_, _], _ => rfl
  have F__law_last := fun_mk (st := s__law_last) l1__law_last c1__law_last k1__law_last
  have b__law_last := F__law_last.binds (ps := ["alphabet", "word", "process", "inside"]) fun _ _ _ _ _ _ us hl => match us, hl with | [_, _, _, _], _ => rfl
  have F__law_view := fun_mk (st := s__law_view) l1__law_view c1__law_view k1__law_view
  have b__law_view := F__law_view.binds (ps := ["alphabet", "word", "group"]) fun _ _ _ _ _ _ us hl => match us, hl with | [_, _, _], _ => rfl
  have F__law_counts := fun_mk (st := s__law_counts) l1__law_counts c1__law_counts k1__law_counts
  have b__law_counts := F__law_counts.binds (ps := ["alphabet", "word", "inside"]) fun _ _ _ _ _ _ us hl => match us, hl with | [_, _, _], _ => rfl
  have F__law_table := fun_mk (st := s__law_table) l1__law_table c1__law_table k1__law_table
  have b__law_table := F__law_table.binds (ps := ["alphabet", "word", "process"]) fun _ _ _ _ _ _ us hl => match us, hl with | [_, _, _], _ => rfl
  have F__law_right := fun_mk (st := s__law_right) l1__law_right c1__law_right k1__law_right
  have b__law_right := F__law_right.binds (ps := ["alphabet", "word"]) fun _ _ _ _ _ _ us hl => match us, hl with | [_, _], _ => rfl
  have F__law_stream := fun_mk (st := s__law_stream) l1__law_stream c1__law_stream k1__law_stream
  have b__law_stream := F__law_stream.binds (ps := ["script", "at"]) fun _ _ _ _ _ _ us hl => match us, hl with | [_, _], _ => rfl
  have F__law_draw := fun_mk (st := s__law_draw) l1__law_draw c1__law_draw k1__law_draw
  have b__law_draw := F__law_draw.binds (ps := ["stream", "total"]) fun _ _ _ _ _ _ us hl => match us, hl with | [_, _], _ => rfl
  have F__law_alphabet := fun_mk (st := s__law_alphabet) l1__law_alphabet c1__law_alphabet k1__law_alphabet
  have b__law_alphabet := F__law_alphabet.binds (ps := ["stream", "most", "letters"]) fun _ _ _ _ _ _ us hl => match us, hl with | [_, _, _], _ => rfl
  have F__law_meeting_alphabet := fun_mk (st := s__law_meeting_alphabet) l1__law_meeting_alphabet c1__law_meeting_alphabet k1__law_meeting_alphabet
  have b__law_meeting_alphabet := F__law_meeting_alphabet.binds (ps := ["stream", "most"]) fun _ _ _ _ _ _ us hl => match us, hl with | [_, _], _ => rfl
  have F__law_pick := fun_mk (st := s__law_pick) l1__law_pick c1__law_pick k1__law_pick
  have b__law_pick := F__law_pick.binds (ps := ["stream", "items"]) fun _ _ _ _ _ _ us hl => match us, hl with | [_, _], _ => rfl
  have F__law_word := fun_mk (st := s__law_word) l1__law_word c1__law_word k1__law_word
  have b__law_word := F__law_word.binds (ps := ["stream", "alphabet", "total"]) fun _ _ _ _ _ _ us hl => match us, hl with | [_, _, _], _ => rfl
  have F_law := fun_mk (st := s_law) l1_law c1_law k1_law
  have b_law := F_law.binds (ps := ["script"]) fun _ _ _ _ _ _ us hl => match us, hl with | [_], _ => rfl
  have L : Al K mg a__law_places a_is_ascending a_is_integer a_is_between a_is_name a_are_processes a_is_set_of a_is_row a_is_alphabet a_require_alphabet a_letters_in a_is_letter_in a_require_letter a_newest_in a_met_in a_places_in a_place_in a_is_clock_in a_is_table_in a_met_tables a_zero_table a_first_table a__law_meet a__law_pasts a__law_last a__law_view a__law_counts a__law_table a__law_right a__law_stream a__law_draw a__law_alphabet a__law_meeting_alphabet a__law_pick a__law_word fa (PySem.W.fnOf "_law_places" "_law_places" (defArgs s__law_places) (defBody s__law_places) (defScope s__law_places) .none kV__law_places dc__law_places pm__law_places an__law_places cd__law_places ct__law_places) (PySem.W.fnOf "is_ascending" "is_ascending" (defArgs s_is_ascending) (defBody s_is_ascending) (defScope s_is_ascending) .none kV_is_ascending dc_is_ascending pm_is_ascending an_is_ascending cd_is_ascending ct_is_ascending) (PySem.W.fnOf "is_integer" "is_integer" (defArgs s_is_integer) (defBody s_is_integer) (defScope s_is_integer) .none kV_is_integer dc_is_integer pm_is_integer an_is_integer cd_is_integer ct_is_integer) (PySem.W.fnOf "is_between" "is_between" (defArgs s_is_between) (defBody s_is_between) (defScope s_is_between) .none kV_is_between dc_is_between pm_is_between an_is_between cd_is_between ct_is_between) (PySem.W.fnOf "is_name" "is_name" (defArgs s_is_name) (defBody s_is_name) (defScope s_is_name) .none kV_is_name dc_is_name pm_is_name an_is_name cd_is_name ct_is_name) (PySem.W.fnOf "are_processes" "are_processes" (defArgs s_are_processes) (defBody s_are_processes) (defScope s_are_processes) .none kV_are_processes dc_are_processes pm_are_processes an_are_processes cd_are_processes ct_are_processes) (PySem.W.fnOf "is_set_of" "is_set_of" (defArgs s_is_set_of) (defBody s_is_set_of) (defScope s_is_set_of) .none kV_is_set_of dc_is_set_of pm_is_set_of an_is_set_of cd_is_set_of ct_is_set_of) (PySem.W.fnOf "is_row" "is_row" (defArgs s_is_row) (defBody s_is_row) (defScope s_is_row) .none kV_is_row dc_is_row pm_is_row an_is_row cd_is_row ct_is_row) (PySem.W.fnOf "is_alphabet" "is_alphabet" (defArgs s_is_alphabet) (defBody s_is_alphabet) (defScope s_is_alphabet) .none kV_is_alphabet dc_is_alphabet pm_is_alphabet an_is_alphabet cd_is_alphabet ct_is_alphabet) (PySem.W.fnOf "require_alphabet" "require_alphabet" (defArgs s_require_alphabet) (defBody s_require_alphabet) (defScope s_require_alphabet) .none kV_require_alphabet dc_require_alphabet pm_require_alphabet an_require_alphabet cd_require_alphabet ct_require_alphabet) (PySem.W.fnOf "letters_in" "letters_in" (defArgs s_letters_in) (defBody s_letters_in) (defScope s_letters_in) .none kV_letters_in dc_letters_in pm_letters_in an_letters_in cd_letters_in ct_letters_in) (PySem.W.fnOf "is_letter_in" "is_letter_in" (defArgs s_is_letter_in) (defBody s_is_letter_in) (defScope s_is_letter_in) .none kV_is_letter_in dc_is_letter_in pm_is_letter_in an_is_letter_in cd_is_letter_in ct_is_letter_in) (PySem.W.fnOf "require_letter" "require_letter" (defArgs s_require_letter) (defBody s_require_letter) (defScope s_require_letter) .none kV_require_letter dc_require_letter pm_require_letter an_require_letter cd_require_letter ct_require_letter) (PySem.W.fnOf "newest_in" "newest_in" (defArgs s_newest_in) (defBody s_newest_in) (defScope s_newest_in) .none kV_newest_in dc_newest_in pm_newest_in an_newest_in cd_newest_in ct_newest_in) (PySem.W.fnOf "met_in" "met_in" (defArgs s_met_in) (defBody s_met_in) (defScope s_met_in) .none kV_met_in dc_met_in pm_met_in an_met_in cd_met_in ct_met_in) (PySem.W.fnOf "places_in" "places_in" (defArgs s_places_in) (defBody s_places_in) (defScope s_places_in) .none kV_places_in dc_places_in pm_places_in an_places_in cd_places_in ct_places_in) (PySem.W.fnOf "place_in" "place_in" (defArgs s_place_in) (defBody s_place_in) (defScope s_place_in) .none kV_place_in dc_place_in pm_place_in an_place_in cd_place_in ct_place_in) (PySem.W.fnOf "is_clock_in" "is_clock_in" (defArgs s_is_clock_in) (defBody s_is_clock_in) (defScope s_is_clock_in) .none kV_is_clock_in dc_is_clock_in pm_is_clock_in an_is_clock_in cd_is_clock_in ct_is_clock_in) (PySem.W.fnOf "is_table_in" "is_table_in" (defArgs s_is_table_in) (defBody s_is_table_in) (defScope s_is_table_in) .none kV_is_table_in dc_is_table_in pm_is_table_in an_is_table_in cd_is_table_in ct_is_table_in) (PySem.W.fnOf "met_tables" "met_tables" (defArgs s_met_tables) (defBody s_met_tables) (defScope s_met_tables) .none kV_met_tables dc_met_tables pm_met_tables an_met_tables cd_met_tables ct_met_tables) (PySem.W.fnOf "zero_table" "zero_table" (defArgs s_zero_table) (defBody s_zero_table) (defScope s_zero_table) .none kV_zero_table dc_zero_table pm_zero_table an_zero_table cd_zero_table ct_zero_table) (PySem.W.fnOf "first_table" "first_table" (defArgs s_first_table) (defBody s_first_table) (defScope s_first_table) .none kV_first_table dc_first_table pm_first_table an_first_table cd_first_table ct_first_table) (PySem.W.fnOf "_law_meet" "_law_meet" (defArgs s__law_meet) (defBody s__law_meet) (defScope s__law_meet) .none kV__law_meet dc__law_meet pm__law_meet an__law_meet cd__law_meet ct__law_meet) (PySem.W.fnOf "_law_pasts" "_law_pasts" (defArgs s__law_pasts) (defBody s__law_pasts) (defScope s__law_pasts) .none kV__law_pasts dc__law_pasts pm__law_pasts an__law_pasts cd__law_pasts ct__law_pasts) (PySem.W.fnOf "_law_last" "_law_last" (defArgs s__law_last) (defBody s__law_last) (defScope s__law_last) .none kV__law_last dc__law_last pm__law_last an__law_last cd__law_last ct__law_last) (PySem.W.fnOf "_law_view" "_law_view" (defArgs s__law_view) (defBody s__law_view) (defScope s__law_view) .none kV__law_view dc__law_view pm__law_view an__law_view cd__law_view ct__law_view) (PySem.W.fnOf "_law_counts" "_law_counts" (defArgs s__law_counts) (defBody s__law_counts) (defScope s__law_counts) .none kV__law_counts dc__law_counts pm__law_counts an__law_counts cd__law_counts ct__law_counts) (PySem.W.fnOf "_law_table" "_law_table" (defArgs s__law_table) (defBody s__law_table) (defScope s__law_table) .none kV__law_table dc__law_table pm__law_table an__law_table cd__law_table ct__law_table) (PySem.W.fnOf "_law_right" "_law_right" (defArgs s__law_right) (defBody s__law_right) (defScope s__law_right) .none kV__law_right dc__law_right pm__law_right an__law_right cd__law_right ct__law_right) (PySem.W.fnOf "_law_stream" "_law_stream" (defArgs s__law_stream) (defBody s__law_stream) (defScope s__law_stream) .none kV__law_stream dc__law_stream pm__law_stream an__law_stream cd__law_stream ct__law_stream) (PySem.W.fnOf "_law_draw" "_law_draw" (defArgs s__law_draw) (defBody s__law_draw) (defScope s__law_draw) .none kV__law_draw dc__law_draw pm__law_draw an__law_draw cd__law_draw ct__law_draw) (PySem.W.fnOf "_law_alphabet" "_law_alphabet" (defArgs s__law_alphabet) (defBody s__law_alphabet) (defScope s__law_alphabet) .none kV__law_alphabet dc__law_alphabet pm__law_alphabet an__law_alphabet cd__law_alphabet ct__law_alphabet) (PySem.W.fnOf "_law_meeting_alphabet" "_law_meeting_alphabet" (defArgs s__law_meeting_alphabet) (defBody s__law_meeting_alphabet) (defScope s__law_meeting_alphabet) .none kV__law_meeting_alphabet dc__law_meeting_alphabet pm__law_meeting_alphabet an__law_meeting_alphabet cd__law_meeting_alphabet ct__law_meeting_alphabet) (PySem.W.fnOf "_law_pick" "_law_pick" (defArgs s__law_pick) (defBody s__law_pick) (defScope s__law_pick) .none kV__law_pick dc__law_pick pm__law_pick an__law_pick cd__law_pick ct__law_pick) (PySem.W.fnOf "_law_word" "_law_word" (defArgs s__law_word) (defBody s__law_word) (defScope s__law_word) .none kV__law_word dc__law_word pm__law_word an__law_word cd__law_word ct__law_word) (PySem.W.fnOf "law" "law" (defArgs s_law) (defBody s_law) (defScope s_law) .none kV_law dc_law pm_law an_law cd_law ct_law) t_MAX_LETTERS t_MAX_NAME t_MAX_PROCESSES t_SIGNS := ⟨F__law_places, b__law_places, PySem.W.mg_of X G a1__law_places, F_is_ascending, b_is_ascending, PySem.W.mg_of X G a1_is_ascending, F_is_integer, b_is_integer, PySem.W.mg_of X G a1_is_integer, F_is_between, b_is_between, PySem.W.mg_of X G a1_is_between, F_is_name, b_is_name, PySem.W.mg_of X G a1_is_name, F_are_processes, b_are_processes, PySem.W.mg_of X G a1_are_processes, F_is_set_of, b_is_set_of, PySem.W.mg_of X G a1_is_set_of, F_is_row, b_is_row, PySem.W.mg_of X G a1_is_row, F_is_alphabet, b_is_alphabet, PySem.W.mg_of X G a1_is_alphabet, F_require_alphabet, b_require_alphabet, PySem.W.mg_of X G a1_require_alphabet, F_letters_in, b_letters_in, PySem.W.mg_of X G a1_letters_in, F_is_letter_in, b_is_letter_in, PySem.W.mg_of X G a1_is_letter_in, F_require_letter, b_require_letter, PySem.W.mg_of X G a1_require_letter, F_newest_in, b_newest_in, PySem.W.mg_of X G a1_newest_in, F_met_in, b_met_in, PySem.W.mg_of X G a1_met_in, F_places_in, b_places_in, PySem.W.mg_of X G a1_places_in, F_place_in, b_place_in, PySem.W.mg_of X G a1_place_in, F_is_clock_in, b_is_clock_in, PySem.W.mg_of X G a1_is_clock_in, F_is_table_in, b_is_table_in, PySem.W.mg_of X G a1_is_table_in, F_met_tables, b_met_tables, PySem.W.mg_of X G a1_met_tables, F_zero_table, b_zero_table, PySem.W.mg_of X G a1_zero_table, F_first_table, b_first_table, PySem.W.mg_of X G a1_first_table, F__law_meet, b__law_meet, PySem.W.mg_of X G a1__law_meet, F__law_pasts, b__law_pasts, PySem.W.mg_of X G a1__law_pasts, F__law_last, b__law_last, PySem.W.mg_of X G a1__law_last, F__law_view, b__law_view, PySem.W.mg_of X G a1__law_view, F__law_counts, b__law_counts, PySem.W.mg_of X G a1__law_counts, F__law_table, b__law_table, PySem.W.mg_of X G a1__law_table, F__law_right, b__law_right, PySem.W.mg_of X G a1__law_right, F__law_stream, b__law_stream, PySem.W.mg_of X G a1__law_stream, F__law_draw, b__law_draw, PySem.W.mg_of X G a1__law_draw, F__law_alphabet, b__law_alphabet, PySem.W.mg_of X G a1__law_alphabet, F__law_meeting_alphabet, b__law_meeting_alphabet, PySem.W.mg_of X G a1__law_meeting_alphabet, F__law_pick, b__law_pick, PySem.W.mg_of X G a1__law_pick, F__law_word, b__law_word, PySem.W.mg_of X G a1__law_word, F_law, b_law, PySem.W.mg_of X G a1_law, PySem.W.mg_none_of X G z1_abs, PySem.W.mg_none_of X G z1_all, PySem.W.mg_none_of X G z1_bool, PySem.W.mg_none_of X G z1_dict, PySem.W.mg_none_of X G z1_enumerate, PySem.W.mg_none_of X G z1_int, PySem.W.mg_none_of X G z1_isinstance, PySem.W.mg_none_of X G z1_len, PySem.W.mg_none_of X G z1_list, PySem.W.mg_none_of X G z1_max, PySem.W.mg_none_of X G z1_min, PySem.W.mg_none_of X G z1_range, PySem.W.mg_none_of X G z1_repr, PySem.W.mg_none_of X G z1_set, PySem.W.mg_none_of X G z1_sorted, PySem.W.mg_none_of X G z1_str, PySem.W.mg_none_of X G z1_tuple, PySem.W.mg_none_of X G z1_zip, PySem.W.mg_of X G g1_MAX_LETTERS, PySem.W.mg_of X G g1_MAX_NAME, PySem.W.mg_of X G g1_MAX_PROCESSES, PySem.W.mg_of X G g1_SIGNS⟩
  exact ⟨_, fun s v => .of_eq rfl, fun base _ _ => L.o_law l.prog w base⟩
end W_k39
namespace W_k39
open PySem PySem.Spec PyProof.Rows L2 Fw
/-! ### alphabets: the package's base -/
def encI (p : List Int) : T := .tup (p.map .int)
abbrev Row := Str × List Int
def encRow (r : Row) : T := .tup [.str r.1, encI r.2]
abbrev Alph := Int × List Row
def encA (A : Alph) : T := .tup [.int A.1, .tup (A.2.map encRow)]
structure Name (a : Str) : Prop where
  lo : 1 ≤ a.length
  hi : a.length ≤ 8
  ok : ∀ c ∈ a.cps.toList, 97 ≤ c ∧ c < 123
structure Place (n : Int) (p : List Int) : Prop where
  ne : p ≠ []
  inn : ∀ x ∈ p, 0 ≤ x ∧ x < n
  up : p.Pairwise (· < ·)
structure Good (A : Alph) : Prop where
  lo : 1 ≤ A.1
  hi : A.1 ≤ 5
  rlo : 1 ≤ A.2.length
  rhi : A.2.length ≤ 10
  row : ∀ r ∈ A.2, Name r.1 ∧ Place A.1 r.2
  up : A.2.Pairwise fun r q => ltStr r.1 q.1 = true
theorem Name.fit {a : Str} (h : Name a) : a.length ≤ sizeLine := Nat.le_trans h.hi (by decide)
theorem Name.strOk {a : Str} (h : Name a) : PyData.strOk a = true := by
  unfold PyData.strOk
  rw [← Array.all_toList, List.all_eq_true]
  intro c hc
  have := h.ok c hc
  exact decide_eq_true (by omega)
theorem is_integer_i (i : Int) : d_is_integer [.int i] = ret (.bl true) := by
  refine eq_ret fun S => ?_
  unfold d_is_integer
  rw [wp_call1]
  unfold b_is_integer
  simp [isiB]
theorem is_between_i (v lo hi : Int) : d_is_between [.int v, .int lo, .int hi] = ret (.bl (decide (lo ≤ v) && decide (v ≤ hi))) := by
  refine eq_ret fun S => ?_
  unfold d_is_between
  rw [wp_call3]
  unfold b_is_between
  simp [is_integer_i]
  by_cases h1 : lo ≤ v
  · simp [h1]
  · simp [h1]
theorem sign_in : ∀ c : Nat, 97 ≤ c → c < 123 → (Builtin.Str.occurrences "abcdefghijklmnopqrstuvwxyz" ⟨#[c]⟩ 0 ("abcdefghijklmnopqrstuvwxyz" : Str).length 1).isEmpty = false := by
  intro c h1 h2
  obtain ⟨k, rfl⟩ : ∃ k, c = 97 + k := ⟨c - 97, by omega⟩
  have h : k < 26 := by omega
  revert h
  clear h1 h2
  revert k
  decide +kernel
theorem is_name_s {a : Str} (h : Name a) : d_is_name [.str a] = ret (.bl true) := by
  refine eq_ret fun S => ?_
  unfold d_is_name
  rw [wp_call1]
  unfold b_is_name
  have h1 : (1 : Int) ≤ (a.length : Int) := by have := h.lo; omega
  have h2 : (a.length : Int) ≤ 8 := by have := h.hi; omega
  simp [isiB, h.fit, h1, h2, wp_eLc, wp_iter_s h.fit]
  unfold Fw.signs
  refine wp_lc_pure (cb := fun _ => true) (f := fun _ => T.bl true) _ trivial (fun c hc Q hQ => ?_) _ ?_
  · obtain ⟨g1, g2⟩ := h.ok c hc
    simp [wipeT, sign_in c g1 g2, hQ]
  · rw [filter_true]
    have := @wp_all_map S (fun a S' => a = .bl true ∧ S' = S) _ (fun _ : Nat => true) a.cps.toList
    simp only [this]
    simp
theorem is_asc_t {α : Type} {f : α → T} {lt : α → α → Bool} {xs : List α} (hl : ∀ x ∈ xs, ∀ y ∈ xs, ∀ S (Q : T → Store → Prop), wp (ltT (f x) (f y)) S Q = Q (.bl (lt x y)) S) {t : T} (ht : t = .tup (xs.map f) ∨ t = .lst (xs.map f)) : d_is_ascending [t] = ret (.bl (asc lt xs)) := by
  refine eq_ret fun S => ?_
  unfold d_is_ascending
  rw [wp_call1]
  unfold b_is_ascending
  have key : ∀ chk : Store → Prop, chk S → wp (lcLoop chk [1, 2] (tgTup (tgCons (tgName 1) (tgCons (tgName 2) tgNil))) yes (eBin ltT (eVar 1) (eVar 2)) [some t, none, none] (zipL (xs.map f) ((xs.map f).drop 1))) S fun ys S' => wp (allT [.lst ys]) S' fun a S' => a = .bl (asc lt xs) ∧ S' = S := fun chk hc => by
    rw [zipL_adj]
    refine wp_lc_pure (cb := fun _ => true) (f := fun p => T.bl (lt p.1 p.2)) _ hc (fun p hp Q hQ => ?_) _ ?_
    · have m := adj_mem hp
      simp [wipeT, hl _ m.1 _ m.2, hQ]
    · rw [filter_true, wp_all_map, adj_all]
      exact ⟨rfl, rfl⟩
  have c1 : cutL (xs.map f) (some (1 : Int)) none = (xs.map f).drop 1 := cutL_from _ 1
  rcases ht with rfl | rfl
  · simp [wp_eLc, c1]
    simpa using key (fun _ => True) trivial
  · simp [wp_eLc, c1]
    simpa using key (fun _ => True) trivial
theorem asc_ints {p : List Int} (h : p.Pairwise (· < ·)) : asc (fun x y : Int => decide (x < y)) p = true := asc_of_pairwise (h.imp fun h => decide_eq_true h)
theorem are_processes_i {n : Int} {p : List Int} (h : Place n p) : d_are_processes [.int n, encI p] = ret (.bl true) := by
  refine eq_ret fun S => ?_
  unfold d_are_processes
  rw [wp_call2]
  unfold b_are_processes encI
  have e : wp (neT (.tup (p.map T.int)) (.tup [])) S = fun Q => Q (.bl true) S := by
    funext Q
    have := (Enc.tup enc_int).wp_ne (S := S) (Q := Q) (by decide) (x := p) (y := []) (fun _ _ => trivial) (fun _ _ => trivial)
    simp only [List.map_nil] at this
    rw [this]
    simp [h.ne]
  simp [isiB, e, wp_eLc]
  refine wp_lc_pure (cb := fun _ => true) (f := fun _ => T.bl true) _ trivial (fun x hx Q hQ => ?_) _ ?_
  · have g := h.inn x hx
    have g2 : x ≤ n - 1 := by omega
    simp [wipeT, is_between_i, g.1, g2, hQ]
  · rw [filter_true, wp_all_map]
    simp
theorem ascending_i {p : List Int} (h : p.Pairwise (· < ·)) : d_is_ascending [encI p] = ret (.bl true) := by
  unfold encI
  rw [is_asc_t (f := T.int) (lt := fun x y : Int => decide (x < y)) (xs := p) (fun x _ y _ S Q => by simp) (Or.inl rfl), asc_ints h]
theorem is_set_of_i {n : Int} {p : List Int} (h : Place n p) : d_is_set_of [.int n, encI p] = ret (.bl true) := by
  refine eq_ret fun S => ?_
  unfold d_is_set_of
  rw [wp_call2]
  unfold b_is_set_of
  simp [are_processes_i h, ascending_i h.up]
theorem is_row_r {n : Int} {r : Row} (h : Name r.1 ∧ Place n r.2) : d_is_row [.int n, encRow r] = ret (.bl true) := by
  refine eq_ret fun S => ?_
  unfold d_is_row
  rw [wp_call2]
  unfold b_is_row encRow
  simp [isiB, is_name_s h.1, is_set_of_i h.2]
theorem is_alphabet_a {A : Alph} (h : Good A) : d_is_alphabet [encA A] = ret (.bl true) := by
  refine eq_ret fun S => ?_
  unfold d_is_alphabet
  rw [wp_call1]
  unfold b_is_alphabet encA
  have h1 := h.lo
  have h2 := h.hi
  have h3 : (1 : Int) ≤ (A.2.length : Int) := by have := h.rlo; omega
  have h4 : (A.2.length : Int) ≤ 10 := by have := h.rhi; omega
  simp [isiB, is_between_i, h1, h2, h3, h4, wp_eLc]
  refine wp_lc_pure (cb := fun _ => true) (f := fun _ => T.bl true) _ trivial (fun r hr Q hQ => ?_) _ ?_
  · simp [wipeT, is_row_r (h.row r hr), hQ]
  · rw [filter_true, wp_all_map]
    simp
    refine wp_lc_pure (cb := fun _ => true) (f := fun r : Row => T.str r.1) _ trivial (fun r hr Q hQ => ?_) _ ?_
    · simp [wipeT, encRow, hQ]
    · rw [filter_true]
      have := is_asc_t (f := T.str) (lt := ltStr) (xs := A.2.map (·.1)) (fun x _ y _ S Q => by simp [ltStr]) (t := .lst (A.2.map fun r => T.str r.1)) (Or.inr (by simp))
      rw [this, wp_ret, asc_of_pairwise (List.pairwise_map.2 h.up)]
      exact ⟨rfl, rfl⟩
theorem require_alphabet_a {A : Alph} (h : Good A) : d_require_alphabet [encA A] = ret .non := by
  refine eq_ret fun S => ?_
  unfold d_require_alphabet
  rw [wp_call1]
  unfold b_require_alphabet
  simp [is_alphabet_a h]
theorem lc_rows {S : Store} {τ : Slots} {i j : Nat} {own : List Nat} {c : Slots → M Bool} {e : Slots → M T} (A : Alph) (cb : Row → Bool) (f : Row → T) (hs : ∀ r ∈ A.2, ∀ Q : T → Store → Prop, Q (f r) S → wp (c (((wipeT τ own).set i (some (.str r.1))).set j (some (encI r.2)))) S fun b S2 => S2 = S ∧ b = cb r ∧ (b = true → wp (e (((wipeT τ own).set i (some (.str r.1))).set j (some (encI r.2)))) S Q))
    {L : List T → Store → Prop} (h : L ((A.2.filter cb).map f) S) : wp (lcLoop (fun _ => True) own (tgTup (tgCons (tgName i) (tgCons (tgName j) tgNil))) c e τ (A.2.map encRow)) S L := by
  refine wp_lc_pure (cb := cb) (f := f) _ trivial (fun r hr Q hQ => ?_) _ h
  simp [encRow]
  exact hs r hr Q hQ
theorem letters_in_a (A : Alph) : d_letters_in [encA A] = ret (.tup (A.2.map fun r => .str r.1)) := by
  refine eq_ret fun S => ?_
  unfold d_letters_in
  rw [wp_call1]
  unfold b_letters_in encA
  simp [wp_eLc]
  refine lc_rows A (fun _ => true) (fun r => .str r.1) (fun r hr Q hQ => by simp [wipeT, hQ]) ?_
  rw [filter_true]
  simp
theorem is_letter_a {A : Alph} (h : Good A) {a : Str} (ha : a ∈ A.2.map (·.1)) : d_is_letter_in [encA A, .str a] = ret (.bl true) := by
  refine eq_ret fun S => ?_
  unfold d_is_letter_in
  rw [wp_call2]
  unfold b_is_letter_in
  have ok : ∀ y ∈ A.2.map (·.1), PyData.strOk y = true := fun y hy => by
    obtain ⟨r, hr, rfl⟩ := List.mem_map.1 hy
    exact (h.row r hr).1.strOk
  have e := enc_str.wp_mem (S := S) (neg := false) (Q := fun a S' => a = T.bl true ∧ S' = S) (by decide) (x := a) (ys := A.2.map (·.1)) (ok a ha) ok
  rw [List.map_map] at e
  simp [isiB, letters_in_a]
  rw [show (List.map (fun r : Row => T.str r.fst) A.2) = List.map (T.str ∘ fun r : Row => r.fst) A.2 from rfl, e, decide_eq_true ha]
  exact ⟨rfl, rfl⟩
theorem require_letter_a {A : Alph} (h : Good A) {a : Str} (ha : a ∈ A.2.map (·.1)) : d_require_letter [encA A, .str a] = ret .non := by
  refine eq_ret fun S => ?_
  unfold d_require_letter
  rw [wp_call2]
  unfold b_require_letter
  simp [is_letter_a h ha]
theorem ltStr_irr (a : Str) : ltStr a a = false := by
  unfold ltStr
  exact decide_eq_false (List.lt_irrefl _)
theorem Good.nodup {A : Alph} (h : Good A) : (A.2.map fun r => (Sum.inr r.1 : Key)).Nodup := by
  unfold List.Nodup
  rw [List.pairwise_map]
  refine h.up.imp fun {r q} h e => ?_
  rw [Sum.inr.inj e, ltStr_irr] at h
  cases h
/-- the dict of places -/
def plcD (A : Alph) : List (T × T) := dicL (fun r : Row => (Sum.inr r.1 : Key)) (fun r => encI r.2) A.2
theorem places_in_a {A : Alph} (h : Good A) : d_places_in [encA A] = ret (.dic (plcD A)) := by
  refine eq_ret fun S => ?_
  unfold d_places_in
  rw [wp_call1]
  unfold b_places_in encA
  simp [wp_eDc]
  refine wp_dc_pure (kf := fun r : Row => (Sum.inr r.1 : Key)) (vf := fun r => encI r.2) (enc := encRow) A.2 [] h.nodup trivial (fun r hr Q hQ => ?_) _ ⟨rfl, rfl⟩
  simp [encRow, wipeT]
  exact hQ
theorem plc_get {A : Alph} (h : Good A) {r : Row} (hr : r ∈ A.2) : getD (plcD A) (Sum.inr r.1) = some (encI r.2) := getD_dicL h.nodup hr
theorem plc_ix {A : Alph} (h : Good A) {r : Row} (hr : r ∈ A.2) {S : Store} {Q : T → Store → Prop} : wp (subT' (.dic (plcD A)) (.str r.1)) S Q = Q (encI r.2) S := by
  rw [wp_ix_d (qs := plcD A) (k := Sum.inr r.1) (dicL_ok _) rfl, plc_get h hr, optP_some]
theorem place_in_a {A : Alph} (h : Good A) {r : Row} (hr : r ∈ A.2) : d_place_in [encA A, .str r.1] = ret (encI r.2) := by
  refine eq_ret fun S => ?_
  unfold d_place_in
  rw [wp_call2]
  unfold b_place_in
  simp [places_in_a h, plc_ix h hr]
/-! ### the stream -/
theorem pow1 : CP 10 60 := by decide +kernel
theorem pow2 : CP (10 ^ 60) 12 := by decide +kernel
theorem pow3 : CP 10 18 := by decide +kernel
theorem log_c {n : Nat} (i : Int) (h0 : 0 ≤ i) (h : i < 2 ^ n) (hn : 0 < n) (j : Int) (h2 : j.natAbs.log2 < 900000) (hn2 : n < 100000) : i.natAbs.log2 + j.natAbs.log2 < 1000000 := by
  have := log_lt h0 h hn
  omega
theorem pow_a : ((10 : Int) ^ (60 : Int).toNat) = 10 ^ 60 := by rw [show (60 : Int).toNat = 60 from rfl]
theorem pow_b : (((10 : Int) ^ 60) ^ (12 : Int).toNat) = (10 ^ 60) ^ 12 := by rw [show (12 : Int).toNat = 12 from rfl]
theorem pow_c : ((10 : Int) ^ (18 : Int).toNat) = 10 ^ 18 := by rw [show (18 : Int).toNat = 18 from rfl]
theorem powM : ∃ M : Int, 0 < M ∧ ∀ τ (S : Store) (Q : T → Store → Prop), wp (eBin powT (eBin powT (eC (.int 10)) (eC (.int 60))) (eC (.int 12)) τ) S Q = Q (.int M) S := by
  refine ⟨(10 ^ 60) ^ 12, Int.pow_pos (Int.pow_pos (by decide)), fun τ S Q => ?_⟩
  simp only [wp_eBin, wp_eC]
  rw [wp_pow_ii pow1, pow_a, wp_pow_ii pow2, pow_b]
theorem powE : ∃ M : Int, ∀ τ (S : Store) (Q : T → Store → Prop), wp (eBin powT (eC (.int 10)) (eC (.int 18)) τ) S Q = Q (.int M) S := by
  refine ⟨10 ^ 18, fun τ S Q => ?_⟩
  simp only [wp_eBin, wp_eC]
  rw [wp_pow_ii pow3, pow_c]
/-- a stream, k draws at most behind it -/
def Strm (S : Store) (n : Nat) (k : Nat) : Prop := ∃ a b c : Int, At S n [.int a, .int b, .int c] ∧ 0 ≤ a ∧ 0 ≤ b ∧ b < 2 ^ 32 ∧ 0 ≤ c ∧ c ≤ k
/-- nothing but the n-th is changed -/
def Only (n : Nat) (S S' : Store) : Prop := S'.length = S.length ∧ ∀ m, m ≠ n → S'[m]? = S[m]?
theorem Only.refl {n : Nat} {S : Store} : Only n S S := ⟨rfl, fun _ _ => rfl⟩
theorem Only.trans {n : Nat} {S S' S2 : Store} (h : Only n S S') (h2 : Only n S' S2) : Only n S S2 := ⟨h2.1.trans h.1, fun m hm => (h2.2 m hm).trans (h.2 m hm)⟩
theorem Only.at {n m : Nat} {S S' : Store} {xs : List T} (h : Only n S S') (hm : m ≠ n) (a : At S m xs) : At S' m xs := (h.2 m hm).trans a
theorem Only.set {n : Nat} {S : Store} {c : Option Cell} : Only n S (S.set n c) := ⟨by simp, fun m hm => by rw [List.getElem?_set_ne (Ne.symm hm)]⟩
theorem Strm.mono {S : Store} {n k k' : Nat} (h : Strm S n k) (hk : k ≤ k') : Strm S n k' := by
  obtain ⟨a, b, c, h1, h2, h3, h4, h5, h6⟩ := h
  exact ⟨a, b, c, h1, h2, h3, h4, h5, by omega⟩
theorem stream_ok (ns : List Int) (at' : Nat) (hat : at' ≤ 63) (hz : ns.length ≤ 63) (S : Store) : wp (d__law_stream [.scr ns, .int at']) S fun t S' => t = .ref S.length ∧ Strm S' S.length 0 ∧ ∃ c, S' = S ++ [some c] := by
  have rest : ∀ cell : Int, wps (sSeq (sSet 3 (eBin modT (eCall absT (eCons (eVar 2) eNil)) (eBin powT (eBin powT (eC (.int 10)) (eC (.int 60))) (eC (.int 12))))) (sSeq (sSet 4 (eBin modT (eBin addT (eBin addT (eBin addT (eBin mulT (eBin modT (eVar 3) (eC (.int 2147483563))) (eC (.int 40692))) (eBin mulT (eC (.int 1013)) (eVar 1))) (eBin mulT (eC (.int 5)) (eCall intT (eCons (eBin ltT (eVar 2) (eC (.int 0))) eNil)))) (eC (.int 19))) (eC (.int 2147483399)))) (sRet (eRef (eCons (eCall max2T (eCons (eC (.int 0)) (eCons (eBin subT (eVar 3) (eBin powT (eC (.int 10)) (eC (.int 18)))) eNil))) (eCons (eVar 4) (eCons (eC (.int 0)) eNil)))))))
      [some (.scr ns), some (.int at'), some (.int cell), none, none] S (fun _ S' => False) (fun t S' => t = .ref S.length ∧ Strm S' S.length 0 ∧ ∃ c, S' = S ++ [some c]) noK noK := fun cell => by
    obtain ⟨M, hM0, hM⟩ := powM
    obtain ⟨E18, hE⟩ := powE
    generalize eBin powT (eBin powT (eC (.int 10)) (eC (.int 60))) (eC (.int 12)) = f1 at hM ⊢
    generalize eBin powT (eC (.int 10)) (eC (.int 18)) = f2 at hE ⊢
    simp only [wps_seq, wps_set, wps_ret, wp_eBin, wp_eCall, wp_eCons, wp_eNil, wp_eC, wp_ret, wp_eRef, hM, hE]
    simp only [wp_eVar, List.getElem?_cons_succ, List.getElem?_cons_zero, List.set_cons_succ, List.set_cons_zero, wp_abs, wp_mod_ii, wp_mul_ii, wp_add_ii, wp_sub_ii, wp_lt_ii, wp_int_b, wp_max2, wp_mkRef]
    generalize hg : (if cell < 0 then -cell else cell) % M = gr
    have hgr : 0 ≤ gr := by rw [← hg]; exact Int.emod_nonneg _ (by omega)
    have hb : 0 ≤ gr % 2147483563 ∧ gr % 2147483563 < 2 ^ 31 := ⟨Int.emod_nonneg _ (by decide), by have := Int.emod_lt_of_pos gr (show (0 : Int) < 2147483563 by decide); omega⟩
    refine ⟨hM0, by decide, log_c _ hb.1 hb.2 (by decide) _ (by decide +kernel) (by decide), ?_, ?_, by decide, ?_, trivial, ?_, ⟨_, rfl⟩⟩
    · have h2 := log_lt (i := (at' : Int)) (n := 6) (by omega) (by omega) (by decide)
      have h1 : (1013 : Int).natAbs.log2 < 10 := by decide +kernel
      omega
    · have h1 : (5 : Int).natAbs.log2 < 10 := by decide +kernel
      have h2 : ((if decide (cell < 0) = true then (1 : Int) else 0)).natAbs.log2 < 10 := by split <;> decide +kernel
      omega
    · show 3 ≤ sizeLine
      decide
    · refine ⟨_, _, _, List.getElem?_concat_length, ?_, Int.emod_nonneg _ (by decide), ?_, Int.le_refl _, Int.le_refl _⟩
      · split <;> omega
      · have := Int.emod_lt_of_pos (gr % 2147483563 * 40692 + 1013 * (at' : Int) + 5 * (if decide (cell < 0) = true then 1 else 0) + 19) (show (0 : Int) < 2147483399 by decide)
        omega
  have hlog : (13 : Int).natAbs.log2 + ((at' : Int)).natAbs.log2 < 1000000 := by
    have h2 := log_lt (i := (at' : Int)) (n := 6) (by omega) (by omega) (by decide)
    have h1 : (13 : Int).natAbs.log2 < 10 := by decide +kernel
    omega
  unfold d__law_stream
  rw [wp_call2]
  show wps b__law_stream [some (.scr ns), some (.int at'), none, none, none] S _ _ noK noK
  unfold b__law_stream
  rw [wps_seq]
  simp only [wps_set, wp_eBin, wp_eC, wp_eVar, List.getElem?_cons_succ, List.getElem?_cons_zero, wp_mul_ii, wp_add_ii, List.set_cons_succ, List.set_cons_zero]
  refine ⟨hlog, ?_⟩
  rw [wps_seq]
  simp only [wps_if, wp_eB, wp_eBin, wp_eC, wp_eVar, List.getElem?_cons_succ, List.getElem?_cons_zero, wp_eCall, wp_eCons, wp_eNil, wp_len_c, wp_lt_ii, wp_tB1, wps_next]
  by_cases hc : (at' : Int) < (ns.length : Int)
  · rw [if_pos (decide_eq_true hc)]
    simp only [wps_set, wp_eBin, wp_eVar, List.getElem?_cons_succ, List.getElem?_cons_zero, List.set_cons_succ, List.set_cons_zero, wp_ix_c]
    have hlt : at' < ns.length := by omega
    rw [atI_nat (j := at') (List.getElem?_eq_getElem hlt)]
    rw [optP_some]
    exact wps_mono (rest _) (fun _ _ h => h.elim) (fun _ _ h => h) (fun _ _ h => h) (fun _ _ h => h)
  · rw [if_neg (by simpa using hc)]
    exact wps_mono (rest _) (fun _ _ h => h.elim) (fun _ _ h => h) (fun _ _ h => h) (fun _ _ h => h)
theorem draw_ok {S : Store} {n k : Nat} (h : Strm S n k) (hk : k < 2 ^ 40) {total : Int} (ht : 0 < total) (ht2 : total < 2 ^ 64) : wp (d__law_draw [.ref n, .int total]) S fun t S' => (∃ x : Int, t = .int x ∧ 0 ≤ x ∧ x < total) ∧ Strm S' n (k + 1) ∧ Only n S S' := by
  obtain ⟨a, b, c, hS, ha, hb, hb2, hc, hck⟩ := h
  have htl : total.natAbs.log2 < 9000 := by have := log_lt (n := 64) (i := total) (by omega) ht2 (by decide); omega
  unfold d__law_draw
  rw [wp_call2]
  show wps b__law_draw [some (.ref n), some (.int total), none, none, none] S _ _ noK noK
  unfold b__law_draw
  have ev : ∀ (S : Store) (xs : List T) (i : Int) (Q : T → Store → Prop), At S n xs → wp (subT' (.ref n) (.int i)) S Q = optP (L2.atI xs i) fun t => Q t S := fun S xs i Q h => wp_ix_r (res_ref h)
  rw [wps_seq]
  simp only [wps_if, wp_eB, wp_eBin, wp_eC, wp_eVar, List.getElem?_cons_succ, List.getElem?_cons_zero, ev _ _ _ _ hS, atI_0, optP_some, wp_gt_ii, wp_tB1, wps_next]
  by_cases h0 : 0 < a
  · rw [if_pos (decide_eq_true h0)]
    simp only [wps_seq, wps_set, wp_eBin, wp_eC, wp_eVar, List.getElem?_cons_succ, List.getElem?_cons_zero, List.set_cons_succ, List.set_cons_zero, ev _ _ _ _ hS, atI_0, optP_some, wp_mod_ii, wps_asg, wp_fdiv_ii, wp_tgSub, wp_setT hS (show ixN 3 0 = some 0 from rfl), wps_ret]
    refine ⟨ht, ⟨ht, htl⟩, ⟨_, rfl, Int.emod_nonneg _ (by omega), Int.emod_lt_of_pos _ ht⟩, ⟨a / total, b, c, At.set hS, Int.ediv_nonneg ha (by omega), hb, hb2, hc, by omega⟩, Only.set⟩
  · rw [if_neg (by simpa using h0)]
    have hS2 : At (S.set n (some (.lst [.int a, .int b, .int (c + 1)]))) n [.int a, .int b, .int (c + 1)] := At.set hS
    simp only [wps_seq, wps_set, wp_eBin, wp_eC, wp_eVar, List.getElem?_cons_succ, List.getElem?_cons_zero, List.set_cons_succ, List.set_cons_zero, ev _ _ _ _ hS, atI_2, optP_some, wps_asg, wp_add_ii, wp_tgSub, wp_setT hS (show ixN 3 2 = some 2 from rfl), ev _ _ _ _ hS2, atI_1, wp_mul_ii, wp_mod_ii, wps_ret, wp_fdiv_ii]
    generalize hO : (b + 1000081 * (c + 1)) % 2305843009213693951 = one
    have hone : 0 ≤ one ∧ one < 2 ^ 61 := by
      rw [← hO]
      exact ⟨Int.emod_nonneg _ (by decide), by have := Int.emod_lt_of_pos (b + 1000081 * (c + 1)) (show (0 : Int) < 2305843009213693951 by decide); omega⟩
    have l1 := log_lt hone.1 hone.2 (by decide)
    have l2 := log_lt (i := c + 1) (n := 41) (by omega) (by omega) (by decide)
    have l3 : (1000081 : Int).natAbs.log2 < 30 := by decide +kernel
    have l4 : (7927 : Int).natAbs.log2 < 30 := by decide +kernel
    have l5 := log_lt (i := one * one % 2305843009213693921) (n := 61) (Int.emod_nonneg _ (by decide)) (by have := Int.emod_lt_of_pos (one * one) (show (0 : Int) < 2305843009213693921 by decide); omega) (by decide)
    refine ⟨by omega, by decide, by omega, by decide, by omega, by omega, by decide, ⟨by decide, by decide +kernel⟩, ht, ⟨_, rfl, Int.emod_nonneg _ (by omega), Int.emod_lt_of_pos _ ht⟩, ⟨a, b, c + 1, hS2, ha, hb, hb2, by omega, by omega⟩, Only.set⟩
/-! ### the law's alphabets -/
/-- what was there is still there, but for the n-th -/
def Keep (n : Nat) (S S' : Store) : Prop := S.length ≤ S'.length ∧ ∀ m, m < S.length → m ≠ n → S'[m]? = S[m]?
theorem Keep.refl {n : Nat} {S : Store} : Keep n S S := ⟨Nat.le_refl _, fun _ _ _ => rfl⟩
theorem Keep.trans {n : Nat} {S S' S2 : Store} (h : Keep n S S') (h2 : Keep n S' S2) : Keep n S S2 := ⟨Nat.le_trans h.1 h2.1, fun m hm hn => (h2.2 m (by have := h.1; omega) hn).trans (h.2 m hm hn)⟩
theorem Only.keep {n : Nat} {S S' : Store} (h : Only n S S') : Keep n S S' := ⟨by rw [h.1]; exact Nat.le_refl _, fun m _ hn => h.2 m hn⟩
theorem Keep.app {n : Nat} {S X : Store} : Keep n S (S ++ X) := ⟨by simp, fun m hm _ => List.getElem?_append_left hm⟩
theorem Keep.set {n p : Nat} {S S' : Store} {c : Option Cell} (h : Keep n S S') (hp : S.length ≤ p) : Keep n S (S'.set p c) := ⟨by rw [List.length_set]; exact h.1, fun m hm hn => by rw [List.getElem?_set_ne (by omega)]; exact h.2 m hm hn⟩
theorem Strm.lt {S : Store} {n k : Nat} (h : Strm S n k) : n < S.length := by
  obtain ⟨a, b, c, h1, _⟩ := h
  exact (List.getElem?_eq_some_iff.mp h1).1
theorem Strm.app {S X : Store} {n k : Nat} (h : Strm S n k) : Strm (S ++ X) n k := by
  have l := h.lt
  obtain ⟨a, b, c, h1, r⟩ := h
  exact ⟨a, b, c, by unfold At; rw [List.getElem?_append_left l]; exact h1, r⟩
theorem Strm.set {S : Store} {n k p : Nat} {c : Option Cell} (h : Strm S n k) (hp : p ≠ n) : Strm (S.set p c) n k := by
  obtain ⟨a, b, d, h1, r⟩ := h
  exact ⟨a, b, d, by unfold At; rw [List.getElem?_set_ne hp]; exact h1, r⟩
/-- the end of a def that changed nothing but the n-th -/
theorem fin_keep {S S' : Store} {n k : Nat} {t : T} {Q : T → Store → Prop} (hn : n < S.length) (h : Strm S' n k) (hk : Keep n S S') (ht : lowT S.length t = true) (hr : ∀ m, t ≠ .ref m) (q : ∀ S2, Strm S2 n k → Only n S S2 → Q t S2) : fin' S Q t S' := by
  refine ⟨⟨hk.1, fun m hm => ?_⟩, t, ?_, q _ ?_ ⟨?_, fun m hm => ?_⟩⟩
  · by_cases e : m = n
    · obtain ⟨a, b, c, h1, _⟩ := h
      exact Or.inr ⟨_, by rw [e]; exact h1, rfl⟩
    · exact Or.inl (hk.2 m hm e)
  · unfold frzTop
    cases t <;> first | exact absurd rfl (hr _) | (dsimp only; rw [if_pos ht])
  · obtain ⟨a, b, c, h1, r⟩ := h
    exact ⟨a, b, c, by unfold At; rw [List.getElem?_take_of_lt hn]; exact h1, r⟩
  · rw [List.length_take]; exact Nat.min_eq_left hk.1
  · by_cases hl : m < S.length
    · rw [List.getElem?_take_of_lt hl]
      exact hk.2 m hl hm
    · rw [List.getElem?_eq_none (by rw [List.length_take]; omega), List.getElem?_eq_none (by omega)]
theorem place_body {S : Store} {n k p : Nat} {ps : List (List Int)} {total : Int} {a1 a2 a5 a6 a7 a9 a10 a11 : Option T} {nx : Slots → Store → Prop} {rt : T → Store → Prop} {bk ct : Slots → Store → Prop} (h : Strm S n k) (hk : k + 100 < 2 ^ 40) (t1 : 1 ≤ total) (t5 : total ≤ 5) (hp : p ≠ n) (hat : At S p (ps.map encI)) (hl : ps.length < 100)
    (q : ∀ (pl : List Int) (a7 : Option T) (S' S2 : Store), Place total pl → Strm S' n (k + 6) → Only n S S2 → S' = S2.set p (some (.lst ((ps ++ [pl]).map encI))) → nx [some (.ref n), a1, a2, some (.int total), some (.ref p), a5, a6, a7, none, a9, a10, a11] S') :
    wps (sSeq (sSet 7 (eLc false (eRange range1 (eCons (eVar 3) eNil)) [8] (tgName 8) (eB (eBin eqT (eCall d__law_draw (eCons (eVar 0) (eCons (eC (.int 3)) eNil))) (eC (.int 0)))) (eVar 8))) (sDrop (eMth "list" appendT (eVar 4) (eCons (eCall tupleT (eCons (eIf (eB (eBin neT (eVar 7) (eLst eNil))) (eVar 7) (eLst (eCons (eCall d__law_draw (eCons (eVar 0) (eCons (eVar 3) eNil))) eNil))) eNil)) eNil))))
      [some (.ref n), a1, a2, some (.int total), some (.ref p), a5, a6, a7, none, a9, a10, a11] S nx rt bk ct := by
  simp only [wps_seq, wps_set, wp_eLc, wp_eRange, wp_eCons, wp_eNil, wp_eVar, List.getElem?_cons_zero, List.getElem?_cons_succ]
  rw [wp_range1 (by omega) (by omega)]
  dsimp only
  refine wp_lc_inv (f := fun k : Nat => T.int (k : Int)) (fun i S' => Strm S' n (k + i) ∧ Only n S S') _ 0 S _ ⟨h, Only.refl⟩ (fun _ _ _ => trivial) (fun i hi S1 ⟨h1, o1⟩ => ?_) fun zs hz S1 ⟨h1, o1⟩ => ?_
  · simp only [List.length_range] at hi
    simp only [wp_tgName, wipeT, wp_eB, wp_eBin, wp_eC, wp_eCall, wp_eCons, wp_eNil, wp_eVar, List.foldl, List.set_cons_zero, List.set_cons_succ, List.getElem?_cons_zero, List.getElem?_cons_succ]
    refine wp_mono (draw_ok h1 (by omega) (total := 3) (by decide) (by decide)) fun t S2 ⟨⟨x, et, x0, x1⟩, h2, o2⟩ => ?_
    subst et
    simp only [wp_eq_ii, wp_tB1]
    have e : k + (0 + i) + 1 = k + (0 + i + 1) := by omega
    rw [e] at h2
    by_cases hx : x = 0
    · rw [if_pos (decide_eq_true hx)]
      exact ⟨trivial, h2, o1.trans o2⟩
    · rw [if_neg (by simpa using hx)]
      exact ⟨h2, o1.trans o2⟩
  · rw [List.length_range, Nat.zero_add] at h1
    have hzr : ∀ x ∈ zs, x < total.toNat := fun x hx => List.mem_range.1 (hz.subset hx)
    have h1 : Strm S1 n (k + 5) := h1.mono (by omega)
    have hat1 : At S1 p (ps.map encI) := o1.at hp hat
    simp only [wp_lcFinF, wps_drop, List.set_cons_zero, List.set_cons_succ]
    simp only [wp_eMth, wp_eVar, List.getElem?_cons_zero, List.getElem?_cons_succ, wp_eCons, wp_eCall, wp_eIf, wp_eB, wp_eBin, wp_eLst, wp_eNil, wp_mkLst]
    refine ⟨ty_ref hat1, by decide, ?_⟩
    have en := (Enc.lst enc_int).wp_ne (S := S1) (Q := fun x S3 => wp (tB1 x) S3 fun k S' => if k = true then wp (tupleT [T.lst (zs.map fun k : Nat => T.int (k : Int))]) S' fun x S2 => wp (appendT (.ref p) [x]) S2 fun _ S' => nx [some (.ref n), a1, a2, some (.int total), some (.ref p), a5, a6, some (T.lst (zs.map fun k : Nat => T.int (k : Int))), none, a9, a10, a11] S' else wp (d__law_draw [.ref n, .int total]) S' fun x S2 => [x].length ≤ sizeLine ∧ wp (tupleT [T.lst [x]]) S2 fun x S2 => wp (appendT (.ref p) [x]) S2 fun _ S' => nx [some (.ref n), a1, a2, some (.int total), some (.ref p), a5, a6, some (T.lst (zs.map fun k : Nat => T.int (k : Int))), none, a9, a10, a11] S') (by decide) (x := zs.map fun k : Nat => (k : Int)) (y := []) (fun _ _ => trivial) (fun _ _ => trivial)
    simp only [List.map_map, List.map_nil, Function.comp_def] at en
    rw [en]
    simp only [wp_tB1]
    have app : ∀ (S2 : Store) (pl : List Int) (Q : T → Store → Prop), At S2 p (ps.map encI) → (wp (appendT (.ref p) [encI pl]) S2 Q = Q .non (S2.set p (some (.lst ((ps ++ [pl]).map encI))))) := fun S2 pl Q ha => by
      rw [wp_append ha]
      have : (ps.map encI).length < sizeLine := by rw [List.length_map]; exact Nat.lt_trans hl (by decide)
      rw [List.map_append]
      exact propext ⟨fun h => h.2, fun h => ⟨this, h⟩⟩
    by_cases hn : (zs.map fun k : Nat => (k : Int)) = []
    · rw [decide_eq_true hn, if_neg (by decide)]
      refine wp_mono (draw_ok h1 (by omega) (by omega) (by omega)) fun t S2 ⟨⟨x, et, x0, x1⟩, h2, o2⟩ => ?_
      subst et
      refine ⟨by show 1 ≤ sizeLine; decide, ?_⟩
      rw [wp_tuple_l, show T.tup [T.int x] = encI [x] from rfl, app S2 _ _ (o2.at hp hat1)]
      exact q [x] _ _ S2 ⟨by simp, fun y hy => by rw [List.mem_singleton] at hy; omega, List.pairwise_singleton ..⟩ (Strm.set h2 hp) (o1.trans o2) rfl
    · rw [decide_eq_false hn]
      simp only [Bool.not_false, if_true]
      rw [wp_tuple_l, show T.tup (zs.map fun k : Nat => T.int (k : Int)) = encI (zs.map fun k : Nat => (k : Int)) by unfold encI; rw [List.map_map]; rfl, app S1 _ _ hat1]
      refine q _ _ _ S1 ⟨hn, fun y hy => ?_, ?_⟩ (Strm.mono (Strm.set h1 hp) (by omega)) o1 rfl
      · obtain ⟨z, hz1, rfl⟩ := List.mem_map.1 hy
        have := hzr z hz1
        omega
      · rw [List.pairwise_map]
        exact (List.Pairwise.sublist hz List.pairwise_lt_range).imp fun h => by omega
/-! words -/
def Wd (c m : Nat) : Str := ⟨(List.replicate m c).toArray⟩
theorem wd_len (c m : Nat) : (Wd c m).length = m := by
  show (List.replicate m c).toArray.size = m
  simp
theorem wd_name {c m : Nat} (h1 : 97 ≤ c) (h2 : c < 123) (h3 : 1 ≤ m) (h4 : m ≤ 8) : Name (Wd c m) := ⟨by rw [wd_len]; exact h3, by rw [wd_len]; exact h4, fun x hx => by
  have : x ∈ List.replicate m c := by simpa [Wd] using hx
  rw [List.mem_replicate] at this
  omega⟩
theorem wd_rep (c : Nat) (k : Nat) : strRep ⟨#[c]⟩ (k : Int) = Wd c k := by
  unfold strRep Wd
  rw [Int.toNat_natCast]
  congr 2
  induction k with
  | zero => rfl
  | succ k ih => rw [List.replicate_succ, List.flatten_cons, ih, List.replicate_succ]; rfl
theorem wd_more (c m : Nat) (h : 1 ≤ m) : Wd c m ++ cutS (Wd c m) none (some 1) = Wd c (m + 1) := by
  obtain ⟨k, rfl⟩ : ∃ k, m = k + 1 := ⟨m - 1, by omega⟩
  have e : cutS (Wd c (k + 1)) none (some 1) = ⟨#[c]⟩ := by
    rw [cutS_cutL, show (some (1 : Int)) = some ((1 : Nat) : Int) from rfl, cutL_to]
    unfold Wd
    rw [List.replicate_succ]
    rfl
  rw [e]
  show (⟨(List.replicate (k + 1) c).toArray ++ #[c]⟩ : Str) = ⟨(List.replicate (k + 1 + 1) c).toArray⟩
  congr 1
  rw [List.replicate_succ' (n := k + 1)]
  simp [← List.toArray_replicate]
theorem wd_lt {c m c' m' : Nat} (h : c < c' ∨ c = c' ∧ m < m') (hm : 1 ≤ m) (hm' : 1 ≤ m') : ltStr (Wd c m) (Wd c' m') = true := by
  unfold ltStr Wd
  refine decide_eq_true ?_
  show List.replicate m c < List.replicate m' c'
  rcases h with h | ⟨rfl, h⟩
  · obtain ⟨a, rfl⟩ : ∃ a, m = a + 1 := ⟨m - 1, by omega⟩
    obtain ⟨b, rfl⟩ : ∃ b, m' = b + 1 := ⟨m' - 1, by omega⟩
    rw [List.replicate_succ, List.replicate_succ]
    exact List.Lex.rel h
  · clear hm hm'
    induction m generalizing m' with
    | zero =>
      obtain ⟨b, rfl⟩ : ∃ b, m' = b + 1 := ⟨m' - 1, by omega⟩
      rw [List.replicate_succ]
      exact List.Lex.nil
    | succ m ih =>
      obtain ⟨b, rfl⟩ : ∃ b, m' = b + 1 := ⟨m' - 1, by omega⟩
      rw [List.replicate_succ, List.replicate_succ]
      exact List.Lex.cons (ih (by omega))
theorem ltStr_trans {a b c : Str} (h1 : ltStr a b = true) (h2 : ltStr b c = true) : ltStr a c = true := by
  unfold ltStr at h1 h2 ⊢
  exact decide_eq_true (List.lt_trans (of_decide_eq_true h1) (of_decide_eq_true h2))
/-- the word at that place: none yet, or one of the signs up to there -/
def WOk (i : Nat) (w : Str) : Prop := i = 0 ∧ w = "" ∨ ∃ c m, w = Wd c m ∧ 97 ≤ c ∧ c < 97 + 2 * i ∧ 1 ≤ m ∧ m ≤ 8
theorem sign_at : ∀ j : Nat, j < 26 → L2.atI ("abcdefghijklmnopqrstuvwxyz" : Str).cps.toList (j : Int) = some (97 + j) := by decide +kernel
theorem row_body {S : Store} {n k r i : Nat} {rs : List Row} {w : Str} {pl : List Int} {a1 a2 a3 a4 a11 : Option T} {nx : Slots → Store → Prop} {rt : T → Store → Prop} {bk ct : Slots → Store → Prop} (h : Strm S n k) (hk : k + 100 < 2 ^ 40) (hi : i < 10) (hp : r ≠ n) (hat : At S r (rs.map encRow)) (hl : rs.length < 100) (hw : WOk i w)
    (q : ∀ (w' : Str) (a11 : Option T) (S' S2 : Store), WOk (i + 1) w' → Name w' → (i = 0 ∨ ltStr w w' = true) → Strm S' n (k + 3) → Only n S S2 → S' = S2.set r (some (.lst ((rs ++ [(w', pl)]).map encRow))) → nx [some (.ref n), a1, a2, a3, a4, some (.str "abcdefghijklmnopqrstuvwxyz"), some (.int i), some (encI pl), none, some (.ref r), some (.str w'), a11] S') :
    wps (sSeq (sSet 11 (eBin subT' (eVar 5) (eBin addT (eBin mulT (eC (.int 2)) (eVar 6)) (eCall d__law_draw (eCons (eVar 0) (eCons (eC (.int 2)) eNil)))))) (sSeq (sIf (bAnd (eB (eCmp2 ltT ltT (eC (.int 0)) (eCall lenT (eCons (eVar 10) eNil)) (eC (.int 8)))) (eB (eBin eqT (eCall d__law_draw (eCons (eVar 0) (eCons (eC (.int 4)) eNil))) (eC (.int 0))))) (sSet 10 (eBin addT (eVar 10) (eCut (eVar 10) none (some (eC (.int 1)))))) (sSet 10 (eBin mulT (eVar 11) (eBin subT' (eLst (eCons (eC (.int 1)) (eCons (eC (.int 1)) (eCons (eC (.int 1)) (eCons (eC (.int 3)) eNil))))) (eCall d__law_draw (eCons (eVar 0) (eCons (eC (.int 4)) eNil))))))) (sDrop (eMth "list" appendT (eVar 9) (eCons (eTup (eCons (eVar 10) (eCons (eVar 7) eNil))) eNil)))))
      [some (.ref n), a1, a2, a3, a4, some (.str "abcdefghijklmnopqrstuvwxyz"), some (.int i), some (encI pl), none, some (.ref r), some (.str w), a11] S nx rt bk ct := by
  have wlen : w.length ≤ 8 := by
    rcases hw with ⟨_, rfl⟩ | ⟨c, m, rfl, _, _, _, h8⟩
    · decide
    · rw [wd_len]; exact h8
  have last : ∀ (w' : Str) (a11 : Option T) (S2 : Store), WOk (i + 1) w' → Name w' → (i = 0 ∨ ltStr w w' = true) → Strm S2 n (k + 3) → Only n S S2 →
      wps (sDrop (eMth "list" appendT (eVar 9) (eCons (eTup (eCons (eVar 10) (eCons (eVar 7) eNil))) eNil))) [some (.ref n), a1, a2, a3, a4, some (.str "abcdefghijklmnopqrstuvwxyz"), some (.int i), some (encI pl), none, some (.ref r), some (.str w'), a11] S2 nx rt bk ct := fun w' a11 S2 g1 g2 g3 g4 g5 => by
    have hat2 : At S2 r (rs.map encRow) := g5.at hp hat
    simp only [wps_drop, wp_eMth, wp_eVar, List.getElem?_cons_zero, List.getElem?_cons_succ, wp_eCons, wp_eTup, wp_eNil, wp_mkTup]
    refine ⟨ty_ref hat2, by show 2 ≤ sizeLine; decide, ?_⟩
    rw [wp_append hat2]
    refine ⟨by rw [List.length_map]; exact Nat.lt_trans hl (by decide), q w' _ _ S2 g1 g2 g3 (Strm.set g4 hp) g5 ?_⟩
    rw [List.map_append]
    rfl
  have l2 : (2 : Int).natAbs.log2 + ((i : Int)).natAbs.log2 < 1000000 := by
    have h2 := log_lt (i := (i : Int)) (n := 6) (by omega) (by omega) (by decide)
    have h1 : (2 : Int).natAbs.log2 < 10 := by decide +kernel
    omega
  have fresh : ∀ (x : Nat) (S2 : Store), x < 2 → Strm S2 n (k + 2) → Only n S S2 →
      wps (sSeq (sSet 10 (eBin mulT (eVar 11) (eBin subT' (eLst (eCons (eC (.int 1)) (eCons (eC (.int 1)) (eCons (eC (.int 1)) (eCons (eC (.int 3)) eNil))))) (eCall d__law_draw (eCons (eVar 0) (eCons (eC (.int 4)) eNil)))))) (sDrop (eMth "list" appendT (eVar 9) (eCons (eTup (eCons (eVar 10) (eCons (eVar 7) eNil))) eNil)))) [some (.ref n), a1, a2, a3, a4, some (.str "abcdefghijklmnopqrstuvwxyz"), some (.int i), some (encI pl), none, some (.ref r), some (.str w), some (.str ⟨#[97 + (2 * i + x)]⟩)] S2 nx rt bk ct := fun x S2 hx g4 g5 => by
    simp only [wps_seq, wps_set, wp_eBin, wp_eVar, List.getElem?_cons_zero, List.getElem?_cons_succ, wp_eLst, wp_eCons, wp_eNil, wp_eC, wp_mkLst, wp_eCall]
    refine ⟨by show 4 ≤ sizeLine; decide, wp_mono (draw_ok g4 (by omega) (total := 4) (by decide) (by decide)) fun t S3 ⟨⟨y, et, y0, y1⟩, g6, g7⟩ => ?_⟩
    subst et
    have : ∃ v : Nat, 1 ≤ v ∧ v ≤ 3 ∧ L2.atI [T.int 1, T.int 1, T.int 1, T.int 3] y = some (.int v) := by
      have : y = 0 ∨ y = 1 ∨ y = 2 ∨ y = 3 := by omega
      rcases this with rfl | rfl | rfl | rfl
      · exact ⟨1, by decide, by decide, rfl⟩
      · exact ⟨1, by decide, by decide, rfl⟩
      · exact ⟨1, by decide, by decide, rfl⟩
      · exact ⟨3, by decide, by decide, rfl⟩
    obtain ⟨v, v1, v3, ev⟩ := this
    rw [wp_ix_l, ev, optP_some, wp_mul_si ⟨by omega, by omega, by show 1 ≤ 1000; decide⟩, wd_rep]
    simp only [List.set_cons_zero, List.set_cons_succ]
    refine last _ _ S3 (Or.inr ⟨_, v, rfl, by omega, by omega, v1, by omega⟩) (wd_name (by omega) (by omega) v1 (by omega)) ?_ g6 (g5.trans g7)
    rcases hw with ⟨h0, _⟩ | ⟨c, m, rfl, c1, c2, m1, m8⟩
    · exact Or.inl h0
    · exact Or.inr (wd_lt (Or.inl (by omega)) m1 v1)
  simp only [wps_seq, wps_set, wp_eBin, wp_eVar, List.getElem?_cons_zero, List.getElem?_cons_succ, wp_eC, wp_mul_ii, wp_eCall, wp_eCons, wp_eNil]
  refine ⟨l2, wp_mono (draw_ok h (by omega) (total := 2) (by decide) (by decide)) fun t S1 ⟨⟨x, et, x0, x1⟩, h1, o1⟩ => ?_⟩
  subst et
  obtain ⟨x, rfl⟩ : ∃ x' : Nat, x = x' := ⟨x.toNat, by omega⟩
  rw [wp_add_ii, wp_ix_s (by decide), show (2 * (i : Int) + (x : Int)) = ((2 * i + x : Nat) : Int) by omega, sign_at _ (by omega), optP_some]
  simp only [wps_if, wp_bAnd, wp_eB, wp_eCmp2, wp_eC, wp_eCall, wp_eCons, wp_eVar, List.getElem?_cons_zero, List.getElem?_cons_succ, wp_eNil, wp_len_s, List.set_cons_zero, List.set_cons_succ, wp_lt_ii, wp_tB1]
  refine ⟨Nat.le_trans wlen (by decide), ?_⟩
  have fr := fun S2 => fresh x S2 (by omega)
  simp only [wps_seq] at fr
  by_cases c1 : 0 < (w.length : Int)
  · rw [decide_eq_true c1, if_pos rfl]
    by_cases c2 : (w.length : Int) < 8
    · simp only [decide_eq_true c2, if_true, wp_eBin, wp_eCall, wp_eCons, wp_eVar, wp_eNil, wp_eC, List.getElem?_cons_zero, List.getElem?_cons_succ]
      refine wp_mono (draw_ok h1 (by omega) (total := 4) (by decide) (by decide)) fun t S2 ⟨⟨y, et, y0, y1⟩, h2, o2⟩ => ?_
      subst et
      simp only [wp_eq_ii, wp_tB1]
      by_cases c3 : y = 0
      · rw [if_pos (decide_eq_true c3)]
        rcases hw with ⟨_, rfl⟩ | ⟨c, m, rfl, d1, d2, m1, m8⟩
        · exact absurd c1 (by decide)
        · rw [wd_len] at c2
          simp only [wps_set, wp_eBin, wp_eVar, List.getElem?_cons_zero, List.getElem?_cons_succ, wp_eCut, wp_ePartN, wp_ePartS, wp_eC, List.set_cons_zero, List.set_cons_succ]
          rw [wp_cut_s (by rw [wd_len]; exact Nat.le_trans m8 (by decide)), wp_add_ss, wd_more c m m1]
          refine ⟨?_, last _ _ S2 (Or.inr ⟨c, m + 1, rfl, d1, by omega, by omega, by omega⟩) (wd_name d1 (by omega) (by omega) (by omega)) (Or.inr (wd_lt (Or.inr ⟨rfl, by omega⟩) m1 (by omega))) (h2.mono (by omega)) (o1.trans o2)⟩
          have := cutS_length (Wd c m) none (some 1)
          rw [wd_len] at this ⊢
          exact Nat.le_trans (Nat.add_le_add m8 (Nat.le_trans this m8)) (by decide)
      · rw [if_neg (by simpa using c3)]
        exact fr S2 h2 (o1.trans o2)
    · simp only [decide_eq_false c2, Bool.false_eq_true, if_false]
      exact fr S1 (h1.mono (by omega)) o1
  · simp only [decide_eq_false c1, Bool.false_eq_true, if_false, wp_tB1]
    exact fr S1 (h1.mono (by omega)) o1
theorem alph_sort {rs : List Row} (h : rs.Pairwise fun r q => ltStr r.1 q.1 = true) {n : Int} (hg : ∀ r ∈ rs, Name r.1 ∧ Place n r.2) {S : Store} {Q : T → Store → Prop} {t : T} (e : res S t = .lst (rs.map encRow)) : wp (sortedT [t]) S Q = Q (.lst (rs.map encRow)) S := by
  have O : Ordd encRow (fun p q : Row => if p.1 = q.1 then ltInts p.2 q.2 else ltStr p.1 q.1) := ord_str.pair (enc_str.mono (d' := 1) (by decide)) ord_ints (Enc.tup enc_int) (fun x => by unfold ltInts; exact decide_eq_false (List.lt_irrefl _))
  have E : Enc encRow (fun r : Row => PyData.strOk r.1 = true ∧ ∀ x ∈ r.2, True) 2 := (enc_str.mono (by decide)).pair (Enc.tup enc_int)
  rw [O.wp_sorted E (by decide) (fun r hr => ⟨(hg r hr).1.strOk, fun _ _ => trivial⟩) (Or.inl fun r _ => rfl) e]
  rw [List.mergeSort_of_pairwise]
  refine h.imp fun {r q} hr => ?_
  unfold leOf
  have ne : q.1 ≠ r.1 := fun z => by rw [z, ltStr_irr] at hr; cases hr
  show (!(if q.1 = r.1 then ltInts q.2 r.2 else ltStr q.1 r.1)) = true
  rw [if_neg ne]
  cases e : ltStr q.1 r.1 with
  | false => rfl
  | true =>
    have z := ltStr_trans hr e
    rw [ltStr_irr] at z
    cases z
theorem alphabet_ok {S : Store} {n k : Nat} (h : Strm S n k) (hk : k + 300 < 2 ^ 40) {most letters : Int} (m1 : 0 < most) (m2 : most ≤ 5) (l1 : 0 < letters) (l2 : letters ≤ 10) :
    wp (d__law_alphabet [.ref n, .int most, .int letters]) S fun t S' => (∃ A, t = encA A ∧ Good A ∧ A.1 ≤ most ∧ (A.2.length : Int) ≤ letters) ∧ Strm S' n (k + 150) ∧ Only n S S' := by
  have hn := h.lt
  unfold d__law_alphabet
  refine wp_callD3 ?_
  show wps b__law_alphabet [some (.ref n), some (.int most), some (.int letters), none, none, none, none, none, none, none, none, none] S _ _ noK noK
  unfold b__law_alphabet
  simp only [wps_seq, wps_set, wps_par, wps_ret, wp_eBin, wp_eC, wp_eCall, wp_eCons, wp_eNil, wp_eVar, List.getElem?_cons_zero, List.getElem?_cons_succ]
  refine wp_mono (draw_ok h (by omega) (by omega) (by omega)) fun t S1 ⟨⟨x, et, x0, x1⟩, h1, o1⟩ => ?_
  subst et
  simp only [wp_add_ii, wp_eRef, wp_eNil, wp_mkRef, List.set_cons_zero, List.set_cons_succ]
  refine ⟨by decide, ?_⟩
  obtain ⟨total, etot⟩ : ∃ total, total = 1 + x := ⟨_, rfl⟩
  rw [← etot]
  have t1 : 1 ≤ total := by omega
  have t5 : total ≤ 5 := by omega
  have len1 : S1.length = S.length := o1.1
  rw [len1, wps_for]
  simp only [wp_eRange, wp_eCons, wp_eBin, wp_eC, wp_eCall, wp_eNil, wp_eVar, List.getElem?_cons_zero, List.getElem?_cons_succ]
  refine wp_mono (draw_ok (Strm.app h1) (by omega) l1 (by omega)) fun t S2 ⟨⟨y, et, y0, y1⟩, h2, o2⟩ => ?_
  subst et
  have k2 : Keep n S S2 := o1.keep.trans (Keep.app.trans o2.keep)
  have at2 : At S2 S.length [] := o2.at (by omega) (by
    unfold At
    rw [← len1]
    exact List.getElem?_concat_length)
  simp only [wp_add_ii]
  rw [wp_range1 (by omega) (by omega)]
  obtain ⟨cnt, ecnt⟩ : ∃ cnt : Nat, (1 + y) = cnt := ⟨(1 + y).toNat, by omega⟩
  rw [ecnt, Int.toNat_natCast]
  have c1 : 1 ≤ cnt := by omega
  have c10 : cnt ≤ 10 := by omega
  have lenc : ((List.range cnt).map fun (k : Nat) => T.int (k : Int)).length = cnt := by simp
  refine wpl_inv (fun i τ S' => ∃ a6 a7 ps, τ = [some (.ref n), some (.int most), some (.int letters), some (.int total), some (.ref S.length), some (.str "abcdefghijklmnopqrstuvwxyz"), a6, a7, none, none, none, none] ∧ Strm S' n (k + 2 + 6 * i) ∧ Keep n S S' ∧ At S' S.length (ps.map encI) ∧ ps.length = i ∧ (∀ p ∈ ps, Place total p) ∧ S.length < S'.length) _ 0 _ S2 ⟨none, none, [], rfl, h2, k2, at2, rfl, by simp, (List.getElem?_eq_some_iff.mp at2).1⟩ (fun _ _ _ _ => trivial) (fun i hi τ S3 hI => ?_) fun τ S3 hI => ?_
  · obtain ⟨a6, a7, ps, rfl, h3, k3, at3, ln, gp, ll⟩ := hI
    rw [Nat.zero_add] at h3 ln ⊢
    rw [lenc] at hi
    simp only [wp_tgName, List.set_cons_zero, List.set_cons_succ]
    refine place_body h3 (by omega) t1 t5 (by omega) at3 (by omega) fun pl a7 S4 S5 hpl h4 o4 e4 => ?_
    refine ⟨_, a7, ps ++ [pl], rfl, h4.mono (by omega), ?_, ?_, by simp [ln], fun p hp => ?_, ?_⟩
    · rw [e4]
      exact Keep.set (k3.trans o4.keep) (Nat.le_refl _)
    · rw [e4]
      exact At.set (o4.at (by omega) at3)
    · rcases List.mem_append.1 hp with hp | hp
      · exact gp p hp
      · rw [List.mem_singleton] at hp
        rw [hp]
        exact hpl
    · rw [e4, List.length_set, o4.1]
      exact ll
  · obtain ⟨a6, a7, ps, rfl, h3, k3, at3, ln, gp, ll⟩ := hI
    rw [lenc, Nat.zero_add] at ln h3
    simp only [wps_set, wps_par, wps_ret, wps_seq, wp_eRef, wp_eNil, wp_mkRef, wp_eC, List.set_cons_zero, List.set_cons_succ]
    refine ⟨by decide, ?_⟩
    rw [wps_for]
    simp only [wp_eRange, wp_eCons, wp_eNil, wp_eVar, List.getElem?_cons_zero, List.getElem?_cons_succ]
    have nS3 : n < S3.length := h3.lt
    have at4 : At (S3 ++ [some (.lst [])]) S.length (ps.map encI) := by
      unfold At
      rw [List.getElem?_append_left ll]
      exact at3
    rw [wp_enum_r at4]
    have lene : (enumL 0 (ps.map encI)).length = cnt := by rw [enumL_length, List.length_map, ln]
    refine wpl_inv (fun i τ S' => ∃ a6 a7 a11 w rs, τ = [some (.ref n), some (.int most), some (.int letters), some (.int total), some (.ref S.length), some (.str "abcdefghijklmnopqrstuvwxyz"), a6, a7, none, some (.ref S3.length), some (.str w), a11] ∧ Strm S' n (k + 2 + 6 * cnt + 3 * i) ∧ Keep n S S' ∧ At S' S.length (ps.map encI) ∧ At S' S3.length (rs.map encRow) ∧ rs.length = i ∧ WOk i w ∧ (∀ r ∈ rs, Name r.1 ∧ Place total r.2) ∧ rs.Pairwise (fun r q => ltStr r.1 q.1 = true) ∧ ∀ r ∈ rs, r.1 = w ∨ ltStr r.1 w = true) _ 0 _ _
      ⟨a6, a7, none, "", [], rfl, Strm.app h3, k3.trans Keep.app, at4, (show At (S3 ++ [some (.lst [])]) S3.length [] from List.getElem?_concat_length), rfl, Or.inl ⟨rfl, rfl⟩, by simp, List.Pairwise.nil, by simp⟩ (fun _ _ _ ⟨_, _, _, _, _, _, _, _, a, _⟩ => a) (fun i hi τ S4 hI => ?_) fun τ S4 hI => ?_
    · obtain ⟨a6, a7, a11, w, rs, rfl, h4, k4, at5, at6, ln4, hw, gr, pw, lst⟩ := hI
      rw [Nat.zero_add] at h4 ln4 hw ⊢
      rw [lene] at hi
      have ip : i < ps.length := by omega
      have ei : (enumL 0 (ps.map encI))[i]'(by rw [lene]; exact hi) = .tup [.int (i : Nat), encI ps[i]] := by
        have q := enumL_get (ps.map encI) 0 i
        rw [List.getElem?_eq_getElem (by rw [lene]; exact hi), List.getElem?_map, List.getElem?_eq_getElem ip] at q
        have q := Option.some.inj q
        rw [q, Nat.zero_add]
      rw [ei]
      simp only [wp_tgTup, wp_tgCons, wp_tgName, wp_tgNil, List.set_cons_zero, List.set_cons_succ]
      refine row_body h4 (by omega) (by omega) (by omega) at6 (by omega) hw fun w' a11 S5 S6 hw' nw lw h5 o5 e5 => ?_
      refine ⟨_, _, a11, w', rs ++ [(w', ps[i])], rfl, h5.mono (by omega), ?_, ?_, ?_, by simp [ln4], hw', fun r hr => ?_, ?_, fun r hr => ?_⟩
      · rw [e5]
        exact Keep.set (k4.trans o5.keep) (by omega)
      · rw [e5]
        unfold At
        rw [List.getElem?_set_ne (by omega)]
        exact o5.at (by omega) at5
      · rw [e5]
        exact At.set (o5.at (by omega) at6)
      · rcases List.mem_append.1 hr with hr | hr
        · exact gr r hr
        · rw [List.mem_singleton] at hr
          rw [hr]
          exact ⟨nw, gp _ (List.getElem_mem ip)⟩
      · rw [List.pairwise_append]
        refine ⟨pw, List.pairwise_singleton .., fun r hr q hq => ?_⟩
        rw [List.mem_singleton] at hq
        rw [hq]
        show ltStr r.1 w' = true
        rcases lw with h0 | lw
        · rw [h0] at ln4
          rw [List.length_eq_zero_iff.1 ln4] at hr
          cases hr
        · rcases lst r hr with e | e
          · rw [e]; exact lw
          · exact ltStr_trans e lw
      · rcases List.mem_append.1 hr with hr | hr
        · rcases lw with h0 | lw
          · rw [h0] at ln4
            rw [List.length_eq_zero_iff.1 ln4] at hr
            cases hr
          · rcases lst r hr with e | e
            · rw [e]; exact Or.inr lw
            · exact Or.inr (ltStr_trans e lw)
        · rw [List.mem_singleton] at hr
          rw [hr]
          exact Or.inl rfl
    · obtain ⟨a6, a7, a11, w, rs, rfl, h4, k4, at5, at6, ln4, hw, gr, pw, lst⟩ := hI
      rw [lene, Nat.zero_add] at ln4 h4
      simp only [wps_ret, wp_eTup, wp_eCons, wp_eNil, wp_eVar, wp_eCall, List.getElem?_cons_zero, List.getElem?_cons_succ]
      rw [alph_sort pw gr (res_ref at6), wp_tuple_l, wp_mkTup]
      refine ⟨by show 2 ≤ sizeLine; decide, fin_keep (t := encA (total, rs)) hn h4 k4 ?_ (fun m z => by cases z) fun S5 h5 o5 => ⟨⟨(total, rs), rfl, ⟨t1, t5, by show 1 ≤ rs.length; omega, by show rs.length ≤ 10; omega, gr, pw⟩, by show total ≤ most; omega, by show (rs.length : Int) ≤ letters; omega⟩, h5.mono (by omega), o5⟩⟩
      have E : Enc encRow (fun r : Row => PyData.strOk r.1 = true ∧ ∀ x ∈ r.2, True) 2 := (enc_str.mono (by decide)).pair (Enc.tup enc_int)
      refine okT_noRef (d := 4) ?_ _
      unfold encA
      rw [okT, okAll, okAll, okAll, okT, okT, E.okAll fun r hr => ⟨(gr r hr).1.strOk, fun _ _ => trivial⟩]
      rfl

/-! ### pasts, views, tables: no program in sight -/
theorem len_sub {α : Type} [DecidableEq α] : ∀ {A B : List α}, A.Nodup → (∀ x ∈ A, x ∈ B) → A.length ≤ B.length
  | [], _, _, _ => Nat.zero_le _
  | a :: A, B, h, hs => by
    rw [List.nodup_cons] at h
    have ha : a ∈ B := hs a (List.mem_cons_self ..)
    have q := len_sub (A := A) (B := B.erase a) h.2 fun x hx => (List.mem_erase_of_ne (fun e : x = a => h.1 (e ▸ hx))).2 (hs x (List.mem_cons_of_mem _ hx))
    rw [List.length_erase_of_mem ha] at q
    have : 0 < B.length := List.length_pos_of_mem ha
    rw [List.length_cons]
    omega
theorem len_lt {α : Type} [DecidableEq α] {A B : List α} (h : A.Nodup) (hs : ∀ x ∈ A, x ∈ B) {b : α} (hb : b ∈ B) (nb : b ∉ A) : A.length < B.length := by
  have q := len_sub (A := b :: A) (B := B) (List.nodup_cons.2 ⟨nb, h⟩) fun x hx => by
    rcases List.mem_cons.1 hx with rfl | hx
    · exact hb
    · exact hs x hx
  rwa [List.length_cons] at q
def ltN (x y : Nat) : Bool := decide (x < y)
theorem tot_nat : STot ltN := ⟨fun a => by simp [ltN], fun {a b c} h1 h2 => by simp only [ltN, decide_eq_true_eq] at h1 h2 ⊢; omega, fun a b => by simp only [ltN, decide_eq_true_eq]; omega⟩
theorem up_uniq {A B : List Nat} (h1 : A.Pairwise (· < ·)) (h2 : B.Pairwise (· < ·)) (m : ∀ a, a ∈ A ↔ a ∈ B) : A = B := tot_nat.uniq (h1.imp fun h => decide_eq_true h) (h2.imp fun h => decide_eq_true h) m
theorem up_nodup {A : List Nat} (h : A.Pairwise (· < ·)) : A.Nodup := h.imp fun h => Nat.ne_of_lt h
/-- whether the i-th place has q -/
def has (ps : List (List Int)) (q : Int) (i : Nat) : Bool := match ps[i]? with
  | some p => decide (q ∈ p)
  | none => false
/-- the i-th event is the j-th, or before it -/
inductive Bf (ps : List (List Int)) : Nat → Nat → Prop
  | here (i : Nat) : Bf ps i i
  | step {j e i : Nat} {q : Int} : Bf ps j e → e < i → has ps q e = true → has ps q i = true → Bf ps j i
section
variable {ps : List (List Int)} {i j e m n : Nat} {q p : Int} {V : List Nat}
theorem Bf.le (h : Bf ps j i) : j ≤ i := by
  induction h with
  | here => exact Nat.le_refl _
  | step _ h _ _ ih => omega
theorem Bf.trans (h : Bf ps j e) (h2 : Bf ps e i) : Bf ps j i := by
  induction h2 with
  | here => exact h
  | step _ h1 h2 h3 ih => exact .step ih h1 h2 h3
theorem Bf.one (h : i ≤ j) (h1 : has ps q i = true) (h2 : has ps q j = true) : Bf ps i j := by
  rcases Nat.lt_or_eq_of_le h with h | rfl
  · exact .step (.here i) h h1 h2
  · exact .here i
theorem has_take {k : Nat} (h : i < k) : has (ps.take k) q i = has ps q i := by
  unfold has
  rw [List.getElem?_take_of_lt h]
theorem bf_take {k : Nat} (h : i < k) : Bf (ps.take k) j i ↔ Bf ps j i := by
  constructor
  · intro b
    induction b with
    | here => exact .here _
    | step b h1 h2 h3 ih =>
      rw [has_take (by omega)] at h2
      rw [has_take h] at h3
      exact .step (ih (by omega)) h1 h2 h3
  · intro b
    induction b with
    | here => exact .here _
    | step b h1 h2 h3 ih =>
      rw [← has_take (k := k) (by omega)] at h2
      rw [← has_take (k := k) h] at h3
      exact .step (ih (by omega)) h1 h2 h3
open Classical in
/-- the past of the i-th event -/
noncomputable def pastL (ps : List (List Int)) (i : Nat) : List Nat := (List.range (i + 1)).filter fun j => decide (Bf ps j i)
theorem mem_past : j ∈ pastL ps i ↔ Bf ps j i := by
  unfold pastL
  rw [List.mem_filter, List.mem_range]
  simp only [decide_eq_true_eq]
  exact ⟨fun h => h.2, fun h => ⟨Nat.lt_succ_of_le h.le, h⟩⟩
theorem past_up : (pastL ps i).Pairwise (· < ·) := List.Pairwise.sublist List.filter_sublist List.pairwise_lt_range
theorem past_take {k : Nat} (h : i < k) : pastL (ps.take k) i = pastL ps i := up_uniq past_up past_up fun a => by rw [mem_past, mem_past, bf_take h]
/-- the last of some events that has q -/
def lastIn (ps : List (List Int)) (V : List Nat) (q : Int) : Option Nat := (V.filter (has ps q)).getLast?
theorem last_none (h : lastIn ps V q = none) (hj : j ∈ V) : has ps q j = false := by
  unfold lastIn at h
  rw [List.getLast?_eq_none_iff, List.filter_eq_nil_iff] at h
  simpa using h j hj
theorem last_some (hv : V.Pairwise (· < ·)) (h : lastIn ps V q = some i) : i ∈ V ∧ has ps q i = true ∧ ∀ j ∈ V, has ps q j = true → j ≤ i := by
  unfold lastIn at h
  have h1 := List.mem_filter.1 (List.mem_of_getLast? h)
  refine ⟨h1.1, h1.2, fun j hj hq => ?_⟩
  obtain ⟨ys, e⟩ := List.getLast?_eq_some_iff.1 h
  have pw : (V.filter (has ps q)).Pairwise (· < ·) := List.Pairwise.sublist List.filter_sublist hv
  have hm : j ∈ V.filter (has ps q) := List.mem_filter.2 ⟨hj, hq⟩
  rw [e] at pw hm
  rcases List.mem_append.1 hm with hm | hm
  · exact Nat.le_of_lt ((List.pairwise_append.1 pw).2.2 j hm i (by simp))
  · rw [List.mem_singleton] at hm
    omega
theorem last_take {k : Nat} (h : ∀ j ∈ V, j < k) : lastIn (ps.take k) V q = lastIn ps V q := by
  unfold lastIn
  rw [List.filter_congr fun j hj => has_take (h j hj)]
/-- the past up to an event, if there is one -/
noncomputable def pastO (ps : List (List Int)) (o : Option Nat) : List Nat := match o with
  | none => []
  | some i => pastL ps i
noncomputable def viewL (ps : List (List Int)) (m : Nat) (p : Int) : List Nat := pastO ps (lastIn ps (List.range m) p)
theorem mem_view : i ∈ viewL ps m p ↔ ∃ l, lastIn ps (List.range m) p = some l ∧ Bf ps i l := by
  unfold viewL pastO
  cases lastIn ps (List.range m) p with
  | none => simp
  | some l => simp [mem_past]
theorem pastO_up {o : Option Nat} : (pastO ps o).Pairwise (· < ·) := by
  cases o with
  | none => exact List.Pairwise.nil
  | some i => exact past_up
theorem view_up : (viewL ps m p).Pairwise (· < ·) := pastO_up
theorem view_lt (h : i ∈ viewL ps m p) : i < m := by
  obtain ⟨l, h1, h2⟩ := mem_view.1 h
  have := (last_some List.pairwise_lt_range h1).1
  rw [List.mem_range] at this
  have := h2.le
  omega
def upto (n : Int) : List Int := (List.range n.toNat).map fun k : Nat => (k : Int)
def cnt (ps : List (List Int)) (V : List Nat) (q : Int) : Nat := (V.filter (has ps q)).length
def clkL (n : Int) (ps : List (List Int)) (V : List Nat) : List Int := (upto n).map fun q => (cnt ps V q : Int)
abbrev Tab := List Int × List (List Int)
noncomputable def tabL (n : Int) (ps : List (List Int)) (m : Nat) (p : Int) : Tab := (clkL n ps (viewL ps m p), (upto n).map fun q => clkL n ps (pastO ps (lastIn ps (viewL ps m p) q)))
theorem cnt_take {k : Nat} (h : ∀ j ∈ V, j < k) : cnt (ps.take k) V q = cnt ps V q := by
  unfold cnt
  rw [List.filter_congr fun j hj => has_take (h j hj)]
theorem clk_take {n : Int} {k : Nat} (h : ∀ j ∈ V, j < k) : clkL n (ps.take k) V = clkL n ps V := by
  unfold clkL
  exact List.map_congr_left fun q _ => by rw [cnt_take h]
theorem pastO_take {k : Nat} {o : Option Nat} (h : ∀ i, o = some i → i < k) : pastO (ps.take k) o = pastO ps o := by
  cases o with
  | none => rfl
  | some i => exact past_take (h i rfl)
theorem view_take {k : Nat} : viewL (ps.take k) k p = viewL ps k p := by
  unfold viewL
  rw [last_take fun j hj => List.mem_range.1 hj, pastO_take fun i hi => List.mem_range.1 (last_some List.pairwise_lt_range hi).1]
theorem pastO_lt {k : Nat} {o : Option Nat} (h : ∀ i, o = some i → i < k) (hj : j ∈ pastO ps o) : j < k := by
  cases o with
  | none => simp [pastO] at hj
  | some i =>
    have := (mem_past.1 hj).le
    have := h i rfl
    omega
theorem last_view_lt {k : Nat} (h : lastIn ps (viewL ps k p) q = some i) : i < k := view_lt (last_some view_up h).1
theorem tab_take {n : Int} {k : Nat} : tabL n (ps.take k) k p = tabL n ps k p := by
  unfold tabL
  rw [view_take, clk_take fun j hj => view_lt hj]
  congr 1
  refine List.map_congr_left fun q _ => ?_
  rw [last_take fun j hj => view_lt hj, pastO_take fun i hi => last_view_lt hi, clk_take fun j hj => pastO_lt (fun i hi => last_view_lt hi) hj]
/-- a process that isn't there keeps its table -/
theorem tab_keep {n : Int} (h : has ps p m = false) : tabL n ps (m + 1) p = tabL n ps m p := by
  have e : viewL ps (m + 1) p = viewL ps m p := by
    unfold viewL lastIn
    rw [List.range_succ, List.filter_append]
    simp [h]
  unfold tabL
  rw [e]
theorem view_new (h : has ps p m = true) : viewL ps (m + 1) p = pastL ps m := by
  unfold viewL lastIn
  rw [List.range_succ, List.filter_append]
  simp [h, pastO]
/-- the past of the newest event -/
theorem past_new : Bf ps i m ↔ i = m ∨ ∃ p, has ps p m = true ∧ i ∈ viewL ps m p := by
  constructor
  · intro h
    rcases h with _ | ⟨b, h1, h2, h3⟩
    · exact Or.inl rfl
    · rename_i e q
      refine Or.inr ⟨q, h3, mem_view.2 ?_⟩
      cases el : lastIn ps (List.range m) q with
      | none =>
        have := last_none el (List.mem_range.2 h1)
        rw [h2] at this
        cases this
      | some l =>
        obtain ⟨_, g2, g3⟩ := last_some List.pairwise_lt_range el
        exact ⟨l, rfl, b.trans (Bf.one (g3 e (List.mem_range.2 h1) h2) h2 g2)⟩
  · rintro (rfl | ⟨p, h, hv⟩)
    · exact .here _
    · obtain ⟨l, h1, h2⟩ := mem_view.1 hv
      obtain ⟨g1, g2, _⟩ := last_some List.pairwise_lt_range h1
      exact .step h2 (List.mem_range.1 g1) g2 h
/-- whoever counts most events of q knows all of them that anybody knows -/
theorem most {h : Int} (hh : has ps h m = true) (hmax : ∀ p, has ps p m = true → cnt ps (viewL ps m p) q ≤ cnt ps (viewL ps m h) q) : (pastL ps m).filter (has ps q) = (viewL ps m h).filter (has ps q) ++ (if has ps q m = true then [m] else []) := by
  refine up_uniq (List.Pairwise.sublist List.filter_sublist past_up) ?_ fun i => ?_
  · rw [List.pairwise_append]
    refine ⟨List.Pairwise.sublist List.filter_sublist view_up, by split <;> simp, fun x hx y hy => ?_⟩
    split at hy
    · rw [List.mem_singleton] at hy
      rw [hy]
      exact view_lt (List.mem_filter.1 hx).1
    · simp at hy
  · rw [List.mem_filter, mem_past, List.mem_append, List.mem_filter]
    constructor
    · rintro ⟨h1, h2⟩
      rcases past_new.1 h1 with rfl | ⟨p, hp, hv⟩
      · exact Or.inr (by rw [if_pos h2]; simp)
      · by_cases hi : i ∈ viewL ps m h
        · exact Or.inl ⟨hi, h2⟩
        · exfalso
          have lt : cnt ps (viewL ps m h) q < cnt ps (viewL ps m p) q := by
            refine len_lt (up_nodup (List.Pairwise.sublist List.filter_sublist view_up)) (fun j hj => ?_) (b := i) (List.mem_filter.2 ⟨hv, h2⟩) fun z => hi (List.mem_filter.1 z).1
            obtain ⟨j1, j2⟩ := List.mem_filter.1 hj
            refine List.mem_filter.2 ⟨?_, j2⟩
            rcases Nat.lt_or_ge j i with c | c
            · obtain ⟨l, g1, g2⟩ := mem_view.1 hv
              exact mem_view.2 ⟨l, g1, (Bf.one (Nat.le_of_lt c) j2 h2).trans g2⟩
            · obtain ⟨l, g1, g2⟩ := mem_view.1 j1
              exact absurd (mem_view.2 ⟨l, g1, (Bf.one c h2 j2).trans g2⟩) hi
          have := hmax p hp
          omega
    · rintro (⟨h1, h2⟩ | h1)
      · exact ⟨past_new.2 (Or.inr ⟨h, hh, h1⟩), h2⟩
      · split at h1
        · rename_i hq
          rw [List.mem_singleton] at h1
          subst h1
          exact ⟨.here _, hq⟩
        · simp at h1
/-- the new table, by the tables of those that meet -/
noncomputable def clockN (n : Int) (ps : List (List Int)) (m : Nat) (h : Int → Int) : List Int := (upto n).map fun q => (cnt ps (viewL ps m (h q)) q : Int) + (if has ps q m = true then 1 else 0)
noncomputable def tabN (n : Int) (ps : List (List Int)) (m : Nat) (h : Int → Int) : Tab :=
  (clockN n ps m h, (upto n).map fun q => if has ps q m = true then clockN n ps m h else clkL n ps (pastO ps (lastIn ps (viewL ps m (h q)) q)))
theorem tab_new {n : Int} {h : Int → Int} (hh : ∀ q ∈ upto n, has ps (h q) m = true ∧ ∀ p, has ps p m = true → cnt ps (viewL ps m p) q ≤ cnt ps (viewL ps m (h q)) q) (hp : has ps p m = true) : tabL n ps (m + 1) p = tabN n ps m h := by
  have ck : clkL n ps (pastL ps m) = clockN n ps m h := by
    unfold clkL clockN
    refine List.map_congr_left fun q hq => ?_
    have e : cnt ps (pastL ps m) q = cnt ps (viewL ps m (h q)) q + (if has ps q m = true then 1 else 0) := by
      unfold cnt
      rw [most (hh q hq).1 (hh q hq).2, List.length_append]
      congr 1
      split <;> rfl
    rw [e]
    split <;> simp
  unfold tabL tabN
  rw [view_new hp, ck]
  congr 1
  refine List.map_congr_left fun q hq => ?_
  have ml := most (hh q hq).1 (hh q hq).2
  by_cases c : has ps q m = true
  · rw [if_pos c]
    have e : lastIn ps (pastL ps m) q = some m := by
      unfold lastIn
      rw [ml, if_pos c]
      simp
    rw [e]
    exact ck
  · rw [if_neg c]
    have e : lastIn ps (pastL ps m) q = lastIn ps (viewL ps m (h q)) q := by
      unfold lastIn
      rw [ml, if_neg c, List.append_nil]
    rw [e]
theorem cnt_le : cnt ps V q ≤ V.length := List.length_filter_le _ _
theorem view_len : (viewL ps m p).length ≤ m := by
  have := len_sub (up_nodup (view_up (ps := ps) (m := m) (p := p))) (B := List.range m) fun x hx => List.mem_range.2 (view_lt hx)
  rwa [List.length_range] at this
theorem past_len : (pastL ps i).length ≤ i + 1 := by
  have := List.length_filter_le (fun j => @decide (Bf ps j i) (Classical.propDecidable _)) (List.range (i + 1))
  rwa [List.length_range] at this
end

/-! ### the package's news tables -/
theorem ix_l {α : Type} {f : α → T} {xs : List α} {k : Nat} (h : k < xs.length) {S : Store} {Q : T → Store → Prop} : wp (subT' (.lst (xs.map f)) (.int (k : Int))) S Q = Q (f xs[k]) S := by
  rw [wp_ix_l, show L2.atI (xs.map f) (k : Int) = some (f xs[k]) from atI_nat (j := k) (by rw [List.getElem?_map, List.getElem?_eq_getElem h]; rfl), optP_some]
theorem ix_t {α : Type} {f : α → T} {xs : List α} {k : Nat} (h : k < xs.length) {S : Store} {Q : T → Store → Prop} : wp (subT' (.tup (xs.map f)) (.int (k : Int))) S Q = Q (f xs[k]) S := by
  rw [wp_ix_t, show L2.atI (xs.map f) (k : Int) = some (f xs[k]) from atI_nat (j := k) (by rw [List.getElem?_map, List.getElem?_eq_getElem h]; rfl), optP_some]
theorem ix_r {α : Type} {f : α → T} {xs : List α} {k n : Nat} {S : Store} (a : At S n (xs.map f)) (h : k < xs.length) {Q : T → Store → Prop} : wp (subT' (.ref n) (.int (k : Int))) S Q = Q (f xs[k]) S := by
  rw [wp_ix_r (res_ref a), show L2.atI (xs.map f) (k : Int) = some (f xs[k]) from atI_nat (j := k) (by rw [List.getElem?_map, List.getElem?_eq_getElem h]; rfl), optP_some]
theorem enum_at {α : Type} {f : α → T} {xs : List α} {i : Nat} (h : i < (enumL 0 (xs.map f)).length) (hi : i < xs.length) : (enumL 0 (xs.map f))[i]'h = .tup [.int (i : Nat), f xs[i]] := by
  have q := enumL_get (xs.map f) 0 i
  rw [List.getElem?_eq_getElem h, List.getElem?_map, List.getElem?_eq_getElem hi] at q
  have q := Option.some.inj q
  rw [q, Nat.zero_add]
theorem enum_len {α : Type} {f : α → T} {xs : List α} : (enumL 0 (xs.map f)).length = xs.length := by rw [enumL_length, List.length_map]
def encT (t : Tab) : T := .tup [encI t.1, .tup (t.2.map encI)]
theorem eT_0 {t : Tab} {S : Store} {Q : T → Store → Prop} : wp (subT' (encT t) (.int 0)) S Q = Q (encI t.1) S := by unfold encT; simp
theorem eT_1 {t : Tab} {S : Store} {Q : T → Store → Prop} : wp (subT' (encT t) (.int 1)) S Q = Q (.tup (t.2.map encI)) S := by unfold encT; simp
theorem eI_k {c : List Int} {k : Nat} (h : k < c.length) {S : Store} {Q : T → Store → Prop} : wp (subT' (encI c) (.int (k : Int))) S Q = Q (.int c[k]) S := ix_t h
structure TabOk (n : Nat) (t : Tab) : Prop where
  l1 : t.1.length = n
  p1 : ∀ x ∈ t.1, 0 ≤ x
  l2 : t.2.length = n
  p2 : ∀ c ∈ t.2, c.length = n ∧ ∀ x ∈ c, 0 ≤ x
theorem eA_0 (A : Alph) (S : Store) (Q : T → Store → Prop) : wp (subT' (encA A) (.int 0)) S Q = Q (.int A.1) S := by unfold encA; simp
theorem eA_1 (A : Alph) (S : Store) (Q : T → Store → Prop) : wp (subT' (encA A) (.int 1)) S Q = Q (.tup (A.2.map encRow)) S := by unfold encA; simp
def zeroT (n : Nat) : Tab := (List.replicate n 0, List.replicate n (List.replicate n 0))
theorem zero_table_n {n : Nat} (hn : n ≤ 5) : d_zero_table [.int (n : Int)] = ret (encT (zeroT n)) := by
  refine eq_ret fun S => ?_
  unfold d_zero_table
  rw [wp_call1]
  show wps b_zero_table [some (.int (n : Int)), none] S _ _ noK noK
  unfold b_zero_table
  simp only [wps_seq, wps_set, wps_ret, wp_eBin, wp_eTup, wp_eCons, wp_eNil, wp_eC, wp_eVar, wp_mkTup, List.getElem?_cons_zero, List.getElem?_cons_succ, List.set_cons_zero, List.set_cons_succ]
  refine ⟨by show 1 ≤ sizeLine; decide, ?_⟩
  rw [wp_mulT1 (by omega)]
  refine ⟨by show 1 ≤ sizeLine; decide, ?_⟩
  rw [wp_mulT1 (by omega)]
  refine ⟨by show 2 ≤ sizeLine; decide, ?_, rfl⟩
  unfold encT zeroT encI
  simp only [List.map_replicate]
theorem first_table_a {A : Alph} (h : Good A) : d_first_table [encA A] = ret (encT (zeroT A.1.toNat)) := by
  have h1 := h.lo
  have h2 := h.hi
  refine eq_ret fun S => ?_
  unfold d_first_table
  rw [wp_call1]
  show wps b_first_table [some (encA A)] S _ _ noK noK
  unfold b_first_table
  simp only [wps_seq, wps_drop, wps_ret, wp_eCall, wp_eCons, wp_eNil, wp_eBin, wp_eC, wp_eVar, List.getElem?_cons_zero, require_alphabet_a h, wp_ret, eA_0]
  have e : A.1 = ((A.1.toNat : Nat) : Int) := by omega
  rw [e, zero_table_n (by omega), wp_ret, Int.toNat_natCast]
  exact ⟨rfl, rfl⟩
theorem is_clock_c {n : Nat} {c : List Int} (hl : c.length = n) (h0 : ∀ x ∈ c, 0 ≤ x) : d_is_clock_in [.int (n : Int), encI c] = ret (.bl true) := by
  refine eq_ret fun S => ?_
  unfold d_is_clock_in
  rw [wp_call2]
  unfold b_is_clock_in encI
  simp [isiB, hl, wp_eLc]
  refine wp_lc_pure (cb := fun _ => true) (f := fun _ => T.bl true) _ trivial (fun x hx Q hQ => ?_) _ ?_
  · simp [wipeT, is_integer_i, h0 x hx, hQ]
  · rw [filter_true, wp_all_map]
    simp
theorem is_table_t {n : Nat} {t : Tab} (h : TabOk n t) : d_is_table_in [.int (n : Int), encT t] = ret (.bl true) := by
  refine eq_ret fun S => ?_
  unfold d_is_table_in
  rw [wp_call2]
  unfold b_is_table_in encT
  simp [isiB, is_clock_c h.l1 h.p1, h.l2, wp_eLc]
  refine wp_lc_pure (cb := fun _ => true) (f := fun _ => T.bl true) _ trivial (fun c hc Q hQ => ?_) _ ?_
  · simp [wipeT, is_clock_c (h.p2 c hc).1 (h.p2 c hc).2, hQ]
  · rw [filter_true, wp_all_map]
    simp
/-- the k-th count of the i-th table -/
def gk (ts : List Tab) (k i : Nat) : Int := ((ts.getD i ([], [])).1).getD k 0
def nwS (ts : List Tab) (k m : Nat) : Nat := (List.range m).foldl (fun f i => if gk ts k f < gk ts k i then i else f) 0
def nwF (ts : List Tab) (k : Nat) : Nat := nwS ts k ts.length
theorem nwS_succ {ts : List Tab} {k m : Nat} : nwS ts k (m + 1) = if gk ts k (nwS ts k m) < gk ts k m then m else nwS ts k m := by
  unfold nwS
  rw [List.range_succ, List.foldl_append]
  rfl
theorem nwS_lt {ts : List Tab} {k : Nat} : ∀ m, m ≤ ts.length → 0 < ts.length → nwS ts k m < ts.length ∧ ∀ j < m, gk ts k j ≤ gk ts k (nwS ts k m)
  | 0, _, h => ⟨h, fun j hj => by omega⟩
  | m + 1, hm, h => by
    obtain ⟨h1, h2⟩ := nwS_lt (ts := ts) (k := k) m (by omega) h
    rw [nwS_succ]
    split
    · rename_i c
      refine ⟨by omega, fun j hj => ?_⟩
      rcases Nat.lt_or_ge j m with g | g
      · have := h2 j g
        omega
      · have : j = m := by omega
        rw [this]
        exact Int.le_refl _
    · rename_i c
      refine ⟨h1, fun j hj => ?_⟩
      rcases Nat.lt_or_ge j m with g | g
      · exact h2 j g
      · have : j = m := by omega
        rw [this]
        omega
theorem gk_at {ts : List Tab} {k i : Nat} (hi : i < ts.length) (hk : k < ts[i].1.length) : gk ts k i = ts[i].1[k] := by
  unfold gk
  rw [List.getD_eq_getElem?_getD (l := ts), List.getElem?_eq_getElem hi, Option.getD_some, List.getD_eq_getElem?_getD, List.getElem?_eq_getElem hk, Option.getD_some]
theorem newest_a {ts : List Tab} {k : Nat} (hk : ∀ t ∈ ts, k < t.1.length) (h0 : 0 < ts.length) : d_newest_in [.tup (ts.map encT), .int (k : Int)] = ret (.int (nwF ts k : Nat)) := by
  refine eq_ret fun S => ?_
  unfold d_newest_in
  rw [wp_call2]
  show wps b_newest_in [some (.tup (ts.map encT)), some (.int (k : Int)), none, none, none] S _ _ noK noK
  unfold b_newest_in
  rw [wps_seq]
  simp only [wps_set, wp_eC, List.set_cons_zero, List.set_cons_succ]
  rw [wps_seq, wps_for]
  simp only [wp_eRange, wp_eCons, wp_eNil, wp_eVar, List.getElem?_cons_zero, wp_enum_t]
  refine wpl_inv (fun i τ S' => S' = S ∧ ∃ a3 a4, τ = [some (.tup (ts.map encT)), some (.int (k : Int)), some (.int (nwS ts k i : Nat)), a3, a4]) _ 0 _ S ⟨rfl, none, none, rfl⟩ (fun _ _ _ _ => trivial) (fun i hi τ S3 hI => ?_) fun τ S3 hI => ?_
  · obtain ⟨rfl, a3, a4, rfl⟩ := hI
    rw [Nat.zero_add]
    have hi' : i < ts.length := by rwa [enum_len] at hi
    rw [enum_at hi hi']
    have hf := (nwS_lt (k := k) i (by omega) h0).1
    have k1 := hk _ (List.getElem_mem hi')
    have k2 := hk _ (List.getElem_mem hf)
    simp only [wp_tgTup, wp_tgCons, wp_tgName, wp_tgNil, List.set_cons_zero, List.set_cons_succ, wps_if, wp_eB, wp_eBin, wp_eVar, wp_eC, List.getElem?_cons_zero, List.getElem?_cons_succ, eT_0, eI_k k1, ix_t hf, eI_k k2, wp_gt_ii, wp_tB1]
    rw [nwS_succ, gk_at hf k2, gk_at hi' k1]
    by_cases c : ts[nwS ts k i].1[k] < ts[i].1[k]
    · rw [if_pos (decide_eq_true c), if_pos c]
      simp only [wps_set, wp_eVar, List.getElem?_cons_zero, List.getElem?_cons_succ, List.set_cons_zero, List.set_cons_succ]
      exact ⟨trivial, _, _, rfl⟩
    · rw [if_neg (by simpa using c), if_neg c]
      exact ⟨rfl, _, _, rfl⟩
  · obtain ⟨rfl, a3, a4, rfl⟩ := hI
    rw [enum_len, Nat.zero_add]
    simp only [wps_ret, wp_eVar, List.getElem?_cons_zero, List.getElem?_cons_succ]
    exact ⟨rfl, trivial⟩
/-- the table of those that met -/
def clockM (n : Nat) (pl : List Int) (ts : List Tab) : List Int := (List.range n).map fun k : Nat => gk ts k (nwF ts k) + (if (k : Int) ∈ pl then 1 else 0)
def metT (n : Nat) (pl : List Int) (ts : List Tab) : Tab := (clockM n pl ts, (List.range n).map fun k : Nat => if (k : Int) ∈ pl then clockM n pl ts else ((ts.getD (nwF ts k) ([], [])).2).getD k [])
theorem mem_i {S : Store} {x : Int} {pl : List Int} {Q : T → Store → Prop} : wp (memT false (.int x) (encI pl)) S Q = Q (.bl (decide (x ∈ pl))) S := by
  unfold encI
  rw [enc_int.wp_mem (by decide) (x := x) (ys := pl) trivial (fun _ _ => trivial), Bool.false_xor]
theorem met_in_a {n : Nat} {pl : List Int} {ts : List Tab} (hn : n ≤ 5) (ht : ∀ t ∈ ts, TabOk n t) (h0 : 0 < ts.length) : d_met_in [.int (n : Int), encI pl, .tup (ts.map encT)] = ret (encT (metT n pl ts)) := by
  refine eq_ret fun S => ?_
  unfold d_met_in
  rw [wp_call3]
  show wps b_met_in [some (.int (n : Int)), some (encI pl), some (.tup (ts.map encT)), none, none, none, none] S _ _ noK noK
  unfold b_met_in
  have nw : ∀ k, k < n → nwF ts k < ts.length := fun k _ => (nwS_lt ts.length (Nat.le_refl _) h0).1
  have ok : ∀ k, (hk : k < n) → TabOk n (ts[nwF ts k]'(nw k hk)) := fun k hk => ht _ (List.getElem_mem _)
  have gd : ∀ k, (hk : k < n) → ts.getD (nwF ts k) ([], []) = ts[nwF ts k]'(nw k hk) := fun k hk => by rw [List.getD_eq_getElem?_getD, List.getElem?_eq_getElem (nw k hk), Option.getD_some]
  rw [wps_seq]
  simp only [wps_set, wp_eLc, wp_eRange, wp_eCons, wp_eNil, wp_eVar, List.getElem?_cons_zero, List.getElem?_cons_succ]
  rw [wp_range1 (by omega) (by omega), Int.toNat_natCast]
  dsimp only
  refine wp_lc_pure (enc := fun k : Nat => T.int (k : Int)) (cb := fun _ => true) (f := fun k : Nat => encT (ts.getD (nwF ts k) ([], []))) _ trivial (fun k hk Q hQ => ?_) _ ?_
  · rw [List.mem_range] at hk
    simp only [wp_tgName, wipeT, List.foldl, List.set_cons_zero, List.set_cons_succ, wp_yes, wp_eBin, wp_eVar, wp_eCall, wp_eCons, wp_eNil, List.getElem?_cons_zero, List.getElem?_cons_succ]
    rw [newest_a (fun t m => by rw [(ht t m).l1]; exact hk) h0, wp_ret, ix_t (nw k hk), ← gd k hk]
    exact ⟨trivial, trivial, trivial, fun _ => hQ⟩
  · rw [filter_true]
    rw [wp_lcFinF, wps_seq]
    simp only [wps_set, List.set_cons_zero, List.set_cons_succ, wp_eCall, wp_eCons, wp_eNil, wp_eLc, wp_eRange, wp_eVar, List.getElem?_cons_zero, List.getElem?_cons_succ]
    rw [wp_range1 (by omega) (by omega), Int.toNat_natCast]
    dsimp only
    refine wp_lc_pure (enc := fun k : Nat => T.int (k : Int)) (cb := fun _ => true) (f := fun k : Nat => T.int (gk ts k (nwF ts k) + (if (k : Int) ∈ pl then 1 else 0))) _ trivial (fun k hk Q hQ => ?_) _ ?_
    · rw [List.mem_range] at hk
      simp only [wp_tgName, wipeT, List.foldl, List.set_cons_zero, List.set_cons_succ, wp_yes, wp_eBin, wp_eVar, wp_eCall, wp_eCons, wp_eNil, wp_eC, List.getElem?_cons_zero, List.getElem?_cons_succ]
      rw [ix_l (by rw [List.length_range]; exact hk), List.getElem_range, eT_0]
      have lk : k < (ts.getD (nwF ts k) ([], [])).1.length := by rw [gd k hk, (ok k hk).l1]; exact hk
      rw [eI_k lk, mem_i, wp_int_b, wp_add_ii]
      have e : gk ts k (nwF ts k) = (ts.getD (nwF ts k) ([], [])).1[k] := by
        unfold gk
        rw [List.getD_eq_getElem?_getD (l := (ts.getD (nwF ts k) ([], [])).1), List.getElem?_eq_getElem lk, Option.getD_some]
      rw [e] at hQ
      refine ⟨trivial, trivial, trivial, fun _ => ?_⟩
      by_cases c : (k : Int) ∈ pl
      · rw [if_pos c] at hQ
        simp only [c, decide_true, if_true]
        exact hQ
      · rw [if_neg c] at hQ
        simp only [c, decide_false, Bool.false_eq_true, if_false]
        exact hQ
    · rw [filter_true]
      have ec : T.tup ((List.range n).map fun k : Nat => T.int (gk ts k (nwF ts k) + (if (k : Int) ∈ pl then 1 else 0))) = encI (clockM n pl ts) := by
        unfold encI clockM
        rw [List.map_map]
        rfl
      rw [wp_lcFinF, wp_tuple_l, ec, wps_seq]
      simp only [wps_set, List.set_cons_zero, List.set_cons_succ, wp_eCall, wp_eCons, wp_eNil, wp_eLc, wp_eRange, wp_eVar, List.getElem?_cons_zero, List.getElem?_cons_succ]
      rw [wp_range1 (by omega) (by omega), Int.toNat_natCast]
      dsimp only
      refine wp_lc_pure (enc := fun k : Nat => T.int (k : Int)) (cb := fun _ => true) (f := fun k : Nat => encI (if (k : Int) ∈ pl then clockM n pl ts else ((ts.getD (nwF ts k) ([], [])).2).getD k [])) _ trivial (fun k hk Q hQ => ?_) _ ?_
      · rw [List.mem_range] at hk
        simp only [wp_tgName, wipeT, List.foldl, List.set_cons_zero, List.set_cons_succ, wp_yes, wp_eIf, wp_eB, wp_eBin, wp_eVar, wp_eCall, wp_eCons, wp_eNil, wp_eC, List.getElem?_cons_zero, List.getElem?_cons_succ]
        rw [mem_i, wp_tB1]
        refine ⟨trivial, trivial, trivial, fun _ => ?_⟩
        by_cases c : (k : Int) ∈ pl
        · rw [if_pos c] at hQ
          rw [if_pos (decide_eq_true c)]
          exact hQ
        · rw [if_neg c] at hQ
          rw [if_neg (by simpa using c)]
          have lk : k < (ts.getD (nwF ts k) ([], [])).2.length := by rw [gd k hk, (ok k hk).l2]; exact hk
          rw [ix_l (by rw [List.length_range]; exact hk), List.getElem_range, eT_1, ix_t lk]
          rw [List.getD_eq_getElem?_getD (l := (ts.getD (nwF ts k) ([], [])).2), List.getElem?_eq_getElem lk, Option.getD_some] at hQ
          exact hQ
      · rw [filter_true]
        simp only [wp_lcFinF, wps_ret, wp_eTup, wp_eCons, wp_eNil, wp_eVar, wp_eCall, List.set_cons_zero, List.set_cons_succ, List.getElem?_cons_zero, List.getElem?_cons_succ, wp_tuple_l, wp_mkTup]
        refine ⟨by show 2 ≤ sizeLine; decide, ?_⟩
        unfold encT metT
        rw [List.map_map]
        first | exact ⟨rfl, rfl⟩ | exact ⟨rfl, trivial⟩
theorem met_tables_a {A : Alph} (h : Good A) {r : Row} (hr : r ∈ A.2) {ts : List Tab} (ht : ∀ t ∈ ts, TabOk A.1.toNat t) (hl : ts.length = r.2.length) : d_met_tables [encA A, .str r.1, .tup (ts.map encT)] = ret (encT (metT A.1.toNat r.2 ts)) := by
  have h1 := h.lo
  have h2 := h.hi
  have e : A.1 = ((A.1.toNat : Nat) : Int) := by omega
  have h0 : 0 < ts.length := by
    rw [hl]
    exact List.length_pos_iff.2 (h.row r hr).2.ne
  refine eq_ret fun S => ?_
  unfold d_met_tables
  rw [wp_call3]
  show wps b_met_tables [some (encA A), some (.str r.1), some (.tup (ts.map encT)), none, none, none] S _ _ noK noK
  unfold b_met_tables
  rw [wps_seq]
  simp only [wps_drop, wp_eCall, wp_eCons, wp_eNil, wp_eVar, List.getElem?_cons_zero, require_alphabet_a h, wp_ret]
  rw [wps_seq]
  simp only [wps_drop, wp_eCall, wp_eCons, wp_eNil, wp_eVar, List.getElem?_cons_zero, List.getElem?_cons_succ, require_letter_a h (List.mem_map_of_mem hr), wp_ret]
  rw [wps_seq]
  simp only [wps_asg, wp_eCall, wp_eCons, wp_eNil, wp_eVar, wp_eTup, wp_eBin, wp_eC, List.getElem?_cons_zero, List.getElem?_cons_succ, place_in_a h hr, wp_ret, eA_0, wp_mkTup, wp_tgTup, wp_tgCons, wp_tgName, wp_tgNil, List.set_cons_zero, List.set_cons_succ]
  refine ⟨by show 2 ≤ sizeLine; decide, ?_⟩
  have il : ∀ S (Q : T → Store → Prop), wp (lenT [encI r.2]) S Q = Q (.int (r.2.length : Nat)) S := fun S Q => by
    unfold encI
    rw [wp_len_t, List.length_map]
  rw [wps_seq]
  simp only [wps_if, wp_bOr, wp_bNot, wp_eTru, wp_eB, wp_eBin, wp_eCall, wp_eCons, wp_eNil, wp_eVar, wp_eC, List.getElem?_cons_zero, List.getElem?_cons_succ, wp_isi, res_tup_, tyN_tup, isi_tuple, wp_tru_b, wp_len_t, il, wp_ne_ii, wp_tB1, List.length_map, hl, true_and]
  simp only [show isiB "tuple" "tuple" = true from rfl, Bool.not_true, Bool.false_eq_true, if_false, decide_true, wps_next]
  rw [wps_seq]
  simp only [wps_if, wp_bNot, wp_eTru, wp_eCall, wp_eCons, wp_eNil, wp_eLc, wp_eIter, wp_eVar, List.getElem?_cons_zero, List.getElem?_cons_succ, wp_iter_t]
  refine wp_lc_pure (cb := fun _ => true) (f := fun _ => T.bl true) _ trivial (fun t hm Q hQ => ?_) _ ?_
  · simp only [wp_tgName, wipeT, List.foldl, List.set_cons_zero, List.set_cons_succ, wp_yes, wp_eCall, wp_eCons, wp_eNil, wp_eVar, List.getElem?_cons_zero, List.getElem?_cons_succ]
    rw [e, is_table_t (ht t hm), wp_ret]
    exact ⟨trivial, trivial, trivial, fun _ => hQ⟩
  · rw [filter_true, wp_lcFinF, wp_all_map, wp_tru_b]
    have al : (ts.all fun _ => true) = true := List.all_eq_true.2 fun _ _ => rfl
    rw [al]
    simp only [Bool.not_true, Bool.false_eq_true, if_false, wps_next]
    simp only [wps_ret, wp_eCall, wp_eCons, wp_eNil, wp_eVar, List.getElem?_cons_zero, List.getElem?_cons_succ]
    rw [e, met_in_a (by omega) ht h0, wp_ret, Int.toNat_natCast]
    exact ⟨rfl, rfl⟩

/-! ### the law's pasts, views and tables -/
theorem low_map {α : Type} {f : α → T} {n : Nat} : ∀ {xs : List α}, (∀ x ∈ xs, lowT n (f x) = true) → lowAll n (xs.map f) = true
  | [], _ => rfl
  | x :: xs, h => by
    rw [List.map_cons, lowAll, h x (List.mem_cons_self ..), low_map fun y hy => h y (List.mem_cons_of_mem _ hy)]
    rfl
theorem fin_ref {S S' : Store} {p : Nat} {xs : List T} {Q : T → Store → Prop} (hk : Ext S S') (hp : S.length ≤ p) (a : At S' p xs) (hx : lowAll S.length xs = true) (q : Q (.lst xs) S) : fin' S Q (.ref p) S' := by
  refine ⟨⟨hk.1, fun m hm => Or.inl (hk.2 m hm)⟩, .lst xs, ?_, by rw [hk.take]; exact q⟩
  unfold frzTop
  dsimp only
  rw [if_neg (by omega), show S'[p]? = some (some (.lst xs)) from a]
  unfold frzC
  dsimp only
  rw [if_pos hx]
def encNs (V : List Nat) : T := .lst (V.map fun i : Nat => T.int (i : Int))
theorem encNs_low {V : List Nat} {n : Nat} : lowT n (encNs V) = true := low_map fun _ _ => rfl
theorem law_places_a {A : Alph} (h : Good A) : d__law_places [encA A] = ret (.dic (plcD A)) := by
  refine eq_ret fun S => ?_
  unfold d__law_places
  rw [wp_call1]
  show wps b__law_places [some (encA A), none, none] S _ _ noK noK
  unfold b__law_places
  simp only [wps_ret, wp_eCall, wp_eCons, wp_eNil, wp_eLc, wp_eIter, wp_eBin, wp_eVar, wp_eC, List.getElem?_cons_zero, eA_1, wp_iter_t]
  refine lc_rows A (fun _ => true) (fun r => T.tup [.str r.1, encI r.2]) (fun r hr Q hQ => ?_) ?_
  · simp [wipeT, hQ]
    decide
  · rw [filter_true, wp_lcFinF, wp_dictL (kf := fun r : Row => (Sum.inr r.1 : Key)) (vf := fun r => encI r.2) A.2 h.nodup rfl]
    exact ⟨rfl, rfl⟩
structure WordOk (A : Alph) (w : List Row) : Prop where
  mem : ∀ r ∈ w, r ∈ A.2
  len : w.length ≤ 30
def encW (w : List Row) : T := .tup (w.map fun r => T.str r.1)
abbrev pls (w : List Row) : List (List Int) := w.map (·.2)
theorem has_at {w : List Row} {q : Int} {i : Nat} (h : i < w.length) : has (pls w) q i = decide (q ∈ w[i].2) := by
  unfold has
  rw [List.getElem?_map, List.getElem?_eq_getElem h]
  rfl
theorem has_lt {ps : List (List Int)} {q : Int} {i : Nat} (h : has ps q i = true) : i < ps.length := by
  unfold has at h
  cases e : ps[i]? with
  | none => rw [e] at h; cases h
  | some p => exact (List.getElem?_eq_some_iff.mp e).1
def meetB (p q : List Int) : Bool := p.any fun x => decide (x ∈ q)
theorem meet_iff {w : List Row} {e i : Nat} (he : e < w.length) (hi : i < w.length) : meetB w[e].2 w[i].2 = true ↔ ∃ q, has (pls w) q e = true ∧ has (pls w) q i = true := by
  unfold meetB
  rw [List.any_eq_true]
  constructor
  · rintro ⟨x, h1, h2⟩
    exact ⟨x, by rw [has_at he]; exact decide_eq_true h1, by rw [has_at hi]; exact h2⟩
  · rintro ⟨q, h1, h2⟩
    rw [has_at he] at h1
    rw [has_at hi] at h2
    exact ⟨q, of_decide_eq_true h1, h2⟩
theorem law_meet_i (p q : List Int) : d__law_meet [encI p, encI q] = ret (.bl (meetB p q)) := by
  refine eq_ret fun S => ?_
  unfold d__law_meet
  rw [wp_call2]
  show wps b__law_meet [some (encI p), some (encI q), none] S _ _ noK noK
  unfold b__law_meet
  simp only [wps_ret, wp_eBin, wp_eLc, wp_eIter, wp_eVar, List.getElem?_cons_zero]
  unfold encI
  rw [wp_iter_t]
  refine lc_ints (cb := fun x => decide (x ∈ q)) (by show 2 < 3; decide) (fun x hx Q hQ => ?_) ?_
  · simp only [List.set_cons_zero, List.set_cons_succ, wp_eB, wp_eBin, wp_eVar, List.getElem?_cons_zero, List.getElem?_cons_succ]
    rw [show T.tup (q.map T.int) = encI q from rfl, mem_i, wp_tB1]
    exact hQ
  · simp only [wp_lcFinF, wp_eLst, wp_eNil, wp_mkLst]
    refine ⟨Nat.zero_le _, ?_⟩
    rw [wp_ne_nil rfl]
    refine ⟨?_, rfl⟩
    congr 1
    unfold meetB
    rw [Bool.eq_iff_iff]
    simp
theorem eW_i {w : List Row} {i : Nat} (h : i < w.length) {S : Store} {Q : T → Store → Prop} : wp (subT' (encW w) (.int (i : Int))) S Q = Q (.str w[i].1) S := ix_t h
theorem srt_past {ks : List Int} {ps : List (List Int)} {i : Nat} (hn : ks.Nodup) (hm : ∀ y, y ∈ ks ↔ ∃ z : Nat, y = z ∧ Bf ps z i) : srt ltI ks = (pastL ps i).map fun j : Nat => (j : Int) := by
  refine tot_int.uniq (tot_int.strict hn) ?_ fun a => ?_
  · rw [List.pairwise_map]
    exact past_up.imp fun h => decide_eq_true (by omega)
  · rw [mem_srt, hm, List.mem_map]
    exact ⟨fun ⟨z, h1, h2⟩ => ⟨z, mem_past.2 h2, h1.symm⟩, fun ⟨z, h1, h2⟩ => ⟨z, h2.symm, mem_past.1 h1⟩⟩
theorem small_len {ks : List Int} {i : Nat} (hn : ks.Nodup) (h : ∀ y ∈ ks, ∃ z : Nat, y = z ∧ z < i) : ks.length ≤ i := by
  have q := len_sub (B := (List.range i).map fun j : Nat => (j : Int)) hn fun y hy => by
    obtain ⟨z, h1, h2⟩ := h y hy
    exact List.mem_map.2 ⟨z, List.mem_range.2 h2, h1.symm⟩
  rwa [List.length_map, List.length_range] at q
/-- the events in the past of the i-th that its meetings with the newest k before it tell -/
def Near (ps : List (List Int)) (i k z : Nat) : Prop := z = i ∨ ∃ e q, i ≤ e + k ∧ e < i ∧ has ps q e = true ∧ has ps q i = true ∧ Bf ps z e
theorem near_all {ps : List (List Int)} {i z : Nat} : Near ps i i z ↔ Bf ps z i := by
  constructor
  · rintro (rfl | ⟨e, q, _, h1, h2, h3, h4⟩)
    · exact .here _
    · exact .step h4 h1 h2 h3
  · intro h
    rcases h with _ | ⟨b, h1, h2, h3⟩
    · exact Or.inl rfl
    · exact Or.inr ⟨_, _, by omega, h1, h2, h3, b⟩
theorem near_lt {ps : List (List Int)} {i k z : Nat} (h : Near ps i k z) : z < i + 1 := by
  rcases h with rfl | ⟨e, q, _, h1, _, _, h4⟩
  · omega
  · have := h4.le
    omega
noncomputable def pastsT (w : List Row) (i : Nat) : List T := (List.range i).map fun j => encNs (pastL (pls w) j)
theorem law_pasts_a {A : Alph} (h : Good A) {w : List Row} (hw : WordOk A w) : d__law_pasts [encA A, encW w] = ret (.lst (pastsT w w.length)) := by
  refine eq_ret fun S => ?_
  have wl := hw.len
  unfold d__law_pasts
  refine wp_callD2 ?_
  show wps b__law_pasts [some (encA A), some (encW w), none, none, none, none, none, none, none] S _ _ noK noK
  unfold b__law_pasts
  rw [wps_seq]
  simp only [wps_par, wp_eCall, wp_eCons, wp_eNil, wp_eVar, List.getElem?_cons_zero, law_places_a h, wp_ret, wp_eRef, wp_mkRef, List.set_cons_zero, List.set_cons_succ]
  refine ⟨by decide, ?_⟩
  rw [wps_seq, wps_for]
  simp only [wp_eRange, wp_eCons, wp_eNil, wp_eVar, List.getElem?_cons_zero, List.getElem?_cons_succ]
  unfold encW
  rw [wp_enum_t]
  refine wpl_inv (fun i τ S' => Ext S S' ∧ At S' S.length (pastsT w i) ∧ ∃ a4 a5 a6 a7 a8, τ = [some (encA A), some (encW w), some (.dic (plcD A)), some (.ref S.length), a4, a5, a6, a7, a8]) _ 0 _ _ ⟨Ext.app, At.new, none, none, none, none, none, rfl⟩ (fun _ _ _ _ => trivial) (fun i hi τ S3 hI => ?_) fun τ S3 hI => ?_
  · obtain ⟨x3, at3, a4, a5, a6, a7, a8, rfl⟩ := hI
    rw [Nat.zero_add] at at3 ⊢
    have hi' : i < w.length := by rwa [enum_len] at hi
    rw [enum_at hi hi']
    simp only [wp_tgTup, wp_tgCons, wp_tgName, wp_tgNil, List.set_cons_zero, List.set_cons_succ]
    rw [wps_seq]
    simp only [wps_set, wp_eDisp1, wp_eVar, wp_eC, List.getElem?_cons_zero, List.getElem?_cons_succ, List.set_cons_zero, List.set_cons_succ]
    rw [show keyOf (.int ((i : Nat) : Int)) = some (Sum.inl (i : Int)) from rfl, optP_some, wp_dcFinT]
    rw [wps_seq, wps_for]
    simp only [wp_eRange, wp_eCons, wp_eNil, wp_eVar, wp_eBin, wp_eC, wp_eUn, wp_neg, wp_sub_ii, List.getElem?_cons_zero, List.getElem?_cons_succ]
    rw [wp_down (by omega)]
    have lt3 := at3.lt
    refine wpl_inv (fun k τ S' => Ext S S' ∧ At S' S.length (pastsT w i) ∧ ∃ a7 a8 ks, τ = [some (encA A), some (encW w), some (.dic (plcD A)), some (.ref S.length), some (.int (i : Nat)), some (.str w[i].1), some (.ref S3.length), a7, a8] ∧ AtD S' S3.length (setD ks) ∧ ks.Nodup ∧ ∀ y, y ∈ ks ↔ ∃ z : Nat, y = z ∧ Near (pls w) i k z) _ 0 _ _
      ⟨x3.trans Ext.app, at3.app, a7, a8, [(i : Int)], rfl, AtD.new, by simp, fun y => ?_⟩ (fun _ _ _ _ => trivial) (fun k hk τ S4 hI => ?_) fun τ S4 hI => ?_
    · rw [List.mem_singleton]
      constructor
      · rintro rfl
        exact ⟨i, rfl, Or.inl rfl⟩
      · rintro ⟨z, rfl, rfl | ⟨e, q, h1, h2, _⟩⟩
        · rfl
        · omega
    · obtain ⟨x4, at4, a7, a8, ks, rfl, ad4, nd4, hm4⟩ := hI
      rw [Nat.zero_add] at hm4 ⊢
      rw [List.length_map, List.length_range] at hk
      obtain ⟨e, he⟩ : ∃ e, e = i - 1 - k := ⟨_, rfl⟩
      have ei : e < i := by omega
      have ew : e < w.length := by omega
      have ee : (i : Int) - 1 - (k : Int) = (e : Int) := by omega
      rw [List.getElem_map, List.getElem_range, ee]
      simp only [wp_tgName, List.set_cons_zero, List.set_cons_succ, wps_if, wp_bAnd, wp_eB, wp_eBin, wp_eVar, List.getElem?_cons_zero, List.getElem?_cons_succ]
      rw [wp_inD ad4, wp_tB1]
      have keep : (∀ z, Near (pls w) i (k + 1) z → Near (pls w) i k z) → ∀ a7 a8, Ext S S4 ∧ At S4 S.length (pastsT w i) ∧ ∃ b7 b8 ks, [some (encA A), some (encW w), some (.dic (plcD A)), some (.ref S.length), some (.int (i : Nat)), some (.str w[i].1), some (.ref S3.length), a7, a8] = [some (encA A), some (encW w), some (.dic (plcD A)), some (.ref S.length), some (.int (i : Nat)), some (.str w[i].1), some (.ref S3.length), b7, b8] ∧ AtD S4 S3.length (setD ks) ∧ ks.Nodup ∧ ∀ y, y ∈ ks ↔ ∃ z : Nat, y = z ∧ Near (pls w) i (k + 1) z := fun hh a7 a8 =>
        ⟨x4, at4, a7, a8, ks, rfl, ad4, nd4, fun y => (hm4 y).trans ⟨fun ⟨z, h1, h2⟩ => ⟨z, h1, h2.imp id fun ⟨e, q, g1, g2⟩ => ⟨e, q, by omega, g2⟩⟩, fun ⟨z, h1, h2⟩ => ⟨z, h1, hh z h2⟩⟩⟩
      by_cases c1 : (e : Int) ∈ ks
      · rw [decide_eq_true c1]
        simp only [Bool.true_xor, Bool.not_true, Bool.false_eq_true, if_false, wps_next]
        refine keep (fun z hz => ?_) _ _
        rcases hz with rfl | ⟨e', q, g1, g2, g3, g4, g5⟩
        · exact Or.inl rfl
        · by_cases ce : e' = e
          · obtain ⟨z', h1, h2⟩ := (hm4 _).1 c1
            have : z' = e := by omega
            subst this
            rw [ce] at g5
            rcases h2 with h2 | ⟨e2, q2, f1, f2, f3, f4, f5⟩
            · omega
            · exact Or.inr ⟨e2, q2, f1, f2, f3, f4, g5.trans f5⟩
          · exact Or.inr ⟨e', q, by omega, g2, g3, g4, g5⟩
      · rw [decide_eq_false c1]
        simp only [Bool.true_xor, Bool.not_false, if_true, wp_eTru, wp_eCall, wp_eCons, wp_eNil, wp_eBin, wp_eVar, List.getElem?_cons_zero, List.getElem?_cons_succ]
        rw [eW_i ew, plc_ix h (hw.mem _ (List.getElem_mem ew)), plc_ix h (hw.mem _ (List.getElem_mem hi')), law_meet_i, wp_ret, wp_tru_b]
        by_cases c2 : meetB w[e].2 w[i].2 = true
        · rw [if_pos c2, wps_for]
          obtain ⟨q0, m1, m2⟩ := (meet_iff ew hi').1 c2
          simp only [wp_eIter, wp_eBin, wp_eVar, List.getElem?_cons_zero, List.getElem?_cons_succ]
          rw [ix_r (f := fun j => encNs (pastL (pls w) j)) at4 (by rw [List.length_range]; exact ei), List.getElem_range]
          unfold encNs
          rw [wp_iter_l]
          refine wpl_inv (fun t τ S' => Ext S S' ∧ At S' S.length (pastsT w i) ∧ ∃ a8 ks', τ = [some (encA A), some (encW w), some (.dic (plcD A)), some (.ref S.length), some (.int (i : Nat)), some (.str w[i].1), some (.ref S3.length), some (.int (e : Nat)), a8] ∧ AtD S' S3.length (setD ks') ∧ ks'.Nodup ∧ ∀ y, y ∈ ks' ↔ y ∈ ks ∨ ∃ z : Nat, y = z ∧ z ∈ (pastL (pls w) e).take t) _ 0 _ _
            ⟨x4, at4, a8, ks, rfl, ad4, nd4, fun y => by simp⟩ (fun _ _ _ _ => trivial) (fun t ht τ S5 hI => ?_) fun τ S5 hI => ?_
          · obtain ⟨x5, at5, a8, ks', rfl, ad5, nd5, hm5⟩ := hI
            rw [Nat.zero_add] at hm5 ⊢
            rw [List.length_map] at ht
            have lt5 : ks'.length ≤ i + 1 := small_len nd5 fun y hy => by
              rcases (hm5 y).1 hy with hy | ⟨z, h1, h2⟩
              · obtain ⟨z, h1, h2⟩ := (hm4 y).1 hy
                exact ⟨z, h1, near_lt h2⟩
              · have := (mem_past.1 (List.mem_of_mem_take h2)).le
                exact ⟨z, h1, by omega⟩
            rw [List.getElem_map]
            simp only [wp_tgName, List.set_cons_zero, List.set_cons_succ, wps_asg, wp_eC, wp_tgSub, wp_eVar, List.getElem?_cons_zero, List.getElem?_cons_succ]
            rw [wp_put ad5 (by rw [sizeLine_eq]; omega)]
            refine ⟨x5.set (by omega), at5.ne (by omega), _, _, rfl, ad5.set, addI_nodup nd5, fun y => ?_⟩
            rw [mem_addI, hm5, List.take_succ_eq_append_getElem ht]
            constructor
            · rintro ((h1 | ⟨z, h1, h2⟩) | h1)
              · exact Or.inl h1
              · exact Or.inr ⟨z, h1, List.mem_append.2 (Or.inl h2)⟩
              · exact Or.inr ⟨_, h1, List.mem_append.2 (Or.inr (by simp))⟩
            · rintro (h1 | ⟨z, h1, h2⟩)
              · exact Or.inl (Or.inl h1)
              · rcases List.mem_append.1 h2 with h2 | h2
                · exact Or.inl (Or.inr ⟨z, h1, h2⟩)
                · rw [List.mem_singleton] at h2
                  exact Or.inr (by rw [h1, h2])
          · obtain ⟨x5, at5, a8, ks', rfl, ad5, nd5, hm5⟩ := hI
            rw [Nat.zero_add, List.length_map, List.take_length] at hm5
            refine ⟨x5, at5, _, _, ks', rfl, ad5, nd5, fun y => ?_⟩
            rw [hm5, hm4]
            constructor
            · rintro (⟨z, h1, h2⟩ | ⟨z, h1, h2⟩)
              · exact ⟨z, h1, h2.imp id fun ⟨e, q, g1, g2⟩ => ⟨e, q, by omega, g2⟩⟩
              · exact ⟨z, h1, Or.inr ⟨e, q0, by omega, ei, m1, m2, mem_past.1 h2⟩⟩
            · rintro ⟨z, h1, rfl | ⟨e', q, g1, g2, g3, g4, g5⟩⟩
              · exact Or.inl ⟨_, h1, Or.inl rfl⟩
              · by_cases ce : e' = e
                · exact Or.inr ⟨z, h1, mem_past.2 (ce ▸ g5)⟩
                · exact Or.inl ⟨z, h1, Or.inr ⟨e', q, by omega, g2, g3, g4, g5⟩⟩
        · rw [if_neg c2]
          refine keep (fun z hz => ?_) _ _
          rcases hz with rfl | ⟨e', q, g1, g2, g3, g4, g5⟩
          · exact Or.inl rfl
          · by_cases ce : e' = e
            · rw [ce] at g3
              exact absurd ((meet_iff ew hi').2 ⟨q, g3, g4⟩) c2
            · exact Or.inr ⟨e', q, by omega, g2, g3, g4, g5⟩
    · obtain ⟨x4, at4, a7, a8, ks, rfl, ad4, nd4, hm4⟩ := hI
      rw [Nat.zero_add, List.length_map, List.length_range] at hm4
      have hm : ∀ y, y ∈ ks ↔ ∃ z : Nat, y = z ∧ Bf (pls w) z i := fun y => (hm4 y).trans ⟨fun ⟨z, h1, h2⟩ => ⟨z, h1, near_all.1 h2⟩, fun ⟨z, h1, h2⟩ => ⟨z, h1, near_all.2 h2⟩⟩
      have ln : ks.length ≤ i + 1 := small_len nd4 fun y hy => by
        obtain ⟨z, h1, h2⟩ := (hm y).1 hy
        have := h2.le
        exact ⟨z, h1, by omega⟩
      simp only [wps_drop, wp_eMth, wp_eVar, wp_eCall, wp_eCons, wp_eNil, List.getElem?_cons_zero, List.getElem?_cons_succ]
      refine ⟨ty_ref at4, ?_⟩
      rw [wp_sortD ad4 (by omega), srt_past nd4 hm, wp_append at4]
      refine ⟨by unfold pastsT; rw [List.length_map, List.length_range, sizeLine_eq]; omega, x4.set (Nat.le_refl _), ?_, _, _, _, _, _, rfl⟩
      have e : pastsT w i ++ [T.lst (((pastL (pls w) i).map fun j : Nat => (j : Int)).map T.int)] = pastsT w (i + 1) := by
        unfold pastsT
        rw [List.range_succ, List.map_append, List.map_map]
        rfl
      rw [e]
      exact at4.set
  · obtain ⟨x3, at3, a4, a5, a6, a7, a8, rfl⟩ := hI
    rw [enum_len, Nat.zero_add] at at3
    simp only [wps_ret, wp_eVar, List.getElem?_cons_zero, List.getElem?_cons_succ]
    exact fin_ref x3 (Nat.le_refl _) at3 (low_map fun _ _ => encNs_low) ⟨rfl, rfl⟩

/-! ### last, view, counts, table -/
def encO (o : Option Nat) : T := match o with
  | none => .non
  | some i => .int (i : Int)
theorem nat_ints (V : List Nat) : (V.map fun i : Nat => T.int (i : Int)) = (V.map fun i : Nat => (i : Int)).map T.int := by rw [List.map_map]; rfl
theorem max_last {F : List Nat} {l : Nat} (hp : F.Pairwise (· < ·)) (h : F.getLast? = some l) : maxI (F.map fun i : Nat => (i : Int)) = l := by
  have hl := List.mem_of_getLast? h
  have m := maxI_mem (ns := F.map fun i : Nat => (i : Int)) fun z => by
    rw [List.map_eq_nil_iff] at z
    rw [z] at hl
    cases hl
  obtain ⟨z, hz, e⟩ := List.mem_map.1 m.1
  have h1 := m.2 (l : Int) (List.mem_map.2 ⟨l, hl, rfl⟩)
  obtain ⟨ys, ey⟩ := List.getLast?_eq_some_iff.1 h
  have : z ≤ l := by
    rw [ey] at hz hp
    rcases List.mem_append.1 hz with hz | hz
    · exact Nat.le_of_lt ((List.pairwise_append.1 hp).2.2 z hz l (by simp))
    · rw [List.mem_singleton] at hz
      omega
  rw [← e] at h1 ⊢
  omega
theorem law_last_a {A : Alph} (h : Good A) {w : List Row} (hw : WordOk A w) {V : List Nat} (hv : V.Pairwise (· < ·)) (hl : ∀ j ∈ V, j < w.length) (q : Int) : d__law_last [encA A, encW w, .int q, encNs V] = ret (encO (lastIn (pls w) V q)) := by
  refine eq_ret fun S => ?_
  unfold d__law_last
  rw [wp_call4]
  show wps b__law_last [some (encA A), some (encW w), some (.int q), some (encNs V), none, none, none] S _ _ noK noK
  unfold b__law_last
  rw [wps_seq]
  simp only [wps_set, wp_eCall, wp_eCons, wp_eNil, wp_eVar, List.getElem?_cons_zero, law_places_a h, wp_ret, List.set_cons_zero, List.set_cons_succ]
  rw [wps_seq]
  simp only [wps_set, wp_eLc, wp_eIter, wp_eVar, List.getElem?_cons_zero, List.getElem?_cons_succ]
  unfold encNs
  rw [wp_iter_l]
  refine wp_lc_pure (enc := fun i : Nat => T.int (i : Int)) (cb := has (pls w) q) (f := fun i : Nat => T.int (i : Int)) V trivial (fun j hj Q hQ => ?_) _ ?_
  · have jl := hl j hj
    simp only [wp_tgName, wipeT, List.foldl, List.set_cons_zero, List.set_cons_succ, wp_eB, wp_eBin, wp_eVar, List.getElem?_cons_zero, List.getElem?_cons_succ]
    rw [eW_i jl, plc_ix h (hw.mem _ (List.getElem_mem jl)), mem_i, wp_tB1, has_at jl]
    exact ⟨by trivial, by trivial, by trivial, fun _ => hQ⟩
  · rw [wp_lcFinF]
    simp only [wps_ret, wp_eIf, wp_eB, wp_eBin, wp_eLst, wp_eNil, wp_mkLst, wp_eVar, wp_eCall, wp_eCons, wp_eC, List.getElem?_cons_zero, List.getElem?_cons_succ, List.set_cons_zero, List.set_cons_succ]
    refine ⟨Nat.zero_le _, ?_⟩
    rw [nat_ints, wp_ne_nil rfl, wp_tB1]
    unfold lastIn
    cases e : (V.filter (has (pls w) q)).getLast? with
    | none =>
      rw [List.getLast?_eq_none_iff.1 e]
      exact ⟨rfl, rfl⟩
    | some l =>
      have ne : (V.filter (has (pls w) q)).map (fun i : Nat => (i : Int)) ≠ [] := fun z => by
        rw [List.map_eq_nil_iff] at z
        rw [z] at e
        cases e
      rw [decide_eq_false ne]
      simp only [Bool.not_false, if_true]
      rw [wp_max1 rfl ne, max_last (List.Pairwise.sublist List.filter_sublist hv) e]
      exact ⟨rfl, rfl⟩
theorem pastO_ok {w : List Row} {V : List Nat} {q : Int} (hl : ∀ j ∈ V, j < w.length) {τ : Slots} {a : Slots → M T} {k : Nat} (hp : ∀ S (Q : T → Store → Prop), wp (a τ) S Q = Q (.lst (pastsT w w.length)) S) (hk : τ[k]? = some (some (encO (lastIn (pls w) V q)))) (hv : V.Pairwise (· < ·)) {S : Store} {Q : T → Store → Prop}
    (h : Q (encNs (pastO (pls w) (lastIn (pls w) V q))) S) : wp (eIf (eB (eBin isNotT (eVar k) (eC .non))) (eBin subT' a (eVar k)) (eLst eNil) τ) S Q := by
  simp only [wp_eIf, wp_eB, wp_eBin, wp_eVar, wp_eC, hk, wp_isNot, wp_tB1, hp]
  cases e : lastIn (pls w) V q with
  | none =>
    rw [e] at h
    simp only [encO, Fw.isNon, Bool.not_true, Bool.false_eq_true, if_false, wp_eLst, wp_eNil, wp_mkLst]
    exact ⟨Nat.zero_le _, h⟩
  | some l =>
    rw [e] at h
    have ll := hl l (last_some hv e).1
    simp only [encO, Fw.isNon, Bool.not_false, if_true]
    unfold pastsT
    rw [ix_l (by rw [List.length_range]; exact ll), List.getElem_range]
    exact h
theorem law_view_a {A : Alph} (h : Good A) {w : List Row} (hw : WordOk A w) (p : Int) : d__law_view [encA A, encW w, .tup [.int p]] = ret (encNs (viewL (pls w) w.length p)) := by
  refine eq_ret fun S => ?_
  have wl := hw.len
  have rl : ∀ j ∈ List.range w.length, j < w.length := fun j hj => List.mem_range.1 hj
  have ll : ∀ S (Q : T → Store → Prop), wp (lenT [encW w]) S Q = Q (.int (w.length : Nat)) S := fun S Q => by
    unfold encW
    rw [wp_len_t, List.length_map]
  obtain ⟨V, hV⟩ : ∃ V, V = viewL (pls w) w.length p := ⟨_, rfl⟩
  have vl : ∀ z ∈ V, z < w.length := fun z hz => view_lt (hV ▸ hz)
  rw [← hV]
  unfold d__law_view
  refine wp_callD3 ?_
  show wps b__law_view [some (encA A), some (encW w), some (.tup [.int p]), none, none, none, none, none] S _ _ noK noK
  unfold b__law_view
  rw [wps_seq]
  simp only [wps_par, wp_eCall, wp_eCons, wp_eNil, wp_eVar, List.getElem?_cons_zero, List.getElem?_cons_succ, law_pasts_a h hw, wp_ret, wp_eDic0, wp_dcFinT, List.set_cons_zero, List.set_cons_succ]
  rw [wps_seq, wps_for]
  simp only [wp_eIter, wp_eVar, List.getElem?_cons_zero, List.getElem?_cons_succ, wp_iter_t]
  refine wpl_inv (fun i τ S' => Ext S S' ∧ ∃ a5 a6 a7 ks, τ = [some (encA A), some (encW w), some (.tup [.int p]), some (.lst (pastsT w w.length)), some (.ref S.length), a5, a6, a7] ∧ AtD S' S.length (setD ks) ∧ ks.Nodup ∧ ∀ y, y ∈ ks ↔ ∃ z : Nat, y = z ∧ i ≠ 0 ∧ z ∈ V) _ 0 _ _
    ⟨Ext.app, none, none, none, [], rfl, AtD.new, by simp, fun y => by simp⟩ (fun _ _ _ _ => trivial) (fun i hi τ S3 hI => ?_) fun τ S3 hI => ?_
  · obtain ⟨x3, a5, a6, a7, ks0, e, ad3, nd3, hm3⟩ := hI
    subst e
    have i0 : i = 0 := by simpa using hi
    subst i0
    rw [List.getElem_cons_zero]
    simp only [wp_tgName, List.set_cons_zero, List.set_cons_succ]
    rw [wps_seq]
    simp only [wps_set, wp_eCall, wp_eCons, wp_eNil, wp_eVar, wp_eUn, List.getElem?_cons_zero, List.getElem?_cons_succ, ll]
    rw [wp_listRg1 (by omega), show (T.lst ((List.range w.length).map fun k : Nat => T.int (k : Int))) = encNs (List.range w.length) from rfl, law_last_a h hw List.pairwise_lt_range rl, wp_ret]
    simp only [List.set_cons_zero, List.set_cons_succ]
    rw [wps_for, wp_eIter]
    refine pastO_ok (w := w) (V := List.range w.length) (q := p) rl (a := eVar 3) (fun _ _ => by rw [wp_eVar]; rfl) rfl List.pairwise_lt_range ?_
    rw [show pastO (pls w) (lastIn (pls w) (List.range w.length) p) = viewL (pls w) w.length p from rfl, ← hV]
    unfold encNs
    rw [wp_iter_l]
    refine wpl_inv (fun t τ S' => Ext S S' ∧ ∃ a7 ks, τ = [some (encA A), some (encW w), some (.tup [.int p]), some (.lst (pastsT w w.length)), some (.ref S.length), some (.int p), some (encO (lastIn (pls w) (List.range w.length) p)), a7] ∧ AtD S' S.length (setD ks) ∧ ks.Nodup ∧ ∀ y, y ∈ ks ↔ ∃ z : Nat, y = z ∧ z ∈ V.take t) _ 0 _ _
      ⟨x3, a7, ks0, rfl, ad3, nd3, fun y => (hm3 y).trans ⟨fun ⟨_, _, h, _⟩ => absurd rfl h, fun ⟨_, _, h⟩ => by simp at h⟩⟩ (fun _ _ _ _ => trivial) (fun t ht τ S5 hI => ?_) fun τ S5 hI => ?_
    · obtain ⟨x5, a7, ks, rfl, ad5, nd5, hm5⟩ := hI
      rw [Nat.zero_add] at hm5 ⊢
      rw [List.length_map] at ht
      have lt5 : ks.length ≤ w.length := small_len nd5 fun y hy => by
        obtain ⟨z, h1, h2⟩ := (hm5 y).1 hy
        exact ⟨z, h1, vl z (List.mem_of_mem_take h2)⟩
      rw [List.getElem_map]
      simp only [wp_tgName, List.set_cons_zero, List.set_cons_succ, wps_asg, wp_eC, wp_tgSub, wp_eVar, List.getElem?_cons_zero, List.getElem?_cons_succ]
      rw [wp_put ad5 (by rw [sizeLine_eq]; omega)]
      refine ⟨x5.set (Nat.le_refl _), _, _, rfl, ad5.set, addI_nodup nd5, fun y => ?_⟩
      rw [mem_addI, hm5, List.take_succ_eq_append_getElem ht]
      constructor
      · rintro (⟨z, h1, h2⟩ | h1)
        · exact ⟨z, h1, List.mem_append.2 (Or.inl h2)⟩
        · exact ⟨_, h1, List.mem_append.2 (Or.inr (by simp))⟩
      · rintro ⟨z, h1, h2⟩
        rcases List.mem_append.1 h2 with h2 | h2
        · exact Or.inl ⟨z, h1, h2⟩
        · rw [List.mem_singleton] at h2
          exact Or.inr (by rw [h1, h2])
    · obtain ⟨x5, a7, ks, rfl, ad5, nd5, hm5⟩ := hI
      rw [Nat.zero_add, List.length_map, List.take_length] at hm5
      exact ⟨x5, _, _, _, ks, rfl, ad5, nd5, fun y => (hm5 y).trans ⟨fun ⟨z, h1, h2⟩ => ⟨z, h1, by omega, h2⟩, fun ⟨z, h1, _, h2⟩ => ⟨z, h1, h2⟩⟩⟩
  · obtain ⟨x5, a5, a6, a7, ks, rfl, ad5, nd5, hm5⟩ := hI
    have hm6 : ∀ y, y ∈ ks ↔ ∃ z : Nat, y = z ∧ z ∈ V := fun y => (hm5 y).trans ⟨fun ⟨z, h1, _, h2⟩ => ⟨z, h1, h2⟩, fun ⟨z, h1, h2⟩ => ⟨z, h1, by simp, h2⟩⟩
    have lt5 : ks.length ≤ w.length := small_len nd5 fun y hy => by
      obtain ⟨z, h1, h2⟩ := (hm6 y).1 hy
      exact ⟨z, h1, vl z h2⟩
    simp only [wps_ret, wp_eVar, wp_eCall, wp_eCons, wp_eNil, List.getElem?_cons_zero, List.getElem?_cons_succ]
    rw [wp_sortD ad5 (by omega)]
    have e : srt ltI ks = V.map fun j : Nat => (j : Int) := by
      refine tot_int.uniq (tot_int.strict nd5) ?_ fun a => ?_
      · rw [List.pairwise_map]
        exact (hV ▸ view_up : V.Pairwise (· < ·)).imp fun h => decide_eq_true (by omega)
      · rw [mem_srt, hm6, List.mem_map]
        exact ⟨fun ⟨z, h1, h2⟩ => ⟨z, h2, h1.symm⟩, fun ⟨z, h1, h2⟩ => ⟨z, h2.symm, h1⟩⟩
    rw [e, ← nat_ints]
    exact fin_ext (t := encNs V) x5 encNs_low (fun m z => by cases z) ⟨rfl, rfl⟩
/-! counts -/
def fl (n : Int) (f : Int → Int) : List Int := (upto n).map f
theorem upto_len {n : Int} : (upto n).length = n.toNat := by unfold upto; rw [List.length_map, List.length_range]
theorem fl_len {n : Int} {f : Int → Int} : (fl n f).length = n.toNat := by unfold fl; rw [List.length_map, upto_len]
theorem fl_get {n : Int} {f : Int → Int} {k : Nat} (h : k < (fl n f).length) : (fl n f)[k] = f (k : Int) := by
  simp [fl, upto]
theorem fl_set {n : Int} {f : Int → Int} {k : Nat} {v : Int} : (fl n f).set k v = fl n fun q => if q = (k : Int) then v else f q := by
  refine List.ext_getElem (by rw [List.length_set, fl_len, fl_len]) fun i h1 h2 => ?_
  rw [fl_get, List.getElem_set]
  rw [List.length_set] at h1
  split
  · rename_i e
    rw [if_pos (by rw [e])]
  · rename_i e
    rw [fl_get, if_neg (by omega)]
theorem ixN_n {n k : Nat} (h : k < n) : L2.ixN n (k : Int) = some k := by
  unfold L2.ixN
  rw [if_pos (by omega), if_pos (by omega)]
  simp
theorem law_counts_a {A : Alph} (h : Good A) {w : List Row} (hw : WordOk A w) {V : List Nat} (hl : ∀ j ∈ V, j < w.length) : d__law_counts [encA A, encW w, encNs V] = ret (encI (clkL A.1 (pls w) V)) := by
  refine eq_ret fun S => ?_
  have h1 := h.lo
  have h2 := h.hi
  have eN : A.1 = ((A.1.toNat : Nat) : Int) := by omega
  unfold d__law_counts
  refine wp_callD3 ?_
  show wps b__law_counts [some (encA A), some (encW w), some (encNs V), none, none, none, none] S _ _ noK noK
  unfold b__law_counts
  rw [wps_seq]
  simp only [wps_set, wp_eCall, wp_eCons, wp_eNil, wp_eVar, List.getElem?_cons_zero, law_places_a h, wp_ret, List.set_cons_zero, List.set_cons_succ]
  rw [wps_seq]
  simp only [wps_set, wp_eBin, wp_eLst, wp_eCons, wp_eNil, wp_eC, wp_mkLst, wp_eVar, List.getElem?_cons_zero, eA_0]
  refine ⟨by show 1 ≤ sizeLine; decide, ?_⟩
  rw [show T.int A.1 = T.int ((A.1.toNat : Nat) : Int) from congrArg T.int eN, wp_mulR1 (by omega)]
  simp only [List.set_cons_zero, List.set_cons_succ]
  have z0 : (List.replicate A.1.toNat (T.int 0)) = (fl A.1 fun q => (cnt (pls w) (V.take 0) q : Int)).map T.int := by
    unfold fl upto
    rw [List.map_map, List.map_map]
    refine (List.eq_replicate_iff.2 ⟨by rw [List.length_map, List.length_range], fun t ht => ?_⟩).symm
    obtain ⟨k, _, rfl⟩ := List.mem_map.1 ht
    rfl
  rw [z0]
  rw [wps_seq, wps_for]
  simp only [wp_eIter, wp_eVar, List.getElem?_cons_zero, List.getElem?_cons_succ]
  rw [show encNs V = T.lst (V.map fun i : Nat => T.int (i : Int)) from rfl, wp_iter_l]
  refine wpl_inv (fun i τ S' => Ext S S' ∧ At S' S.length ((fl A.1 fun q => (cnt (pls w) (V.take i) q : Int)).map T.int) ∧ ∃ a5 a6, τ = [some (encA A), some (encW w), some (encNs V), some (.dic (plcD A)), some (.ref S.length), a5, a6]) _ 0 _ _
    ⟨Ext.app, At.new, none, none, rfl⟩ (fun _ _ _ _ => trivial) (fun i hi τ S3 hI => ?_) fun τ S3 hI => ?_
  · obtain ⟨x3, at3, a5, a6, rfl⟩ := hI
    rw [Nat.zero_add] at at3 ⊢
    rw [List.length_map] at hi
    have il := hl _ (List.getElem_mem hi)
    have pl := (h.row _ (hw.mem _ (List.getElem_mem il))).2
    rw [List.getElem_map]
    simp only [wp_tgName, List.set_cons_zero, List.set_cons_succ]
    rw [wps_for]
    simp only [wp_eIter, wp_eBin, wp_eVar, List.getElem?_cons_zero, List.getElem?_cons_succ]
    rw [eW_i il, plc_ix h (hw.mem _ (List.getElem_mem il))]
    rw [show encI w[V[i]].2 = T.tup (w[V[i]].2.map T.int) from rfl, wp_iter_t]
    refine wpl_inv (fun j τ S' => Ext S S' ∧ At S' S.length ((fl A.1 fun q => (cnt (pls w) (V.take i) q : Int) + (if q ∈ w[V[i]].2.take j then 1 else 0)).map T.int) ∧ ∃ a6, τ = [some (encA A), some (encW w), some (encNs V), some (.dic (plcD A)), some (.ref S.length), some (.int (V[i] : Nat)), a6]) _ 0 _ _
      ⟨x3, by simpa using at3, a6, rfl⟩ (fun _ _ _ _ => trivial) (fun j hj τ S4 hI => ?_) fun τ S4 hI => ?_
    · obtain ⟨x4, at4, a6, rfl⟩ := hI
      rw [Nat.zero_add] at at4 ⊢
      rw [List.length_map] at hj
      rw [List.getElem_map]
      have inn := pl.inn _ (List.getElem_mem hj)
      obtain ⟨k, hk⟩ : ∃ k : Nat, (k : Int) = w[V[i]].2[j] := ⟨w[V[i]].2[j].toNat, by omega⟩
      rw [← hk]
      have kn : k < A.1.toNat := by omega
      have nin : (k : Int) ∉ w[V[i]].2.take j := fun z => by
        obtain ⟨m, hm, em⟩ := List.getElem_of_mem z
        rw [List.length_take] at hm
        rw [List.getElem_take, hk] at em
        have := List.pairwise_iff_getElem.1 pl.up m j (by omega) hj (by omega)
        omega
      have kl : ∀ f : Int → Int, k < (fl A.1 f).length := fun f => by rw [fl_len]; exact kn
      simp only [wp_tgName, List.set_cons_zero, List.set_cons_succ, wps_asg, wp_tgSub, wp_eBin, wp_eC, wp_eVar, List.getElem?_cons_zero, List.getElem?_cons_succ]
      rw [ix_r at4 (kl _), fl_get, if_neg nin, wp_add_ii, wp_setT at4 (ixN_n (by rw [List.length_map]; exact kl _))]
      refine ⟨x4.set (Nat.le_refl _), ?_, _, rfl⟩
      rw [← List.map_set, fl_set]
      have e : (fl A.1 fun q => if q = (k : Int) then (cnt (pls w) (V.take i) (k : Int) : Int) + 0 + 1 else (cnt (pls w) (V.take i) q : Int) + (if q ∈ w[V[i]].2.take j then 1 else 0)) = fl A.1 fun q => (cnt (pls w) (V.take i) q : Int) + (if q ∈ w[V[i]].2.take (j + 1) then 1 else 0) := by
        unfold fl
        refine List.map_congr_left fun q _ => ?_
        rw [List.take_succ_eq_append_getElem hj, ← hk]
        by_cases c : q = (k : Int)
        · rw [if_pos c, c, if_pos (by simp)]
          omega
        · rw [if_neg c]
          congr 1
          by_cases c2 : q ∈ w[V[i]].2.take j
          · rw [if_pos c2, if_pos (List.mem_append.2 (Or.inl c2))]
          · rw [if_neg c2, if_neg fun z => (List.mem_append.1 z).elim c2 fun z => c (List.mem_singleton.1 z)]
      rw [e]
      exact at4.set
    · obtain ⟨x4, at4, a6, rfl⟩ := hI
      rw [Nat.zero_add, List.length_map, List.take_length] at at4
      refine ⟨x4, ?_, _, _, rfl⟩
      have e : (fl A.1 fun q => (cnt (pls w) (V.take i) q : Int) + (if q ∈ w[V[i]].2 then 1 else 0)) = fl A.1 fun q => (cnt (pls w) (V.take (i + 1)) q : Int) := by
        unfold fl
        refine List.map_congr_left fun q _ => ?_
        unfold cnt
        rw [List.take_succ_eq_append_getElem hi, List.filter_append, List.length_append, Int.natCast_add]
        congr 1
        by_cases c : q ∈ w[V[i]].2
        · rw [if_pos c, List.filter_cons_of_pos (by rw [has_at il]; exact decide_eq_true c)]
          rfl
        · rw [if_neg c, List.filter_cons_of_neg (by rw [has_at il]; simpa using c)]
          rfl
      rw [← e]
      exact at4
  · obtain ⟨x3, at3, a5, a6, rfl⟩ := hI
    rw [Nat.zero_add, List.length_map, List.take_length] at at3
    simp only [wps_ret, wp_eCall, wp_eCons, wp_eNil, wp_eVar, List.getElem?_cons_zero, List.getElem?_cons_succ]
    rw [wp_tuple_r (res_ref at3)]
    exact fin_ext (t := encI (clkL A.1 (pls w) V)) x3 (low_map fun _ _ => rfl) (fun m z => by cases z) ⟨rfl, rfl⟩
theorem law_table_a {A : Alph} (h : Good A) {w : List Row} (hw : WordOk A w) (p : Int) : d__law_table [encA A, encW w, .int p] = ret (encT (tabL A.1 (pls w) w.length p)) := by
  refine eq_ret fun S => ?_
  have h1 := h.lo
  have h2 := h.hi
  unfold d__law_table
  refine wp_callD3 ?_
  show wps b__law_table [some (encA A), some (encW w), some (.int p), none, none, none, none, none] S _ _ noK noK
  unfold b__law_table
  rw [wps_seq]
  simp only [wps_par, wp_eCall, wp_eCons, wp_eNil, wp_eTup, wp_mkTup, wp_eVar, List.getElem?_cons_zero, List.getElem?_cons_succ, law_pasts_a h hw, wp_ret]
  refine ⟨by show 1 ≤ sizeLine; decide, ?_⟩
  rw [law_view_a h hw, wp_ret]
  simp only [List.set_cons_zero, List.set_cons_succ]
  obtain ⟨V, hV⟩ : ∃ V, V = viewL (pls w) w.length p := ⟨_, rfl⟩
  rw [← hV]
  have vl : ∀ z ∈ V, z < w.length := fun z hz => view_lt (hV ▸ hz)
  have vu : V.Pairwise (· < ·) := hV ▸ view_up
  rw [wps_seq]
  simp only [wps_set, wp_eRef, wp_eNil, wp_mkRef, List.set_cons_zero, List.set_cons_succ]
  refine ⟨by decide, ?_⟩
  rw [wps_seq, wps_for]
  simp only [wp_eRange, wp_eCons, wp_eNil, wp_eBin, wp_eC, wp_eVar, List.getElem?_cons_zero, eA_0]
  rw [wp_range1 (by omega) (by omega)]
  refine wpl_inv (fun i τ S' => Ext S S' ∧ At S' S.length ((List.range i).map fun k : Nat => encI (clkL A.1 (pls w) (pastO (pls w) (lastIn (pls w) V (k : Int))))) ∧ ∃ a6 a7, τ = [some (encA A), some (encW w), some (.int p), some (.lst (pastsT w w.length)), some (encNs V), some (.ref S.length), a6, a7]) _ 0 _ _
    ⟨Ext.app, At.new, none, none, rfl⟩ (fun _ _ _ _ => trivial) (fun i hi τ S3 hI => ?_) fun τ S3 hI => ?_
  · obtain ⟨x3, at3, a6, a7, rfl⟩ := hI
    rw [Nat.zero_add] at at3 ⊢
    rw [List.length_map, List.length_range] at hi
    rw [List.getElem_map, List.getElem_range]
    simp only [wp_tgName, List.set_cons_zero, List.set_cons_succ]
    rw [wps_seq]
    simp only [wps_set, wp_eCall, wp_eCons, wp_eNil, wp_eVar, List.getElem?_cons_zero, List.getElem?_cons_succ, law_last_a h hw vu vl, wp_ret, List.set_cons_zero, List.set_cons_succ]
    simp only [wps_drop, wp_eMth, wp_eVar, wp_eCall, wp_eCons, wp_eNil, List.getElem?_cons_zero, List.getElem?_cons_succ]
    refine ⟨ty_ref at3, pastO_ok (w := w) (V := V) (q := (i : Int)) vl (a := eVar 3) (fun _ _ => by rw [wp_eVar]; rfl) rfl vu ?_⟩
    rw [law_counts_a h hw fun j hj => pastO_lt (fun i hi => vl _ (last_some vu hi).1) hj, wp_ret, wp_append at3]
    refine ⟨by rw [List.length_map, List.length_range, sizeLine_eq]; omega, x3.set (Nat.le_refl _), ?_, _, _, rfl⟩
    rw [List.range_succ, List.map_append]
    exact at3.set
  · obtain ⟨x3, at3, a6, a7, rfl⟩ := hI
    rw [Nat.zero_add, List.length_map, List.length_range] at at3
    simp only [wps_ret, wp_eTup, wp_eCall, wp_eCons, wp_eNil, wp_eVar, List.getElem?_cons_zero, List.getElem?_cons_succ, law_counts_a h hw vl, wp_ret]
    rw [wp_tuple_r (res_ref at3), wp_mkTup]
    have e : T.tup [encI (clkL A.1 (pls w) V), T.tup ((List.range A.1.toNat).map fun k : Nat => encI (clkL A.1 (pls w) (pastO (pls w) (lastIn (pls w) V (k : Int)))))] = encT (tabL A.1 (pls w) w.length p) := by
      unfold encT tabL upto
      rw [← hV, List.map_map, List.map_map]
      rfl
    rw [e]
    refine ⟨by show 2 ≤ sizeLine; decide, fin_ext x3 ?_ (fun m z => by cases z) ⟨rfl, rfl⟩⟩
    show lowAll S.length [_, _] = true
    rw [lowAll, lowAll, lowAll]
    rw [show lowT S.length (encI (tabL A.1 (pls w) w.length p).1) = true from low_map fun _ _ => rfl, show lowT S.length (T.tup ((tabL A.1 (pls w) w.length p).2.map encI)) = true from low_map fun _ _ => low_map fun _ _ => rfl]
    rfl

/-! ### the law's own check of one alphabet and one word -/
def gl {α : Type} (n : Int) (f : Int → α) : List α := (upto n).map f
section
variable {α : Type} {n : Int} {f : Int → α} {k : Nat} {v : α}
theorem gl_len : (gl n f).length = n.toNat := by unfold gl; rw [List.length_map, upto_len]
theorem gl_get (h : k < (gl n f).length) : (gl n f)[k] = f (k : Int) := by simp [gl, upto]
theorem gl_set : (gl n f).set k v = gl n fun q => if q = (k : Int) then v else f q := by
  refine List.ext_getElem (by rw [List.length_set, gl_len, gl_len]) fun i h1 h2 => ?_
  rw [gl_get, List.getElem_set]
  rw [List.length_set] at h1
  split
  · rename_i e
    rw [if_pos (by rw [e])]
  · rename_i e
    rw [gl_get, if_neg (by omega)]
end
theorem mem_upto {n x : Int} : x ∈ upto n ↔ 0 ≤ x ∧ x < n := by
  unfold upto
  rw [List.mem_map]
  constructor
  · rintro ⟨k, h, rfl⟩
    rw [List.mem_range] at h
    omega
  · rintro ⟨h1, h2⟩
    exact ⟨x.toNat, by rw [List.mem_range]; omega, by omega⟩
theorem clk_len {n : Int} {ps : List (List Int)} {V : List Nat} : (clkL n ps V).length = n.toNat := by unfold clkL; rw [List.length_map, upto_len]
theorem clk_pos {n : Int} {ps : List (List Int)} {V : List Nat} : ∀ x ∈ clkL n ps V, 0 ≤ x := fun x hx => by
  obtain ⟨q, _, rfl⟩ := List.mem_map.1 hx
  omega
theorem tab_ok {n : Int} {ps : List (List Int)} {m : Nat} {p : Int} : TabOk n.toNat (tabL n ps m p) := by
  refine ⟨clk_len, clk_pos, by unfold tabL; rw [List.length_map, upto_len], fun c hc => ?_⟩
  obtain ⟨q, _, rfl⟩ := List.mem_map.1 hc
  exact ⟨clk_len, clk_pos⟩
theorem clk_shw {n : Int} {ps : List (List Int)} {V : List Nat} (hn : n ≤ 5) (hv : V.length ≤ 1000) : Shw (encI (clkL n ps V)) 1 165 := (ShwA.map (w := 32) 5 (fun x hx => shw_int (by
  obtain ⟨q, _, rfl⟩ := List.mem_map.1 hx
  have := cnt_le (ps := ps) (V := V) (q := q)
  omega)) (by rw [clk_len]; omega)).tup
theorem pastO_len {ps : List (List Int)} {o : Option Nat} {m : Nat} (h : ∀ i, o = some i → i < m) : (pastO ps o).length ≤ m := by
  cases o with
  | none => exact Nat.zero_le _
  | some i =>
    have := h i rfl
    have := past_len (ps := ps) (i := i)
    show (pastL ps i).length ≤ m
    omega
theorem tab_shw {n : Int} {ps : List (List Int)} {m : Nat} {p : Int} (hn : n ≤ 5) (hm : m ≤ 31) : Shw (encT (tabL n ps m p)) 3 1000 := by
  have h1 : Shw (encI (tabL n ps m p).1) 2 165 := (clk_shw hn (by have := view_len (ps := ps) (m := m) (p := p); omega)).mono (by decide) (Nat.le_refl _)
  have h2 : Shw (T.tup ((tabL n ps m p).2.map encI)) 2 830 := (ShwA.map (w := 165) 5 (fun c hc => by
    obtain ⟨q, _, rfl⟩ := List.mem_map.1 hc
    exact clk_shw hn (by have := pastO_len (ps := ps) (o := lastIn ps (viewL ps m p) q) (m := m) fun i hi => last_view_lt hi; omega)) (by rw [tab_ok.l2]; omega)).tup
  exact (ShwA.cons h1 (ShwA.cons h2 ShwA.nil)).tup.mono (by decide) (by decide)
theorem tab_zero {n : Int} {ps : List (List Int)} {p : Int} : tabL n ps 0 p = zeroT n.toNat := by
  have c0 : clkL n ps [] = List.replicate n.toNat 0 := by
    refine List.eq_replicate_iff.2 ⟨clk_len, fun x hx => ?_⟩
    obtain ⟨q, _, rfl⟩ := List.mem_map.1 hx
    rfl
  unfold tabL zeroT
  rw [show viewL ps 0 p = [] from rfl, c0]
  congr 1
  refine List.eq_replicate_iff.2 ⟨by rw [List.length_map, upto_len], fun x hx => ?_⟩
  obtain ⟨q, _, rfl⟩ := List.mem_map.1 hx
  exact c0
/-- what the package makes is the table of the pasts -/
theorem met_is {n : Int} {w : List Row} {i : Nat} (hi : i < w.length) (hp : Place n w[i].2) (hn : 0 ≤ n) {p : Int} (hm : p ∈ w[i].2) : metT n.toNat w[i].2 (w[i].2.map fun x => tabL n (pls w) i x) = tabL n (pls w) (i + 1) p := by
  obtain ⟨pl, hpl⟩ : ∃ pl, pl = w[i].2 := ⟨_, rfl⟩
  obtain ⟨ts, hts⟩ : ∃ ts, ts = pl.map fun x => tabL n (pls w) i x := ⟨_, rfl⟩
  have hasI : ∀ q, has (pls w) q i = decide (q ∈ pl) := fun q => by rw [has_at hi, hpl]
  rw [← hpl] at hp hm ⊢
  rw [← hts]
  have tl : ts.length = pl.length := by rw [hts, List.length_map]
  have t0 : 0 < ts.length := by rw [tl]; exact List.length_pos_of_mem hm
  have nl : ∀ k, nwF ts k < pl.length := fun k => by rw [← tl]; exact (nwS_lt ts.length (Nat.le_refl _) t0).1
  have te : ∀ j, (hj : j < pl.length) → ts[j]'(by rw [tl]; exact hj) = tabL n (pls w) i pl[j] := fun j hj => by simp [hts]
  have gc : ∀ k j, k < n.toNat → (hj : j < pl.length) → gk ts k j = (cnt (pls w) (viewL (pls w) i pl[j]) (k : Int) : Int) := fun k j hk hj => by
    have l1 : k < (ts[j]'(by rw [tl]; exact hj)).1.length := by rw [te j hj, tab_ok.l1]; exact hk
    rw [gk_at (by rw [tl]; exact hj) l1]
    simp only [te j hj]
    exact gl_get (f := fun q => (cnt (pls w) (viewL (pls w) i pl[j]) q : Int)) (by rw [gl_len]; exact hk)
  obtain ⟨hf, hhf⟩ : ∃ hf : Int → Int, hf = fun q => pl[nwF ts q.toNat]'(nl _) := ⟨_, rfl⟩
  have hk : ∀ k : Nat, hf (k : Int) = pl[nwF ts k]'(nl k) := fun k => by rw [hhf]; simp
  rw [tab_new (h := hf) (fun q hq => ?_) (by rw [hasI]; exact decide_eq_true hm)]
  · have ck : clockM n.toNat pl ts = clockN n (pls w) i hf := by
      unfold clockM clockN upto
      rw [List.map_map]
      refine List.map_congr_left fun k hk' => ?_
      rw [List.mem_range] at hk'
      simp only [Function.comp]
      rw [gc k _ hk' (nl k), hk, hasI]
      congr 1
      by_cases c : (k : Int) ∈ pl
      · rw [if_pos c, if_pos (decide_eq_true c)]
      · rw [if_neg c, if_neg (by simpa using c)]
    unfold metT tabN
    rw [ck]
    congr 1
    unfold upto
    rw [List.map_map]
    refine List.map_congr_left fun k hk' => ?_
    rw [List.mem_range] at hk'
    simp only [Function.comp]
    rw [hasI]
    by_cases c : (k : Int) ∈ pl
    · rw [if_pos c, if_pos (decide_eq_true c)]
    · rw [if_neg c, if_neg (by simpa using c), List.getD_eq_getElem?_getD (l := ts), List.getElem?_eq_getElem (by rw [tl]; exact nl k), Option.getD_some]
      have l2 : k < (ts[nwF ts k]'(by rw [tl]; exact nl k)).2.length := by rw [te _ (nl k), tab_ok.l2]; exact hk'
      rw [List.getD_eq_getElem?_getD, List.getElem?_eq_getElem l2, Option.getD_some]
      simp only [te _ (nl k)]
      rw [hk]
      exact gl_get (f := fun q => clkL n (pls w) (pastO (pls w) (lastIn (pls w) (viewL (pls w) i (pl[nwF ts k]'(nl k))) q))) (by rw [gl_len]; exact hk')
  · rw [mem_upto] at hq
    obtain ⟨k, rfl⟩ : ∃ k : Nat, q = k := ⟨q.toNat, by omega⟩
    refine ⟨by rw [hasI, hk]; exact decide_eq_true (List.getElem_mem _), fun p' hp' => ?_⟩
    rw [hasI] at hp'
    obtain ⟨j, hj, rfl⟩ := List.getElem_of_mem (of_decide_eq_true hp')
    have g := (nwS_lt (k := k) ts.length (Nat.le_refl _) t0).2 j (by rw [tl]; exact hj)
    rw [show nwS ts k ts.length = nwF ts k from rfl, gc k j (by omega) hj, gc k _ (by omega) (nl k)] at g
    rw [hk]
    omega
theorem wp_ne_tab {t : Tab} {S : Store} {Q : T → Store → Prop} : wp (Fw.neT (encT t) (encT t)) S Q = Q (.bl false) S := by
  have E : Enc encT (fun p : Tab => (∀ x ∈ p.1, True) ∧ ∀ c ∈ p.2, ∀ x ∈ c, True) 3 := ((Enc.tup enc_int).mono (by decide)).pair (Enc.tup (Enc.tup enc_int))
  rw [E.wp_ne (by decide) (x := t) (y := t) ⟨fun _ _ => trivial, fun _ _ _ _ => trivial⟩ ⟨fun _ _ => trivial, fun _ _ _ _ => trivial⟩]
  simp
theorem place_len {n : Int} {p : List Int} (h : Place n p) : p.length ≤ n.toNat := by
  have := len_sub (h.up.imp fun h => Int.ne_of_lt h) (B := upto n) fun x hx => mem_upto.2 (h.inn x hx)
  rwa [upto_len] at this
theorem law_right_a {A : Alph} (h : Good A) {w : List Row} (hw : WordOk A w) : d__law_right [encA A, encW w] = ret (.bl true) := by
  have h1 := h.lo
  have h2 := h.hi
  have wl := hw.len
  have eN : A.1 = ((A.1.toNat : Nat) : Int) := by omega
  refine eq_ret fun S => ?_
  unfold d__law_right
  refine wp_callD2 ?_
  show wps b__law_right [some (encA A), some (encW w), none, none, none, none, none, none, none, none] S _ _ noK noK
  unfold b__law_right
  rw [wps_seq]
  simp only [wps_set, wp_eCall, wp_eCons, wp_eNil, wp_eVar, List.getElem?_cons_zero, law_places_a h, wp_ret, List.set_cons_zero, List.set_cons_succ]
  rw [wps_seq]
  simp only [wps_set, wp_eBin, wp_eLst, wp_eCall, wp_eCons, wp_eNil, wp_eC, wp_mkLst, wp_eVar, List.getElem?_cons_zero, eA_0, first_table_a h, wp_ret]
  refine ⟨by show 1 ≤ sizeLine; decide, ?_⟩
  rw [show T.int A.1 = T.int ((A.1.toNat : Nat) : Int) from congrArg T.int eN, wp_mulR1 (by omega)]
  simp only [List.set_cons_zero, List.set_cons_succ]
  have z0 : (List.replicate A.1.toNat (encT (zeroT A.1.toNat))) = (gl A.1 fun p => tabL A.1 (pls w) 0 p).map encT := by
    unfold gl
    rw [List.map_map]
    refine (List.eq_replicate_iff.2 ⟨by rw [List.length_map, upto_len], fun t ht => ?_⟩).symm
    obtain ⟨q, _, rfl⟩ := List.mem_map.1 ht
    simp only [Function.comp, tab_zero]
  rw [z0]
  have kl : ∀ (f : Int → Tab) (k : Nat), k < A.1.toNat → k < (gl A.1 f).length := fun f k hk => by rw [gl_len]; exact hk
  rw [wps_seq, wps_for]
  simp only [wp_eRange, wp_eCons, wp_eNil, wp_eVar, List.getElem?_cons_zero, List.getElem?_cons_succ]
  rw [show encW w = T.tup (w.map fun r => T.str r.1) from rfl, wp_enum_t, ← show encW w = T.tup (w.map fun r => T.str r.1) from rfl]
  refine wpl_inv (fun i τ S' => Ext S S' ∧ At S' S.length ((gl A.1 fun p => tabL A.1 (pls w) i p).map encT) ∧ ∃ a4 a5 a6 a7 a8 a9, τ = [some (encA A), some (encW w), some (.dic (plcD A)), some (.ref S.length), a4, a5, a6, a7, a8, a9]) _ 0 _ _
    ⟨Ext.app, At.new, none, none, none, none, none, none, rfl⟩ (fun _ _ _ _ => trivial) (fun i hi τ S3 hI => ?_) fun τ S3 hI => ?_
  · obtain ⟨x3, at3, a4, a5, a6, a7, a8, a9, rfl⟩ := hI
    rw [Nat.zero_add] at at3 ⊢
    have hi' : i < w.length := by rwa [enum_len] at hi
    have mem := hw.mem _ (List.getElem_mem hi')
    have pl := (h.row _ mem).2
    rw [enum_at hi hi']
    simp only [wp_tgTup, wp_tgCons, wp_tgName, wp_tgNil, List.set_cons_zero, List.set_cons_succ]
    -- given
    rw [wps_seq]
    simp only [wps_set, wp_eCall, wp_eCons, wp_eNil, wp_eLc, wp_eIter, wp_eBin, wp_eVar, List.getElem?_cons_zero, List.getElem?_cons_succ]
    rw [plc_ix h mem, show encI w[i].2 = T.tup (w[i].2.map T.int) from rfl, wp_iter_t]
    refine wp_lc_pure (enc := T.int) (cb := fun _ => true) (f := fun x => encT (tabL A.1 (pls w) i x)) w[i].2 trivial (fun x hx Q hQ => ?_) _ ?_
    · obtain ⟨x0, x1⟩ := pl.inn x hx
      obtain ⟨k, rfl⟩ : ∃ k : Nat, x = k := ⟨x.toNat, by omega⟩
      simp only [wp_tgName, wipeT, List.foldl, List.set_cons_zero, List.set_cons_succ, wp_yes, wp_eBin, wp_eVar, List.getElem?_cons_zero, List.getElem?_cons_succ]
      rw [ix_r at3 (kl _ k (by omega)), gl_get]
      exact ⟨by trivial, by trivial, by trivial, fun _ => hQ⟩
    rw [filter_true, wp_lcFinF, wp_tuple_l]
    obtain ⟨g, hg⟩ : ∃ g, g = T.tup (w[i].2.map fun x => encT (tabL A.1 (pls w) i x)) := ⟨_, rfl⟩
    have gS : Shw g 4 5005 := by
      rw [hg]
      exact (ShwA.map (w := 1000) 5 (fun x _ => tab_shw h2 (by omega)) (by have := place_len pl; omega)).tup
    have gE : g = T.tup ((w[i].2.map fun x => tabL A.1 (pls w) i x).map encT) := by rw [hg, List.map_map]; rfl
    rw [← hg]
    obtain ⟨p0, hp0⟩ : ∃ p0, p0 ∈ w[i].2 := List.exists_mem_of_ne_nil _ pl.ne
    have met : d_met_tables [encA A, .str w[i].1, g] = ret (encT (tabL A.1 (pls w) (i + 1) p0)) := by
      rw [gE, met_tables_a h mem (fun t ht => by obtain ⟨x, _, rfl⟩ := List.mem_map.1 ht; exact tab_ok) (by rw [List.length_map]), met_is hi' pl (by omega) hp0]
    have tS : Shw (encT (tabL A.1 (pls w) (i + 1) p0)) 3 1000 := tab_shw h2 (by omega)
    obtain ⟨td, htd⟩ : ∃ td, td = tabL A.1 (pls w) (i + 1) p0 := ⟨_, rfl⟩
    rw [← htd] at met tS
    simp only [List.set_cons_zero, List.set_cons_succ]
    -- kept, told
    rw [wps_seq]
    simp only [wps_set, wp_eCall, wp_eCons, wp_eNil, wp_eVar, List.getElem?_cons_zero, List.getElem?_cons_succ]
    rw [gS.wp (by decide) (by decide)]
    simp only [List.set_cons_zero, List.set_cons_succ]
    rw [wps_seq]
    simp only [wps_set, wp_eCall, wp_eCons, wp_eNil, wp_eVar, List.getElem?_cons_zero, List.getElem?_cons_succ, met, wp_ret, List.set_cons_zero, List.set_cons_succ]
    -- the same again
    rw [wps_seq]
    have gW : ∀ S (Q : T → Store → Prop), wp (reprT [g]) S Q = Q (.str (data g).shown) S := fun S Q => gS.wp (by decide) (by decide)
    have tW : ∀ S (Q : T → Store → Prop), wp (reprT [encT td]) S Q = Q (.str (data (encT td)).shown) S := fun S Q => tS.wp (by decide) (by decide)
    simp only [wps_if, wp_bOr, wp_eB, wp_eBin, wp_eCall, wp_eCons, wp_eNil, wp_eVar, List.getElem?_cons_zero, List.getElem?_cons_succ, met, wp_ret, gW, tW, wp_ne_ss, wp_tB1, decide_true, Bool.not_true, Bool.false_eq_true, if_false, wps_next]
    -- the law's own table
    rw [wps_seq]
    have l0 : 0 < w[i].2.length := List.length_pos_of_mem hp0
    have wt : WordOk A (w.take (i + 1)) := ⟨fun r hr => hw.mem r (List.mem_of_mem_take hr), by rw [List.length_take]; omega⟩
    have wtl : (w.take (i + 1)).length = i + 1 := by rw [List.length_take]; omega
    have tb : ∀ p ∈ w[i].2, d__law_table [encA A, encW (w.take (i + 1)), .int p] = ret (encT td) := fun p hp => by
      rw [law_table_a h wt, wtl, show pls (w.take (i + 1)) = (pls w).take (i + 1) from List.map_take .., tab_take, htd, ← met_is hi' pl (by omega) hp0, ← met_is hi' pl (by omega) hp]
    have ct : ∀ S (Q : T → Store → Prop), wp (cutT (encW w) none (some ((i : Int) + 1))) S Q = Q (encW (w.take (i + 1))) S := fun S Q => by
      unfold encW
      rw [wp_cut_t, show (some ((i : Int) + 1)) = some (((i + 1 : Nat)) : Int) from rfl, cutL_to, List.map_take]
    have p00 : ∀ S (Q : T → Store → Prop), wp (subT' (encI w[i].2) (.int 0)) S Q = Q (.int w[i].2[0]) S := fun S Q => eI_k (k := 0) l0
    simp only [wps_if, wp_eB, wp_eBin, wp_eCall, wp_eCons, wp_eNil, wp_eVar, wp_eC, wp_eCut, wp_ePartN, wp_ePartS, wp_add_ii, List.getElem?_cons_zero, List.getElem?_cons_succ, tW, ct, plc_ix h mem, p00, tb _ (List.getElem_mem l0), wp_ret, wp_ne_ss, wp_tB1, decide_true, Bool.not_true, Bool.false_eq_true, if_false, wps_next]
    -- the tables of those that met
    rw [wps_for]
    simp only [wp_eIter, wp_eBin, wp_eVar, List.getElem?_cons_zero, List.getElem?_cons_succ]
    rw [plc_ix h mem, show encI w[i].2 = T.tup (w[i].2.map T.int) from rfl, wp_iter_t]
    refine wpl_inv (fun j τ S' => Ext S S' ∧ At S' S.length ((gl A.1 fun p => if p ∈ w[i].2.take j then td else tabL A.1 (pls w) i p).map encT) ∧ ∃ a4 a5 a6 a7 a8, τ = [some (encA A), some (encW w), some (.dic (plcD A)), some (.ref S.length), a4, a5, a6, a7, a8, some (encT td)]) _ 0 _ _
      ⟨x3, by simpa using at3, _, _, _, _, _, rfl⟩ (fun _ _ _ _ => trivial) (fun j hj τ S4 hI => ?_) fun τ S4 hI => ?_
    · obtain ⟨x4, at4, b4, b5, b6, b7, b8, e⟩ := hI
      subst e
      rw [Nat.zero_add] at at4 ⊢
      rw [List.length_map] at hj
      rw [List.getElem_map]
      have inn := pl.inn _ (List.getElem_mem hj)
      obtain ⟨k, hk⟩ : ∃ k : Nat, (k : Int) = w[i].2[j] := ⟨w[i].2[j].toNat, by omega⟩
      rw [← hk]
      have kn : k < A.1.toNat := by omega
      simp only [wp_tgName, List.set_cons_zero, List.set_cons_succ, wps_asg, wp_tgSub, wp_eVar, List.getElem?_cons_zero, List.getElem?_cons_succ]
      rw [wp_setT at4 (ixN_n (by rw [List.length_map]; exact kl _ k kn))]
      refine ⟨x4.set (Nat.le_refl _), ?_, _, _, _, _, _, rfl⟩
      rw [← List.map_set, gl_set]
      have e : (gl A.1 fun q => if q = (k : Int) then td else if q ∈ w[i].2.take j then td else tabL A.1 (pls w) i q) = gl A.1 fun q => if q ∈ w[i].2.take (j + 1) then td else tabL A.1 (pls w) i q := by
        unfold gl
        refine List.map_congr_left fun q _ => ?_
        rw [List.take_succ_eq_append_getElem hj, ← hk]
        by_cases c : q = (k : Int)
        · rw [if_pos c, if_pos (by rw [c]; simp)]
        · rw [if_neg c]
          by_cases c2 : q ∈ w[i].2.take j
          · rw [if_pos c2, if_pos (List.mem_append.2 (Or.inl c2))]
          · rw [if_neg c2, if_neg fun z => (List.mem_append.1 z).elim c2 fun z => c (List.mem_singleton.1 z)]
      rw [e]
      exact at4.set
    · obtain ⟨x4, at4, b4, b5, b6, b7, b8, e⟩ := hI
      subst e
      rw [Nat.zero_add, List.length_map, List.take_length] at at4
      refine ⟨x4, ?_, _, _, _, _, _, _, rfl⟩
      have e : (gl A.1 fun q => if q ∈ w[i].2 then td else tabL A.1 (pls w) i q) = gl A.1 fun q => tabL A.1 (pls w) (i + 1) q := by
        unfold gl
        refine List.map_congr_left fun q _ => ?_
        by_cases c : q ∈ w[i].2
        · rw [if_pos c, htd, ← met_is hi' pl (by omega) hp0, ← met_is hi' pl (by omega) c]
        · rw [if_neg c, tab_keep]
          rw [has_at hi']
          exact decide_eq_false c
      rw [← e]
      exact at4
  · obtain ⟨x3, at3, a4, a5, a6, a7, a8, a9, rfl⟩ := hI
    rw [Nat.zero_add, enum_len] at at3
    rw [wps_seq, wps_for]
    simp only [wp_eRange, wp_eCons, wp_eNil, wp_eBin, wp_eC, wp_eVar, List.getElem?_cons_zero, List.getElem?_cons_succ, eA_0]
    rw [wp_range1 (by omega) (by omega)]
    refine wpl_inv (fun i τ S' => S' = S3 ∧ ∃ a4 a5 a6 a7 a8 a9, τ = [some (encA A), some (encW w), some (.dic (plcD A)), some (.ref S.length), a4, a5, a6, a7, a8, a9]) _ 0 _ _
      ⟨rfl, _, _, _, _, _, _, rfl⟩ (fun _ _ _ _ => trivial) (fun i hi τ S4 hI => ?_) fun τ S4 hI => ?_
    · obtain ⟨es, b4, b5, b6, b7, b8, b9, e⟩ := hI
      subst es
      subst e
      rw [List.length_map, List.length_range] at hi
      rw [List.getElem_map, List.getElem_range]
      simp only [wp_tgName, List.set_cons_zero, List.set_cons_succ, wps_if, wp_eB, wp_eBin, wp_eCall, wp_eCons, wp_eNil, wp_eVar, List.getElem?_cons_zero, List.getElem?_cons_succ]
      rw [ix_r at3 (kl _ i hi), gl_get, law_table_a h hw, wp_ret, wp_ne_tab, wp_tB1]
      exact ⟨rfl, _, _, _, _, _, _, rfl⟩
    · obtain ⟨es, b4, b5, b6, b7, b8, b9, e⟩ := hI
      subst es
      subst e
      simp only [wps_ret, wp_eC]
      exact fin_ext (t := .bl true) x3 rfl (fun m z => by cases z) ⟨rfl, rfl⟩

/-! ### words, meeting alphabets, the law -/
theorem pick_ok {S : Store} {n k : Nat} {xs : List T} (h : Strm S n k) (hk : k < 2 ^ 40) (h0 : xs ≠ []) (hl : xs.length < 1000) : wp (d__law_pick [.ref n, .lst xs]) S fun t S' => (∃ i : Nat, xs[i]? = some t) ∧ Strm S' n (k + 1) ∧ Only n S S' := by
  have lp : 0 < xs.length := List.length_pos_iff.2 h0
  unfold d__law_pick
  rw [wp_call2]
  show wps b__law_pick [some (.ref n), some (.lst xs)] S _ _ noK noK
  unfold b__law_pick
  simp only [wps_ret, wp_eBin, wp_eVar, wp_eCall, wp_eCons, wp_eNil, List.getElem?_cons_zero, List.getElem?_cons_succ, wp_len_l]
  refine wp_mono (draw_ok h hk (total := (xs.length : Nat)) (by omega) (by omega)) fun t S1 ⟨⟨x, et, x0, x1⟩, h1, o1⟩ => ?_
  subst et
  obtain ⟨j, rfl⟩ : ∃ j : Nat, x = j := ⟨x.toNat, by omega⟩
  have hj : j < xs.length := by omega
  rw [wp_ix_l, show L2.atI xs (j : Int) = some xs[j] from atI_nat (j := j) (List.getElem?_eq_getElem hj), optP_some]
  exact ⟨⟨j, List.getElem?_eq_getElem hj⟩, h1, o1⟩
theorem word_ok {S : Store} {n k total : Nat} {A : Alph} (hA : Good A) (h : Strm S n k) (hk : k + 100 < 2 ^ 40) (ht : total ≤ 30) : wp (d__law_word [.ref n, encA A, .int (total : Int)]) S fun t S' => (∃ w, t = encW w ∧ WordOk A w) ∧ Strm S' n (k + total) ∧ Only n S S' := by
  unfold d__law_word
  rw [wp_call3]
  show wps b__law_word [some (.ref n), some (encA A), some (.int (total : Int)), none, none, none, none] S _ _ noK noK
  unfold b__law_word
  rw [wps_seq]
  simp only [wps_set, wp_eLc, wp_eIter, wp_eBin, wp_eVar, wp_eC, List.getElem?_cons_zero, List.getElem?_cons_succ, eA_1, wp_iter_t]
  refine lc_rows A (fun _ => true) (fun r => T.str r.1) (fun r hr Q hQ => ?_) ?_
  · simp [wipeT, hQ]
  rw [filter_true, wp_lcFinF]
  simp only [List.set_cons_zero, List.set_cons_succ]
  simp only [wps_ret, wp_eCall, wp_eCons, wp_eNil, wp_eLc, wp_eRange, wp_eVar, List.getElem?_cons_zero, List.getElem?_cons_succ]
  rw [wp_range1 (by omega) (by omega), Int.toNat_natCast]
  have l1 := hA.rlo
  have l2 := hA.rhi
  refine wp_mono (wp_lc_acc (enc := fun j : Nat => T.int (j : Int)) (fun i acc S' => (∃ w, acc = w.map (fun r : Row => T.str r.1) ∧ w.length = i ∧ ∀ r ∈ w, r ∈ A.2) ∧ Strm S' n (k + i) ∧ Only n S S') (List.range total) 0 [] S ⟨⟨[], rfl, rfl, by simp⟩, h, Only.refl⟩ (fun _ _ _ _ => trivial) fun i hi acc S1 ⟨⟨w, ea, lw, mw⟩, h1, o1⟩ => ?_) fun ys S2 ⟨⟨w, ea, lw, mw⟩, h2, o2⟩ => ?_
  · rw [List.length_range] at hi
    rw [Nat.zero_add] at h1 lw ⊢
    simp only [wp_tgName, wipeT, List.foldl, List.set_cons_zero, List.set_cons_succ, wp_yes, wp_eCall, wp_eCons, wp_eNil, wp_eVar, List.getElem?_cons_zero, List.getElem?_cons_succ]
    rw [if_pos trivial]
    refine wp_mono (pick_ok h1 (by omega) (fun z => by rw [List.map_eq_nil_iff] at z; rw [z] at l1; simp at l1) (by rw [List.length_map]; omega)) fun t S3 ⟨⟨j, ej⟩, h3, o3⟩ => ?_
    rw [List.getElem?_map, Option.map_eq_some_iff] at ej
    obtain ⟨r, er, et⟩ := ej
    refine ⟨⟨w ++ [r], by rw [ea, ← et, List.map_append]; rfl, by simp [lw], fun r' hr' => ?_⟩, h3, o1.trans o3⟩
    rcases List.mem_append.1 hr' with hr' | hr'
    · exact mw r' hr'
    · rw [List.mem_singleton] at hr'
      rw [hr']
      exact List.mem_of_getElem? er
  · rw [List.nil_append] at ea
    rw [Nat.zero_add, List.length_range] at h2 lw
    rw [wp_lcFinF, wp_tuple_l, ea]
    exact ⟨⟨w, rfl, mw, by omega⟩, h2, o2⟩
def nmM (i : Nat) : Str := ("m" : Str) ++ ⟨#[97 + i]⟩
def nmO (i : Nat) : Str := ("own" : Str) ++ ⟨#[97 + i]⟩
theorem name1 {a : Str} (h : (decide (1 ≤ a.length) && decide (a.length ≤ 8) && a.cps.toList.all fun c => decide (97 ≤ c) && decide (c < 123)) = true) : Name a := by
  simp only [Bool.and_eq_true, decide_eq_true_eq, List.all_eq_true] at h
  exact ⟨h.1.1, h.1.2, h.2⟩
theorem place1 {n : Int} {p : List Int} (h : (decide (p ≠ []) && (p.all fun x => decide (0 ≤ x) && decide (x < n)) && decide (p.Pairwise (· < ·))) = true) : Place n p := by
  simp only [Bool.and_eq_true, decide_eq_true_eq, List.all_eq_true] at h
  exact ⟨h.1.1, h.1.2, h.2⟩
theorem nmM_ok : ∀ i, i < 5 → Name (nmM i) := fun i hi => name1 (by revert i; decide +kernel)
theorem nmO_ok : ∀ i, i < 5 → Name (nmO i) := fun i hi => name1 (by revert i; decide +kernel)
theorem nm_ne : ∀ i, i < 5 → ∀ j, j < 5 → (nmM j = nmM i → j = i) ∧ nmO j ≠ nmM i ∧ nmM j ≠ nmO i ∧ (nmO j = nmO i → j = i) := by decide +kernel
theorem five_at : ∀ j : Nat, j < 5 → L2.atI ("abcde" : Str).cps.toList (j : Int) = some (97 + j) := by decide +kernel
/-- rows by names made for the processes below i -/
def Made5 (total : Int) (i : Nat) (rs : List Row) : Prop := (∀ r ∈ rs, (∃ j < i, r.1 = nmM j ∨ r.1 = nmO j) ∧ Place total r.2) ∧ (rs.map (·.1)).Nodup
theorem good_of {total : Int} {rs : List Row} {i : Nat} (h : Made5 total i rs) (hi : i ≤ 5) (t1 : 1 ≤ total) (t5 : total ≤ 5) (l1 : 1 ≤ rs.length) (l10 : rs.length ≤ 10) : Good (total, srt (ltPair ltStr ltInts) rs) := by
  have nd : rs.Nodup := List.Pairwise.of_map _ (fun _ _ h e => h (congrArg _ e)) h.2
  have st := (tot_pair tot_str tot_ints).strict nd
  have nn : ((srt (ltPair ltStr ltInts) rs).map (·.1)).Nodup := h.2.perm ((srt_perm rs).map _).symm
  refine ⟨t1, t5, by show 1 ≤ (srt _ rs).length; rw [srt_len]; exact l1, by show (srt _ rs).length ≤ 10; rw [srt_len]; exact l10, fun r hr => ?_, ?_⟩
  · have hr : r ∈ rs := mem_srt.1 hr
    obtain ⟨⟨j, hj, e⟩, hp⟩ := h.1 r hr
    refine ⟨?_, hp⟩
    rcases e with e | e
    · rw [e]
      exact nmM_ok j (by omega)
    · rw [e]
      exact nmO_ok j (by omega)
  · have nn : (srt (ltPair ltStr ltInts) rs).Pairwise fun r q => r.1 ≠ q.1 := List.pairwise_map.1 nn
    refine (st.and nn).imp fun {r q} ⟨h1, h2⟩ => ?_
    unfold ltPair at h1
    rwa [if_neg h2] at h1
theorem rows_sort {rs : List Row} {total : Int} {i : Nat} (h : Made5 total i rs) (hi : i ≤ 5) {S : Store} {Q : T → Store → Prop} {t : T} (e : res S t = .lst (rs.map encRow)) : wp (sortedT [t]) S Q = Q (.lst ((srt (ltPair ltStr ltInts) rs).map encRow)) S := by
  have O : Ordd encRow (ltPair ltStr ltInts) := ord_str.pair (enc_str.mono (d' := 1) (by decide)) ord_ints (Enc.tup enc_int) (fun x => by unfold ltInts; exact decide_eq_false (List.lt_irrefl _))
  have E : Enc encRow (fun r : Row => PyData.strOk r.1 = true ∧ ∀ x ∈ r.2, True) 2 := (enc_str.mono (by decide)).pair (Enc.tup enc_int)
  refine wp_srt O E (by decide) (fun r hr => ⟨?_, fun _ _ => trivial⟩) (Or.inl fun r _ => rfl) e
  obtain ⟨⟨j, hj, e⟩, _⟩ := h.1 r hr
  rcases e with e | e
  · rw [e]
    exact (nmM_ok j (by omega)).strOk
  · rw [e]
    exact (nmO_ok j (by omega)).strOk
theorem Made5.more {total : Int} {i : Nat} {rs : List Row} (h : Made5 total i rs) : Made5 total (i + 1) rs := ⟨fun r hr => by
  obtain ⟨⟨j, hj, e⟩, hp⟩ := h.1 r hr
  exact ⟨⟨j, by omega, e⟩, hp⟩, h.2⟩
theorem Made5.addM {total : Int} {i : Nat} {rs : List Row} {p : List Int} (h : Made5 total i rs) (hi : i < 5) (hp : Place total p) : Made5 total (i + 1) (rs ++ [(nmM i, p)]) := by
  refine ⟨fun r hr => ?_, ?_⟩
  · rcases List.mem_append.1 hr with hr | hr
    · exact h.more.1 r hr
    · rw [List.mem_singleton] at hr
      rw [hr]
      exact ⟨⟨i, by omega, Or.inl rfl⟩, hp⟩
  · rw [List.map_append, List.nodup_append]
    refine ⟨h.2, by simp, fun a ha b hb e => ?_⟩
    obtain ⟨r, hr, rfl⟩ := List.mem_map.1 ha
    have hb : b = nmM i := by simpa using hb
    obtain ⟨⟨j, hj, e2⟩, _⟩ := h.1 r hr
    have q := nm_ne i hi j (by omega)
    rcases e2 with e2 | e2
    · have := q.1 (e2.symm.trans (e.trans hb))
      omega
    · exact q.2.1 (e2.symm.trans (e.trans hb))
theorem Made5.addO {total : Int} {i : Nat} {rs : List Row} {p q : List Int} (h : Made5 total i rs) (hi : i < 5) (hp : Place total p) (hq : Place total q) : Made5 total (i + 1) (rs ++ [(nmM i, p)] ++ [(nmO i, q)]) := by
  have hM := h.addM hi hp
  refine ⟨fun r hr => ?_, ?_⟩
  · rcases List.mem_append.1 hr with hr | hr
    · exact hM.1 r hr
    · rw [List.mem_singleton] at hr
      rw [hr]
      exact ⟨⟨i, by omega, Or.inr rfl⟩, hq⟩
  · rw [List.map_append, List.nodup_append]
    refine ⟨hM.2, by simp, fun a ha b hb e => ?_⟩
    obtain ⟨r, hr, rfl⟩ := List.mem_map.1 ha
    have hb : b = nmO i := by simpa using hb
    rcases List.mem_append.1 hr with hr | hr
    · obtain ⟨⟨j, hj, e2⟩, _⟩ := h.1 r hr
      have q := nm_ne i hi j (by omega)
      rcases e2 with e2 | e2
      · exact q.2.2.1 (e2.symm.trans (e.trans hb))
      · have := q.2.2.2 (e2.symm.trans (e.trans hb))
        omega
    · rw [List.mem_singleton] at hr
      rw [hr] at e
      exact (nm_ne i hi i hi).2.2.1 (e.trans hb)
theorem ring_place {total : Int} {i : Nat} (h2 : 2 ≤ total) (hi : (i : Int) < total) : Place total (setSrt [(i : Int), ((i : Int) + 1) % total]) := by
  have mm : ∀ x, x ∈ setSrt [(i : Int), ((i : Int) + 1) % total] ↔ x = i ∨ x = ((i : Int) + 1) % total := fun x => by
    unfold setSrt
    rw [mem_srt, mem_once]
    simp
  refine ⟨fun z => ?_, fun x hx => ?_, ?_⟩
  · have := (mm i).2 (Or.inl rfl)
    rw [z] at this
    cases this
  · rcases (mm x).1 hx with rfl | rfl
    · omega
    · exact ⟨Int.emod_nonneg _ (by omega), Int.emod_lt_of_pos _ (by omega)⟩
  · exact (tot_int.strict once_nodup).imp fun h => of_decide_eq_true h
theorem meeting_ok {S : Store} {n k : Nat} (h : Strm S n k) (hk : k + 300 < 2 ^ 40) : wp (d__law_meeting_alphabet [.ref n, .int 5]) S fun t S' => (∃ A, t = encA A ∧ Good A) ∧ Strm S' n (k + 6) ∧ Only n S S' := by
  have hn := h.lt
  unfold d__law_meeting_alphabet
  refine wp_callD2 ?_
  show wps b__law_meeting_alphabet [some (.ref n), some (.int 5), none, none, none] S _ _ noK noK
  unfold b__law_meeting_alphabet
  rw [wps_seq]
  simp only [wps_par, wp_eBin, wp_eC, wp_eCall, wp_eCons, wp_eNil, wp_eVar, List.getElem?_cons_zero, List.getElem?_cons_succ, wp_sub_ii]
  refine wp_mono (draw_ok h (by omega) (total := 5 - 1) (by decide) (by decide)) fun t S1 ⟨⟨x, et, x0, x1⟩, h1, o1⟩ => ?_
  subst et
  simp only [wp_add_ii, wp_eRef, wp_eNil, wp_mkRef, List.set_cons_zero, List.set_cons_succ]
  refine ⟨by decide, ?_⟩
  obtain ⟨total, etot⟩ : ∃ total, total = 2 + x := ⟨_, rfl⟩
  rw [← etot, show S1.length = S.length from o1.1]
  have t2 : 2 ≤ total := by omega
  have t5 : total ≤ 5 := by omega
  rw [wps_seq, wps_for]
  simp only [wp_eRange, wp_eCons, wp_eNil, wp_eVar, List.getElem?_cons_zero, List.getElem?_cons_succ]
  rw [wp_range1 (by omega) (by omega)]
  refine wpl_inv (fun i τ S' => Strm S' n (k + 1 + i) ∧ Keep n S S' ∧ ∃ rs a4, τ = [some (.ref n), some (.int 5), some (.int total), some (.ref S.length), a4] ∧ At S' S.length (rs.map encRow) ∧ Made5 total i rs ∧ i ≤ rs.length ∧ rs.length ≤ 2 * i) _ 0 _ _
    ⟨Strm.app h1, o1.keep.trans Keep.app, [], none, rfl, by rw [← o1.1]; exact At.new, ⟨by simp, by simp⟩, by simp, by simp⟩ (fun _ _ _ _ => trivial) (fun i hi τ S2 hI => ?_) fun τ S2 hI => ?_
  · obtain ⟨h2, k2, rs, a4, e, at2, m2, ll, lu⟩ := hI
    subst e
    rw [List.length_map, List.length_range] at hi
    rw [Nat.zero_add] at h2 m2 ll lu ⊢
    rw [List.getElem_map, List.getElem_range]
    have i5 : i < 5 := by omega
    have pM := ring_place (total := total) (i := i) t2 (by omega)
    have pO : Place total [(i : Int)] := ⟨by simp, fun y hy => by rw [List.mem_singleton] at hy; omega, List.pairwise_singleton ..⟩
    simp only [wp_tgName, List.set_cons_zero, List.set_cons_succ]
    rw [wps_seq]
    simp only [wps_drop, wp_eMth, wp_eVar, wp_eCons, wp_eTup, wp_eBin, wp_eC, wp_eCall, wp_eNil, wp_eUn, wp_eLst, List.getElem?_cons_zero, List.getElem?_cons_succ]
    refine ⟨ty_ref at2, ?_⟩
    rw [wp_ix_s (by decide), five_at i i5, optP_some, wp_add_ss]
    refine ⟨by show 1 + 1 ≤ sizeLine; decide, ?_⟩
    simp only [wp_add_ii, wp_mod_ii]
    refine ⟨by omega, ?_⟩
    rw [wp_lstS (by show 2 ≤ 100; decide), wp_sortSet (ns := [(i : Int), ((i : Int) + 1) % total]) rfl (by show 2 < 64; decide), wp_tuple_l, wp_tupS (by show 2 ≤ 100; decide), wp_append at2]
    refine ⟨by rw [List.length_map, sizeLine_eq]; omega, ?_⟩
    have e1 : rs.map encRow ++ [T.tup [T.str (("m" : Str) ++ ⟨#[97 + i]⟩), T.tup ((setSrt [(i : Int), ((i : Int) + 1) % total]).map T.int)]] = (rs ++ [(nmM i, setSrt [(i : Int), ((i : Int) + 1) % total])]).map encRow := by
      rw [List.map_append]
      rfl
    rw [e1]
    have ha := at2.set (ys := (rs ++ [(nmM i, setSrt [(i : Int), ((i : Int) + 1) % total])]).map encRow)
    obtain ⟨S3, hS3⟩ : ∃ S3, S3 = S2.set S.length (some (.lst ((rs ++ [(nmM i, setSrt [(i : Int), ((i : Int) + 1) % total])]).map encRow))) := ⟨_, rfl⟩
    rw [← hS3] at ha ⊢
    have h3 : Strm S3 n (k + 1 + i) := hS3 ▸ Strm.set h2 (by omega)
    have k3 : Keep n S S3 := hS3 ▸ Keep.set k2 (Nat.le_refl _)
    simp only [wps_if, wp_eB, wp_eBin, wp_eCall, wp_eCons, wp_eNil, wp_eVar, wp_eC, List.getElem?_cons_zero, List.getElem?_cons_succ]
    refine wp_mono (draw_ok h3 (by omega) (total := 2) (by decide) (by decide)) fun t S4 ⟨⟨y, et, y0, y1⟩, h4, o4⟩ => ?_
    subst et
    have at4 : At S4 S.length ((rs ++ [(nmM i, setSrt [(i : Int), ((i : Int) + 1) % total])]).map encRow) := o4.at (by omega) ha
    have h4 : Strm S4 n (k + 1 + (i + 1)) := h4.mono (by omega)
    rw [wp_eq_ii, wp_tB1]
    by_cases c : y = 0
    · rw [if_pos (decide_eq_true c)]
      simp only [wps_drop, wp_eMth, wp_eVar, wp_eCons, wp_eTup, wp_eBin, wp_eC, wp_eNil, List.getElem?_cons_zero, List.getElem?_cons_succ]
      refine ⟨ty_ref at4, ?_⟩
      rw [wp_ix_s (by decide), five_at i i5, optP_some, wp_add_ss]
      refine ⟨by show 3 + 1 ≤ sizeLine; decide, ?_⟩
      rw [wp_tupS (by show 1 ≤ 100; decide), wp_tupS (by show 2 ≤ 100; decide), wp_append at4]
      refine ⟨by rw [List.length_map, List.length_append, List.length_singleton, sizeLine_eq]; omega, Strm.set h4 (by omega), Keep.set (k3.trans o4.keep) (Nat.le_refl _), rs ++ [(nmM i, setSrt [(i : Int), ((i : Int) + 1) % total])] ++ [(nmO i, [(i : Int)])], _, rfl, ?_, m2.addO i5 pM pO, by simp; omega, by simp; omega⟩
      rw [List.map_append (l₂ := [(nmO i, [(i : Int)])])]
      exact at4.set
    · rw [if_neg (by simpa using c)]
      exact ⟨h4, k3.trans o4.keep, _, _, rfl, at4, m2.addM i5 pM, by simp; omega, by simp; omega⟩
  · obtain ⟨h2, k2, rs, a4, e, at2, m2, ll, lu⟩ := hI
    subst e
    rw [Nat.zero_add, List.length_map, List.length_range] at h2 m2 ll lu
    simp only [wps_ret, wp_eTup, wp_eCall, wp_eCons, wp_eNil, wp_eVar, List.getElem?_cons_zero, List.getElem?_cons_succ]
    rw [rows_sort m2 (by omega) (res_ref at2), wp_tuple_l, wp_tupS (by show 2 ≤ 100; decide)]
    have gA := good_of m2 (by omega) (by omega) t5 (by omega) (by omega)
    refine fin_keep (t := encA (total, srt (ltPair ltStr ltInts) rs)) hn h2 k2 ?_ (fun m z => by cases z) fun S5 h5 o5 => ⟨⟨_, rfl, gA⟩, h5.mono (by omega), o5⟩
    show lowAll S.length [_, _] = true
    rw [lowAll, lowAll, lowAll]
    rw [show lowT S.length (T.tup ((srt (ltPair ltStr ltInts) rs).map encRow)) = true from low_map fun r _ => by
      show lowAll S.length [_, _] = true
      rw [lowAll, lowAll, lowAll, show lowT S.length (encI r.2) = true from low_map fun _ _ => rfl]
      rfl]
    rfl
def ring : Alph := (3, [("pq", [0, 1]), ("pr", [0, 2]), ("qr", [1, 2])])
def full : Alph := (5, [("all", [0, 1, 2, 3, 4]), ("one", [3]), ("two", [0, 4])])
def line : Alph := (3, [("own", [0]), ("pq", [0, 1]), ("qr", [1, 2])])
theorem ring_ok : Good ring := ⟨by decide, by decide, by decide, by decide, fun r hr => by
  simp only [ring, List.mem_cons, List.not_mem_nil, or_false] at hr
  rcases hr with rfl | rfl | rfl <;> exact ⟨name1 (by decide +kernel), place1 (by decide +kernel)⟩, by unfold ring; decide +kernel⟩
theorem full_ok : Good full := ⟨by decide, by decide, by decide, by decide, fun r hr => by
  simp only [full, List.mem_cons, List.not_mem_nil, or_false] at hr
  rcases hr with rfl | rfl | rfl <;> exact ⟨name1 (by decide +kernel), place1 (by decide +kernel)⟩, by unfold full; decide +kernel⟩
theorem line_ok : Good line := ⟨by decide, by decide, by decide, by decide, fun r hr => by
  simp only [line, List.mem_cons, List.not_mem_nil, or_false] at hr
  rcases hr with rfl | rfl | rfl <;> exact ⟨name1 (by decide +kernel), place1 (by decide +kernel)⟩, by unfold line; decide +kernel⟩
/-- the word of some rows of an alphabet -/
def pickW (A : Alph) (ix : List Nat) : List Row := ix.filterMap fun i => A.2[i]?
theorem pickW_ok {A : Alph} {ix : List Nat} (h : ix.length ≤ 30) : WordOk A (pickW A ix) := ⟨fun r hr => by
  obtain ⟨i, _, e⟩ := List.mem_filterMap.1 hr
  exact List.mem_of_getElem? e, Nat.le_trans (List.length_filterMap_le ..) h⟩
section
variable {τ : Slots} {S : Store} {Q : T → Store → Prop}
theorem e_ring : wp ((eTup (eCons (eC (.int 3)) (eCons (eTup (eCons (eTup (eCons (eC (.str "pq")) (eCons (eTup (eCons (eC (.int 0)) (eCons (eC (.int 1)) eNil))) eNil))) (eCons (eTup (eCons (eC (.str "pr")) (eCons (eTup (eCons (eC (.int 0)) (eCons (eC (.int 2)) eNil))) eNil))) (eCons (eTup (eCons (eC (.str "qr")) (eCons (eTup (eCons (eC (.int 1)) (eCons (eC (.int 2)) eNil))) eNil))) eNil)))) eNil))) τ) S Q = Q (encA ring) S := by
  simp only [wp_eTup, wp_eCons, wp_eC, wp_eNil, wp_tupS, List.length_cons, List.length_nil, Nat.reduceAdd, Nat.reduceLeDiff]
  rfl
theorem e_full : wp ((eTup (eCons (eC (.int 5)) (eCons (eTup (eCons (eTup (eCons (eC (.str "all")) (eCons (eTup (eCons (eC (.int 0)) (eCons (eC (.int 1)) (eCons (eC (.int 2)) (eCons (eC (.int 3)) (eCons (eC (.int 4)) eNil)))))) eNil))) (eCons (eTup (eCons (eC (.str "one")) (eCons (eTup (eCons (eC (.int 3)) eNil)) eNil))) (eCons (eTup (eCons (eC (.str "two")) (eCons (eTup (eCons (eC (.int 0)) (eCons (eC (.int 4)) eNil))) eNil))) eNil)))) eNil))) τ) S Q = Q (encA full) S := by
  simp only [wp_eTup, wp_eCons, wp_eC, wp_eNil, wp_tupS, List.length_cons, List.length_nil, Nat.reduceAdd, Nat.reduceLeDiff]
  rfl
theorem e_line : wp ((eTup (eCons (eC (.int 3)) (eCons (eTup (eCons (eTup (eCons (eC (.str "own")) (eCons (eTup (eCons (eC (.int 0)) eNil)) eNil))) (eCons (eTup (eCons (eC (.str "pq")) (eCons (eTup (eCons (eC (.int 0)) (eCons (eC (.int 1)) eNil))) eNil))) (eCons (eTup (eCons (eC (.str "qr")) (eCons (eTup (eCons (eC (.int 1)) (eCons (eC (.int 2)) eNil))) eNil))) eNil)))) eNil))) τ) S Q = Q (encA line) S := by
  simp only [wp_eTup, wp_eCons, wp_eC, wp_eNil, wp_tupS, List.length_cons, List.length_nil, Nat.reduceAdd, Nat.reduceLeDiff]
  rfl
theorem e_wf : wp ((eTup (eCons (eC (.str "one")) (eCons (eC (.str "two")) (eCons (eC (.str "all")) (eCons (eC (.str "one")) (eCons (eC (.str "one")) (eCons (eC (.str "two")) eNil))))))) τ) S Q = Q (encW (pickW full [1, 2, 0, 1, 1, 2])) S := by
  simp only [wp_eTup, wp_eCons, wp_eC, wp_eNil, wp_tupS, List.length_cons, List.length_nil, Nat.reduceAdd, Nat.reduceLeDiff]
  rfl
theorem e_wl : wp ((eTup (eCons (eC (.str "qr")) (eCons (eC (.str "own")) (eCons (eC (.str "own")) (eCons (eC (.str "own")) (eCons (eC (.str "pq")) eNil)))))) τ) S Q = Q (encW (pickW line [2, 0, 0, 0, 1])) S := by
  simp only [wp_eTup, wp_eCons, wp_eC, wp_eNil, wp_tupS, List.length_cons, List.length_nil, Nat.reduceAdd, Nat.reduceLeDiff]
  rfl
theorem e_wr : wp ((eBin mulT (eTup (eCons (eC (.str "pq")) (eCons (eC (.str "qr")) (eCons (eC (.str "pr")) (eCons (eC (.str "pq")) eNil))))) (eC (.int 3))) τ) S Q = Q (encW (pickW ring [0, 2, 1, 0, 0, 2, 1, 0, 0, 2, 1, 0])) S := by
  simp only [wp_eBin, wp_eTup, wp_eCons, wp_eC, wp_eNil, wp_tupS, List.length_cons, List.length_nil, Nat.reduceAdd, Nat.reduceLeDiff]
  rw [show T.int 3 = T.int ((3 : Nat) : Int) from rfl, wp_mulT (by decide) (by show 4 ≤ 1000; decide)]
  rfl
end
theorem law_ok (ns : List Int) (hz : ns.length ≤ 63) : wp (d_law [.scr ns]) [] fun t _ => t = .bl true := by
  unfold d_law
  refine wp_callD1 ?_
  show wps b_law [some (.scr ns), none, none, none, none, none, none] [] _ _ noK noK
  unfold b_law
  rw [wps_seq, wps_for]
  simp only [wp_eRange, wp_eCall, wp_eCons, wp_eNil, wp_eC, wp_eVar, List.getElem?_cons_zero, List.getElem?_cons_succ, wp_len_c, wp_min2, wp_max2]
  obtain ⟨cnt, ec⟩ : ∃ cnt : Int, (if (if (ns.length : Int) < 6 then (ns.length : Int) else 6) > 1 then (if (ns.length : Int) < 6 then (ns.length : Int) else 6) else 1) = cnt := ⟨_, rfl⟩
  rw [ec]
  have c0 : 0 ≤ cnt ∧ cnt ≤ 6 := by
    rw [← ec]
    split <;> split <;> omega
  rw [wp_range1 (by omega) (by omega)]
  have lenr : ((List.range cnt.toNat).map fun (k : Nat) => T.int (k : Int)).length = cnt.toNat := by simp
  refine wpl_inv (fun i τ S' => ∃ a1 a2 a3, τ = [some (.scr ns), a1, a2, a3, none, none, none]) _ 0 _ _ ⟨_, _, _, rfl⟩ (fun _ _ _ _ => trivial) (fun i hi τ S' hI => ?_) fun τ S' hI => ?_
  · obtain ⟨a1, a2, a3, e⟩ := hI
    subst e
    rw [lenr] at hi
    rw [List.getElem_map, List.getElem_range]
    simp only [wp_tgName, List.set_cons_zero, List.set_cons_succ]
    rw [wps_seq]
    simp only [wps_set, wp_eCall, wp_eCons, wp_eNil, wp_eVar, List.getElem?_cons_zero, List.getElem?_cons_succ]
    refine wp_mono (stream_ok ns i (by omega) hz S') fun t S1 ⟨et, hs, _⟩ => ?_
    rw [et]
    simp only [List.set_cons_zero, List.set_cons_succ]
    rw [wps_seq]
    simp only [wps_set, wp_eBin, wp_eLst, wp_eCall, wp_eCons, wp_eNil, wp_eC, wp_eVar, List.getElem?_cons_zero, List.getElem?_cons_succ]
    refine wp_mono (alphabet_ok hs (by omega) (most := 5) (letters := 8) (by decide) (by decide) (by decide) (by decide)) fun t S2 ⟨⟨A, et, hA, _, _⟩, h2, _⟩ => ?_
    subst et
    refine wp_mono (meeting_ok h2 (by omega)) fun t S3 ⟨⟨B, et, hB⟩, h3, _⟩ => ?_
    subst et
    rw [wp_lstS (by show 2 ≤ 100; decide)]
    refine wp_mono (draw_ok h3 (by omega) (total := 2) (by decide) (by decide)) fun t S4 ⟨⟨x, et, x0, x1⟩, h4, _⟩ => ?_
    subst et
    have : ∃ C, L2.atI [encA A, encA B] x = some (encA C) ∧ Good C := by
      have : x = 0 ∨ x = 1 := by omega
      rcases this with rfl | rfl
      · exact ⟨A, rfl, hA⟩
      · exact ⟨B, rfl, hB⟩
    obtain ⟨C, eC, hC⟩ := this
    rw [wp_ix_l, eC, optP_some]
    simp only [List.set_cons_zero, List.set_cons_succ]
    simp only [wps_if, wp_bNot, wp_eTru, wp_eCall, wp_eCons, wp_eNil, wp_eBin, wp_eC, wp_eVar, List.getElem?_cons_zero, List.getElem?_cons_succ]
    refine wp_mono (draw_ok h4 (by omega) (total := 26) (by decide) (by decide)) fun t S5 ⟨⟨y, et, y0, y1⟩, h5, _⟩ => ?_
    subst et
    obtain ⟨m, hm⟩ : ∃ m : Nat, (5 : Int) + y = m := ⟨(5 + y).toNat, by omega⟩
    rw [wp_add_ii, hm]
    refine wp_mono (word_ok hC h5 (by omega) (total := m) (by omega)) fun t S6 ⟨⟨w, et, hw⟩, h6, _⟩ => ?_
    subst et
    rw [law_right_a hC hw, wp_ret, wp_tru_b]
    exact ⟨_, _, _, rfl⟩
  · obtain ⟨a1, a2, a3, e⟩ := hI
    subst e
    rw [wps_seq, wps_set, e_ring]
    simp only [List.set_cons_zero, List.set_cons_succ]
    rw [wps_seq, wps_set, e_full]
    simp only [List.set_cons_zero, List.set_cons_succ]
    rw [wps_seq]
    simp only [wps_if, wp_bNot, wp_eTru, wp_eCall, wp_eCons, wp_eNil, wp_eVar, List.getElem?_cons_zero, List.getElem?_cons_succ]
    rw [e_wf, law_right_a full_ok (pickW_ok (by decide)), wp_ret, wp_tru_b]
    simp only [Bool.not_true, Bool.false_eq_true, if_false, wps_next]
    rw [wps_seq, wps_set, e_line]
    simp only [List.set_cons_zero, List.set_cons_succ]
    rw [wps_seq]
    simp only [wps_if, wp_bNot, wp_eTru, wp_eCall, wp_eCons, wp_eNil, wp_eVar, List.getElem?_cons_zero, List.getElem?_cons_succ]
    rw [e_wl, law_right_a line_ok (pickW_ok (by decide)), wp_ret, wp_tru_b]
    simp only [Bool.not_true, Bool.false_eq_true, if_false, wps_next]
    simp only [wps_ret, wp_eCall, wp_eCons, wp_eNil, wp_eVar, List.getElem?_cons_zero, List.getElem?_cons_succ]
    rw [e_wr, law_right_a ring_ok (pickW_ok (by decide)), wp_ret]
    exact ⟨⟨Nat.zero_le _, fun m hm => by cases hm⟩, .bl true, by simp [frzTop, lowT], rfl⟩
theorem holds (ns : List Int) (hz : ns.length ≤ 63) : ∃ S, d_law [.scr ns] [] = .ok (.bl true) S := by
  obtain ⟨t, S', e, rfl⟩ := wp_ok (law_ok ns hz)
  exact ⟨S', e⟩

end W_k39
open PySem PySem.W PyProof.Rows
set_option maxHeartbeats 0 in
theorem PySem.Challenge.cw_meetwide_k39_news_tables_met_holds : PySem.Challenge.rw_meetwide_k39_news_tables_met.Holds := by
  w_on; o_law; k_head; (case hw => w_witness2)
  k_fill
  refine Fw.walk_G (l := PySem.Challenge.rw_meetwide_k39_news_tables_met) (k := 10) (x := "script") (gb := true) (den := W_k39.d_law) rfl rfl ⟨rfl, by decide, by decide⟩ (fun w h Y => PySem.W.kIn_of Y) ?F W_k39.holds
  case F =>
    intro w mg fa h KX G hmg
    refine' W_k39.all_mk KX G hmg ?a1__law_places ?l1__law_places ?c1__law_places ?k1__law_places ?a1_is_ascending ?l1_is_ascending ?c1_is_ascending ?k1_is_ascending ?a1_is_integer ?l1_is_integer ?c1_is_integer ?k1_is_integer ?a1_is_between ?l1_is_between ?c1_is_between ?k1_is_between ?a1_is_name ?l1_is_name ?c1_is_name ?k1_is_name ?a1_are_processes ?l1_are_processes ?c1_are_processes ?k1_are_processes ?a1_is_set_of ?l1_is_set_of ?c1_is_set_of ?k1_is_set_of ?a1_is_row ?l1_is_row ?c1_is_row ?k1_is_row ?a1_is_alphabet ?l1_is_alphabet ?c1_is_alphabet ?k1_is_alphabet ?a1_require_alphabet ?l1_require_alphabet ?c1_require_alphabet ?k1_require_alphabet ?a1_letters_in ?l1_letters_in ?c1_letters_in ?k1_letters_in ?a1_is_letter_in ?l1_is_letter_in ?c1_is_letter_in ?k1_is_letter_in ?a1_require_letter ?l1_require_letter ?c1_require_letter ?k1_require_letter ?a1_newest_in ?l1_newest_in ?c1_newest_in ?k1_newest_in ?a1_met_in ?l1_met_in ?c1_met_in ?k1_met_in ?a1_places_in ?l1_places_in ?c1_places_in ?k1_places_in ?a1_place_in ?l1_place_in ?c1_place_in ?k1_place_in ?a1_is_clock_in ?l1_is_clock_in ?c1_is_clock_in ?k1_is_clock_in ?a1_is_table_in ?l1_is_table_in ?c1_is_table_in ?k1_is_table_in ?a1_met_tables ?l1_met_tables ?c1_met_tables ?k1_met_tables ?a1_zero_table ?l1_zero_table ?c1_zero_table ?k1_zero_table ?a1_first_table ?l1_first_table ?c1_first_table ?k1_first_table ?a1__law_meet ?l1__law_meet ?c1__law_meet ?k1__law_meet ?a1__law_pasts ?l1__law_pasts ?c1__law_pasts ?k1__law_pasts ?a1__law_last ?l1__law_last ?c1__law_last ?k1__law_last ?a1__law_view ?l1__law_view ?c1__law_view ?k1__law_view ?a1__law_counts ?l1__law_counts ?c1__law_counts ?k1__law_counts ?a1__law_table ?l1__law_table ?c1__law_table ?k1__law_table ?a1__law_right ?l1__law_right ?c1__law_right ?k1__law_right ?a1__law_stream ?l1__law_stream ?c1__law_stream ?k1__law_stream ?a1__law_draw ?l1__law_draw ?c1__law_draw ?k1__law_draw ?a1__law_alphabet ?l1__law_alphabet ?c1__law_alphabet ?k1__law_alphabet ?a1__law_meeting_alphabet ?l1__law_meeting_alphabet ?c1__law_meeting_alphabet ?k1__law_meeting_alphabet ?a1__law_pick ?l1__law_pick ?c1__law_pick ?k1__law_pick ?a1__law_word ?l1__law_word ?c1__law_word ?k1__law_word ?a1_law ?l1_law ?c1_law ?k1_law ?z1_abs ?z1_all ?z1_bool ?z1_dict ?z1_enumerate ?z1_int ?z1_isinstance ?z1_len ?z1_list ?z1_max ?z1_min ?z1_range ?z1_repr ?z1_set ?z1_sorted ?z1_str ?z1_tuple ?z1_zip ?g1_MAX_LETTERS ?g1_MAX_NAME ?g1_MAX_PROCESSES ?g1_SIGNS
    (case a1__law_places => k_is); (case l1__law_places => k_is); (case c1__law_places => k_is); (case k1__law_places => k_is); (case a1_is_ascending => k_is); (case l1_is_ascending => k_is); (case c1_is_ascending => k_is); (case k1_is_ascending => k_is); (case a1_is_integer => k_is); (case l1_is_integer => k_is); (case c1_is_integer => k_is); (case k1_is_integer => k_is); (case a1_is_between => k_is); (case l1_is_between => k_is); (case c1_is_between => k_is); (case k1_is_between => k_is); (case a1_is_name => k_is); (case l1_is_name => k_is); (case c1_is_name => k_is); (case k1_is_name => k_is); (case a1_are_processes => k_is); (case l1_are_processes => k_is); (case c1_are_processes => k_is); (case k1_are_processes => k_is); (case a1_is_set_of => k_is); (case l1_is_set_of => k_is); (case c1_is_set_of => k_is); (case k1_is_set_of => k_is); (case a1_is_row => k_is); (case l1_is_row => k_is); (case c1_is_row => k_is); (case k1_is_row => k_is); (case a1_is_alphabet => k_is); (case l1_is_alphabet => k_is); (case c1_is_alphabet => k_is); (case k1_is_alphabet => k_is); (case a1_require_alphabet => k_is); (case l1_require_alphabet => k_is); (case c1_require_alphabet => k_is); (case k1_require_alphabet => k_is); (case a1_letters_in => k_is); (case l1_letters_in => k_is); (case c1_letters_in => k_is); (case k1_letters_in => k_is); (case a1_is_letter_in => k_is); (case l1_is_letter_in => k_is); (case c1_is_letter_in => k_is); (case k1_is_letter_in => k_is); (case a1_require_letter => k_is); (case l1_require_letter => k_is); (case c1_require_letter => k_is); (case k1_require_letter => k_is); (case a1_newest_in => k_is); (case l1_newest_in => k_is); (case c1_newest_in => k_is); (case k1_newest_in => k_is); (case a1_met_in => k_is); (case l1_met_in => k_is); (case c1_met_in => k_is); (case k1_met_in => k_is); (case a1_places_in => k_is); (case l1_places_in => k_is); (case c1_places_in => k_is); (case k1_places_in => k_is); (case a1_place_in => k_is); (case l1_place_in => k_is); (case c1_place_in => k_is); (case k1_place_in => k_is); (case a1_is_clock_in => k_is); (case l1_is_clock_in => k_is); (case c1_is_clock_in => k_is); (case k1_is_clock_in => k_is); (case a1_is_table_in => k_is); (case l1_is_table_in => k_is); (case c1_is_table_in => k_is); (case k1_is_table_in => k_is); (case a1_met_tables => k_is); (case l1_met_tables => k_is); (case c1_met_tables => k_is); (case k1_met_tables => k_is); (case a1_zero_table => k_is); (case l1_zero_table => k_is); (case c1_zero_table => k_is); (case k1_zero_table => k_is); (case a1_first_table => k_is); (case l1_first_table => k_is); (case c1_first_table => k_is); (case k1_first_table => k_is); (case a1__law_meet => k_is); (case l1__law_meet => k_is); (case c1__law_meet => k_is); (case k1__law_meet => k_is); (case a1__law_pasts => k_is); (case l1__law_pasts => k_is); (case c1__law_pasts => k_is); (case k1__law_pasts => k_is); (case a1__law_last => k_is); (case l1__law_last => k_is); (case c1__law_last => k_is); (case k1__law_last => k_is); (case a1__law_view => k_is); (case l1__law_view => k_is); (case c1__law_view => k_is); (case k1__law_view => k_is); (case a1__law_counts => k_is); (case l1__law_counts => k_is); (case c1__law_counts => k_is); (case k1__law_counts => k_is); (case a1__law_table => k_is); (case l1__law_table => k_is); (case c1__law_table => k_is); (case k1__law_table => k_is); (case a1__law_right => k_is); (case l1__law_right => k_is); (case c1__law_right => k_is); (case k1__law_right => k_is); (case a1__law_stream => k_is); (case l1__law_stream => k_is); (case c1__law_stream => k_is); (case k1__law_stream => k_is); (case a1__law_draw => k_is); (case l1__law_draw => k_is); (case c1__law_draw => k_is); (case k1__law_draw => k_is); (case a1__law_alphabet => k_is); (case l1__law_alphabet => k_is); (case c1__law_alphabet => k_is); (case k1__law_alphabet => k_is); (case a1__law_meeting_alphabet => k_is); (case l1__law_meeting_alphabet => k_is); (case c1__law_meeting_alphabet => k_is); (case k1__law_meeting_alphabet => k_is); (case a1__law_pick => k_is); (case l1__law_pick => k_is); (case c1__law_pick => k_is); (case k1__law_pick => k_is); (case a1__law_word => k_is); (case l1__law_word => k_is); (case c1__law_word => k_is); (case k1__law_word => k_is); (case a1_law => k_is); (case l1_law => k_is); (case c1_law => k_is); (case k1_law => k_is); (case z1_abs => k_is); (case z1_all => k_is); (case z1_bool => k_is); (case z1_dict => k_is); (case z1_enumerate => k_is); (case z1_int => k_is); (case z1_isinstance => k_is); (case z1_len => k_is); (case z1_list => k_is); (case z1_max => k_is); (case z1_min => k_is); (case z1_range => k_is); (case z1_repr => k_is); (case z1_set => k_is); (case z1_sorted => k_is); (case z1_str => k_is); (case z1_tuple => k_is); (case z1_zip => k_is); (case g1_MAX_LETTERS => k_is); (case g1_MAX_NAME => k_is); (case g1_MAX_PROCESSES => k_is); (case g1_SIGNS => k_is)
