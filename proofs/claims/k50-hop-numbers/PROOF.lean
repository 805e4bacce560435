import PyProof.Rows.All
import Wide.All
import OpenK.AllK
import Wide.FinOn
import HandS.ForMost
import HandS.Exc
import HandS.ExcOwn
import HandS.TryOnly
import HandS.WordsExc
import HandS.Deep
import HandS.IsInst
import HandS.Flow
import HandS.TupAny
import HandS.TupMul
import HandS.TupLe
import HandS.TupLen
import HandS.Zip
import HandS.Conv
import HandS.SortInts
import HandS.SortRule
import HandS.Codes
import HandS.Style
import PySem.Challenge.RW_messengers_k50_whole_hop_numbers
set_option Elab.async false
set_option linter.all false
set_option maxRecDepth 100000
set_option maxHeartbeats 4000000
/-! A layer of plain answers over the hand layer: values W without addresses, a store of the things that may change, and for each construct the answer that it gives. -/
namespace QP
open PySem PySem.Spec PyProof.Rows L2

/-! ### plain values -/
inductive W where
  | non | bl (b : Bool) | int (i : Int) | str (x : Str) | tup (l : List W) | lst (l : List W) | scr (l : List Int) | ref (n : Nat) | ty (n : String) | fn (n : String)
/-- what may change -/
inductive O where
  | lst (l : List W) | dk (lock : Bool) (kvs : List (Key × W)) | dt (lock : Bool) (kvs : List (List Key × W))
abbrev Store := List O
abbrev Env := List (Option W)
inductive R (α : Type) where
  | ok (a : α) (S : Store) | exc (c : String) (x : Option (Str × W)) (S : Store) | bad
abbrev EX := Env → Store → R W
abbrev TX := Env → Store → R Bool
abbrev AX := Env → Store → R (List W)
def R.bind {α β : Type} (r : R α) (k : α → Store → R β) : R β := match r with
  | .ok a S => k a S
  | .exc c x S => .exc c x S
  | .bad => .bad

/-! ### where they lie -/
structure GP where
  fa : String → Addr
  ec : String → Addr
  K : PySem.W.Frag
/-- the script: frozen, or a constant of the text -/
def ScrAt (G : GP) (A B : List Addr) (H : Hp) (l : List Int) (a : Addr) : Prop := (a ∉ A ∧ a ∉ B ∧ Rd H a (.lst (l.map V.int))) ∨
  ∃ (o : Obj) (its : Array Value) (n : Nat), G.K.lookup a = some o ∧ o.cls = .type "list" ∧ o.dict = none ∧ o.data = .seq its n ∧ its.size ≤ sizeLine ∧ Vals (l.map V.int) its.toList
mutual
inductive RW (G : GP) (A B : List Addr) (H : Hp) : W → V → Prop
  | non : RW G A B H .non .non
  | bl (b : Bool) : RW G A B H (.bl b) (.bl b)
  | int (i : Int) : RW G A B H (.int i) (.int i)
  | str (x : Str) : RW G A B H (.str x) (.str x)
  | tup {l : List W} {a : Addr} {vs : List V} : a ∉ A → a ∉ B → H a = some (.tup vs) → RWs G A B H l vs → RW G A B H (.tup l) (.ref a)
  | lst {l : List W} {a : Addr} {vs : List V} : a ∉ A → a ∉ B → H a = some (.lst vs) → RWs G A B H l vs → RW G A B H (.lst l) (.ref a)
  | scr {l : List Int} {a : Addr} : ScrAt G A B H l a → RW G A B H (.scr l) (.ref a)
  | ref {n : Nat} {a : Addr} : A[n]? = some a → RW G A B H (.ref n) (.ref a)
  | ty (n : String) : RW G A B H (.ty n) (.ty n)
  | fn (n : String) : RW G A B H (.fn n) (.ref (G.fa n))
inductive RWs (G : GP) (A B : List Addr) (H : Hp) : List W → List V → Prop
  | nil : RWs G A B H [] []
  | cons {w : W} {v : V} {l : List W} {vs : List V} : RW G A B H w v → RWs G A B H l vs → RWs G A B H (w :: l) (v :: vs)
end
def RKV {κ : Type} (G : GP) (A B : List Addr) (H : Hp) : List (κ × W) → List (κ × V) → Prop := Paired fun p q => p.1 = q.1 ∧ RW G A B H p.2 q.2
def RO (G : GP) (A B : List Addr) (H : Hp) (a : Addr) : O → Prop
  | .lst l => ∃ vs, H a = some (.lst vs) ∧ RWs G A B H l vs
  | .dk lock kvs => ∃ ks, (if lock = true then ∃ o, H a = some (.frz o (.dK ks)) else H a = some (.dK ks)) ∧ RKV G A B H kvs ks
  | .dt lock kvs => ∃ ks, (if lock = true then ∃ o, H a = some (.frz o (.dT ks)) else H a = some (.dT ks)) ∧ RKV G A B H kvs ks
structure RS (G : GP) (A B : List Addr) (H : Hp) (S : Store) : Prop where
  len : A.length = S.length
  nd : A.Nodup
  apart : ∀ a ∈ A, a ∉ B
  ob : ∀ (n : Nat) (a : Addr) (o : O), A[n]? = some a → S[n]? = some o → RO G A B H a o
  res : ∀ b ∈ B, ∃ vs, H b = some (.lst vs)
/-- later: the store's addresses grow, all that was tracked aside from them is as it was -/
structure Ext (A A' : List Addr) (H H' : Hp) : Prop where
  pre : ∃ more, A' = A ++ more
  keep : ∀ a o, H a = some o → a ∉ A → H' a = some o ∧ a ∉ A'
structure REnv (G : GP) (A B : List Addr) (H : Hp) (env : Env) (σ : L2.St) : Prop where
  len : env.length = σ.length
  at_ : ∀ (i : Nat) (w : W), env[i]? = some (some w) → ∃ v, σ[i]? = some (some v) ∧ RW G A B H w v

section
variable {G : GP} {A A' A'' B : List Addr} {H H' H'' : Hp}
theorem Ext.refl : Ext A A H H := ⟨⟨[], by simp⟩, fun a o h n => ⟨h, n⟩⟩
theorem Ext.trans (e : Ext A A' H H') (f : Ext A' A'' H' H'') : Ext A A'' H H'' := by
  obtain ⟨⟨m1, e1⟩, k1⟩ := e
  obtain ⟨⟨m2, e2⟩, k2⟩ := f
  refine ⟨⟨m1 ++ m2, by rw [e2, e1, List.append_assoc]⟩, fun a o h n => ?_⟩
  obtain ⟨h1, n1⟩ := k1 a o h n
  exact k2 a o h1 n1
theorem Ext.get (e : Ext A A' H H') {n : Nat} {a : Addr} (h : A[n]? = some a) : A'[n]? = some a := by
  obtain ⟨⟨m, rfl⟩, _⟩ := e
  have hn : n < A.length := (List.getElem?_eq_some_iff.mp h).1
  rw [List.getElem?_append_left hn]; exact h
theorem Ext.rd (e : Ext A A' H H') {a : Addr} {o : HO} (n : a ∉ A) (h : Rd H a o) : Rd H' a o ∧ a ∉ A' := by
  rcases h with h | ⟨ob, h⟩
  · exact ⟨.inl (e.keep a _ h n).1, (e.keep a _ h n).2⟩
  · exact ⟨.inr ⟨ob, (e.keep a _ h n).1⟩, (e.keep a _ h n).2⟩
theorem ScrAt.ext (e : Ext A A' H H') {l : List Int} {a : Addr} (h : ScrAt G A B H l a) : ScrAt G A' B H' l a := h.imp (fun ⟨n, m, r⟩ => ⟨(e.rd n r).2, m, (e.rd n r).1⟩) id
mutual
theorem RW.ext (e : Ext A A' H H') : ∀ {w : W} {v : V}, RW G A B H w v → RW G A' B H' w v
  | _, _, .non => .non
  | _, _, .bl b => .bl b
  | _, _, .int i => .int i
  | _, _, .str x => .str x
  | _, _, .tup n m r q => .tup (e.keep _ _ r n).2 m (e.keep _ _ r n).1 (RWs.ext e q)
  | _, _, .lst n m r q => .lst (e.keep _ _ r n).2 m (e.keep _ _ r n).1 (RWs.ext e q)
  | _, _, .scr h => .scr (h.ext e)
  | _, _, .ref h => .ref (e.get h)
  | _, _, .ty n => .ty n
  | _, _, .fn n => .fn n
theorem RWs.ext (e : Ext A A' H H') : ∀ {l : List W} {vs : List V}, RWs G A B H l vs → RWs G A' B H' l vs
  | _, _, .nil => .nil
  | _, _, .cons r q => .cons (RW.ext e r) (RWs.ext e q)
end
theorem RKV.ext {κ : Type} (e : Ext A A' H H') {l : List (κ × W)} {ks : List (κ × V)} (r : RKV G A B H l ks) : RKV G A' B H' l ks := Paired.mapP r fun _ _ h => ⟨h.1, h.2.ext e⟩
theorem REnv.ext (e : Ext A A' H H') {env : Env} {σ : L2.St} (r : REnv G A B H env σ) : REnv G A' B H' env σ :=
  ⟨r.len, fun i w h => let ⟨v, h1, h2⟩ := r.at_ i w h; ⟨v, h1, h2.ext e⟩⟩
theorem RWs.length {l : List W} {vs : List V} (r : RWs G A B H l vs) : l.length = vs.length := by
  induction l generalizing vs with
  | nil => cases r; rfl
  | cons w l ih => cases r with | cons a b => simp [ih b]
theorem RWs.get {l : List W} {vs : List V} (r : RWs G A B H l vs) {i : Nat} {w : W} (h : l[i]? = some w) : ∃ v, vs[i]? = some v ∧ RW G A B H w v := by
  induction l generalizing vs i with
  | nil => simp at h
  | cons w' l ih =>
    cases r with
    | cons a b =>
      cases i with
      | zero => simp at h; subst h; exact ⟨_, rfl, a⟩
      | succ i => simpa using ih b (by simpa using h)
theorem RWs.get' {l : List W} {vs : List V} (r : RWs G A B H l vs) {i : Nat} {v : V} (h : vs[i]? = some v) : ∃ w, l[i]? = some w ∧ RW G A B H w v := by
  induction l generalizing vs i with
  | nil => cases r; simp at h
  | cons w' l ih =>
    cases r with
    | cons a b =>
      cases i with
      | zero => simp at h; subst h; exact ⟨_, rfl, a⟩
      | succ i => simpa using ih b (by simpa using h)
theorem RWs.append {l l' : List W} {vs vs' : List V} (r : RWs G A B H l vs) (r' : RWs G A B H l' vs') : RWs G A B H (l ++ l') (vs ++ vs') := by
  induction l generalizing vs with
  | nil => cases r; exact r'
  | cons w l ih => cases r with | cons a b => exact .cons a (ih b)
theorem RWs.one {w : W} {v : V} (r : RW G A B H w v) : RWs G A B H [w] [v] := .cons r .nil
theorem RWs.take {l : List W} {vs : List V} (n : Nat) (r : RWs G A B H l vs) : RWs G A B H (l.take n) (vs.take n) := by
  induction n generalizing l vs with
  | zero => exact .nil
  | succ n ih => cases r with
    | nil => exact .nil
    | cons a b => exact .cons a (ih b)
theorem RWs.drop {l : List W} {vs : List V} (n : Nat) (r : RWs G A B H l vs) : RWs G A B H (l.drop n) (vs.drop n) := by
  induction n generalizing l vs with
  | zero => exact r
  | succ n ih => cases r with
    | nil => exact .nil
    | cons a b => exact ih b
theorem RWs.set {l : List W} {vs : List V} (r : RWs G A B H l vs) {w : W} {v : V} (q : RW G A B H w v) (i : Nat) : RWs G A B H (l.set i w) (vs.set i v) := by
  induction l generalizing vs i with
  | nil => cases r; exact .nil
  | cons w' l ih => cases r with
    | cons a b => cases i with
      | zero => exact .cons q b
      | succ i => exact .cons a (ih b i)
theorem RWs.erase {l : List W} {vs : List V} (r : RWs G A B H l vs) (i : Nat) : RWs G A B H (l.eraseIdx i) (vs.eraseIdx i) := by
  induction l generalizing vs i with
  | nil => cases r; exact .nil
  | cons w' l ih => cases r with
    | cons a b => cases i with
      | zero => exact b
      | succ i => exact .cons a (ih b i)
theorem RWs.rev {l : List W} {vs : List V} (r : RWs G A B H l vs) : RWs G A B H l.reverse vs.reverse := by
  induction l generalizing vs with
  | nil => cases r; exact .nil
  | cons w' l ih => cases r with
    | cons a b =>
      rw [List.reverse_cons, List.reverse_cons]
      exact (ih b).append (.one a)
theorem RWs.ints {l : List Int} {vs : List V} (r : RWs G A B H (l.map W.int) vs) : vs = l.map V.int := by
  induction l generalizing vs with
  | nil => cases r; rfl
  | cons i l ih => cases r with
    | cons a b => cases a; rw [ih b]; rfl
theorem RWs.bls {l : List Bool} {vs : List V} (r : RWs G A B H (l.map W.bl) vs) : vs = l.map V.bl := by
  induction l generalizing vs with
  | nil => cases r; rfl
  | cons i l ih => cases r with
    | cons a b => cases a; rw [ih b]; rfl
theorem RWs.of_ints : ∀ {l : List Int}, RWs G A B H (l.map W.int) (l.map V.int)
  | [] => .nil
  | i :: l => .cons (.int i) RWs.of_ints
/-- the objects of the store stay where the heap says so -/
theorem RO.ext (e : Ext A A' H H') {a : Addr} (k : H' a = H a) {o : O} (r : RO G A B H a o) : RO G A' B H' a o := by
  cases o with
  | lst l => obtain ⟨vs, h, q⟩ := r; exact ⟨vs, k.trans h, q.ext e⟩
  | dk lock kvs => obtain ⟨vs, h, q⟩ := r; exact ⟨vs, by rw [k]; exact h, q.ext e⟩
  | dt lock kvs => obtain ⟨vs, h, q⟩ := r; exact ⟨vs, by rw [k]; exact h, q.ext e⟩
theorem RS.has {S : Store} (r : RS G A B H S) {a : Addr} (h : a ∈ A) : ∃ o, H a = some o := by
  obtain ⟨n, hn⟩ := List.getElem?_of_mem h
  have hl : n < S.length := by rw [← r.len]; exact (List.getElem?_eq_some_iff.mp hn).1
  have q := r.ob n a _ hn (List.getElem?_eq_getElem hl)
  cases e : S[n] with
  | lst l => rw [e] at q; obtain ⟨vs, h, _⟩ := q; exact ⟨_, h⟩
  | dk lock kvs =>
    rw [e] at q
    obtain ⟨vs, h, _⟩ := q
    split at h
    · obtain ⟨o, h⟩ := h; exact ⟨_, h⟩
    · exact ⟨_, h⟩
  | dt lock kvs =>
    rw [e] at q
    obtain ⟨vs, h, _⟩ := q
    split at h
    · obtain ⟨o, h⟩ := h; exact ⟨_, h⟩
    · exact ⟨_, h⟩
theorem RS.fresh {S : Store} (r : RS G A B H S) {p : Addr} (h : H p = none) : p ∉ A ∧ p ∉ B := by
  refine ⟨fun z => ?_, fun z => ?_⟩
  · obtain ⟨o, e⟩ := r.has z; rw [h] at e; cases e
  · obtain ⟨o, e⟩ := r.res _ z; rw [h] at e; cases e
/-- a new thing aside from the store -/
theorem Ext.new {p : Addr} {o : HO} (h : H p = none) : Ext A A H (upd H p o) :=
  ⟨⟨[], by simp⟩, fun a u e n => ⟨by rw [upd_ne (ne_of_none e h)]; exact e, n⟩⟩
theorem RS.new {S : Store} (r : RS G A B H S) {p : Addr} {o : HO} (h : H p = none) : RS G A B (upd H p o) S := by
  refine ⟨r.len, r.nd, r.apart, fun n a ob ha ho => ?_, fun b hb => ?_⟩
  · refine (r.ob n a ob ha ho).ext (Ext.new h) ?_
    exact upd_ne (fun z => (r.fresh h).1 (by rw [← z]; exact List.mem_of_getElem? ha))
  · obtain ⟨u, e⟩ := r.res b hb
    exact ⟨u, by rw [upd_ne (ne_of_none e h)]; exact e⟩
/-- a new thing that goes into the store -/
theorem Ext.newS {p : Addr} {o : HO} (h : H p = none) : Ext A (A ++ [p]) H (upd H p o) :=
  ⟨⟨[p], rfl⟩, fun a u e n => ⟨by rw [upd_ne (ne_of_none e h)]; exact e, fun z => by
    rcases List.mem_append.mp z with z | z
    · exact n z
    · have := List.mem_singleton.mp z; subst this; rw [h] at e; cases e⟩⟩
theorem RS.newS {S : Store} (r : RS G A B H S) {p : Addr} {o : HO} {ob : O} (h : H p = none) (q : RO G (A ++ [p]) B (upd H p o) p ob) : RS G (A ++ [p]) B (upd H p o) (S ++ [ob]) := by
  have fr := r.fresh h
  refine ⟨by simp [r.len], ?_, fun a ha => ?_, fun n a u ha hu => ?_, fun b hb => ?_⟩
  · rw [List.nodup_append]
    refine ⟨r.nd, by simp, fun a ha b hb => ?_⟩
    rw [List.mem_singleton.mp hb]
    exact fun z => fr.1 (z ▸ ha)
  · rcases List.mem_append.mp ha with z | z
    · exact r.apart a z
    · rw [List.mem_singleton.mp z]; exact fr.2
  · by_cases hn : n < A.length
    · rw [List.getElem?_append_left hn] at ha
      rw [List.getElem?_append_left (by rw [← r.len]; exact hn)] at hu
      refine (r.ob n a u ha hu).ext (Ext.newS h) ?_
      exact upd_ne (fun z => fr.1 (by rw [← z]; exact List.mem_of_getElem? ha))
    · have hn2 : n = A.length := by
        have := (List.getElem?_eq_some_iff.mp ha).1
        simp at this; omega
      subst hn2
      rw [List.getElem?_append_right (Nat.le_refl _)] at ha
      rw [r.len, List.getElem?_append_right (Nat.le_refl _)] at hu
      simp at ha hu
      subst ha hu
      exact q
  · obtain ⟨u, e⟩ := r.res b hb
    exact ⟨u, by rw [upd_ne (ne_of_none e h)]; exact e⟩
/-- a thing of the store changes -/
theorem Ext.set {a : Addr} {o : HO} (h : a ∈ A) : Ext A A H (upd H a o) :=
  ⟨⟨[], by simp⟩, fun b u e n => ⟨by rw [upd_ne (fun z : b = a => n (by rw [z]; exact h))]; exact e, n⟩⟩
theorem RS.set {S : Store} (r : RS G A B H S) {n : Nat} {a : Addr} {o : HO} {ob : O} (h : A[n]? = some a) (q : RO G A B (upd H a o) a ob) : RS G A B (upd H a o) (S.set n ob) := by
  have ha := List.mem_of_getElem? h
  refine ⟨by simp [r.len], r.nd, r.apart, fun m b u hb hu => ?_, fun b hb => ?_⟩
  · by_cases hm : m = n
    · subst hm
      rw [h] at hb; cases hb
      have hl : m < S.length := by rw [← r.len]; exact (List.getElem?_eq_some_iff.mp h).1
      rw [List.getElem?_set_self hl] at hu
      cases hu
      exact q
    · rw [List.getElem?_set_ne (Ne.symm hm)] at hu
      refine (r.ob m b u hb hu).ext (Ext.set ha) ?_
      refine upd_ne fun z => hm ?_
      subst z
      exact nd_ix r.nd hb h
  · obtain ⟨u, e⟩ := r.res b hb
    refine ⟨u, ?_⟩
    rw [upd_ne fun z : b = a => r.apart a ha (by rw [← z]; exact hb)]
    exact e
theorem RS.at {S : Store} (r : RS G A B H S) {n : Nat} {o : O} (h : S[n]? = some o) {a : Addr} (ha : A[n]? = some a) : RO G A B H a o := r.ob n a o ha h
theorem RS.addr {S : Store} (r : RS G A B H S) {n : Nat} {o : O} (h : S[n]? = some o) : ∃ a, A[n]? = some a := by
  have hl : n < A.length := by rw [r.len]; exact (List.getElem?_eq_some_iff.mp h).1
  exact ⟨_, List.getElem?_eq_getElem hl⟩
end
end QP

set_option Elab.async false
set_option linter.all false
set_option maxRecDepth 100000
set_option maxHeartbeats 4000000
/-! Answers of expressions. -/
namespace QP
open PySem PySem.Spec PyProof.Rows L2

/-! ### what an answer promises -/
abbrev Rel (α β : Type) := List Addr → List Addr → Hp → α → β → Prop
def relW (G : GP) : Rel W V := fun A B H w v => RW G A B H w v
def relWs (G : GP) : Rel (List W) (List V) := fun A B H w v => RWs G A B H w v
def relB : Rel Bool Bool := fun _ _ _ b c => b = c
/-- an exception: its class, its one field -/
def RX (G : GP) (A B : List Addr) (H : Hp) (c : String) (x : Option (Str × W)) (cls : Value) (d : Option Addr) : Prop :=
  cls = .ref (G.ec c) ∧ ∀ f w, x = some (f, w) → ∃ dd v, d = some dd ∧ H dd = some (.xd [(f, v)]) ∧ RW G A B H w v
def Post {α β : Type} (G : GP) (rel : Rel α β) (A B : List Addr) (H : Hp) (E : XK) (Q : β → Hp → Prop) : R α → Prop
  | .ok a S' => ∀ A' H' b, Ext A A' H H' → RS G A' B H' S' → rel A' B H' a b → Q b H'
  | .exc c x S' => ∀ A' H' cls d, Ext A A' H H' → RS G A' B H' S' → RX G A' B H' c x cls d → E cls d H'
  | .bad => False
/-- a new list: nothing else knows it -/
def PostF (G : GP) (A B : List Addr) (H : Hp) (E : XK) (Q : V → Hp → Prop) : R (List W) → Prop
  | .ok l S' => ∀ A' H' p vs, Ext A A' H H' → H p = none → RS G A' (p :: B) H' S' → H' p = some (.lst vs) → RWs G A' (p :: B) H' l vs → Q (.ref p) H'
  | .exc c x S' => ∀ A' H' cls d, Ext A A' H H' → RS G A' B H' S' → RX G A' B H' c x cls d → E cls d H'
  | .bad => False
def rd {α β : Type} (G : GP) (rel : Rel α β) (E : XK) (m : Env → Store → R α) : L2.St → Hp → (β → Hp → Prop) → Prop := fun σ H Q =>
  ∃ A B env S, RS G A B H S ∧ REnv G A B H env σ ∧ Post G rel A B H E Q (m env S)
def rdF (G : GP) (E : XK) (m : AX) : TE := fun σ H Q => ∃ A B env S, RS G A B H S ∧ REnv G A B H env σ ∧ PostF G A B H E Q (m env S)
abbrev PM (X : Cx) (G : GP) (E : XK) (e : Expr) (m : EX) : Prop := PE X e (rd G (relW G) E m)
abbrev PMT (X : Cx) (G : GP) (E : XK) (e : Expr) (m : TX) : Prop := PT X e (rd G relB E m)
abbrev PMA (X : Cx) (G : GP) (E : XK) (es : List Expr) (m : AX) : Prop := PA X es (rd G (relWs G) E m)
abbrev PF (X : Cx) (G : GP) (E : XK) (e : Expr) (m : AX) : Prop := PE X e (rdF G E m)

section
variable {α β γ δ : Type} {G : GP} {A A' B : List Addr} {H H' : Hp} {E : XK} {rel : Rel α β} {rel2 : Rel γ δ}
theorem Post.ext {Q : β → Hp → Prop} (e : Ext A A' H H') {r : R α} (p : Post G rel A B H E Q r) : Post G rel A' B H' E Q r := by
  cases r with
  | ok a S => exact fun A'' H'' b f => p A'' H'' b (e.trans f)
  | exc c x S => exact fun A'' H'' cls d f => p A'' H'' cls d (e.trans f)
  | bad => exact p
theorem Post.mono {Q Q' : β → Hp → Prop} {r : R α} (p : Post G rel A B H E Q r) (h : ∀ b H', Q b H' → Q' b H') : Post G rel A B H E Q' r := by
  cases r with
  | ok a S => exact fun A'' H'' b f g k => h _ _ (p A'' H'' b f g k)
  | exc c x S => exact p
  | bad => exact p
theorem Post.bind {Q : δ → Hp → Prop} {Q1 : β → Hp → Prop} {r : R α} {k : α → Store → R γ} (p : Post G rel2 A B H E Q (r.bind k))
    (h : ∀ a S' A' H' b, r = .ok a S' → Ext A A' H H' → RS G A' B H' S' → rel A' B H' a b → Post G rel2 A' B H' E Q (k a S') → Q1 b H') : Post G rel A B H E Q1 r := by
  cases r with
  | ok a S => exact fun A' H' b e rs q => h a S A' H' b rfl e rs q (Post.ext e (r := k a S) p)
  | exc c x S => exact p
  | bad => exact p
theorem PostF.ext {S : Store} {Q : V → Hp → Prop} (e : Ext A A' H H') (rs : RS G A' B H' S) {r : R (List W)} (p : PostF G A B H E Q r) : PostF G A' B H' E Q r := by
  cases r with
  | ok l S' =>
    intro A'' H'' q vs f hn rs' hq ws
    refine p A'' H'' q vs (e.trans f) ?_ rs' hq ws
    cases z : H q with
    | none => rfl
    | some o =>
      by_cases ha : q ∈ A
      · have h2 : q ∈ A' := by obtain ⟨⟨m, rfl⟩, _⟩ := e; exact List.mem_append_left _ ha
        obtain ⟨o', h3⟩ := rs.has h2
        rw [hn] at h3; cases h3
      · have h3 := (e.keep q o z ha).1
        rw [hn] at h3; cases h3
  | exc c x S => exact fun A'' H'' cls d f => p A'' H'' cls d (e.trans f)
  | bad => exact p
/-- the same, the last part a new list -/
theorem Post.bindF {Q : V → Hp → Prop} {Q1 : β → Hp → Prop} {r : R α} {k : α → Store → R (List W)} (p : PostF G A B H E Q (r.bind k))
    (h : ∀ a S' A' H' b, r = .ok a S' → Ext A A' H H' → RS G A' B H' S' → rel A' B H' a b → PostF G A' B H' E Q (k a S') → Q1 b H') : Post G rel A B H E Q1 r := by
  cases r with
  | ok a S => exact fun A' H' b e rs q => h a S A' H' b rfl e rs q (PostF.ext e rs (r := k a S) p)
  | exc c x S => exact p
  | bad => exact p
/-- the first part a new list -/
theorem PostF.bind {Q : δ → Hp → Prop} {Q1 : V → Hp → Prop} {r : R (List W)} {k : List W → Store → R γ} (p : Post G rel2 A B H E Q (r.bind k))
    (h : ∀ l S' A' H' q vs, Ext A A' H H' → H q = none → RS G A' (q :: B) H' S' → H' q = some (.lst vs) → RWs G A' (q :: B) H' l vs → Post G rel2 A' B H' E Q (k l S') → Q1 (.ref q) H') : PostF G A B H E Q1 r := by
  cases r with
  | ok l S => exact fun A' H' q vs e hn rs hq ws => h l S A' H' q vs e hn rs hq ws (Post.ext e (r := k l S) p)
  | exc c x S => exact p
  | bad => exact p
end
theorem _root_.L2.PE.weak {X : Cx} {e : Expr} {t t' : TE} (h : PE X e t) (k : ∀ σ H Q, t' σ H Q → t σ H Q) : PE X e t' := ⟨fun pins s σ H Q I q => h.run pins s σ H Q I (k σ H Q q)⟩
theorem _root_.L2.PT.weak {X : Cx} {e : Expr} {t t' : TT} (h : PT X e t) (k : ∀ σ H Q, t' σ H Q → t σ H Q) : PT X e t' := ⟨fun pins s σ H Q I q => h.run pins s σ H Q I (k σ H Q q)⟩
theorem _root_.L2.PA.weak {X : Cx} {e : List Expr} {t t' : TA} (h : PA X e t) (k : ∀ σ H Q, t' σ H Q → t σ H Q) : PA X e t' := ⟨fun pos pins s σ H Q I q => h.run pos pins s σ H Q I (k σ H Q q)⟩
theorem _root_.L2.PS.weak {X : Cx} {e : Stmt} {t t' : TS} (h : PS X e t) (k : ∀ D σ H, t' D σ H → t D σ H) : PS X e t' := ⟨fun pins s σ H D I q => h.run pins s σ H D I (k D σ H q)⟩
theorem _root_.L2.PSs.weak {X : Cx} {e : List Stmt} {t t' : TS} (h : PSs X e t) (k : ∀ D σ H, t' D σ H → t D σ H) : PSs X e t' := ⟨fun pins s σ H D I q => h.run pins s σ H D I (k D σ H q)⟩
/-- one of two readings -/
theorem _root_.L2.PE.or {X : Cx} {e : Expr} {t t' : TE} (h : PE X e t) (h' : PE X e t') : PE X e (fun σ H Q => t σ H Q ∨ t' σ H Q) :=
  ⟨fun pins s σ H Q I q => q.elim (h.run pins s σ H Q I) (h'.run pins s σ H Q I)⟩
theorem _root_.L2.PT.or {X : Cx} {e : Expr} {t t' : TT} (h : PT X e t) (h' : PT X e t') : PT X e (fun σ H Q => t σ H Q ∨ t' σ H Q) :=
  ⟨fun pins s σ H Q I q => q.elim (h.run pins s σ H Q I) (h'.run pins s σ H Q I)⟩
theorem _root_.L2.PS.or {X : Cx} {e : Stmt} {t t' : TS} (h : PS X e t) (h' : PS X e t') : PS X e (fun D σ H => t D σ H ∨ t' D σ H) :=
  ⟨fun pins s σ H D I q => q.elim (h.run pins s σ H D I) (h'.run pins s σ H D I)⟩

/-! ### what a sequence holds -/
def seqW (S : Store) : W → Option (List W)
  | .tup l => some l
  | .lst l => some l
  | .ref n => match S[n]? with
    | some (.lst l) => some l
    | _ => none
  | _ => none
/-- lists alone -/
def lstW (S : Store) : W → Option (List W)
  | .lst l => some l
  | .ref n => match S[n]? with
    | some (.lst l) => some l
    | _ => none
  | _ => none
section
variable {G : GP} {A B : List Addr} {H : Hp} {S : Store}
theorem lst_at (rs : RS G A B H S) {w : W} {v : V} {l : List W} (h : lstW S w = some l) (r : RW G A B H w v) : ∃ p vs, v = .ref p ∧ H p = some (.lst vs) ∧ RWs G A B H l vs := by
  cases w with
  | lst l' => cases h; cases r with | lst n m q z => exact ⟨_, _, rfl, q, z⟩
  | ref n =>
    cases r with
    | ref ha =>
      simp only [lstW] at h
      split at h
      · rename_i l' hl
        cases h
        obtain ⟨vs, e, q⟩ := rs.at hl ha
        exact ⟨_, vs, rfl, e, q⟩
      · cases h
  | _ => cases h
theorem seq_at (rs : RS G A B H S) {w : W} {v : V} {l : List W} (h : seqW S w = some l) (r : RW G A B H w v) : ∃ p vs, v = .ref p ∧ (Rd H p (.lst vs) ∨ H p = some (.tup vs)) ∧ RWs G A B H l vs := by
  cases w with
  | tup l' => cases h; cases r with | tup n m q z => exact ⟨_, _, rfl, .inr q, z⟩
  | lst l' => cases h; cases r with | lst n m q z => exact ⟨_, _, rfl, .inl (.inl q), z⟩
  | ref n =>
    cases r with
    | ref ha =>
      simp only [seqW] at h
      split at h
      · rename_i l' hl
        cases h
        obtain ⟨vs, e, q⟩ := rs.at hl ha
        exact ⟨_, vs, rfl, .inl (.inl e), q⟩
      · cases h
  | _ => cases h
end

/-! ### names, constants -/
def eVar (i : Nat) : EX := fun env S => match env[i]? with
  | some (some w) => .ok w S
  | _ => .bad
def eC (w : W) : EX := fun _ S => .ok w S
section
variable {X : Cx} {G : GP} {E : XK}
theorem m_var (i : Nat) {x : Str} {pos : Pos} (hN : X.N[i]? = some x := by rfl) (hv : Vis X.env.scope x := by first | exact Or.inl rfl | exact Or.inr (Or.inl rfl) | exact Or.inr (Or.inr rfl)) (hd : (x == ("__debug__" : Str)) = false := by decide)
    (hcd : (x == ("__classdict__" : Str)) = false := by decide) : PM X G E (.Name x pos) (eVar i) := by
  refine (pe_var (i := i) hN hv hd hcd).weak fun σ H Q ⟨A, B, env, S, rs, re, p⟩ => ?_
  unfold eVar at p
  split at p
  · rename_i w hw
    obtain ⟨v, h1, h2⟩ := re.at_ i w hw
    exact ⟨v, h1, p A H v .refl rs h2⟩
  · exact p.elim
theorem m_const {e : Expr} {w : W} {v : V} (h : PE X e (tC v)) (r : ∀ A B H, RW G A B H w v) : PM X G E e (eC w) :=
  h.weak fun σ H Q ⟨A, B, env, S, rs, re, p⟩ => p A H v .refl rs (r A B H)
theorem m_int {i j pos} : PM X G E (.Constant (.int i) j pos) (eC (.int i)) := m_const pe_int fun _ _ _ => .int i
theorem m_bl {b j pos} : PM X G E (.Constant (.bool b) j pos) (eC (.bl b)) := m_const pe_bl fun _ _ _ => .bl b
theorem m_non {j pos} : PM X G E (.Constant .none j pos) (eC .non) := m_const pe_non fun _ _ _ => .non
theorem m_str {x j pos} : PM X G E (.Constant (.str x) j pos) (eC (.str x)) := m_const pe_str fun _ _ _ => .str x
theorem m_globI {x : Str} {i : Int} {t : Tok} {pos : Pos} (hm : X.mg x = some (.int i t)) (hg : Gl X x := by rfl) (hd : (x == ("__debug__" : Str)) = false := by decide) : PM X G E (.Name x pos) (eC (.int i)) :=
  m_const (pe_glob (v := .int i) hg hm ⟨t, rfl⟩ hd) fun _ _ _ => .int i
theorem m_globF {x : Str} {n : String} {pos : Pos} (hm : X.mg x = some (.ref (G.fa n))) (hg : Gl X x := by rfl) (hd : (x == ("__debug__" : Str)) = false := by decide) : PM X G E (.Name x pos) (eC (.fn n)) :=
  m_const (pe_glob (v := .ref (G.fa n)) hg hm rfl hd) fun _ _ _ => .fn n
theorem m_ty {x : Str} {n : String} {pos : Pos} (hm : X.mg x = none) (hv : bootBuiltins x = some (.type n)) (hg : Gl X x := by rfl) (hn : x ≠ "__name__" := by decide) (hd : (x == ("__debug__" : Str)) = false := by decide) : PM X G E (.Name x pos) (eC (.ty n)) :=
  m_const (pe_bltn (v := .ty n) hg hm hv rfl hn hd) fun _ _ _ => .ty n

/-! ### two-place operations -/
def r2 (G : GP) (E : XK) (f : W → W → Store → R W) : R2 := fun x y H Q => ∃ A B S wx wy, RS G A B H S ∧ RW G A B H wx x ∧ RW G A B H wy y ∧ Post G (relW G) A B H E Q (f wx wy S)
def eBin (f : W → W → Store → R W) (a b : EX) : EX := fun env S => (a env S).bind fun x S1 => (b env S1).bind fun y S2 => f x y S2
theorem bin_rd {f : W → W → Store → R W} {ma mb : EX} {σ : L2.St} {H : Hp} {Q : VK} (h : rd G (relW G) E (eBin f ma mb) σ H Q) : tOp (r2 G E f) (rd G (relW G) E ma) (rd G (relW G) E mb) σ H Q := by
  obtain ⟨A, B, env, S, rs, re, p⟩ := h
  refine ⟨A, B, env, S, rs, re, Post.bind p fun wx S1 A1 H1 x ex e1 rs1 r1 p1 => ⟨A1, B, env, S1, rs1, re.ext e1, Post.bind p1 fun wy S2 A2 H2 y ey e2 rs2 r2 p2 => ?_⟩⟩
  exact ⟨A2, B, S2, wx, wy, rs2, RW.ext e2 r1, r2, p2⟩
theorem m_bin {op : Operator} {f : W → W → Store → R W} {a b : Expr} {ma mb : EX} {pos : Pos} (ho : OpR X (binaryOp op) (r2 G E f)) (ha : PM X G E a ma) (hb : PM X G E b mb) : PM X G E (.BinOp a op b pos) (eBin f ma mb) :=
  (pe_op ho ha hb).weak fun _ _ _ => bin_rd
theorem m_cmp {op : CmpOp} {f : W → W → Store → R W} {a b : Expr} {ma mb : EX} {pos : Pos} (ho : OpR X (compareOp op) (r2 G E f)) (ha : PM X G E a ma) (hb : PM X G E b mb) (hm : behindInMarks op b = false) : PM X G E (.Compare a [op] [b] pos) (eBin f ma mb) :=
  (pe_cmpR ho ha hb hm).weak fun _ _ _ => bin_rd
/-- an answer that is a bool, as a test -/
def tOf (m : EX) : TX := fun env S => (m env S).bind fun w S1 => match w with
  | .bl b => .ok b S1
  | _ => .bad
theorem m_tof {e : Expr} {m : EX} (h : PT X e (tB (rd G (relW G) E m))) : PMT X G E e (tOf m) := by
  refine h.weak fun σ H Q ⟨A, B, env, S, rs, re, p⟩ => ⟨A, B, env, S, rs, re, Post.bind p fun w S1 A1 H1 x ex e1 rs1 r1 p1 => ?_⟩
  cases r1 with
  | bl b => exact ⟨b, rfl, p1 A1 H1 b .refl rs1 rfl⟩
  | _ => exact p1.elim
theorem mt_cmp {op : CmpOp} {f : W → W → Store → R W} {a b : Expr} {ma mb : EX} {pos : Pos} (ho : OpR X (compareOp op) (r2 G E f)) (ha : PM X G E a ma) (hb : PM X G E b mb) (hm : behindInMarks op b = false) : PMT X G E (.Compare a [op] [b] pos) (tOf (eBin f ma mb)) :=
  m_tof ((pt_cmpR ho ha hb hm).weak fun σ H Q h => by
    obtain ⟨A, B, env, S, rs, re, p⟩ := h
    refine ⟨A, B, env, S, rs, re, Post.bind p fun wx S1 A1 H1 x ex e1 rs1 r1 p1 => ⟨A1, B, env, S1, rs1, re.ext e1, Post.bind p1 fun wy S2 A2 H2 y ey e2 rs2 r2 p2 => ?_⟩⟩
    exact ⟨A2, B, S2, wx, wy, rs2, RW.ext e2 r1, r2, p2⟩)
/-- a <= b < c -/
def eChain (f g : W → W → Store → R W) (a b c : EX) : EX := fun env S => (a env S).bind fun x S1 => (b env S1).bind fun y S2 => (f x y S2).bind fun z S3 => match z with
  | .bl true => (c env S3).bind fun u S4 => g y u S4
  | .bl false => .ok (.bl false) S3
  | _ => .bad
theorem chain_rd {f g : W → W → Store → R W} {ma mb mc : EX} {σ : L2.St} {H : Hp} {Q : VK} (h : rd G (relW G) E (eChain f g ma mb mc) σ H Q) : tChain (r2 G E f) (r2 G E g) (rd G (relW G) E ma) (rd G (relW G) E mb) (rd G (relW G) E mc) σ H Q := by
  obtain ⟨A, B, env, S, rs, re, p⟩ := h
  refine ⟨A, B, env, S, rs, re, Post.bind p fun wx S1 A1 H1 x ex e1 rs1 r1 p1 => ⟨A1, B, env, S1, rs1, re.ext e1, Post.bind p1 fun wy S2 A2 H2 y ey e2 rs2 r2 p2 => ?_⟩⟩
  refine ⟨A2, B, S2, wx, wy, rs2, RW.ext e2 r1, r2, Post.bind p2 fun wz S3 A3 H3 z ez e3 rs3 r3 p3 => ?_⟩
  cases r3 with
  | bl k =>
    refine ⟨k, rfl, ?_⟩
    cases k with
    | false => exact iteF (p3 A3 H3 _ .refl rs3 (.bl false))
    | true =>
      refine iteT ⟨A3, B, env, S3, rs3, re.ext (e1.trans (e2.trans e3)), Post.bind p3 fun wu S4 A4 H4 u eu e4 rs4 r4 p4 => ?_⟩
      exact ⟨A4, B, S4, wy, wu, rs4, RW.ext (e3.trans e4) r2, r4, p4⟩
  | _ => exact p3.elim
theorem m_chain {op op' : CmpOp} {f g : W → W → Store → R W} {a b c : Expr} {ma mb mc : EX} {pos : Pos} (ho : OpR X (compareOp op) (r2 G E f)) (ho' : OpR X (compareOp op') (r2 G E g)) (ha : PM X G E a ma) (hb : PM X G E b mb) (hc : PM X G E c mc)
    (hm : lastMarks [op, op'] [b, c] = false := by with_unfolding_all rfl) : PM X G E (.Compare a [op, op'] [b, c] pos) (eChain f g ma mb mc) :=
  (pe_chain ho ho' ha hb hc hm).weak fun _ _ _ => chain_rd
theorem mt_chain {op op' : CmpOp} {f g : W → W → Store → R W} {a b c : Expr} {ma mb mc : EX} {pos : Pos} (ho : OpR X (compareOp op) (r2 G E f)) (ho' : OpR X (compareOp op') (r2 G E g)) (ha : PM X G E a ma) (hb : PM X G E b mb) (hc : PM X G E c mc) (hm : lastMarks [op, op'] [b, c] = false := by with_unfolding_all rfl) :
    PMT X G E (.Compare a [op, op'] [b, c] pos) (tOf (eChain f g ma mb mc)) :=
  m_tof ((pt_chain ho ho' ha hb hc hm).weak fun σ H Q h => chain_rd h)
end
end QP

set_option Elab.async false
set_option linter.all false
set_option maxRecDepth 100000
set_option maxHeartbeats 4000000
/-! Operations by values. -/
namespace QP
open PySem PySem.Spec PyProof.Rows L2
abbrev big : Nat := 16777216
theorem big_line {n : Nat} (h : n ≤ big) : n ≤ sizeLine := by rw [sizeLine_eq]; exact h
section
variable {G : GP} {A B : List Addr} {H : Hp} {S : Store}
theorem ScrAt.newB {p : Addr} {o : HO} (n : H p = none) {l : List Int} {a : Addr} (h : ScrAt G A B H l a) : ScrAt G A (p :: B) (upd H p o) l a := h.imp (fun ⟨h1, h2, h3⟩ => ⟨h1, fun z => by
      rcases List.mem_cons.mp z with z | z
      · subst z; rcases h3 with h3 | ⟨_, h3⟩ <;> (rw [n] at h3; cases h3)
      · exact h2 z, h3.elim (fun h3 => .inl (by rw [upd_ne (ne_of_none h3 n)]; exact h3)) fun ⟨ob, h3⟩ => .inr ⟨ob, by rw [upd_ne (ne_of_none h3 n)]; exact h3⟩⟩) id
theorem ScrAt.dropB {p : Addr} {l : List Int} {a : Addr} (h : ScrAt G A (p :: B) H l a) : ScrAt G A B H l a := h.imp (fun ⟨h1, h2, h3⟩ => ⟨h1, fun z => h2 (List.mem_cons_of_mem _ z), h3⟩) id
theorem ScrAt.moveB {p : Addr} {l : List Int} {a : Addr} (h : ScrAt G A (p :: B) H l a) : ScrAt G (A ++ [p]) B H l a := h.imp (fun ⟨h1, h2, h3⟩ => ⟨fun z => by
      rcases List.mem_append.mp z with z | z
      · exact h1 z
      · exact h2 (by rw [List.mem_singleton.mp z]; exact List.mem_cons_self), fun z => h2 (List.mem_cons_of_mem _ z), h3⟩) id
mutual
theorem RW.newB {p : Addr} {o : HO} (n : H p = none) : ∀ {w : W} {v : V}, RW G A B H w v → RW G A (p :: B) (upd H p o) w v
  | _, _, .non => .non
  | _, _, .bl b => .bl b
  | _, _, .int i => .int i
  | _, _, .str x => .str x
  | _, _, .tup (a := a) h1 h2 h3 h4 => .tup h1 (by
      intro z
      rcases List.mem_cons.mp z with z | z
      · subst z; rw [n] at h3; cases h3
      · exact h2 z) (by rw [upd_ne (ne_of_none h3 n)]; exact h3) (RWs.newB n h4)
  | _, _, .lst (a := a) h1 h2 h3 h4 => .lst h1 (by
      intro z
      rcases List.mem_cons.mp z with z | z
      · subst z; rw [n] at h3; cases h3
      · exact h2 z) (by rw [upd_ne (ne_of_none h3 n)]; exact h3) (RWs.newB n h4)
  | _, _, .scr h => .scr (h.newB n)
  | _, _, .ref h => .ref h
  | _, _, .ty n => .ty n
  | _, _, .fn n => .fn n
theorem RWs.newB {p : Addr} {o : HO} (n : H p = none) : ∀ {l : List W} {vs : List V}, RWs G A B H l vs → RWs G A (p :: B) (upd H p o) l vs
  | _, _, .nil => .nil
  | _, _, .cons r q => .cons (RW.newB n r) (RWs.newB n q)
end
mutual
theorem RW.dropB {p : Addr} : ∀ {w : W} {v : V}, RW G A (p :: B) H w v → RW G A B H w v
  | _, _, .non => .non
  | _, _, .bl b => .bl b
  | _, _, .int i => .int i
  | _, _, .str x => .str x
  | _, _, .tup h1 h2 h3 h4 => .tup h1 (fun z => h2 (List.mem_cons_of_mem _ z)) h3 (RWs.dropB h4)
  | _, _, .lst h1 h2 h3 h4 => .lst h1 (fun z => h2 (List.mem_cons_of_mem _ z)) h3 (RWs.dropB h4)
  | _, _, .scr h => .scr h.dropB
  | _, _, .ref h => .ref h
  | _, _, .ty n => .ty n
  | _, _, .fn n => .fn n
theorem RWs.dropB {p : Addr} : ∀ {l : List W} {vs : List V}, RWs G A (p :: B) H l vs → RWs G A B H l vs
  | _, _, .nil => .nil
  | _, _, .cons r q => .cons (RW.dropB r) (RWs.dropB q)
end
mutual
/-- the kept thing goes into the store -/
theorem RW.moveB {p : Addr} : ∀ {w : W} {v : V}, RW G A (p :: B) H w v → RW G (A ++ [p]) B H w v
  | _, _, .non => .non
  | _, _, .bl b => .bl b
  | _, _, .int i => .int i
  | _, _, .str x => .str x
  | _, _, .tup h1 h2 h3 h4 => .tup (fun z => by
      rcases List.mem_append.mp z with z | z
      · exact h1 z
      · exact h2 (by rw [List.mem_singleton.mp z]; exact List.mem_cons_self)) (fun z => h2 (List.mem_cons_of_mem _ z)) h3 (RWs.moveB h4)
  | _, _, .lst h1 h2 h3 h4 => .lst (fun z => by
      rcases List.mem_append.mp z with z | z
      · exact h1 z
      · exact h2 (by rw [List.mem_singleton.mp z]; exact List.mem_cons_self)) (fun z => h2 (List.mem_cons_of_mem _ z)) h3 (RWs.moveB h4)
  | _, _, .scr h => .scr h.moveB
  | _, _, .ref (n := n) (a := a) h => .ref (by rw [List.getElem?_append_left (List.getElem?_eq_some_iff.mp h).1]; exact h)
  | _, _, .ty n => .ty n
  | _, _, .fn n => .fn n
theorem RWs.moveB {p : Addr} : ∀ {l : List W} {vs : List V}, RWs G A (p :: B) H l vs → RWs G (A ++ [p]) B H l vs
  | _, _, .nil => .nil
  | _, _, .cons r q => .cons (RW.moveB r) (RWs.moveB q)
end
theorem RKV.newB {κ : Type} {p : Addr} {o : HO} (n : H p = none) {l : List (κ × W)} {ks : List (κ × V)} (r : RKV G A B H l ks) : RKV G A (p :: B) (upd H p o) l ks := Paired.mapP r fun _ _ h => ⟨h.1, h.2.newB n⟩
theorem RKV.dropB {κ : Type} {p : Addr} {l : List (κ × W)} {ks : List (κ × V)} (r : RKV G A (p :: B) H l ks) : RKV G A B H l ks := Paired.mapP r fun _ _ h => ⟨h.1, h.2.dropB⟩
theorem RKV.moveB {κ : Type} {p : Addr} {l : List (κ × W)} {ks : List (κ × V)} (r : RKV G A (p :: B) H l ks) : RKV G (A ++ [p]) B H l ks := Paired.mapP r fun _ _ h => ⟨h.1, h.2.moveB⟩
theorem RS.newB (r : RS G A B H S) {p : Addr} {us : List V} (n : H p = none) : RS G A (p :: B) (upd H p (.lst us)) S := by
  have fr := r.fresh n
  refine ⟨r.len, r.nd, fun a ha z => ?_, fun i a ob ha ho => ?_, fun b hb => ?_⟩
  · rcases List.mem_cons.mp z with z | z
    · exact fr.1 (z ▸ ha)
    · exact r.apart a ha z
  · have q := r.ob i a ob ha ho
    have hp : a ≠ p := fun z => fr.1 (by rw [← z]; exact List.mem_of_getElem? ha)
    cases ob with
    | lst l => obtain ⟨vs, h, q⟩ := q; exact ⟨vs, by rw [upd_ne hp]; exact h, q.newB n⟩
    | dk lock kvs => obtain ⟨vs, h, q⟩ := q; exact ⟨vs, by rw [upd_ne hp]; exact h, q.newB n⟩
    | dt lock kvs => obtain ⟨vs, h, q⟩ := q; exact ⟨vs, by rw [upd_ne hp]; exact h, q.newB n⟩
  · rcases List.mem_cons.mp hb with z | z
    · rw [z]; exact ⟨_, upd_same⟩
    · obtain ⟨u, e⟩ := r.res b z
      exact ⟨u, by rw [upd_ne (ne_of_none e n)]; exact e⟩
theorem RS.dropB {p : Addr} (r : RS G A (p :: B) H S) : RS G A B H S := by
  refine ⟨r.len, r.nd, fun a ha z => r.apart a ha (List.mem_cons_of_mem _ z), fun i a ob ha ho => ?_, fun b hb => r.res b (List.mem_cons_of_mem _ hb)⟩
  have q := r.ob i a ob ha ho
  cases ob with
  | lst l => obtain ⟨vs, h, q⟩ := q; exact ⟨vs, h, q.dropB⟩
  | dk lock kvs => obtain ⟨vs, h, q⟩ := q; exact ⟨vs, h, q.dropB⟩
  | dt lock kvs => obtain ⟨vs, h, q⟩ := q; exact ⟨vs, h, q.dropB⟩
theorem RS.moveB {p : Addr} {ob : O} (r : RS G A (p :: B) H S) (hb : p ∉ B) (q : RO G (A ++ [p]) B H p ob) : RS G (A ++ [p]) B H (S ++ [ob]) := by
  have fr : p ∉ A := fun z => r.apart p z List.mem_cons_self
  refine ⟨by simp [r.len], ?_, fun a ha => ?_, fun n a u ha hu => ?_, fun b hb => r.res b (List.mem_cons_of_mem _ hb)⟩
  · rw [List.nodup_append]
    refine ⟨r.nd, by simp, fun a ha b hb => ?_⟩
    rw [List.mem_singleton.mp hb]
    exact fun z => fr (z ▸ ha)
  · rcases List.mem_append.mp ha with z | z
    · exact fun y => r.apart a z (List.mem_cons_of_mem _ y)
    · rw [List.mem_singleton.mp z]; exact hb
  · by_cases hn : n < A.length
    · rw [List.getElem?_append_left hn] at ha
      rw [List.getElem?_append_left (by rw [← r.len]; exact hn)] at hu
      have q := r.ob n a u ha hu
      cases u with
      | lst l => obtain ⟨vs, h, q⟩ := q; exact ⟨vs, h, q.moveB⟩
      | dk lock kvs => obtain ⟨vs, h, q⟩ := q; exact ⟨vs, h, q.moveB⟩
      | dt lock kvs => obtain ⟨vs, h, q⟩ := q; exact ⟨vs, h, q.moveB⟩
    · have hn2 : n = A.length := by
        have := (List.getElem?_eq_some_iff.mp ha).1
        simp at this; omega
      subst hn2
      rw [List.getElem?_append_right (Nat.le_refl _)] at ha
      rw [r.len, List.getElem?_append_right (Nat.le_refl _)] at hu
      simp at ha hu
      subst ha hu
      exact q
end

/-! ### new lists: as a value, or into the store -/
def eV (m : AX) : EX := fun env S => (m env S).bind fun l S' => .ok (.lst l) S'
def eA (m : AX) : EX := fun env S => (m env S).bind fun l S' => .ok (.ref S'.length) (S' ++ [.lst l])
section
variable {X : Cx} {G : GP} {E : XK}
theorem val_rd {m : AX} {σ : L2.St} {H : Hp} {Q : VK} (h : rd G (relW G) E (eV m) σ H Q) : rdF G E m σ H Q := by
  obtain ⟨A, B, env, S, rs, re, p⟩ := h
  refine ⟨A, B, env, S, rs, re, PostF.bind p fun l S' A' H' q vs e hn rs' hq ws p1 => ?_⟩
  exact p1 A' H' _ .refl rs'.dropB (.lst (fun z => rs'.apart q z List.mem_cons_self) (rs.fresh hn).2 hq ws.dropB)
theorem alloc_rd {m : AX} {σ : L2.St} {H : Hp} {Q : VK} (h : rd G (relW G) E (eA m) σ H Q) : rdF G E m σ H Q := by
  obtain ⟨A, B, env, S, rs, re, p⟩ := h
  refine ⟨A, B, env, S, rs, re, ?_⟩
  unfold eA at p
  cases hm : m env S with
  | ok l S' =>
    rw [hm] at p
    intro A' H' q vs e hn rs' hq ws
    have hqb := (rs.fresh hn).2
    refine p (A' ++ [q]) H' (.ref q) ⟨?_, fun a o ha na => ?_⟩ (rs'.moveB hqb ⟨vs, hq, ws.moveB⟩) (.ref ?_)
    · obtain ⟨m, e1⟩ := e.pre
      exact ⟨m ++ [q], by rw [e1, List.append_assoc]⟩
    · obtain ⟨h1, h2⟩ := e.keep a o ha na
      refine ⟨h1, fun z => ?_⟩
      rcases List.mem_append.mp z with z | z
      · exact h2 z
      · rw [List.mem_singleton.mp z, hn] at ha; cases ha
    · rw [List.getElem?_append_right (by rw [rs'.len]; exact Nat.le_refl _), rs'.len]; simp
  | exc c x S' => rw [hm] at p; exact p
  | bad => rw [hm] at p; exact p
theorem PF.val {e : Expr} {m : AX} (h : PF X G E e m) : PM X G E e (eV m) := h.weak fun σ H Q z => val_rd z
theorem PF.alloc {e : Expr} {m : AX} (h : PF X G E e m) : PM X G E e (eA m) := h.weak fun σ H Q z => alloc_rd z
theorem newF {A B : List Addr} {H : Hp} {S : Store} {Q : VK} {l : List W} {vs : List V} (p : PostF G A B H E Q (.ok l S)) (rs : RS G A B H S) (ws : RWs G A B H l vs) : ∀ q, H q = none → Q (.ref q) (upd H q (.lst vs)) := fun q hq =>
  p A _ q vs (Ext.new hq) hq (rs.newB hq) upd_same (ws.newB hq)
/-- a new tuple -/
theorem newT {A B : List Addr} {H : Hp} {S : Store} {Q : VK} {l : List W} {vs : List V} (p : Post G (relW G) A B H E Q (.ok (.tup l) S)) (rs : RS G A B H S) (ws : RWs G A B H l vs) : ∀ q, H q = none → Q (.ref q) (upd H q (.tup vs)) := fun q hq =>
  p A _ (.ref q) (Ext.new hq) (rs.new hq) (.tup (rs.fresh hq).1 (rs.fresh hq).2 upd_same (ws.ext (Ext.new hq)))

/-! ### arguments, displays -/
def aNil : AX := fun _ S => .ok [] S
def aCons (m : EX) (r : AX) : AX := fun env S => (m env S).bind fun w S1 => (r env S1).bind fun l S2 => .ok (w :: l) S2
def eTup (m : AX) : EX := fun env S => (m env S).bind fun l S' => if l.length ≤ big then .ok (.tup l) S' else .bad
def fLst (m : AX) : AX := fun env S => (m env S).bind fun l S' => if l.length ≤ big then .ok l S' else .bad
theorem ma_nil : PMA X G E [] aNil := pa_nil.weak fun σ H Q ⟨A, B, env, S, rs, re, p⟩ => p A H [] .refl rs .nil
theorem ma_cons {e : Expr} {es : List Expr} {m : EX} {r : AX} (ha : PM X G E e m) (hr : PMA X G E es r) (hs : starEach (e :: es) X.env = (false, eval e X.env) :: starEach es X.env := by rfl) : PMA X G E (e :: es) (aCons m r) :=
  (pa_cons ha hr hs).weak fun σ H Q ⟨A, B, env, S, rs, re, p⟩ =>
    ⟨A, B, env, S, rs, re, Post.bind p fun w S1 A1 H1 x ex e1 rs1 r1 p1 => ⟨A1, B, env, S1, rs1, re.ext e1, Post.bind p1 fun l S2 A2 H2 xs ey e2 rs2 r2 p2 =>
      p2 A2 H2 _ .refl rs2 (.cons (RW.ext e2 r1) r2)⟩⟩
theorem m_tup {es : List Expr} {m : AX} {x1} {pos : Pos} (h : PMA X G E es m) : PM X G E (.Tuple es x1 pos) (eTup m) := (pe_tup h).weak fun σ H Q ⟨A, B, env, S, rs, re, p⟩ => by
  refine ⟨A, B, env, S, rs, re, Post.bind p fun l S1 A1 H1 vs ex e1 rs1 r1 p1 => ?_⟩
  split at p1
  · rename_i hl
    exact ⟨by rw [← RWs.length r1]; exact big_line hl, newT p1 rs1 r1⟩
  · exact p1.elim
theorem f_lst {es : List Expr} {m : AX} {pos : Pos} (h : PMA X G E es m) : PF X G E (.List es pos) (fLst m) := (pe_lst h).weak fun σ H Q ⟨A, B, env, S, rs, re, p⟩ => by
  refine ⟨A, B, env, S, rs, re, Post.bindF p fun l S1 A1 H1 vs ex e1 rs1 r1 p1 => ?_⟩
  split at p1
  · rename_i hl
    exact ⟨by rw [← RWs.length r1]; exact big_line hl, newF p1 rs1 r1⟩
  · exact p1.elim

/-! ### arithmetic -/
def opAdd : W → W → Store → R W
  | .int i, .int j, S => .ok (.int (i + j)) S
  | .str x, .str y, S => if x.length + y.length ≤ big then .ok (.str (x ++ y)) S else .bad
  | .tup l, .tup l', S => if l.length + l'.length ≤ big then .ok (.tup (l ++ l')) S else .bad
  | _, _, _ => .bad
def opSub : W → W → Store → R W
  | .int i, .int j, S => .ok (.int (i - j)) S
  | _, _, _ => .bad
def opMul : W → W → Store → R W
  | .int i, .int j, S => if (-(2 ^ 64) < i ∧ i < 2 ^ 64) ∨ (-(2 ^ 64) < j ∧ j < 2 ^ 64) then .ok (.int (i * j)) S else .bad
  | .tup l, .int k, S => if l ≠ [] ∧ 2 ≤ k ∧ k ≤ 1000 ∧ l.length ≤ 1000 then .ok (.tup (List.replicate k.toNat l).flatten) S else .bad
  | _, _, _ => .bad
def opFdiv : W → W → Store → R W
  | .int i, .int j, S => if 0 < j ∧ j < 1073741824 then .ok (.int (i / j)) S else .bad
  | _, _, _ => .bad
def opMod : W → W → Store → R W
  | .int i, .int j, S => if 0 < j then .ok (.int (i % j)) S else .bad
  | _, _, _ => .bad
def opPow : W → W → Store → R W
  | .int i, .int j, S => if 0 ≤ j ∧ j ≤ 1000000 ∧ i.natAbs < 2 ^ 64 then .ok (.int (i ^ j.toNat)) S else .bad
  | _, _, _ => .bad
theorem Rd.sqT {K : PySem.W.Frag} {H : Hp} {a : Addr} {xs : List V} (h : H a = some (.tup xs)) : SqT K H a xs := .inl (.inl h)
theorem Rd.sqL {K : PySem.W.Frag} {H : Hp} {a : Addr} {xs : List V} (h : Rd H a (.lst xs)) : SqL K H a xs := .inl h
theorem RWs.nil_iff {A B : List Addr} {H : Hp} {l : List W} {vs : List V} (r : RWs G A B H l vs) : l = [] ↔ vs = [] := by
  cases r with
  | nil => simp
  | cons => simp
theorem o_add : OpR X (binaryOp .Add) (r2 G E opAdd) := by
  intro pins s σ H x y v u Q I rx ry ⟨A, B, S, wx, wy, rs, r1, r2, p⟩
  cases r1 with
  | int i => cases r2 with
    | int j => exact op_add pins s σ H _ _ v u Q I rx ry ⟨i, j, rfl, rfl, p A H _ .refl rs (.int _)⟩
    | _ => exact p.elim
  | str z => cases r2 with
    | str z' =>
      simp only [opAdd] at p
      split at p
      · rename_i hl
        exact op_add_str pins s σ H _ _ v u Q I rx ry ⟨z, z', rfl, rfl, big_line hl, p A H _ .refl rs (.str _)⟩
      · exact p.elim
    | _ => exact p.elim
  | tup h1 h2 h3 h4 => cases r2 with
    | tup k1 k2 k3 k4 =>
      simp only [opAdd] at p
      split at p
      · rename_i hl
        refine op_catA pins s σ H _ _ v u Q I rx ry ⟨_, _, _, _, rfl, rfl, Rd.sqT h3, Rd.sqT k3, by rw [← RWs.length h4, ← RWs.length k4]; exact big_line hl, fun e => ?_, fun e1 e2 => ?_, fun e1 e2 => ?_⟩
        · have e' := (RWs.nil_iff h4).mpr e
          subst e'
          exact p A H _ .refl rs (.tup k1 k2 k3 k4)
        · have e' := (RWs.nil_iff k4).mpr e2
          subst e'
          rw [List.append_nil] at p
          exact p A H _ .refl rs (.tup h1 h2 h3 h4)
        · exact newT p rs (h4.append k4)
      · exact p.elim
    | _ => exact p.elim
  | _ => exact p.elim
theorem o_sub : OpR X (binaryOp .Sub) (r2 G E opSub) := by
  intro pins s σ H x y v u Q I rx ry ⟨A, B, S, wx, wy, rs, r1, r2, p⟩
  cases r1 with
  | int i => cases r2 with
    | int j => exact op_sub pins s σ H _ _ v u Q I rx ry ⟨i, j, rfl, rfl, p A H _ .refl rs (.int _)⟩
    | _ => exact p.elim
  | _ => exact p.elim
theorem RWs.flat_rep {A B : List Addr} {H : Hp} {l : List W} {vs : List V} (r : RWs G A B H l vs) : ∀ n, RWs G A B H (List.replicate n l).flatten (List.replicate n vs).flatten
  | 0 => .nil
  | n + 1 => by
    rw [List.replicate_succ, List.replicate_succ, List.flatten_cons, List.flatten_cons]
    exact r.append (RWs.flat_rep r n)
theorem o_mul : OpR X (binaryOp .Mult) (r2 G E opMul) := by
  intro pins s σ H x y v u Q I rx ry ⟨A, B, S, wx, wy, rs, r1, r2, p⟩
  cases r1 with
  | int i => cases r2 with
    | int j =>
      simp only [opMul] at p
      split at p
      · rename_i hc
        exact op_mul pins s σ H _ _ v u Q I rx ry ⟨i, j, rfl, rfl, hc, p A H _ .refl rs (.int _)⟩
      · exact p.elim
    | _ => exact p.elim
  | tup h1 h2 h3 h4 => cases r2 with
    | int k =>
      simp only [opMul] at p
      split at p
      · rename_i hl
        obtain ⟨a1, a2, a3, a4⟩ := hl
        exact op_repT pins s σ H _ _ v u Q I rx ry ⟨_, k, _, rfl, rfl, Rd.sqT h3, fun e => a1 ((RWs.nil_iff h4).mpr e), a2, a3, by rw [← RWs.length h4]; exact a4, newT p rs (h4.flat_rep _)⟩
      · exact p.elim
    | _ => exact p.elim
  | _ => exact p.elim
theorem o_fdiv : OpR X (binaryOp .FloorDiv) (r2 G E opFdiv) := by
  intro pins s σ H x y v u Q I rx ry ⟨A, B, S, wx, wy, rs, r1, r2, p⟩
  cases r1 with
  | int i => cases r2 with
    | int j =>
      simp only [opFdiv] at p
      split at p
      · rename_i hc
        exact op_fdiv pins s σ H _ _ v u Q I rx ry ⟨i, j, rfl, rfl, hc, p A H _ .refl rs (.int _)⟩
      · exact p.elim
    | _ => exact p.elim
  | _ => exact p.elim
theorem o_mod : OpR X (binaryOp .Mod) (r2 G E opMod) := by
  intro pins s σ H x y v u Q I rx ry ⟨A, B, S, wx, wy, rs, r1, r2, p⟩
  cases r1 with
  | int i => cases r2 with
    | int j =>
      simp only [opMod] at p
      split at p
      · rename_i hc
        exact op_mod pins s σ H _ _ v u Q I rx ry ⟨i, j, rfl, rfl, hc, p A H _ .refl rs (.int _)⟩
      · exact p.elim
    | _ => exact p.elim
  | _ => exact p.elim
theorem o_pow : OpR X (binaryOp .Pow) (r2 G E opPow) := by
  intro pins s σ H x y v u Q I rx ry ⟨A, B, S, wx, wy, rs, r1, r2, p⟩
  cases r1 with
  | int i => cases r2 with
    | int j =>
      simp only [opPow] at p
      split at p
      · rename_i hc
        exact op_pow pins s σ H _ _ v u Q I rx ry ⟨i, j, rfl, rfl, hc, p A H _ .refl rs (.int _)⟩
      · exact p.elim
    | _ => exact p.elim
  | _ => exact p.elim
/-- -x, not x -/
def eUn (f : W → Store → R W) (a : EX) : EX := fun env S => (a env S).bind fun x S1 => f x S1
def opNeg : W → Store → R W
  | .int i, S => .ok (.int (-i)) S
  | _, _ => .bad
theorem m_neg {a : Expr} {ma : EX} {pos : Pos} (ha : PM X G E a ma) : PM X G E (.UnaryOp .USub a pos) (eUn opNeg ma) := (pe_un un_neg ha).weak fun σ H Q ⟨A, B, env, S, rs, re, p⟩ => by
  refine ⟨A, B, env, S, rs, re, Post.bind p fun wx S1 A1 H1 x ex e1 rs1 r1 p1 => ?_⟩
  cases r1 with
  | int i => exact ⟨i, rfl, p1 A1 H1 _ .refl rs1 (.int _)⟩
  | _ => exact p1.elim

/-! ### lists: + and * give new ones -/
def r2F (G : GP) (E : XK) (f : W → W → Store → R (List W)) : R2 := fun x y H Q => ∃ A B S wx wy, RS G A B H S ∧ RW G A B H wx x ∧ RW G A B H wy y ∧ PostF G A B H E Q (f wx wy S)
def fBin (f : W → W → Store → R (List W)) (a b : EX) : AX := fun env S => (a env S).bind fun x S1 => (b env S1).bind fun y S2 => f x y S2
theorem f_bin {op : Operator} {f : W → W → Store → R (List W)} {a b : Expr} {ma mb : EX} {pos : Pos} (ho : OpR X (binaryOp op) (r2F G E f)) (ha : PM X G E a ma) (hb : PM X G E b mb) : PF X G E (.BinOp a op b pos) (fBin f ma mb) :=
  (pe_op ho ha hb).weak fun σ H Q ⟨A, B, env, S, rs, re, p⟩ =>
    ⟨A, B, env, S, rs, re, Post.bindF p fun wx S1 A1 H1 x ex e1 rs1 r1 p1 => ⟨A1, B, env, S1, rs1, re.ext e1, Post.bindF p1 fun wy S2 A2 H2 y ey e2 rs2 r2 p2 => ⟨A2, B, S2, wx, wy, rs2, RW.ext e2 r1, r2, p2⟩⟩⟩
def opCat (x y : W) (S : Store) : R (List W) := match lstW S x, lstW S y with
  | some l, some l' => if l.length + l'.length ≤ big then .ok (l ++ l') S else .bad
  | _, _ => .bad
def opRep : W → W → Store → R (List W)
  | x, .int k, S => match lstW S x with
    | some l => if -(2 ^ 63) ≤ k ∧ k < 2 ^ 63 ∧ l.length * k.toNat ≤ big then .ok (List.replicate k.toNat l).flatten S else .bad
    | _ => .bad
  | _, _, _ => .bad
end
end QP

set_option Elab.async false
set_option linter.all false
set_option maxRecDepth 100000
set_option maxHeartbeats 4000000
/-! Comparisons, truth, places. -/
namespace QP
open PySem PySem.Spec PyProof.Rows L2
section
variable {X : Cx} {G : GP} {E : XK}
theorem o_cat : OpR X (binaryOp .Add) (r2F G E opCat) := by
  intro pins s σ H x y v u Q I rx ry ⟨A, B, S, wx, wy, rs, r1, r2, p⟩
  simp only [opCat] at p
  split at p
  · rename_i l l' h1 h2
    split at p
    · rename_i hl
      obtain ⟨a, vs, rfl, e1, q1⟩ := lst_at rs h1 r1
      obtain ⟨b, us, rfl, e2, q2⟩ := lst_at rs h2 r2
      exact op_cat pins s σ H _ _ v u Q I rx ry ⟨a, b, vs, us, rfl, rfl, e1, e2, by rw [← RWs.length q1, ← RWs.length q2]; exact big_line hl, newF p rs (q1.append q2)⟩
    · exact p.elim
  · exact p.elim
theorem o_rep : OpR X (binaryOp .Mult) (r2F G E opRep) := by
  intro pins s σ H x y v u Q I rx ry ⟨A, B, S, wx, wy, rs, r1, r2, p⟩
  cases r2 with
  | int k =>
    simp only [opRep] at p
    split at p
    · rename_i l h1
      split at p
      · rename_i hl
        obtain ⟨a1, a2, a3⟩ := hl
        obtain ⟨a, vs, rfl, e1, q1⟩ := lst_at rs h1 r1
        exact op_rep pins s σ H _ _ v u Q I rx ry ⟨a, k, vs, rfl, rfl, e1, a1, a2, by rw [← RWs.length q1]; exact big_line a3, newF p rs (q1.flat_rep _)⟩
      · exact p.elim
    · exact p.elim
  | _ => exact p.elim

/-! ### order -/
def allI : List W → Option (List Int)
  | [] => some []
  | .int i :: r => (allI r).map (i :: ·)
  | _ :: _ => none
theorem allI_eq : ∀ {l : List W} {ns : List Int}, allI l = some ns → l = ns.map W.int
  | [], ns, h => by cases h; rfl
  | w :: r, ns, h => by
    cases w with
    | int i =>
      simp only [allI, Option.map_eq_some_iff] at h
      obtain ⟨a, h1, h2⟩ := h
      subst h2
      rw [allI_eq h1]; rfl
    | _ => cases h
theorem allI_ints : ∀ ns : List Int, allI (ns.map W.int) = some ns
  | [] => rfl
  | n :: r => by simp only [List.map_cons, allI, allI_ints r, Option.map_some]
def opLt : W → W → Store → R W
  | .int i, .int j, S => .ok (.bl (decide (i < j))) S
  | .tup l, .tup l', S => match allI l, allI l' with
    | some a, some b => .ok (.bl (HT.lexLt a b)) S
    | _, _ => .bad
  | _, _, _ => .bad
def opLe : W → W → Store → R W
  | .int i, .int j, S => .ok (.bl (decide (i ≤ j))) S
  | _, _, _ => .bad
def opGt : W → W → Store → R W
  | .int i, .int j, S => .ok (.bl (decide (j < i))) S
  | _, _, _ => .bad
def opGe : W → W → Store → R W
  | .int i, .int j, S => .ok (.bl (decide (j ≤ i))) S
  | _, _, _ => .bad
theorem o_lt (hu : X.A.units < cLine) : OpR X (compareOp .Lt) (r2 G E opLt) := by
  intro pins s σ H x y v u Q I rx ry ⟨A, B, S, wx, wy, rs, r1, r2, p⟩
  cases r1 with
  | int i => cases r2 with
    | int j => exact op_lt pins s σ H _ _ v u Q I rx ry ⟨i, j, rfl, rfl, p A H _ .refl rs (.bl _)⟩
    | _ => exact p.elim
  | tup h1 h2 h3 h4 => cases r2 with
    | tup k1 k2 k3 k4 =>
      simp only [opLt] at p
      split at p
      · rename_i a b e1 e2
        have e1 := allI_eq e1
        have e2 := allI_eq e2
        subst e1 e2
        have e3 := h4.ints
        have e4 := k4.ints
        subst e3 e4
        exact op_ltT hu pins s σ H _ _ v u Q I rx ry ⟨_, _, a, b, rfl, rfl, Rd.sqT h3, Rd.sqT k3, p A H _ .refl rs (.bl _)⟩
      · exact p.elim
    | _ => exact p.elim
  | _ => exact p.elim
theorem o_le : OpR X (compareOp .LtE) (r2 G E opLe) := by
  intro pins s σ H x y v u Q I rx ry ⟨A, B, S, wx, wy, rs, r1, r2, p⟩
  cases r1 with
  | int i => cases r2 with
    | int j => exact op_le pins s σ H _ _ v u Q I rx ry ⟨i, j, rfl, rfl, p A H _ .refl rs (.bl _)⟩
    | _ => exact p.elim
  | _ => exact p.elim
theorem o_gt : OpR X (compareOp .Gt) (r2 G E opGt) := by
  intro pins s σ H x y v u Q I rx ry ⟨A, B, S, wx, wy, rs, r1, r2, p⟩
  cases r1 with
  | int i => cases r2 with
    | int j => exact op_gt pins s σ H _ _ v u Q I rx ry ⟨i, j, rfl, rfl, p A H _ .refl rs (.bl _)⟩
    | _ => exact p.elim
  | _ => exact p.elim
theorem o_ge : OpR X (compareOp .GtE) (r2 G E opGe) := by
  intro pins s σ H x y v u Q I rx ry ⟨A, B, S, wx, wy, rs, r1, r2, p⟩
  cases r1 with
  | int i => cases r2 with
    | int j => exact op_ge pins s σ H _ _ v u Q I rx ry ⟨i, j, rfl, rfl, p A H _ .refl rs (.bl _)⟩
    | _ => exact p.elim
  | _ => exact p.elim

/-! ### == of data -/
mutual
def dat : W → Option PyData
  | .non => some .none
  | .bl b => some (.bool b)
  | .int i => some (.int i)
  | .str x => some (.str x)
  | .tup l => (dats l).map .tuple
  | .lst l => (dats l).map .list
  | _ => none
def dats : List W → Option (List PyData)
  | [] => some []
  | w :: r => match dat w, dats r with
    | some d, some ds => some (d :: ds)
    | _, _ => none
end
def datR (S : Store) : W → Option PyData
  | .ref n => match S[n]? with
    | some (.lst l) => (dats l).map .list
    | _ => none
  | w => dat w
mutual
theorem dat_dp {K : PySem.W.Frag} {A B : List Addr} {H : Hp} : ∀ {w : W} {v : V} {d : PyData}, RW G A B H w v → dat w = some d → Dp K H v d
  | _, _, _, .non, h => by cases h; exact .non
  | _, _, _, .bl b, h => by cases h; exact .bl b
  | _, _, _, .int i, h => by cases h; exact .int i
  | _, _, _, .str x, h => by cases h; exact .str x
  | _, _, _, .tup h1 h2 h3 h4, h => by
    simp only [dat, Option.map_eq_some_iff] at h
    obtain ⟨ds, e, rfl⟩ := h
    exact .tup (Rd.sqT h3) (dats_dp h4 e)
  | _, _, _, .lst h1 h2 h3 h4, h => by
    simp only [dat, Option.map_eq_some_iff] at h
    obtain ⟨ds, e, rfl⟩ := h
    exact .lst (Rd.sqL (.inl h3)) (dats_dp h4 e)
  | _, _, _, .scr h1, h => by cases h
  | _, _, _, .ref h1, h => by cases h
  | _, _, _, .ty n, h => by cases h
  | _, _, _, .fn n, h => by cases h
theorem dats_dp {K : PySem.W.Frag} {A B : List Addr} {H : Hp} : ∀ {l : List W} {vs : List V} {ds : List PyData}, RWs G A B H l vs → dats l = some ds → DpAll K H vs ds
  | _, _, _, .nil, h => by cases h; exact .nil
  | _, _, _, .cons r q, h => by
    simp only [dats] at h
    split at h
    · rename_i d ds e1 e2
      cases h
      exact .cons (dat_dp r e1) (dats_dp q e2)
    · cases h
end
theorem datR_dp {K : PySem.W.Frag} {A B : List Addr} {H : Hp} {S : Store} (rs : RS G A B H S) {w : W} {v : V} {d : PyData} (r : RW G A B H w v) (h : datR S w = some d) : Dp K H v d := by
  cases w with
  | ref n =>
    cases r with
    | ref ha =>
      simp only [datR] at h
      split at h
      · rename_i l hl
        simp only [Option.map_eq_some_iff] at h
        obtain ⟨ds, e, rfl⟩ := h
        obtain ⟨vs, e2, q⟩ := rs.at hl ha
        exact .lst (SqL.of e2) (dats_dp q e)
      · cases h
  | _ => exact dat_dp r h
def eqW (S : Store) (x y : W) : Option Bool := match x, y with
  | .int i, .int j => some (i == j)
  | x, y => match datR S x, datR S y with
    | some d, some e => if SeqAt.shaped d && SeqAt.shaped e then some (PyData.eqv d e) else none
    | _, _ => none
def opEq (x y : W) (S : Store) : R W := match eqW S x y with
  | some b => .ok (.bl b) S
  | none => .bad
def opNe (x y : W) (S : Store) : R W := match eqW S x y with
  | some b => .ok (.bl (!b)) S
  | none => .bad
theorem eqW_dp {K : PySem.W.Frag} {A B : List Addr} {H : Hp} {S : Store} (rs : RS G A B H S) {x y : W} {v u : V} {b : Bool} (r1 : RW G A B H x v) (r2 : RW G A B H y u) (h : eqW S x y = some b) :
    ∃ d e, Dp K H v d ∧ Dp K H u e ∧ SeqAt.shaped d = true ∧ SeqAt.shaped e = true ∧ PyData.eqv d e = b := by
  have gen : ∀ (h : (match datR S x, datR S y with
    | some d, some e => if SeqAt.shaped d && SeqAt.shaped e then some (PyData.eqv d e) else none
    | _, _ => none) = some b), ∃ d e, Dp K H v d ∧ Dp K H u e ∧ SeqAt.shaped d = true ∧ SeqAt.shaped e = true ∧ PyData.eqv d e = b := by
    intro h
    split at h
    · rename_i d e e1 e2
      split at h
      · rename_i hs
        rw [Bool.and_eq_true] at hs
        exact ⟨d, e, datR_dp rs r1 e1, datR_dp rs r2 e2, hs.1, hs.2, Option.some.inj h⟩
      · cases h
    · cases h
  unfold eqW at h
  split at h
  · cases r1; cases r2
    exact ⟨.int _, .int _, .int _, .int _, rfl, rfl, Option.some.inj h⟩
  · exact gen h
theorem o_eq (hu : X.A.units + 64 < cLine) : OpR X (compareOp .Eq) (r2 G E opEq) := by
  intro pins s σ H x y v u Q I rx ry ⟨A, B, S, wx, wy, rs, r1, r2, p⟩
  simp only [opEq] at p
  split at p
  · rename_i b h
    obtain ⟨d, e, h1, h2, h3, h4, rfl⟩ := eqW_dp (K := X.K) rs r1 r2 h
    exact op_eqD hu pins s σ H _ _ v u Q I rx ry ⟨d, e, h1, h2, h3, h4, p A H _ .refl rs (.bl _)⟩
  · exact p.elim
theorem o_ne (hu : X.A.units + 64 < cLine) : OpR X (compareOp .NotEq) (r2 G E opNe) := by
  intro pins s σ H x y v u Q I rx ry ⟨A, B, S, wx, wy, rs, r1, r2, p⟩
  simp only [opNe] at p
  split at p
  · rename_i b h
    obtain ⟨d, e, h1, h2, h3, h4, rfl⟩ := eqW_dp (K := X.K) rs r1 r2 h
    exact op_neD hu pins s σ H _ _ v u Q I rx ry ⟨d, e, h1, h2, h3, h4, p A H _ .refl rs (.bl _)⟩
  · exact p.elim
/-! ### is None, is True -/
def opIs : W → W → Store → R W
  | x, .non, S => .ok (.bl (match x with | .non => true | _ => false)) S
  | .bl a, .bl b, S => .ok (.bl (decide (a = b))) S
  | _, _, _ => .bad
def opIsNot : W → W → Store → R W
  | x, .non, S => .ok (.bl (match x with | .non => false | _ => true)) S
  | .bl a, .bl b, S => .ok (.bl (!decide (a = b))) S
  | _, _, _ => .bad
theorem o_is : OpR X (compareOp .Is) (r2 G E opIs) := by
  intro pins s σ H x y v u Q I rx ry ⟨A, B, S, wx, wy, rs, r1, r2, p⟩
  cases r2 with
  | non =>
    refine op_isN pins s σ H _ _ v u Q I rx ry ⟨rfl, ?_⟩
    cases r1 <;> exact p A H _ .refl rs (.bl _)
  | bl b =>
    cases r1 with
    | bl a => exact op_is_bl pins s σ H _ _ v u Q I rx ry ⟨a, b, rfl, rfl, p A H _ .refl rs (.bl _)⟩
    | _ => exact p.elim
  | _ => cases r1 <;> exact p.elim
theorem o_isnot : OpR X (compareOp .IsNot) (r2 G E opIsNot) := by
  intro pins s σ H x y v u Q I rx ry ⟨A, B, S, wx, wy, rs, r1, r2, p⟩
  cases r2 with
  | non =>
    refine op_notN pins s σ H _ _ v u Q I rx ry ⟨rfl, ?_⟩
    cases r1 <;> exact p A H _ .refl rs (.bl _)
  | bl b =>
    cases r1 with
    | bl a => exact op_isnot_bl pins s σ H _ _ v u Q I rx ry ⟨a, b, rfl, rfl, p A H _ .refl rs (.bl _)⟩
    | _ => exact p.elim
  | _ => cases r1 <;> exact p.elim

/-! ### in a list or tuple -/
def flatW : W → Bool
  | .non => true
  | .bl _ => true
  | .int _ => true
  | .str _ => true
  | _ => false
def eqF : W → W → Bool
  | .non, .non => true
  | .bl a, .bl b => a == b
  | .bl a, .int b => (if a then 1 else 0) == b
  | .int a, .bl b => a == (if b then 1 else 0)
  | .int a, .int b => a == b
  | .str a, .str b => a == b
  | _, _ => false
def inW (S : Store) (x y : W) : Option Bool := match seqW S y with
  | some l => if flatW x && l.all flatW then some (l.any fun z => eqF z x) else match lstW S y with
    | some l => match datR S x, dats l with
      | some d, some ds => if SeqAt.shaped d && SeqAt.shaped (.list ds) then some (ds.any fun z => PyData.eqv z d) else none
      | _, _ => none
    | none => none
  | none => none
def opIn (x y : W) (S : Store) : R W := match inW S x y with
  | some b => .ok (.bl b) S
  | none => .bad
def opNotIn (x y : W) (S : Store) : R W := match inW S x y with
  | some b => .ok (.bl (!b)) S
  | none => .bad
theorem flat_V {A B : List Addr} {H : Hp} {w : W} {v : V} (r : RW G A B H w v) (h : flatW w = true) : flatV v = true ∧ ∀ w' v', RW G A B H w' v' → eqV v' v = eqF w' w := by
  cases r <;> first
    | (refine ⟨rfl, fun w' v' r' => ?_⟩; cases r' <;> rfl)
    | cases h
theorem flat_all {A B : List Addr} {H : Hp} : ∀ {l : List W} {vs : List V}, RWs G A B H l vs → l.all flatW = true → vs.all flatV = true
  | _, _, .nil, _ => rfl
  | _, _, .cons r q, h => by
    rw [List.all_cons, Bool.and_eq_true] at h
    rw [List.all_cons, (flat_V r h.1).1, flat_all q h.2]; rfl
theorem flat_in {A B : List Addr} {H : Hp} {x : W} {v : V} (rx : RW G A B H x v) (hx : flatW x = true) : ∀ {l : List W} {vs : List V}, RWs G A B H l vs → inV v vs = l.any fun z => eqF z x
  | _, _, .nil => rfl
  | _, _, .cons r q => by
    have ih := flat_in rx hx q
    unfold inV at ih ⊢
    rw [List.any_cons, List.any_cons, ih, (flat_V rx hx).2 _ _ r]
theorem inW_cases {K : PySem.W.Frag} {A B : List Addr} {H : Hp} {S : Store} (rs : RS G A B H S) {x y : W} {v u : V} {b : Bool} (r1 : RW G A B H x v) (r2 : RW G A B H y u) (h : inW S x y = some b) :
    (∃ p xs, u = .ref p ∧ (SqL K H p xs ∨ SqT K H p xs) ∧ flatV v = true ∧ xs.all flatV = true ∧ inV v xs = b) ∨
    (∃ d ds, Dp K H v d ∧ Dp K H u (.list ds) ∧ SeqAt.shaped d = true ∧ SeqAt.shaped (.list ds) = true ∧ (ds.any fun z => PyData.eqv z d) = b) := by
  unfold inW at h
  split at h
  · rename_i l hl
    split at h
    · rename_i hf
      rw [Bool.and_eq_true] at hf
      obtain ⟨p, vs, rfl, hq, q⟩ := seq_at rs hl r2
      refine .inl ⟨p, vs, rfl, hq.elim (fun z => .inl (.inl z)) (fun z => .inr (.inl (.inl z))), (flat_V r1 hf.1).1, flat_all q hf.2, ?_⟩
      rw [flat_in r1 hf.1 q]
      exact Option.some.inj h
    · split at h
      · rename_i l2 hl2
        split at h
        · rename_i d ds e1 e2
          split at h
          · rename_i hs
            rw [Bool.and_eq_true] at hs
            obtain ⟨p, vs, rfl, hq, q⟩ := lst_at rs hl2 r2
            exact .inr ⟨d, ds, datR_dp rs r1 e1, .lst (SqL.of hq) (dats_dp q e2), hs.1, hs.2, Option.some.inj h⟩
          · cases h
        · cases h
      · cases h
  · cases h
theorem o_in (hu : X.A.units + 65 < cLine) : OpR X (compareOp .In) (r2 G E opIn) := by
  intro pins s σ H x y v u Q I rx ry ⟨A, B, S, wx, wy, rs, r1, r2, p⟩
  simp only [opIn] at p
  split at p
  · rename_i b h
    rcases inW_cases (K := X.K) rs r1 r2 h with ⟨a, xs, e1, e2, e3, e4, rfl⟩ | ⟨d, ds, e1, e2, e3, e4, rfl⟩
    · exact op_in_seq pins s σ H _ _ v u Q I rx ry ⟨a, xs, e1, e2, e3, e4, p A H _ .refl rs (.bl _)⟩
    · exact op_inD hu pins s σ H _ _ v u Q I rx ry ⟨d, ds, e1, e2, e3, e4, p A H _ .refl rs (.bl _)⟩
  · exact p.elim
theorem o_notin (hu : X.A.units + 65 < cLine) : OpR X (compareOp .NotIn) (r2 G E opNotIn) := by
  intro pins s σ H x y v u Q I rx ry ⟨A, B, S, wx, wy, rs, r1, r2, p⟩
  simp only [opNotIn] at p
  split at p
  · rename_i b h
    rcases inW_cases (K := X.K) rs r1 r2 h with ⟨a, xs, e1, e2, e3, e4, rfl⟩ | ⟨d, ds, e1, e2, e3, e4, rfl⟩
    · exact op_notIn_seq pins s σ H _ _ v u Q I rx ry ⟨a, xs, e1, e2, e3, e4, p A H _ .refl rs (.bl _)⟩
    · exact op_notInD hu pins s σ H _ _ v u Q I rx ry ⟨d, ds, e1, e2, e3, e4, p A H _ .refl rs (.bl _)⟩
  · exact p.elim

/-! ### truth -/
def truW (S : Store) : W → Option Bool
  | .non => some false
  | .bl b => some b
  | .int i => some (i != 0)
  | .str x => if x.length ≤ big then some ((x.length : Int) != 0) else none
  | .tup l => some (!l.isEmpty)
  | .lst l => some (!l.isEmpty)
  | .ref n => match S[n]? with
    | some (.lst l) => some (!l.isEmpty)
    | some (.dk false kvs) => some (!kvs.isEmpty)
    | _ => none
  | _ => none
theorem RWs.emp {A B : List Addr} {H : Hp} {l : List W} {vs : List V} (r : RWs G A B H l vs) : l.isEmpty = vs.isEmpty := by cases r <;> rfl
theorem tru_V {K : PySem.W.Frag} {A B : List Addr} {H : Hp} {S : Store} (rs : RS G A B H S) {x : W} {v : V} {b : Bool} (r : RW G A B H x v) (h : truW S x = some b) : TruV K v H b := by
  cases r with
  | non => exact (Option.some.inj h).symm
  | bl _ => exact (Option.some.inj h).symm
  | int _ => exact (Option.some.inj h).symm
  | str x =>
    simp only [truW] at h
    split at h
    · rename_i hl
      exact ⟨big_line hl, (Option.some.inj h).symm⟩
    · cases h
  | tup h1 h2 h3 h4 => exact .inr (.inl ⟨_, .inl (.inl h3), by rw [← h4.emp]; exact (Option.some.inj h).symm⟩)
  | lst h1 h2 h3 h4 => exact .inl ⟨_, .inl (.inl h3), by rw [← h4.emp]; exact (Option.some.inj h).symm⟩
  | scr h1 => cases h
  | ref ha =>
    simp only [truW] at h
    split at h
    · rename_i l hl
      obtain ⟨vs, e, q⟩ := rs.at hl ha
      exact .inl ⟨vs, SqL.of e, by rw [← q.emp]; exact (Option.some.inj h).symm⟩
    · rename_i kvs hl
      obtain ⟨ks, e, q⟩ := rs.at hl ha
      refine .inr (.inr ⟨ks, e, ?_⟩)
      have z : kvs.isEmpty = ks.isEmpty := by cases q <;> rfl
      rw [← z]
      exact (Option.some.inj h).symm
    · cases h
  | _ => cases h
def tTru (m : EX) : TX := fun env S => (m env S).bind fun w S1 => match truW S1 w with
  | some b => .ok b S1
  | none => .bad
theorem mt_tru {e : Expr} {m : EX} (ha : PM X G E e m) (he : ∀ whole, isTrue e X.env whole = (do let v ← whole; standAt e.pos; holding [v] (truthy v)) := by intro _; rfl) : PMT X G E e (tTru m) := by
  refine (pt_truth ha he).weak fun σ H Q ⟨A, B, env, S, rs, re, p⟩ => ⟨A, B, env, S, rs, re, Post.bind p fun w S1 A1 H1 x ex e1 rs1 r1 p1 => ?_⟩
  split at p1
  · rename_i b hb
    exact ⟨b, tru_V rs1 r1 hb, p1 A1 H1 b .refl rs1 rfl⟩
  · exact p1.elim
/-! tests: and, or, not -/
abbrev PMW (X : Cx) (G : GP) (E : XK) (e : Expr) (m : TX) : Prop := PW X e (rd G relB E m)
theorem _root_.L2.PW.weak {X : Cx} {e : Expr} {t t' : TT} (h : PW X e t) (k : ∀ σ H Q, t' σ H Q → t σ H Q) : PW X e t' := ⟨fun wh pins s σ H Q I q => h.run wh pins s σ H Q I (k σ H Q q)⟩
def tAndM (a b : TX) : TX := fun env S => (a env S).bind fun x S1 => if x = true then b env S1 else .ok false S1
def tOrM (a b : TX) : TX := fun env S => (a env S).bind fun x S1 => if x = true then .ok true S1 else b env S1
def tNotM (a : TX) : TX := fun env S => (a env S).bind fun x S1 => .ok (!x) S1
theorem mw_and1 {a : Expr} {pos : Pos} {m : TX} (ha : PMT X G E a m) : PMW X G E (.BoolOp .And [a] pos) m := pw_and1 ha
theorem mw_or1 {a : Expr} {pos : Pos} {m : TX} (ha : PMT X G E a m) : PMW X G E (.BoolOp .Or [a] pos) m := pw_or1 ha
theorem mw_and {a b : Expr} {rest : List Expr} {pos : Pos} {m k : TX} (ha : PMT X G E a m) (hb : PMW X G E (.BoolOp .And (b :: rest) pos) k) : PMW X G E (.BoolOp .And (a :: b :: rest) pos) (tAndM m k) :=
  (pw_and ha hb).weak fun σ H Q ⟨A, B, env, S, rs, re, p⟩ => by
    refine ⟨A, B, env, S, rs, re, Post.bind p fun w S1 A1 H1 x ex e1 rs1 r1 p1 => ?_⟩
    cases (show w = x from r1)
    cases w with
    | true => rw [if_pos rfl] at p1 ⊢; exact ⟨A1, B, env, S1, rs1, re.ext e1, p1⟩
    | false => rw [if_neg (by decide)] at p1 ⊢; exact p1 A1 H1 false .refl rs1 rfl
theorem mw_or {a b : Expr} {rest : List Expr} {pos : Pos} {m k : TX} (ha : PMT X G E a m) (hb : PMW X G E (.BoolOp .Or (b :: rest) pos) k) : PMW X G E (.BoolOp .Or (a :: b :: rest) pos) (tOrM m k) :=
  (pw_or ha hb).weak fun σ H Q ⟨A, B, env, S, rs, re, p⟩ => by
    refine ⟨A, B, env, S, rs, re, Post.bind p fun w S1 A1 H1 x ex e1 rs1 r1 p1 => ?_⟩
    cases (show w = x from r1)
    cases w with
    | true => rw [if_pos rfl] at p1 ⊢; exact p1 A1 H1 true .refl rs1 rfl
    | false => rw [if_neg (by decide)] at p1 ⊢; exact ⟨A1, B, env, S1, rs1, re.ext e1, p1⟩
theorem mt_not {a : Expr} {pos : Pos} {m : TX} (ha : PMT X G E a m) : PMT X G E (.UnaryOp .Not a pos) (tNotM m) :=
  (pt_not ha).weak fun σ H Q ⟨A, B, env, S, rs, re, p⟩ => by
    refine ⟨A, B, env, S, rs, re, Post.bind p fun w S1 A1 H1 x ex e1 rs1 r1 p1 => ?_⟩
    cases (show w = x from r1)
    exact p1 A1 H1 _ .refl rs1 rfl
/-! and, or, not as values -/
def eAnd (a b : EX) : EX := fun env S => (a env S).bind fun x S1 => match truW S1 x with
  | some true => b env S1
  | some false => .ok x S1
  | none => .bad
def eOr (a b : EX) : EX := fun env S => (a env S).bind fun x S1 => match truW S1 x with
  | some true => .ok x S1
  | some false => b env S1
  | none => .bad
def eNot (a : EX) : EX := fun env S => (a env S).bind fun x S1 => match truW S1 x with
  | some b => .ok (.bl (!b)) S1
  | none => .bad
theorem m_one {op} {a : Expr} {pos : Pos} {m : EX} (ha : PM X G E a m) : PM X G E (.BoolOp op [a] pos) m := pe_one ha
theorem m_and {a b : Expr} {rest : List Expr} {pos : Pos} {m k : EX} (ha : PM X G E a m) (hb : PM X G E (.BoolOp .And (b :: rest) pos) k) : PM X G E (.BoolOp .And (a :: b :: rest) pos) (eAnd m k) :=
  (pe_andT ha hb).weak fun σ H Q ⟨A, B, env, S, rs, re, p⟩ => by
    refine ⟨A, B, env, S, rs, re, Post.bind p fun w S1 A1 H1 x ex e1 rs1 r1 p1 => ?_⟩
    split at p1
    · rename_i h
      exact ⟨true, tru_V rs1 r1 h, by rw [if_pos rfl]; exact ⟨A1, B, env, S1, rs1, re.ext e1, p1⟩⟩
    · rename_i h
      exact ⟨false, tru_V rs1 r1 h, by rw [if_neg (by decide)]; exact p1 A1 H1 x .refl rs1 r1⟩
    · exact p1.elim
theorem m_or {a b : Expr} {rest : List Expr} {pos : Pos} {m k : EX} (ha : PM X G E a m) (hb : PM X G E (.BoolOp .Or (b :: rest) pos) k) : PM X G E (.BoolOp .Or (a :: b :: rest) pos) (eOr m k) :=
  (pe_orT ha hb).weak fun σ H Q ⟨A, B, env, S, rs, re, p⟩ => by
    refine ⟨A, B, env, S, rs, re, Post.bind p fun w S1 A1 H1 x ex e1 rs1 r1 p1 => ?_⟩
    split at p1
    · rename_i h
      exact ⟨true, tru_V rs1 r1 h, by rw [if_pos rfl]; exact p1 A1 H1 x .refl rs1 r1⟩
    · rename_i h
      exact ⟨false, tru_V rs1 r1 h, by rw [if_neg (by decide)]; exact ⟨A1, B, env, S1, rs1, re.ext e1, p1⟩⟩
    · exact p1.elim
theorem m_not {a : Expr} {pos : Pos} {m : EX} (ha : PM X G E a m) : PM X G E (.UnaryOp .Not a pos) (eNot m) :=
  (pe_notT ha).weak fun σ H Q ⟨A, B, env, S, rs, re, p⟩ => by
    refine ⟨A, B, env, S, rs, re, Post.bind p fun w S1 A1 H1 x ex e1 rs1 r1 p1 => ?_⟩
    split at p1
    · rename_i b h
      exact ⟨b, tru_V rs1 r1 h, p1 A1 H1 _ .refl rs1 (.bl _)⟩
    · exact p1.elim
def eIf (c : TX) (a b : EX) : EX := fun env S => (c env S).bind fun x S1 => if x = true then a env S1 else b env S1
theorem m_if {c a b : Expr} {pos : Pos} {mc : TX} {ma mb : EX} (hc : PMT X G E c mc) (ha : PM X G E a ma) (hb : PM X G E b mb) : PM X G E (.IfExp c a b pos) (eIf mc ma mb) :=
  (pe_ifExp hc ha hb).weak fun σ H Q ⟨A, B, env, S, rs, re, p⟩ => by
    refine ⟨A, B, env, S, rs, re, Post.bind p fun w S1 A1 H1 x ex e1 rs1 r1 p1 => ?_⟩
    cases (show w = x from r1)
    cases w with
    | true => rw [if_pos rfl] at p1 ⊢; exact ⟨A1, B, env, S1, rs1, re.ext e1, p1⟩
    | false => rw [if_neg (by decide)] at p1 ⊢; exact ⟨A1, B, env, S1, rs1, re.ext e1, p1⟩
end
end QP

set_option Elab.async false
set_option linter.all false
set_option maxRecDepth 100000
set_option maxHeartbeats 4000000
/-! Places, slices, dicts, calls. -/
namespace QP
open PySem PySem.Spec PyProof.Rows L2

/-! ### dicts -/
def keyW : W → Option Key
  | .int i => some (.inl i)
  | .str x => some (.inr x)
  | _ => none
def keysW : List W → Option (List Key)
  | [] => some []
  | w :: r => match keyW w, keysW r with
    | some k, some ks => some (k :: ks)
    | _, _ => none
def keyT : W → Option (List Key)
  | .tup l => keysW l
  | _ => none
def wK : Key → W
  | .inl i => .int i
  | .inr x => .str x
def RWo (G : GP) (A B : List Addr) (H : Hp) : Option W → Option V → Prop
  | some w, some v => RW G A B H w v
  | none, none => True
  | _, _ => False
section
variable {κ : Type} [DecidableEq κ]
def valW (kvs : List (κ × W)) (k : κ) : Option W := match kvs with
  | [] => none
  | p :: r => if p.1 = k then some p.2 else valW r k
def setW (kvs : List (κ × W)) (k : κ) (w : W) : List (κ × W) := match kvs with
  | [] => []
  | p :: r => (if p.1 = k then (p.1, w) else p) :: setW r k w
def putW (kvs : List (κ × W)) (k : κ) (w : W) : List (κ × W) := match valW kvs k with
  | some _ => setW kvs k w
  | none => kvs ++ [(k, w)]
variable {G : GP} {A B : List Addr} {H : Hp}
theorem RKV.val {kvs : List (κ × W)} {ks : List (κ × V)} (r : RKV G A B H kvs ks) (k : κ) : RWo G A B H (valW kvs k) (valV ks k) := by
  unfold RKV at r
  induction r with
  | nil => trivial
  | @cons p q ps qs h t ih =>
    obtain ⟨h1, h2⟩ := h
    by_cases e : p.1 = k
    · rw [valV_pos (p := q) (by rw [← h1]; exact e)]
      simp only [valW, if_pos e]
      exact h2
    · rw [valV_neg (p := q) (by rw [← h1]; exact e)]
      simp only [valW, if_neg e]
      exact ih
theorem RKV.setM {kvs : List (κ × W)} {ks : List (κ × V)} (r : RKV G A B H kvs ks) (k : κ) {w : W} {v : V} (q : RW G A B H w v) : RKV G A B H (setW kvs k w) (ks.map fun kv => if kv.1 = k then (kv.1, v) else kv) := by
  unfold RKV at r
  induction r with
  | nil => exact .nil
  | @cons p q' ps qs h t ih =>
    obtain ⟨h1, h2⟩ := h
    refine .cons ?_ ih
    by_cases e : p.1 = k
    · have e' : q'.1 = k := by rw [← h1]; exact e
      simp only [if_pos e, if_pos e']; exact ⟨h1, q⟩
    · have e' : ¬ q'.1 = k := by rw [← h1]; exact e
      simp only [if_neg e, if_neg e']; exact ⟨h1, h2⟩
theorem RKV.put {kvs : List (κ × W)} {ks : List (κ × V)} (r : RKV G A B H kvs ks) (k : κ) {w : W} {v : V} (q : RW G A B H w v) : RKV G A B H (putW kvs k w) (putK ks k v) := by
  have h := r.val k
  unfold putW
  cases e : valW kvs k with
  | some w' =>
    rw [e] at h
    cases e2 : valV ks k with
    | none => rw [e2] at h; exact h.elim
    | some v' =>
      unfold putK
      rw [if_pos (by rw [valV_any, e2]; rfl)]
      exact r.setM k q
  | none =>
    rw [e] at h
    cases e2 : valV ks k with
    | some v' => rw [e2] at h; exact h.elim
    | none =>
      rw [putK_new v e2]
      have app : ∀ {a : List (κ × W)} {b : List (κ × V)}, RKV G A B H a b → RKV G A B H (a ++ [(k, w)]) (b ++ [(k, v)]) := by
        intro a b r
        unfold RKV at r
        induction r with
        | nil => exact .cons ⟨rfl, q⟩ .nil
        | cons h t ih => exact .cons h ih
      exact app r
theorem RKV.len {kvs : List (κ × W)} {ks : List (κ × V)} (r : RKV G A B H kvs ks) : kvs.length = ks.length := Paired.length r
end
/-- what x holds at the key y, x a dict -/
def dGet (S : Store) (x y : W) : Option (Option W) := match x with
  | .ref n => match S[n]? with
    | some (.dk _ kvs) => (keyW y).map (valW kvs ·)
    | some (.dt _ kvs) => (keyT y).map (valW kvs ·)
    | _ => none
  | _ => none
section
variable {G : GP} {A B : List Addr} {H : Hp} {S : Store}
theorem keyW_V {y : W} {u : V} {k : Key} (r : RW G A B H y u) (h : keyW y = some k) : u = kV k := by
  cases r <;> first
    | (cases h; rfl)
    | cases h
theorem keysW_V : ∀ {l : List W} {vs : List V} {ks : List Key}, RWs G A B H l vs → keysW l = some ks → vs = ks.map kV
  | _, _, _, .nil, h => by cases h; rfl
  | _, _, _, .cons r q, h => by
    simp only [keysW] at h
    split at h
    · rename_i k ks e1 e2
      cases h
      rw [keyW_V r e1, keysW_V q e2]; rfl
    · cases h
theorem keyT_V {y : W} {u : V} {k : List Key} (r : RW G A B H y u) (h : keyT y = some k) : ∃ b, u = .ref b ∧ H b = some (.tup (k.map kV)) := by
  cases y with
  | tup l =>
    cases r with
    | tup h1 h2 h3 h4 => exact ⟨_, rfl, by rw [← keysW_V h4 h]; exact h3⟩
  | _ => cases h
theorem RO.dkRd {a : Addr} {lock : Bool} {kvs : List (Key × W)} (h : RO G A B H a (.dk lock kvs)) : ∃ ks, Rd H a (.dK ks) ∧ RKV G A B H kvs ks := by
  obtain ⟨ks, e, q⟩ := h
  refine ⟨ks, ?_, q⟩
  split at e
  · exact .inr e
  · exact .inl e
theorem RO.dtRd {a : Addr} {lock : Bool} {kvs : List (List Key × W)} (h : RO G A B H a (.dt lock kvs)) : ∃ ks, Rd H a (.dT ks) ∧ RKV G A B H kvs ks := by
  obtain ⟨ks, e, q⟩ := h
  refine ⟨ks, ?_, q⟩
  split at e
  · exact .inr e
  · exact .inl e
theorem dGet_V (rs : RS G A B H S) {x y : W} {v u : V} {o : Option W} (r1 : RW G A B H x v) (r2 : RW G A B H y u) (h : dGet S x y = some o) :
    ∃ a o', v = .ref a ∧ DGet H a u o' ∧ RWo G A B H o o' := by
  cases x with
  | ref n =>
    cases r1 with
    | ref ha =>
      simp only [dGet] at h
      split at h
      · rename_i lock kvs hn
        obtain ⟨k, hk, rfl⟩ := Option.map_eq_some_iff.mp h
        obtain ⟨ks, e, q⟩ := (rs.at hn ha).dkRd
        exact ⟨_, valV ks k, rfl, .inl ⟨ks, k, e, keyW_V r2 hk, rfl⟩, q.val k⟩
      · rename_i lock kvs hn
        obtain ⟨k, hk, rfl⟩ := Option.map_eq_some_iff.mp h
        obtain ⟨ks, e, q⟩ := (rs.at hn ha).dtRd
        obtain ⟨b, e1, e2⟩ := keyT_V r2 hk
        exact ⟨_, valV ks k, rfl, .inr ⟨ks, k, b, e, e1, e2, rfl⟩, q.val k⟩
      · cases h
  | _ => cases h
end

/-! ### x[y] -/
def opItem (x y : W) (S : Store) : R W := match dGet S x y with
  | some (some w) => .ok w S
  | some none => .bad
  | none => match seqW S x, y with
    | some l, .int i => match atI l i with
      | some w => .ok w S
      | none => .bad
    | _, _ => .bad
section
variable {X : Cx} {G : GP} {E : XK}
theorem atI_R {A B : List Addr} {H : Hp} {l : List W} {vs : List V} {i : Int} {w : W} (r : RWs G A B H l vs) (h : atI l i = some w) : ∃ v, atI vs i = some v ∧ RW G A B H w v := by
  unfold atI at h ⊢
  rw [← RWs.length r]
  cases e : ixN l.length i with
  | none => rw [e] at h; cases h
  | some j => rw [e] at h; exact r.get h
theorem m_item {a b : Expr} {ma mb : EX} {pos : Pos} (hu : X.A.units + 1 < cLine) (ha : PM X G E a ma) (hb : PM X G E b mb) (hs : PlainIx b := by intro _ _; rfl) (hs2 : NoSl b := by intro _ _; rfl) : PM X G E (.Subscript a b pos) (eBin opItem ma mb) := by
  refine ((pe_ix ix_seq ha hb hs).or (pe_dget hu ha hb hs2)).weak fun σ H Q ⟨A, B, env, S, rs, re, p⟩ => ?_
  by_cases hd : ∃ x S1 y S2, ma env S = .ok x S1 ∧ mb env S1 = .ok y S2 ∧ (dGet S2 x y).isSome = true
  · obtain ⟨x0, S10, y0, S20, z1, z2, z3⟩ := hd
    refine .inr ⟨A, B, env, S, rs, re, Post.bind p fun wx S1 A1 H1 x ex e1 rs1 r1 p1 => ⟨A1, B, env, S1, rs1, re.ext e1, Post.bind p1 fun wy S2 A2 H2 y ey e2 rs2 r2 p2 => ?_⟩⟩
    rw [z1] at ex; cases ex
    rw [z2] at ey; cases ey
    simp only [opItem] at p2
    split at p2
    · rename_i w hw
      obtain ⟨a, o', rfl, g, q⟩ := dGet_V rs2 (RW.ext e2 r1) r2 hw
      cases o' with
      | none => exact q.elim
      | some v => exact ⟨a, v, rfl, g, p2 A2 H2 v .refl rs2 q⟩
    · exact p2.elim
    · rename_i hw; rw [hw] at z3; cases z3
  · refine .inl ⟨A, B, env, S, rs, re, Post.bind p fun wx S1 A1 H1 x ex e1 rs1 r1 p1 => ⟨A1, B, env, S1, rs1, re.ext e1, Post.bind p1 fun wy S2 A2 H2 y ey e2 rs2 r2 p2 => ?_⟩⟩
    have hn : dGet S2 wx wy = none := by
      cases z : dGet S2 wx wy with
      | none => rfl
      | some o => exact (hd ⟨wx, S1, wy, S2, ex, ey, by rw [z]; rfl⟩).elim
    simp only [opItem, hn] at p2
    split at p2
    · rename_i l i hl
      split at p2
      · rename_i w hw
        obtain ⟨q, vs, rfl, hq, ws⟩ := seq_at rs2 hl (RW.ext e2 r1)
        obtain ⟨v, h1, h2⟩ := atI_R ws hw
        cases r2
        rcases hq with hq | hq
        · exact .inl ⟨q, vs, i, v, rfl, rfl, .inl hq, h1, p2 A2 H2 v .refl rs2 h2⟩
        · exact .inr (.inl ⟨q, vs, i, v, rfl, rfl, .inl (.inl hq), h1, p2 A2 H2 v .refl rs2 h2⟩)
      · exact p2.elim
    · exact p2.elim
/-! ### x[a:b] -/
abbrev OX := Env → Store → R (Option Int)
def relO : Rel (Option Int) (Option Int) := fun _ _ _ b c => b = c
abbrev PMO (X : Cx) (G : GP) (E : XK) (e : Option Expr) (m : OX) : Prop := PO X e (rd G relO E m)
def oNone : OX := fun _ S => .ok none S
def oSome (m : EX) : OX := fun env S => (m env S).bind fun w S1 => match w with
  | .int i => .ok (some i) S1
  | _ => .bad
theorem _root_.L2.PO.weak {X : Cx} {e : Option Expr} {t t' : TO} (h : PO X e t) (k : ∀ σ H Q, t' σ H Q → t σ H Q) : PO X e t' := ⟨fun pins s σ H Q I q => h.run pins s σ H Q I (k σ H Q q)⟩
theorem mo_none : PMO X G E none oNone := po_none.weak fun σ H Q ⟨A, B, env, S, rs, re, p⟩ => p A H none .refl rs rfl
theorem mo_some {e : Expr} {m : EX} (h : PM X G E e m) : PMO X G E (some e) (oSome m) := (po_some h).weak fun σ H Q ⟨A, B, env, S, rs, re, p⟩ => by
  refine ⟨A, B, env, S, rs, re, Post.bind p fun wx S1 A1 H1 x ex e1 rs1 r1 p1 => ?_⟩
  cases r1 with
  | int i => exact ⟨i, rfl, p1 A1 H1 _ .refl rs1 rfl⟩
  | _ => exact p1.elim
def cutW (xs : List W) (lo hi : Option Int) : List W := (xs.drop (HT.sIx xs.length 0 lo)).take (HT.sIx xs.length xs.length hi - HT.sIx xs.length 0 lo)
theorem RWs.cut {A B : List Addr} {H : Hp} {l : List W} {vs : List V} (r : RWs G A B H l vs) (lo hi : Option Int) : RWs G A B H (cutW l lo hi) (cutV vs lo hi) := by
  unfold cutW cutV
  rw [RWs.length r]
  exact (r.drop _).take _
def opSlice (x : W) (lo hi : Option Int) (S : Store) : R W := match x with
  | .tup l => .ok (.tup (cutW l lo hi)) S
  | x => match lstW S x with
    | some l => .ok (.lst (cutW l lo hi)) S
    | none => .bad
def eSlice (m : EX) (lo hi : OX) : EX := fun env S => (m env S).bind fun x S1 => (lo env S1).bind fun a S2 => (hi env S2).bind fun b S3 => opSlice x a b S3
theorem cut_whole (xs : List W) (lo hi : Option Int) (h : HT.sIx xs.length 0 lo = 0 ∧ HT.sIx xs.length xs.length hi = xs.length) : cutW xs lo hi = xs := by
  unfold cutW
  rw [h.1, h.2]; simp
theorem m_slice {a : Expr} {lo hi : Option Expr} {ma : EX} {ml mh : OX} {pos p2 : Pos} (ha : PM X G E a ma) (hl : PMO X G E lo ml) (hh : PMO X G E hi mh) : PM X G E (.Subscript a (.Slice lo hi none p2) pos) (eSlice ma ml mh) :=
  (pe_slice (sl_list.or sl_tupA) ha hl hh).weak fun σ H Q ⟨A, B, env, S, rs, re, p⟩ => by
    refine ⟨A, B, env, S, rs, re, Post.bind p fun wx S1 A1 H1 x ex e1 rs1 r1 p1 => ⟨A1, B, env, S1, rs1, re.ext e1, Post.bind p1 fun wl S2 A2 H2 l el e2 rs2 r2 p2 => ⟨A2, B, env, S2, rs2, re.ext (e1.trans e2), Post.bind p2 fun wh S3 A3 H3 h eh e3 rs3 r3 p3 => ?_⟩⟩⟩
    cases (show wl = l from r2)
    cases (show wh = h from r3)
    have r1' := RW.ext (e2.trans e3) r1
    cases wx with
    | tup lw =>
      cases r1' with
      | tup h1 h2 h3 h4 =>
        refine .inr ⟨_, _, rfl, Rd.sqT h3, fun w => ?_, fun _ => newT p3 rs3 (h4.cut wl wh)⟩
        have e := cut_whole lw wl wh (by rw [RWs.length h4]; exact w)
        rw [show opSlice (.tup lw) wl wh S3 = .ok (.tup (cutW lw wl wh)) S3 from rfl, e] at p3
        exact p3 A3 H3 _ .refl rs3 (.tup h1 h2 h3 h4)
    | _ =>
      simp only [opSlice] at p3
      split at p3
      · rename_i lw hlw
        obtain ⟨q, vs, rfl, hq, ws⟩ := lst_at rs3 hlw r1'
        refine .inl ⟨q, vs, rfl, SqL.of hq, fun t ht => ?_⟩
        exact p3 A3 _ (.ref t) (Ext.new ht) (rs3.new ht) (.lst (rs3.fresh ht).1 (rs3.fresh ht).2 upd_same ((ws.cut wl wh).ext (Ext.new ht)))
      · exact p3.elim
/-- the same of a list, a new list -/
def fSlice (m : EX) (lo hi : OX) : AX := fun env S => (m env S).bind fun x S1 => (lo env S1).bind fun a S2 => (hi env S2).bind fun b S3 => match lstW S3 x with
  | some l => .ok (cutW l a b) S3
  | none => .bad
theorem f_slice {a : Expr} {lo hi : Option Expr} {ma : EX} {ml mh : OX} {pos p2 : Pos} (ha : PM X G E a ma) (hl : PMO X G E lo ml) (hh : PMO X G E hi mh) : PF X G E (.Subscript a (.Slice lo hi none p2) pos) (fSlice ma ml mh) :=
  (pe_slice sl_list ha hl hh).weak fun σ H Q ⟨A, B, env, S, rs, re, p⟩ => by
    refine ⟨A, B, env, S, rs, re, Post.bindF p fun wx S1 A1 H1 x ex e1 rs1 r1 p1 => ⟨A1, B, env, S1, rs1, re.ext e1, Post.bindF p1 fun wl S2 A2 H2 l el e2 rs2 r2 p2 => ⟨A2, B, env, S2, rs2, re.ext (e1.trans e2), Post.bindF p2 fun wh S3 A3 H3 h eh e3 rs3 r3 p3 => ?_⟩⟩⟩
    cases (show wl = l from r2)
    cases (show wh = h from r3)
    split at p3
    · rename_i lw hlw
      obtain ⟨q, vs, rfl, hq, ws⟩ := lst_at rs3 hlw (RW.ext (e2.trans e3) r1)
      exact ⟨q, vs, rfl, SqL.of hq, newF p3 rs3 (ws.cut wl wh)⟩
    · exact p3.elim

/-! ### calls of built-ins -/
def rC (G : GP) (E : XK) (f : List W → Store → R W) : List V → Hp → VK → Prop := fun vs H Q => ∃ A B S ws, RS G A B H S ∧ RWs G A B H ws vs ∧ Post G (relW G) A B H E Q (f ws S)
def rCF (G : GP) (E : XK) (f : List W → Store → R (List W)) : List V → Hp → VK → Prop := fun vs H Q => ∃ A B S ws, RS G A B H S ∧ RWs G A B H ws vs ∧ PostF G A B H E Q (f ws S)
def eCall (f : List W → Store → R W) (m : AX) : EX := fun env S => (m env S).bind fun l S1 => f l S1
def fCall (f : List W → Store → R (List W)) (m : AX) : AX := fun env S => (m env S).bind fun l S1 => f l S1
variable {x : Str} {p pos : Pos} {e : Expr} {es : List Expr} {m : AX} {id T : String} {f : List W → Store → R W} {ff : List W → Store → R (List W)}
theorem m_callB (hc : CallR X (.builtin id) (rC G E f)) (hm : X.mg x = none) (hv : bootBuiltins x = some (.builtin id)) (ha : PMA X G E (e :: es) m) (hg : Gl X x := by rfl) (hn : x ≠ "__name__" := by decide) (hdb : (x == ("__debug__" : Str)) = false := by decide)
    (he : starEach (e :: es) X.env = (false, eval e X.env) :: starEach es X.env := by rfl) (hpl : (backTo pos (starEach es X.env)).any (·.1) = false := by rfl) : PM X G E (.Call (.Name x p) (e :: es) [] pos) (eCall f m) :=
  (pe_callB hc hg hm hv ha hn hdb he hpl).weak fun σ H Q ⟨A, B, env, S, rs, re, p⟩ =>
    ⟨A, B, env, S, rs, re, Post.bind p fun l S1 A1 H1 vs el e1 rs1 r1 p1 => ⟨A1, B, S1, l, rs1, r1, p1⟩⟩
theorem m_callT (hc : CallR X (.type T) (rC G E f)) (hm : X.mg x = none) (hv : bootBuiltins x = some (.type T)) (ha : PMA X G E (e :: es) m) (hg : Gl X x := by rfl) (hn : x ≠ "__name__" := by decide) (hdb : (x == ("__debug__" : Str)) = false := by decide)
    (he : starEach (e :: es) X.env = (false, eval e X.env) :: starEach es X.env := by rfl) (hpl : (backTo pos (starEach es X.env)).any (·.1) = false := by rfl) : PM X G E (.Call (.Name x p) (e :: es) [] pos) (eCall f m) :=
  (pe_callTy hc hg hm hv ha hn hdb he hpl).weak fun σ H Q ⟨A, B, env, S, rs, re, p⟩ =>
    ⟨A, B, env, S, rs, re, Post.bind p fun l S1 A1 H1 vs el e1 rs1 r1 p1 => ⟨A1, B, S1, l, rs1, r1, p1⟩⟩
theorem f_callB (hc : CallR X (.builtin id) (rCF G E ff)) (hm : X.mg x = none) (hv : bootBuiltins x = some (.builtin id)) (ha : PMA X G E (e :: es) m) (hg : Gl X x := by rfl) (hn : x ≠ "__name__" := by decide) (hdb : (x == ("__debug__" : Str)) = false := by decide)
    (he : starEach (e :: es) X.env = (false, eval e X.env) :: starEach es X.env := by rfl) (hpl : (backTo pos (starEach es X.env)).any (·.1) = false := by rfl) : PF X G E (.Call (.Name x p) (e :: es) [] pos) (fCall ff m) :=
  (pe_callB hc hg hm hv ha hn hdb he hpl).weak fun σ H Q ⟨A, B, env, S, rs, re, p⟩ =>
    ⟨A, B, env, S, rs, re, Post.bindF p fun l S1 A1 H1 vs el e1 rs1 r1 p1 => ⟨A1, B, S1, l, rs1, r1, p1⟩⟩
theorem f_callT (hc : CallR X (.type T) (rCF G E ff)) (hm : X.mg x = none) (hv : bootBuiltins x = some (.type T)) (ha : PMA X G E (e :: es) m) (hg : Gl X x := by rfl) (hn : x ≠ "__name__" := by decide) (hdb : (x == ("__debug__" : Str)) = false := by decide)
    (he : starEach (e :: es) X.env = (false, eval e X.env) :: starEach es X.env := by rfl) (hpl : (backTo pos (starEach es X.env)).any (·.1) = false := by rfl) : PF X G E (.Call (.Name x p) (e :: es) [] pos) (fCall ff m) :=
  (pe_callTy hc hg hm hv ha hn hdb he hpl).weak fun σ H Q ⟨A, B, env, S, rs, re, p⟩ =>
    ⟨A, B, env, S, rs, re, Post.bindF p fun l S1 A1 H1 vs el e1 rs1 r1 p1 => ⟨A1, B, S1, l, rs1, r1, p1⟩⟩

/-! ### calls of the text's own defs -/
def spM (G : GP) (n : Nat) (f : List W → Store → R W) : Sp := fun vs H Q E => ∃ A B S ws, RS G A B H S ∧ RWs G A B H ws vs ∧ ws.length = n ∧ Post G (relW G) A B H E Q (f ws S)
abbrev FnM (P : Program) (w : World) (K : PySem.W.Frag) (mg : Str → Option Value) (base : Heap) (G : GP) (k : Nat) (fa : Addr) (fd : FuncData) (ps : List Str) (f : List W → Store → R W) : Prop :=
  FnOk P w K mg base (L2.CX P w) k fa fd ps (spM G ps.length f)
variable {k : Nat} {fa : Addr} {fd : FuncData} {ps : List Str}
def eFn (n : Nat) (f : List W → Store → R W) (m : AX) : EX := fun env S => (m env S).bind fun l S1 => if l.length = n then f l S1 else .bad
theorem m_fn {nn : Nat} (F : FnM X.prog X.w X.K X.mg X.base G k fa fd ps f) (hr : Room k X.A) (hm : X.mg x = some (.ref fa)) (hk : PySem.W.keepIn X.K (.ref fa) = true) (hb : Binds X.K fd ps []) (hx : Passes (L2.CX X.prog X.w) X E) (ha : PMA X G E (e :: es) m)
    (hn : ps.length = nn := by rfl) (hg : Gl X x := by rfl) (hdb : (x == ("__debug__" : Str)) = false := by decide) (he : starEach (e :: es) X.env = (false, eval e X.env) :: starEach es X.env := by rfl) (hpl : (backTo pos (starEach es X.env)).any (·.1) = false := by rfl) :
    PM X G E (.Call (.Name x p) (e :: es) [] pos) (eFn nn f m) :=
  by
  subst hn
  exact (pe_call F hr hg hm hk hb .nil hx ha hdb he hpl).weak fun σ H Q ⟨A, B, env, S, rs, re, p⟩ => by
    refine ⟨A, B, env, S, rs, re, Post.bind p fun l S1 A1 H1 vs el e1 rs1 r1 p1 => ?_⟩
    split at p1
    · rename_i hl
      rw [List.append_nil]
      exact ⟨A1, B, S1, l, rs1, r1, hl, p1⟩
    · exact p1.elim
theorem m_fn0 (F : FnM X.prog X.w X.K X.mg X.base G k fa fd [] f) (hr : Room k X.A) (hm : X.mg x = some (.ref fa)) (hk : PySem.W.keepIn X.K (.ref fa) = true) (hb : Binds X.K fd [] []) (hx : Passes (L2.CX X.prog X.w) X E)
    (hg : Gl X x := by rfl) (hdb : (x == ("__debug__" : Str)) = false := by decide) : PM X G E (.Call (.Name x p) [] [] pos) (eFn 0 f aNil) :=
  (pe_call0 F hr hg hm hk hb .nil hx hdb).weak fun σ H Q ⟨A, B, env, S, rs, re, p⟩ => ⟨A, B, S, [], rs, .nil, rfl, p⟩
end
end QP

set_option Elab.async false
set_option linter.all false
set_option maxRecDepth 100000
set_option maxHeartbeats 4000000
/-! Statements, loops, comprehensions, defs. -/
namespace QP
open PySem PySem.Spec PyProof.Rows L2

inductive Z where
  | nx (env : Env) (S : Store) | ret (w : W) (S : Store) | brk (env : Env) (S : Store) | ct (env : Env) (S : Store) | exc (c : String) (x : Option (Str × W)) (S : Store) | bad
abbrev SX := Env → Store → Z
def PostS (G : GP) (A B : List Addr) (H : Hp) (E : XK) (D : Ends) : Z → Prop
  | .nx env S' => ∀ A' H' σ', Ext A A' H H' → RS G A' B H' S' → REnv G A' B H' env σ' → D.nx σ' H'
  | .ret w S' => ∀ A' H' v, Ext A A' H H' → RS G A' B H' S' → RW G A' B H' w v → D.rt v H'
  | .brk env S' => ∀ A' H' σ', Ext A A' H H' → RS G A' B H' S' → REnv G A' B H' env σ' → D.bk σ' H'
  | .ct env S' => ∀ A' H' σ', Ext A A' H H' → RS G A' B H' S' → REnv G A' B H' env σ' → D.ct σ' H'
  | .exc c x S' => ∀ A' H' cls d, Ext A A' H H' → RS G A' B H' S' → RX G A' B H' c x cls d → E cls d H'
  | .bad => False
def rdS (G : GP) (E : XK) (m : SX) : TS := fun D σ H => ∃ A B env S, RS G A B H S ∧ REnv G A B H env σ ∧ PostS G A B H E D (m env S)
abbrev PMS (X : Cx) (G : GP) (E : XK) (st : Stmt) (m : SX) : Prop := PS X st (rdS G E m)
abbrev PMSs (X : Cx) (G : GP) (E : XK) (st : List Stmt) (m : SX) : Prop := PSs X st (rdS G E m)
def Z.ofR {α : Type} (r : R α) (k : α → Store → Z) : Z := match r with
  | .ok a S => k a S
  | .exc c x S => .exc c x S
  | .bad => .bad
def Z.seq (r : Z) (k : Env → Store → Z) : Z := match r with
  | .nx env S => k env S
  | r => r
section
variable {G : GP} {A A' B : List Addr} {H H' : Hp} {E : XK}
theorem PostS.ext {D : Ends} (e : Ext A A' H H') {r : Z} (p : PostS G A B H E D r) : PostS G A' B H' E D r := by
  cases r with
  | nx env S => exact fun A'' H'' b f => p A'' H'' b (e.trans f)
  | ret env S => exact fun A'' H'' b f => p A'' H'' b (e.trans f)
  | brk env S => exact fun A'' H'' b f => p A'' H'' b (e.trans f)
  | ct env S => exact fun A'' H'' b f => p A'' H'' b (e.trans f)
  | exc c x S => exact fun A'' H'' cls d f => p A'' H'' cls d (e.trans f)
  | bad => exact p
theorem PostS.bind {α β : Type} {rel : Rel α β} {D : Ends} {Q1 : β → Hp → Prop} {r : R α} {k : α → Store → Z} (p : PostS G A B H E D (Z.ofR r k))
    (h : ∀ a S' A' H' b, r = .ok a S' → Ext A A' H H' → RS G A' B H' S' → rel A' B H' a b → PostS G A' B H' E D (k a S') → Q1 b H') : Post G rel A B H E Q1 r := by
  cases r with
  | ok a S => exact fun A' H' b e rs q => h a S A' H' b rfl e rs q (PostS.ext e (r := k a S) p)
  | exc c x S => exact p
  | bad => exact p
theorem PostS.seq {D : Ends} {Q1 : L2.St → Hp → Prop} {r : Z} {k : Env → Store → Z} (p : PostS G A B H E D (Z.seq r k))
    (h : ∀ env S' A' H' σ', r = .nx env S' → Ext A A' H H' → RS G A' B H' S' → REnv G A' B H' env σ' → PostS G A' B H' E D (k env S') → Q1 σ' H') : PostS G A B H E { D with nx := Q1 } r := by
  cases r with
  | nx env S => exact fun A' H' σ' e rs re => h env S A' H' σ' rfl e rs re (PostS.ext e (r := k env S) p)
  | ret w S => exact p
  | brk w S => exact p
  | ct w S => exact p
  | exc c x S => exact p
  | bad => exact p
theorem REnv.set {env : Env} {σ : L2.St} (re : REnv G A B H env σ) {w : W} {v : V} (r : RW G A B H w v) (i : Nat) : REnv G A B H (env.set i (some w)) (σ.set i (some v)) := by
  refine ⟨by simp [re.len], fun j u hj => ?_⟩
  by_cases h : j = i
  · subst h
    have hl : j < env.length := by have := (List.getElem?_eq_some_iff.mp hj).1; simpa using this
    rw [List.getElem?_set_self hl] at hj
    cases hj
    exact ⟨v, by rw [List.getElem?_set_self (by rw [← re.len]; exact hl)], r⟩
  · rw [List.getElem?_set_ne (Ne.symm h)] at hj
    rw [List.getElem?_set_ne (Ne.symm h)]
    exact re.at_ j u hj
end

/-! ### blocks -/
def sNext : SX := fun env S => .nx env S
def sSeq (a b : SX) : SX := fun env S => (a env S).seq b
def sBad : SX := fun _ _ => .bad
def sRet (m : EX) : SX := fun env S => Z.ofR (m env S) fun w S1 => .ret w S1
def sRetN : SX := fun _ S => .ret .non S
def sDrop (m : EX) : SX := fun env S => Z.ofR (m env S) fun _ S1 => .nx env S1
def sIf (c : TX) (a b : SX) : SX := fun env S => Z.ofR (c env S) fun k S1 => if k = true then a env S1 else b env S1
section
variable {X : Cx} {G : GP} {E : XK} {st : Stmt} {rest : List Stmt} {a b : SX} {pos : Pos}
theorem ms_nil : PMSs X G E [] sNext := pss_nil.weak fun D σ H ⟨A, B, env, S, rs, re, p⟩ => p A H σ .refl rs re
theorem ms_cons (h1 : PMS X G E st a) (h2 : PMSs X G E rest b) : PMSs X G E (st :: rest) (sSeq a b) := (pss_cons h1 h2).weak fun D σ H ⟨A, B, env, S, rs, re, p⟩ =>
  ⟨A, B, env, S, rs, re, PostS.seq p fun env' S' A' H' σ' _ e rs' re' p' => ⟨A', B, env', S', rs', re', p'⟩⟩
theorem ms_one (h1 : PMS X G E st a) : PMSs X G E [st] a := (pss_one h1).weak fun D σ H h => h
theorem ms_never : PMS X G E st sBad := ps_never.weak fun D σ H ⟨A, B, env, S, rs, re, p⟩ => p
theorem ms_pass : PMS X G E (.Pass pos) sNext := ps_pass.weak fun D σ H ⟨A, B, env, S, rs, re, p⟩ => p A H σ .refl rs re
def sBrk : SX := fun env S => .brk env S
def sCt : SX := fun env S => .ct env S
theorem ms_break : PMS X G E (.Break pos) sBrk := ps_break.weak fun D σ H ⟨A, B, env, S, rs, re, p⟩ => p A H σ .refl rs re
theorem ms_continue : PMS X G E (.Continue pos) sCt := ps_continue.weak fun D σ H ⟨A, B, env, S, rs, re, p⟩ => p A H σ .refl rs re
theorem ms_ret {e : Expr} {m : EX} (h : PM X G E e m) : PMS X G E (.Return (some e) pos) (sRet m) := (ps_ret h).weak fun D σ H ⟨A, B, env, S, rs, re, p⟩ =>
  ⟨A, B, env, S, rs, re, PostS.bind p fun w S1 A1 H1 v _ e1 rs1 r1 p1 => p1 A1 H1 v .refl rs1 r1⟩
theorem ms_retN : PMS X G E (.Return none pos) sRetN := ps_retN.weak fun D σ H ⟨A, B, env, S, rs, re, p⟩ => p A H .non .refl rs .non
theorem ms_expr {e : Expr} {m : EX} (h : PM X G E e m) (hs : swapsWith e none pos.line X.env = pure false := by rfl) : PMS X G E (.Expr e pos) (sDrop m) := (ps_expr h hs).weak fun D σ H ⟨A, B, env, S, rs, re, p⟩ =>
  ⟨A, B, env, S, rs, re, PostS.bind p fun w S1 A1 H1 v _ e1 rs1 r1 p1 => p1 A1 H1 σ .refl rs1 (re.ext e1)⟩
theorem ms_if {c : Expr} {l r : List Stmt} {mc : TX} (hc : PMT X G E c mc) (ha : PMSs X G E l a) (hb : PMSs X G E r b) : PMS X G E (.If c l r pos) (sIf mc a b) := (ps_if hc ha hb).weak fun D σ H ⟨A, B, env, S, rs, re, p⟩ => by
  refine ⟨A, B, env, S, rs, re, PostS.bind p fun w S1 A1 H1 v _ e1 rs1 r1 p1 => ?_⟩
  cases (show w = v from r1)
  cases w with
  | true => rw [if_pos rfl] at p1 ⊢; exact ⟨A1, B, env, S1, rs1, re.ext e1, p1⟩
  | false => rw [if_neg (by decide)] at p1 ⊢; exact ⟨A1, B, env, S1, rs1, re.ext e1, p1⟩

/-! ### targets -/
abbrev GX := W → Env → Option Env
abbrev GXs := List W → Env → Option Env
def SameBut (vs : List Nat) (σ σ' : L2.St) : Prop := σ'.length = σ.length ∧ ∀ i, i ∉ vs → σ'[i]? = σ[i]?
def rdG (G : GP) (g : GX) (vs : List Nat) : TG := fun v σ H Q => ∃ A B env S w, RS G A B H S ∧ REnv G A B H env σ ∧ RW G A B H w v ∧ ∃ env', g w env = some env' ∧ ∀ σ', REnv G A B H env' σ' → SameBut vs σ σ' → Q σ' H
def rdGs (G : GP) (g : GXs) (vs : List Nat) : TGs := fun us σ H Q => ∃ A B env S ws, RS G A B H S ∧ REnv G A B H env σ ∧ RWs G A B H ws us ∧ ∃ env', g ws env = some env' ∧ ∀ σ', REnv G A B H env' σ' → SameBut vs σ σ' → Q σ' H
abbrev PMG (X : Cx) (G : GP) (e : Expr) (g : GX) (vs : List Nat) : Prop := PG X e (rdG G g vs)
abbrev PMGs (X : Cx) (G : GP) (e : List Expr) (g : GXs) (vs : List Nat) : Prop := PGs X e (rdGs G g vs)
theorem _root_.L2.PG.weak {X : Cx} {e : Expr} {t t' : TG} (h : PG X e t) (k : ∀ v σ H Q, t' v σ H Q → t v σ H Q) : PG X e t' := ⟨fun pins s σ H v u Q I r q => h.run pins s σ H v u Q I r (k v σ H Q q)⟩
theorem _root_.L2.PGs.weak {X : Cx} {e : List Expr} {t t' : TGs} (h : PGs X e t) (k : ∀ v σ H Q, t' v σ H Q → t v σ H Q) : PGs X e t' := ⟨fun pins s σ H v u Q I r q => h.run pins s σ H v u Q I r (k v σ H Q q)⟩
def gN (i : Nat) : GX := fun w env => some (env.set i (some w))
def gsNil : GXs := fun ws env => match ws with
  | [] => some env
  | _ => none
def gsCons (g : GX) (r : GXs) : GXs := fun ws env => match ws with
  | w :: t => match g w env with
    | some env' => r t env'
    | none => none
  | [] => none
def gT (g : GXs) : GX := fun w env => match w with
  | .tup l => g l env
  | _ => none
theorem SameBut.set {σ : L2.St} {i : Nat} {o : Option V} : SameBut [i] σ (σ.set i o) := ⟨by simp, fun j hj => List.getElem?_set_ne (fun z => hj (by rw [z]; exact List.mem_cons_self))⟩
theorem SameBut.trans {vs us : List Nat} {σ σ1 σ2 : L2.St} (a : SameBut vs σ σ1) (b : SameBut us σ1 σ2) : SameBut (vs ++ us) σ σ2 := ⟨b.1.trans a.1, fun i hi => by
  rw [b.2 i (fun z => hi (List.mem_append_right _ z)), a.2 i (fun z => hi (List.mem_append_left _ z))]⟩
theorem mg_name {i : Nat} {x : Str} (hN : X.N.Nodup) (hi : X.N[i]? = some x) (hx : Loc X.env.scope x) (hf : X.fn x = true ∨ X.env.scope.names.lookup x = some .local := by first | exact .inl rfl | exact .inr rfl | assumption) : PMG X G (.Name x pos) (gN i) [i] :=
  (pg_name hN hi hx hf).weak fun v σ H Q ⟨A, B, env, S, w, rs, re, r, env', e, q⟩ => by
    cases e
    exact q _ (re.set r i) SameBut.set
theorem mgs_nil : PMGs X G [] gsNil [] := pgs_nil.weak fun us σ H Q ⟨A, B, env, S, ws, rs, re, r, env', e, q⟩ => by
  cases r with
  | nil => cases e; exact ⟨rfl, q σ re ⟨rfl, fun _ _ => rfl⟩⟩
  | cons => cases e
theorem mgs_cons {e : Expr} {es : List Expr} {g : GX} {r : GXs} {vs us : List Nat} (h1 : PMG X G e g vs) (h2 : PMGs X G es r us) (hs : (assignEach (e :: es) X.env).map (·.2) = assign e X.env :: (assignEach es X.env).map (·.2) := by rfl) :
    PMGs X G (e :: es) (gsCons g r) (vs ++ us) := (pgs_cons h1 h2 hs).weak fun ys σ H Q ⟨A, B, env, S, ws, rs, re, rr, env', e, q⟩ => by
  cases rr with
  | nil => cases e
  | cons r1 r2 =>
    simp only [gsCons] at e
    split at e
    · rename_i env1 he
      exact ⟨_, _, rfl, A, B, env, S, _, rs, re, r1, env1, he, fun σ1 re1 s1 => ⟨A, B, env1, S, _, rs, re1, r2, env', e, fun σ2 re2 s2 => q σ2 re2 (s1.trans s2)⟩⟩
    · cases e
theorem mg_tup {es : List Expr} {kk : Nat} {g : GXs} {vs : List Nat} {n : Nat} (hc : X.calm = true) (h : PMGs X G es g vs) (hl : ∀ ws env env', g ws env = some env' → ws.length = n)
    (hn : (assignEach es X.env).length = n := by rfl) (hst : (assignEach es X.env).findIdx? (·.1) = none := by rfl) : PMG X G (.Tuple es kk pos) (gT g) vs :=
  (pg_tup hc h hn hst).weak fun v σ H Q ⟨A, B, env, S, w, rs, re, r, env', e, q⟩ => by
    cases r with
    | tup h1 h2 h3 h4 => exact ⟨_, _, rfl, Rd.sqT h3, by rw [← RWs.length h4]; exact hl _ _ _ e, A, B, env, S, _, rs, re, h4, env', e, q⟩
    | _ => cases e
theorem gs_len {g : GX} {r : GXs} {n : Nat} (h : ∀ ws env env', r ws env = some env' → ws.length = n) : ∀ ws env env', gsCons g r ws env = some env' → ws.length = n + 1 := fun ws env env' e => by
  cases ws with
  | nil => cases e
  | cons w t =>
    simp only [gsCons] at e
    split at e
    · rename_i env1 he
      simp [h _ _ _ e]
    · cases e
theorem gs_len0 : ∀ ws env env', gsNil ws env = some env' → ws.length = 0 := fun ws env env' e => by
  cases ws with
  | nil => rfl
  | cons => cases e

/-! ### stores -/
def sAsg (m : EX) (g : GX) : SX := fun env S => Z.ofR (m env S) fun w S1 => match g w env with
  | some env' => .nx env' S1
  | none => .bad
theorem ms_asg {tg e : Expr} {m : EX} {g : GX} {vs : List Nat} (he : PM X G E e m) (hg : PMG X G tg g vs) (hs : swapsWithSole [tg] e pos.line X.env = pure false := by rfl) (hw : swappedStores [tg] e X.env = pure none := by rfl)
    (h1 : (assignEach [tg] X.env).map (·.2) = [assign tg X.env] := by rfl) : PMS X G E (.Assign [tg] e pos) (sAsg m g) := (ps_asg he hg hs hw h1).weak fun D σ H ⟨A, B, env, S, rs, re, p⟩ =>
  ⟨A, B, env, S, rs, re, PostS.bind p fun w S1 A1 H1 v _ e1 rs1 r1 p1 => by
    split at p1
    · rename_i env' he
      exact ⟨A1, B, env, S1, w, rs1, re.ext e1, r1, env', he, fun σ' re' _ => p1 A1 H1 σ' .refl rs1 re'⟩
    · exact p1.elim⟩
theorem ms_set {i : Nat} {x : Str} {e : Expr} {m : EX} {pos' : Pos} (he : PM X G E e m) (hN : X.N.Nodup) (hi : X.N[i]? = some x := by rfl) (hx : Loc X.env.scope x := by first | exact Or.inl rfl | exact Or.inr rfl)
    (hs : swapsWith e (some (.Name x pos')) pos.line X.env = pure false := by rfl) (hf : X.fn x = true ∨ X.env.scope.names.lookup x = some .local := by first | exact .inl rfl | exact .inr rfl | assumption) :
    PMS X G E (.Assign [.Name x pos'] e pos) (sAsg m (gN i)) := (ps_set hN hi hx he hs hf).weak fun D σ H ⟨A, B, env, S, rs, re, p⟩ =>
  ⟨A, B, env, S, rs, re, PostS.bind p fun w S1 A1 H1 v _ e1 rs1 r1 p1 => p1 A1 H1 _ .refl rs1 ((re.ext e1).set r1 i)⟩
def sPar (i j : Nat) (ma mb : EX) : SX := fun env S => Z.ofR (ma env S) fun w S1 => Z.ofR (mb env S1) fun u S2 => .nx ((env.set i (some w)).set j (some u)) S2
theorem ms_par {i j : Nat} {x y : Str} {a b : Expr} {ma mb : EX} {px py pt : Pos} {kt k2 pt2} (ha : PM X G E a ma) (hb : PM X G E b mb) (hc : X.calm = true) (hN : X.N.Nodup) (hi : X.N[i]? = some x := by rfl) (hj : X.N[j]? = some y := by rfl) (hij : i ≠ j := by decide)
    (hx : X.env.scope.names.lookup x = some .local := by rfl) (hy : X.env.scope.names.lookup y = some .local := by rfl) 
    (hw : swappedStores [.Tuple [.Name x px, .Name y py] kt pt] (.Tuple [a, b] k2 pt2) X.env = pure (some [x, y]) := by rfl)
    (hs : swapsWithSole [.Tuple [.Name x px, .Name y py] kt pt] (.Tuple [a, b] k2 pt2) pos.line X.env = pure false := by rfl)
    (h1 : starEach (a :: [b]) X.env = (false, eval a X.env) :: starEach [b] X.env := by rfl) (h2 : starEach (b :: []) X.env = (false, eval b X.env) :: starEach [] X.env := by rfl) :
    PMS X G E (.Assign [.Tuple [.Name x px, .Name y py] kt pt] (.Tuple [a, b] k2 pt2) pos) (sPar i j ma mb) :=
  (ps_par (i := i) (j := j) hc hN hi hj hij hx hy (pa_cons ha (pa_cons hb pa_nil h2) h1) hw hs).weak fun D σ H ⟨A, B, env, S, rs, re, p⟩ =>
    ⟨A, B, env, S, rs, re, PostS.bind p fun w S1 A1 H1 v _ e1 rs1 r1 p1 => ⟨A1, B, env, S1, rs1, re.ext e1, PostS.bind p1 fun u S2 A2 H2 v2 _ e2 rs2 r2 p2 =>
      ⟨v, v2, rfl, p2 A2 H2 _ .refl rs2 (((re.ext (e1.trans e2)).set (RW.ext e2 r1) i).set r2 j)⟩⟩⟩

/-! ### x[y] = z -/
def stSet (o i w : W) (S : Store) : Option Store := match o with
  | .ref n => match S[n]? with
    | some (.lst l) => match i with
      | .int k => (ixN l.length k).map fun j => S.set n (.lst (l.set j w))
      | _ => none
    | some (.dk false kvs) => match keyW i with
      | some k => if kvs.length < big then some (S.set n (.dk false (putW kvs k w))) else none
      | none => none
    | some (.dt false kvs) => match keyT i with
      | some k => if kvs.length < big then some (S.set n (.dt false (putW kvs k w))) else none
      | none => none
    | _ => none
  | _ => none
def sPut (mo mi mv : EX) : SX := fun env S => Z.ofR (mv env S) fun w S1 => Z.ofR (mo env S1) fun o S2 => Z.ofR (mi env S2) fun i S3 => match stSet o i w S3 with
  | some S4 => .nx env S4
  | none => .bad
theorem ms_put {o i value : Expr} {pos' : Pos} {mo mi mv : EX} (hu : X.A.units + 1 < cLine) (ho : PM X G E o mo) (hi : PM X G E i mi) (hv : PM X G E value mv)
    (hs : swapsWithSole [.Subscript o i pos'] value pos.line X.env = pure false := by rfl) (hw : swappedStores [.Subscript o i pos'] value X.env = pure none := by rfl) (h1 : (assignEach [.Subscript o i pos'] X.env).map (·.2) = [assign (.Subscript o i pos') X.env] := by rfl)
    (hs2 : swapsWith value (some (.Subscript o i pos')) pos.line X.env = pure false := by rfl)
    (ha : ∀ v, assign (.Subscript o i pos') X.env v = (do
      let ov ← holding [v] (eval o X.env)
      let iv ← holding [v, ov] (eval i X.env)
      standAt pos'
      holding [v, ov, iv] (setItem ov iv v)
      release [v, ov, iv] []) := by intro _; rfl) : PMS X G E (.Assign [.Subscript o i pos'] value pos) (sPut mo mi mv) :=
  ((ps_asg hv (pg_sub ho hi set_list ha) hs hw h1).or (ps_dput hu ho hi hv hs2)).weak fun D σ H ⟨A, B, env, S, rs, re, p⟩ => by
    by_cases hd : ∃ w S1 n S2 y S3 l, mv env S = .ok w S1 ∧ mo env S1 = .ok (.ref n) S2 ∧ mi env S2 = .ok y S3 ∧ S3[n]? = some (.lst l)
    · obtain ⟨w0, S10, n0, S20, y0, S30, l, z1, z2, z3, z4⟩ := hd
      refine .inl ⟨A, B, env, S, rs, re, PostS.bind p fun w S1 A1 H1 v ew e1 rs1 r1 p1 => ⟨A1, B, env, S1, rs1, re.ext e1, PostS.bind p1 fun x S2 A2 H2 ov ex e2 rs2 r2 p2 => ⟨A2, B, env, S2, rs2, re.ext (e1.trans e2), PostS.bind p2 fun y S3 A3 H3 iv ey e3 rs3 r3 p3 => ?_⟩⟩⟩
      rw [z1] at ew; cases ew
      rw [z2] at ex; cases ex
      rw [z3] at ey; cases ey
      simp only [stSet, z4] at p3
      have r2' := RW.ext e3 r2
      cases r2' with
      | ref hn =>
        cases r3 with
        | int k =>
          simp only at p3
          cases hj : ixN l.length k with
          | none => rw [hj] at p3; exact p3.elim
          | some j =>
            rw [hj] at p3
            obtain ⟨vs, h1, q⟩ := rs3.at z4 hn
            refine ⟨_, vs, k, j, rfl, rfl, h1, by rw [← RWs.length q]; exact hj, ?_⟩
            have hm := List.mem_of_getElem? hn
            refine p3 A3 _ σ (Ext.set hm) (rs3.set hn ⟨_, upd_same, (q.set (RW.ext (e2.trans e3) r1) j).ext (Ext.set hm)⟩) ((re.ext (e1.trans (e2.trans e3))).ext (Ext.set hm))
        | _ => exact p3.elim
    · refine .inr ⟨A, B, env, S, rs, re, PostS.bind p fun w S1 A1 H1 v ew e1 rs1 r1 p1 => ⟨A1, B, env, S1, rs1, re.ext e1, PostS.bind p1 fun x S2 A2 H2 ov ex e2 rs2 r2 p2 => ⟨A2, B, env, S2, rs2, re.ext (e1.trans e2), PostS.bind p2 fun y S3 A3 H3 iv ey e3 rs3 r3 p3 => ?_⟩⟩⟩
      have r2' := RW.ext e3 r2
      have r1' := RW.ext (e2.trans e3) r1
      have re3 := re.ext (e1.trans (e2.trans e3))
      cases r2' with
      | ref hn =>
        rename_i n a
        simp only [stSet] at p3
        cases hS : S3[n]? with
        | none => rw [hS] at p3; exact p3.elim
        | some ob =>
          rw [hS] at p3
          have hm := List.mem_of_getElem? hn
          cases ob with
          | lst l => exact (hd ⟨w, S1, n, S2, y, S3, l, ew, ex, ey, hS⟩).elim
          | dk lock kvs =>
            cases lock with
            | true => exact p3.elim
            | false =>
              simp only at p3
              cases hk : keyW y with
              | none => rw [hk] at p3; exact p3.elim
              | some k =>
                rw [hk] at p3
                simp only at p3
                split at p3
                · rename_i e1' S4 h4
                  split at h4
                  · rename_i hl
                    cases h4
                    obtain ⟨ks, h1, q⟩ := rs3.at hS hn
                    rw [if_neg (by decide)] at h1
                    refine ⟨a, _, rfl, .inl ⟨ks, k, h1, keyW_V r3 hk, by rw [← q.len, sizeLine_eq]; exact hl, rfl⟩, ?_⟩
                    exact p3 A3 _ σ (Ext.set hm) (rs3.set hn ⟨_, by rw [if_neg (by decide)]; exact upd_same, (q.put k r1').ext (Ext.set hm)⟩) (re3.ext (Ext.set hm))
                  · cases h4
                · exact p3.elim
          | dt lock kvs =>
            cases lock with
            | true => exact p3.elim
            | false =>
              simp only at p3
              cases hk : keyT y with
              | none => rw [hk] at p3; exact p3.elim
              | some k =>
                rw [hk] at p3
                simp only at p3
                split at p3
                · rename_i e1' S4 h4
                  split at h4
                  · rename_i hl
                    cases h4
                    obtain ⟨ks, h1, q⟩ := rs3.at hS hn
                    rw [if_neg (by decide)] at h1
                    obtain ⟨b, eb1, eb2⟩ := keyT_V r3 hk
                    refine ⟨a, _, rfl, .inr ⟨ks, k, b, h1, eb1, eb2, by rw [← q.len, sizeLine_eq]; exact hl, rfl⟩, ?_⟩
                    exact p3 A3 _ σ (Ext.set hm) (rs3.set hn ⟨_, by rw [if_neg (by decide)]; exact upd_same, (q.put k r1').ext (Ext.set hm)⟩) (re3.ext (Ext.set hm))
                  · cases h4
                · exact p3.elim
      | _ => exact p3.elim
/-! ### {} -/
def eNewK : EX := fun _ S => .ok (.ref S.length) (S ++ [.dk false []])
def eNewT : EX := fun _ S => .ok (.ref S.length) (S ++ [.dt false []])
theorem m_newK : PM X G E (.Dict [] [] pos) eNewK := pe_dnewK.weak fun σ H Q ⟨A, B, env, S, rs, re, p⟩ => fun q hq =>
  p (A ++ [q]) _ (.ref q) (Ext.newS hq) (rs.newS hq ⟨[], by rw [if_neg (by decide)]; exact upd_same, .nil⟩) (.ref (by rw [List.getElem?_append_right (by rw [rs.len]; exact Nat.le_refl _), rs.len]; simp))
theorem m_newT : PM X G E (.Dict [] [] pos) eNewT := pe_dnewT.weak fun σ H Q ⟨A, B, env, S, rs, re, p⟩ => fun q hq =>
  p (A ++ [q]) _ (.ref q) (Ext.newS hq) (rs.newS hq ⟨[], by rw [if_neg (by decide)]; exact upd_same, .nil⟩) (.ref (by rw [List.getElem?_append_right (by rw [rs.len]; exact Nat.le_refl _), rs.len]; simp))
end
end QP

set_option Elab.async false
set_option linter.all false
set_option maxRecDepth 100000
set_option maxHeartbeats 4000000
/-! Loops, comprehensions, defs. -/
namespace QP
open PySem PySem.Spec PyProof.Rows L2

mutual
def wEq : W → W → Bool
  | .non, .non => true
  | .bl a, .bl b => a == b
  | .int a, .int b => a == b
  | .str a, .str b => a == b
  | .tup a, .tup b => wEqs a b
  | .lst a, .lst b => wEqs a b
  | .scr a, .scr b => a == b
  | .ref a, .ref b => a == b
  | .ty a, .ty b => a == b
  | .fn a, .fn b => a == b
  | _, _ => false
def wEqs : List W → List W → Bool
  | [], [] => true
  | a :: l, b :: r => wEq a b && wEqs l r
  | _, _ => false
end
mutual
theorem wEq_eq : ∀ {a b : W}, wEq a b = true → a = b
  | .non, b, h => by cases b <;> first | rfl | (simp only [wEq] at h; cases h)
  | .bl a, b, h => by
    cases b <;> first
      | (simp only [wEq, beq_iff_eq] at h; rw [h])
      | (simp only [wEq] at h; cases h)
  | .int a, b, h => by
    cases b <;> first
      | (simp only [wEq, beq_iff_eq] at h; rw [h])
      | (simp only [wEq] at h; cases h)
  | .str a, b, h => by
    cases b <;> first
      | (simp only [wEq, beq_iff_eq] at h; rw [h])
      | (simp only [wEq] at h; cases h)
  | .tup a, b, h => by
    cases b <;> first
      | (simp only [wEq] at h; rw [wEqs_eq h])
      | (simp only [wEq] at h; cases h)
  | .lst a, b, h => by
    cases b <;> first
      | (simp only [wEq] at h; rw [wEqs_eq h])
      | (simp only [wEq] at h; cases h)
  | .scr a, b, h => by
    cases b <;> first
      | (simp only [wEq, beq_iff_eq] at h; rw [h])
      | (simp only [wEq] at h; cases h)
  | .ref a, b, h => by
    cases b <;> first
      | (simp only [wEq, beq_iff_eq] at h; rw [h])
      | (simp only [wEq] at h; cases h)
  | .ty a, b, h => by
    cases b <;> first
      | (simp only [wEq, beq_iff_eq] at h; rw [h])
      | (simp only [wEq] at h; cases h)
  | .fn a, b, h => by
    cases b <;> first
      | (simp only [wEq, beq_iff_eq] at h; rw [h])
      | (simp only [wEq] at h; cases h)
theorem wEqs_eq : ∀ {l r : List W}, wEqs l r = true → l = r
  | [], r, h => by cases r <;> first | rfl | (simp only [wEqs] at h; cases h)
  | a :: l, r, h => by
    cases r with
    | nil => simp only [wEqs] at h; cases h
    | cons b r =>
      simp only [wEqs, Bool.and_eq_true] at h
      rw [wEq_eq h.1, wEqs_eq h.2]
end
mutual
theorem wEq_refl : ∀ a : W, wEq a a = true
  | .non => by simp only [wEq]
  | .bl _ => by simp [wEq]
  | .int _ => by simp [wEq]
  | .str _ => by simp [wEq]
  | .tup a => by simp only [wEq]; exact wEqs_refl a
  | .lst a => by simp only [wEq]; exact wEqs_refl a
  | .scr _ => by simp [wEq]
  | .ref _ => by simp [wEq]
  | .ty _ => by simp [wEq]
  | .fn _ => by simp [wEq]
theorem wEqs_refl : ∀ l : List W, wEqs l l = true
  | [] => by simp only [wEqs]
  | a :: l => by simp only [wEqs, wEq_refl a, wEqs_refl l, Bool.and_self]
end

/-! ### what is walked -/
section
variable {G : GP} {A A' B B' : List Addr} {H H' : Hp}
mutual
theorem RW.extB (e : Ext A A' H H') (hb : ∀ b ∈ B', b ∈ B ∨ H b = none) : ∀ {w : W} {v : V}, RW G A B H w v → RW G A' B' H' w v
  | _, _, .non => .non
  | _, _, .bl b => .bl b
  | _, _, .int i => .int i
  | _, _, .str x => .str x
  | _, _, .tup n m r q => .tup (e.keep _ _ r n).2 (fun z => (hb _ z).elim m fun y => by rw [y] at r; cases r) (e.keep _ _ r n).1 (RWs.extB e hb q)
  | _, _, .lst n m r q => .lst (e.keep _ _ r n).2 (fun z => (hb _ z).elim m fun y => by rw [y] at r; cases r) (e.keep _ _ r n).1 (RWs.extB e hb q)
  | _, _, .scr h => .scr (h.imp (fun ⟨n, m, r⟩ => ⟨(e.rd n r).2, fun z => (hb _ z).elim m fun y => by (rcases r with r | ⟨_, r⟩ <;> (rw [y] at r; cases r)), (e.rd n r).1⟩) id)
  | _, _, .ref h => .ref (e.get h)
  | _, _, .ty n => .ty n
  | _, _, .fn n => .fn n
theorem RWs.extB (e : Ext A A' H H') (hb : ∀ b ∈ B', b ∈ B ∨ H b = none) : ∀ {l : List W} {vs : List V}, RWs G A B H l vs → RWs G A' B' H' l vs
  | _, _, .nil => .nil
  | _, _, .cons r q => .cons (RW.extB e hb r) (RWs.extB e hb q)
end
theorem REnv.extB (e : Ext A A' H H') (hb : ∀ b ∈ B', b ∈ B ∨ H b = none) {env : Env} {σ : L2.St} (r : REnv G A B H env σ) : REnv G A' B' H' env σ :=
  ⟨r.len, fun i w h => let ⟨v, h1, h2⟩ := r.at_ i w h; ⟨v, h1, h2.extB e hb⟩⟩
end
structure JOk (G : GP) (J : It) (A B : List Addr) (H : Hp) (l : List W) (C : Store → Bool) : Prop where
  go : ∀ A' B' H' S', Ext A A' H H' → (∀ b ∈ B', b ∈ B ∨ H b = none) → RS G A' B' H' S' → C S' = true → ∀ (i : Nat) (w : W), l[i]? = some w → J.go i H' ∧
    ∀ x H'', J.yld i H' x H'' → Ext A' A' H' H'' ∧ RS G A' B' H'' S' ∧ RW G A' B' H'' w x
  stop : ∀ A' B' H' S', Ext A A' H H' → (∀ b ∈ B', b ∈ B ∨ H b = none) → RS G A' B' H' S' → C S' = true → ∀ i : Nat, l.length ≤ i → J.stop i H'
abbrev IX := Env → Store → R (List W × (Store → Bool))
def PostI (G : GP) (A B : List Addr) (H : Hp) (E : XK) (Rk : It → Hp → Prop) : R (List W × (Store → Bool)) → Prop
  | .ok lc S' => ∀ A' H' J, Ext A A' H H' → RS G A' B H' S' → JOk G J A' B H' lc.1 lc.2 → Rk J H'
  | .exc c x S' => ∀ A' H' cls d, Ext A A' H H' → RS G A' B H' S' → RX G A' B H' c x cls d → E cls d H'
  | .bad => False
def rdI (G : GP) (E : XK) (m : IX) : TI := fun σ H Rk => ∃ A B env S, RS G A B H S ∧ REnv G A B H env σ ∧ PostI G A B H E Rk (m env S)
abbrev PMI (X : Cx) (G : GP) (E : XK) (tg it : Expr) (m : IX) : Prop := PI X tg it (rdI G E m)
theorem _root_.L2.PI.weak {X : Cx} {tg e : Expr} {t t' : TI} (h : PI X tg e t) (k : ∀ σ H Q, t' σ H Q → t σ H Q) : PI X tg e t' := ⟨fun pins s σ H Q I q => h.run pins s σ H Q I (k σ H Q q)⟩
theorem _root_.L2.PI.or {X : Cx} {tg e : Expr} {t t' : TI} (h : PI X tg e t) (h' : PI X tg e t') : PI X tg e (fun σ H Q => t σ H Q ∨ t' σ H Q) :=
  ⟨fun pins s σ H Q I q => q.elim (h.run pins s σ H Q I) (h'.run pins s σ H Q I)⟩
section
variable {G : GP} {A A' B : List Addr} {H H' : Hp} {E : XK}
theorem PostI.ext {Q : It → Hp → Prop} (e : Ext A A' H H') {r : R (List W × (Store → Bool))} (p : PostI G A B H E Q r) : PostI G A' B H' E Q r := by
  cases r with
  | ok l S' => exact fun A'' H'' J f => p A'' H'' J (e.trans f)
  | exc c x S' => exact fun A'' H'' cls d f => p A'' H'' cls d (e.trans f)
  | bad => exact p
theorem PostI.bind {α β : Type} {rel : Rel α β} {Q : It → Hp → Prop} {Q1 : β → Hp → Prop} {r : R α} {k : α → Store → R (List W × (Store → Bool))} (p : PostI G A B H E Q (r.bind k))
    (h : ∀ a S' A' H' b, r = .ok a S' → Ext A A' H H' → RS G A' B H' S' → rel A' B H' a b → PostI G A' B H' E Q (k a S') → Q1 b H') : Post G rel A B H E Q1 r := by
  cases r with
  | ok a S => exact fun A' H' b e rs q => h a S A' H' b rfl e rs q (PostI.ext e (r := k a S) p)
  | exc c x S => exact p
  | bad => exact p
end
/-- the store's list at n still holds l -/
def sameL (w : W) (l : List W) : Store → Bool := match w with
  | .ref n => fun S => match S[n]? with
    | some (.lst l') => wEqs l' l
    | _ => false
  | _ => fun _ => true
def iSeq (m : EX) : IX := fun env S => (m env S).bind fun w S1 => match seqW S1 w with
  | some l => .ok (l, sameL w l) S1
  | none => .bad
def rngW (lo : Int) (n : Nat) : List W := (List.range n).map fun (i : Nat) => W.int (lo + i)
def iRg1 (m : EX) : IX := fun env S => (m env S).bind fun w S1 => match w with
  | .int j => if -(2 ^ 62) ≤ j ∧ j < 2 ^ 62 then .ok (rngW 0 j.toNat, fun _ => true) S1 else .bad
  | _ => .bad
def iRg2 (m k : EX) : IX := fun env S => (m env S).bind fun w S1 => (k env S1).bind fun u S2 => match w, u with
  | .int i, .int j => if -(2 ^ 62) ≤ i ∧ i < 2 ^ 62 ∧ -(2 ^ 62) ≤ j ∧ j < 2 ^ 62 then .ok (rngW i (j - i).toNat, fun _ => true) S2 else .bad
  | _, _ => .bad
def zipW (l r : List W) : List W := List.zipWith (fun a b => W.tup [a, b]) l r
def iZp (m k : EX) : IX := fun env S => (m env S).bind fun w S1 => (k env S1).bind fun u S2 => match w, u with
  | .tup l, .tup r => .ok (zipW l r, fun _ => true) S2
  | w, u => match lstW S2 w, lstW S2 u with
    | some l, some r => .ok (zipW l r, fun S => sameL w l S && sameL u r S) S2
    | _, _ => .bad
section
variable {X : Cx} {G : GP} {E : XK} {tg : Expr}
theorem jok_tup {K : PySem.W.Frag} {A B : List Addr} {H : Hp} {l : List W} {a : Addr} {vs : List V} (n : a ∉ A) (m : a ∉ B) (h : H a = some (.tup vs)) (q : RWs G A B H l vs) : JOk G (Itt K a) A B H l (fun _ => true) where
  go := fun A' B' H' S' e hb rs _ i w hi => by
    have h' := (e.keep _ _ h n).1
    have q' := q.extB e hb
    obtain ⟨v, h1, h2⟩ := q'.get hi
    refine ⟨⟨vs, v, SqT.of h', h1⟩, fun x H'' y => ?_⟩
    obtain ⟨rfl, y⟩ := y
    have z := y vs (SqT.of h')
    rw [h1] at z; cases z
    exact ⟨.refl, rs, h2⟩
  stop := fun A' B' H' S' e hb rs _ i hi => ⟨vs, SqT.of (e.keep _ _ h n).1, by rw [← RWs.length q]; exact hi⟩
theorem sqL_get {K : PySem.W.Frag} {H : Hp} {a : Addr} {vs : List V} (h : Rd H a (.lst vs)) : SqL K H a vs := .inl h
/-- a list, however held, that still holds l: where it stands and what it holds -/
theorem held_at {K : PySem.W.Frag} {A B : List Addr} {H : Hp} {S : Store} {w : W} {v : V} {l : List W} (rs : RS G A B H S) (hs : seqW S w = some l) (nt : ∀ t, w ≠ .tup t) (r : RW G A B H w v) :
    ∃ a, v = .ref a ∧ ∀ A' B' H' S', Ext A A' H H' → (∀ b ∈ B', b ∈ B ∨ H b = none) → RS G A' B' H' S' → sameL w l S' = true → ∃ vs, SqL K H' a vs ∧ RWs G A' B' H' l vs := by
  cases w with
  | lst l' =>
    cases hs
    cases r with
    | lst n m h q => exact ⟨_, rfl, fun A' B' H' S' e hb rs' _ => ⟨_, SqL.of (e.keep _ _ h n).1, q.extB e hb⟩⟩
  | ref n =>
    cases r with
    | ref ha =>
      refine ⟨_, rfl, fun A' B' H' S' e hb rs' hc => ?_⟩
      simp only [sameL] at hc
      split at hc
      · rename_i l' hl
        have := wEqs_eq hc
        subst this
        obtain ⟨vs, h1, h2⟩ := rs'.at hl (e.get ha)
        exact ⟨vs, SqL.of h1, h2⟩
      · cases hc
  | tup t => exact (nt t rfl).elim
  | _ => cases hs
theorem mi_seq {it : Expr} {m : EX} (h : PM X G E it m) : PMI X G E tg it (iSeq m) := ((pi_list h).or (pi_tup h)).weak fun σ H Q ⟨A, B, env, S, rs, re, p⟩ => by
  by_cases hd : ∃ l S1, m env S = .ok (.tup l) S1
  · obtain ⟨l, S10, z⟩ := hd
    refine .inr ⟨A, B, env, S, rs, re, PostI.bind p fun w S1 A1 H1 v ew e1 rs1 r1 p1 => ?_⟩
    rw [z] at ew; cases ew
    cases r1 with
    | tup h1 h2 h3 h4 => exact ⟨_, rfl, ⟨_, SqT.of h3⟩, p1 A1 H1 _ .refl rs1 (jok_tup h1 h2 h3 h4)⟩
  · refine .inl ⟨A, B, env, S, rs, re, PostI.bind p fun w S1 A1 H1 v ew e1 rs1 r1 p1 => ?_⟩
    split at p1
    · rename_i l hl
      obtain ⟨a, rfl, hh⟩ := held_at (K := X.K) rs1 hl (fun t z => hd ⟨t, S1, by rw [ew, z]⟩) r1
      have c0 : sameL w l S1 = true := by
        cases w <;> first
          | rfl
          | (simp only [sameL]
             simp only [seqW] at hl
             split at hl
             · rename_i l' e; cases hl; try rw [e]
               exact wEqs_refl _
             · cases hl)
      obtain ⟨vs, g1, g2⟩ := hh A1 B H1 S1 .refl (fun b hb => .inl hb) rs1 c0
      refine ⟨a, rfl, ⟨vs, g1⟩, p1 A1 H1 _ .refl rs1 ⟨fun A' B' H' S' e hb rs' hc i w' hi => ?_, fun A' B' H' S' e hb rs' hc i hi => ?_⟩⟩
      · obtain ⟨us, k1, k2⟩ := hh A' B' H' S' e hb rs' hc
        obtain ⟨u, h1, h2⟩ := k2.get hi
        refine ⟨⟨us, u, k1, h1⟩, fun x H'' y => ?_⟩
        obtain ⟨rfl, y⟩ := y
        have z := y us k1
        rw [h1] at z; cases z
        exact ⟨.refl, rs', h2⟩
      · obtain ⟨us, k1, k2⟩ := hh A' B' H' S' e hb rs' hc
        exact ⟨us, k1, by rw [← RWs.length k2]; exact hi⟩
    · exact p1.elim
theorem rngW_at {lo : Int} {n i : Nat} {w : W} (h : (rngW lo n)[i]? = some w) : i < n ∧ w = .int (lo + i) := by
  unfold rngW at h
  rw [List.getElem?_map] at h
  have hi : i < n := by
    rcases Nat.lt_or_ge i n with z | z
    · exact z
    · rw [List.getElem?_eq_none (by simpa using z)] at h; cases h
  rw [List.getElem?_eq_getElem (by simpa using hi)] at h
  simp at h
  exact ⟨hi, h.symm⟩
theorem jok_rng {A B : List Addr} {H : Hp} {lo : Int} {n : Nat} : JOk G (Itr lo n) A B H (rngW lo n) (fun _ => true) where
  go := fun A' B' H' S' e hb rs _ i w hi => by
    obtain ⟨h1, rfl⟩ := rngW_at hi
    refine ⟨h1, fun x H'' y => ?_⟩
    obtain ⟨rfl, rfl⟩ := y
    exact ⟨.refl, rs, .int _⟩
  stop := fun A' B' H' S' e hb rs _ i hi => by show n ≤ i; simpa [rngW] using hi
theorem mi_range1 {a : Expr} {m : EX} {p pos : Pos} (hm : X.mg "range" = none) (ha : PM X G E a m) (hg : Gl X "range" := by rfl) (hs : starEach [a] X.env = [(false, eval a X.env)] := by rfl) : PMI X G E tg (.Call (.Name "range" p) [a] [] pos) (iRg1 m) :=
  (pi_range1 hg hm (pa_cons ha pa_nil hs) hs).weak fun σ H Q ⟨A, B, env, S, rs, re, p⟩ => ⟨A, B, env, S, rs, re, PostI.bind p fun w S1 A1 H1 v ew e1 rs1 r1 p1 => by
    cases r1 with
    | int j =>
      simp only at p1
      split at p1
      · rename_i hj
        exact ⟨j, rfl, hj.1, hj.2, p1 A1 H1 _ .refl rs1 jok_rng⟩
      · exact p1.elim
    | _ => exact p1.elim⟩
theorem mi_range2 {a b : Expr} {m k : EX} {p pos : Pos} (hm : X.mg "range" = none) (ha : PM X G E a m) (hb : PM X G E b k) (hg : Gl X "range" := by rfl) (hs : starEach [a, b] X.env = [(false, eval a X.env), (false, eval b X.env)] := by rfl) (hs2 : starEach [b] X.env = [(false, eval b X.env)] := by rfl) (hs3 : starEach (a :: [b]) X.env = (false, eval a X.env) :: starEach [b] X.env := by rfl) : PMI X G E tg (.Call (.Name "range" p) [a, b] [] pos) (iRg2 m k) :=
  (pi_range2 hg hm (pa_cons ha (pa_cons hb pa_nil hs2) hs3) hs hs2).weak fun σ H Q ⟨A, B, env, S, rs, re, p⟩ => ⟨A, B, env, S, rs, re, PostI.bind p fun w S1 A1 H1 v ew e1 rs1 r1 p1 => ⟨A1, B, env, S1, rs1, re.ext e1, PostI.bind p1 fun u S2 A2 H2 v2 eu e2 rs2 r2 p2 => by
    cases r1 with
    | int i => cases r2 with
      | int j =>
        simp only at p2
        split at p2
        · rename_i hj
          exact ⟨i, j, rfl, hj, p2 A2 H2 _ .refl rs2 jok_rng⟩
        · exact p2.elim
      | _ => exact p2.elim
    | _ => exact p2.elim⟩⟩
theorem zipW_at {l r : List W} {i : Nat} {w : W} (h : (zipW l r)[i]? = some w) : ∃ a b, l[i]? = some a ∧ r[i]? = some b ∧ w = .tup [a, b] := by
  unfold zipW at h
  rw [List.getElem?_zipWith] at h
  split at h
  · rename_i a b e1 e2
    cases h
    exact ⟨a, b, e1, e2, rfl⟩
  · cases h
theorem pair_new {A B : List Addr} {H : Hp} {S : Store} {T : Addr} {a b : W} {x y : V} (rs : RS G A B H S) (hT : H T = none) (r1 : RW G A B H a x) (r2 : RW G A B H b y) :
    Ext A A H (upd H T (.tup [x, y])) ∧ RS G A B (upd H T (.tup [x, y])) S ∧ RW G A B (upd H T (.tup [x, y])) (.tup [a, b]) (.ref T) :=
  ⟨Ext.new hT, rs.new hT, .tup (rs.fresh hT).1 (rs.fresh hT).2 upd_same (.cons (r1.ext (Ext.new hT)) (.cons (r2.ext (Ext.new hT)) .nil))⟩
theorem seq_of_lst {S : Store} {w : W} {l : List W} (h : lstW S w = some l) : seqW S w = some l ∧ (∀ t, w ≠ .tup t) ∧ sameL w l S = true := by
  cases w with
  | lst l' => cases h; exact ⟨rfl, (fun _ z => nomatch z), rfl⟩
  | ref n =>
    simp only [lstW] at h
    split at h
    · rename_i l' e
      cases h
      exact ⟨by simp only [seqW, e], (fun _ z => nomatch z), by simp only [sameL, e]; exact wEqs_refl _⟩
    · cases h
  | _ => cases h
theorem mi_zip {a b : Expr} {m k : EX} {p pos tpos : Pos} {elts : List Expr} {kk : Nat} (hm : X.mg "zip" = none) (ha : PM X G E a m) (hb : PM X G E b k) (hg : Gl X "zip" := by rfl)
    (hs : starEach [a, b] X.env = (false, eval a X.env) :: starEach [b] X.env := by rfl) (hpl : (backTo pos (starEach [b] X.env)).any (·.1) = false := by rfl) (hs2 : starEach (b :: []) X.env = (false, eval b X.env) :: starEach [] X.env := by rfl) :
    PMI X G E (.Tuple elts kk tpos) (.Call (.Name "zip" p) [a, b] [] pos) (iZp m k) :=
  (RZ.pi_zipA hg hm (pa_cons ha (pa_cons hb pa_nil hs2) hs) hs hpl).weak fun σ H Q ⟨A, B, env, S, rs, re, p⟩ => ⟨A, B, env, S, rs, re, PostI.bind p fun w S1 A1 H1 v ew e1 rs1 r1 p1 => ⟨A1, B, env, S1, rs1, re.ext e1, PostI.bind p1 fun u S2 A2 H2 v2 eu e2 rs2 r2 p2 => by
    have r1' := RW.ext e2 r1
    by_cases hd : ∃ l r, w = .tup l ∧ u = .tup r
    · obtain ⟨l, r, rfl, rfl⟩ := hd
      cases r1' with
      | tup h1 h2 h3 h4 => cases r2 with
        | tup k1 k2 k3 k4 =>
          refine ⟨_, _, _, _, rfl, .inr ⟨SqT.of h3, SqT.of k3, p2 A2 H2 _ .refl rs2 ⟨fun A' B' H' S' e hb rs' hc i w' hi => ?_, fun A' B' H' S' e hb rs' hc i hi => ?_⟩⟩⟩
          · obtain ⟨a, b, i1, i2, rfl⟩ := zipW_at hi
            have g3 := (e.keep _ _ h3 h1).1
            have f3 := (e.keep _ _ k3 k1).1
            obtain ⟨x, j1, j2⟩ := (h4.extB e hb).get i1
            obtain ⟨y, l1, l2⟩ := (k4.extB e hb).get i2
            refine ⟨⟨_, _, x, y, SqT.of g3, SqT.of f3, j1, l1⟩, fun z H'' yl => ?_⟩
            obtain ⟨T, x', y', rfl, hT, rfl, c1, c2⟩ := yl
            have c1 := c1 _ (SqT.of g3)
            have c2 := c2 _ (SqT.of f3)
            rw [j1] at c1; cases c1
            rw [l1] at c2; cases c2
            exact pair_new rs' hT j2 l2
          · refine ⟨_, _, SqT.of (e.keep _ _ h3 h1).1, SqT.of (e.keep _ _ k3 k1).1, ?_⟩
            rw [← RWs.length h4, ← RWs.length k4]
            simp only [zipW, List.length_zipWith] at hi
            omega
    · have p2' : PostI G A2 B H2 E Q (match lstW S2 w, lstW S2 u with
        | some l, some r => .ok (zipW l r, fun S => sameL w l S && sameL u r S) S2
        | _, _ => .bad) := by
        cases w <;> first
          | exact p2
          | (cases u <;> first
              | exact p2
              | exact (hd ⟨_, _, rfl, rfl⟩).elim)
      split at p2'
      · rename_i l r hl hr
        obtain ⟨q1, q2, q3⟩ := seq_of_lst hl
        obtain ⟨q4, q5, q6⟩ := seq_of_lst hr
        obtain ⟨a1, rfl, hh1⟩ := held_at (K := X.K) rs2 q1 q2 r1'
        obtain ⟨a2, rfl, hh2⟩ := held_at (K := X.K) rs2 q4 q5 r2
        obtain ⟨vs, g1, g2⟩ := hh1 A2 B H2 S2 .refl (fun b hb => .inl hb) rs2 q3
        obtain ⟨us, f1, f2⟩ := hh2 A2 B H2 S2 .refl (fun b hb => .inl hb) rs2 q6
        refine ⟨_, _, _, _, rfl, .inl ⟨g1, f1, p2' A2 H2 _ .refl rs2 ⟨fun A' B' H' S' e hb rs' hc i w' hi => ?_, fun A' B' H' S' e hb rs' hc i hi => ?_⟩⟩⟩
        · rw [Bool.and_eq_true] at hc
          obtain ⟨vs', g1', g2'⟩ := hh1 A' B' H' S' e hb rs' hc.1
          obtain ⟨us', f1', f2'⟩ := hh2 A' B' H' S' e hb rs' hc.2
          obtain ⟨a, b, i1, i2, rfl⟩ := zipW_at hi
          obtain ⟨x, j1, j2⟩ := g2'.get i1
          obtain ⟨y, l1, l2⟩ := f2'.get i2
          refine ⟨⟨_, _, x, y, g1', f1', j1, l1⟩, fun z H'' yl => ?_⟩
          obtain ⟨T, x', y', rfl, hT, rfl, c1, c2⟩ := yl
          have c1 := c1 _ g1'
          have c2 := c2 _ f1'
          rw [j1] at c1; cases c1
          rw [l1] at c2; cases c2
          exact pair_new rs' hT j2 l2
        · rw [Bool.and_eq_true] at hc
          obtain ⟨vs', g1', g2'⟩ := hh1 A' B' H' S' e hb rs' hc.1
          obtain ⟨us', f1', f2'⟩ := hh2 A' B' H' S' e hb rs' hc.2
          refine ⟨_, _, g1', f1', ?_⟩
          rw [← RWs.length g2', ← RWs.length f2']
          simp only [zipW, List.length_zipWith] at hi
          omega
      · exact p2'.elim⟩⟩
end
end QP

set_option Elab.async false
set_option linter.all false
set_option maxRecDepth 100000
set_option maxHeartbeats 4000000
/-! for, while, comprehensions, methods, defs. -/
namespace QP
open PySem PySem.Spec PyProof.Rows L2

def forL (C : Store → Bool) (g : GX) (body : SX) : List W → Env → Store → Z
  | [], env, S => if C S = true then .nx env S else .bad
  | w :: r, env, S => if C S = true then match g w env with
      | some env1 => match body env1 S with
        | .nx env2 S2 => forL C g body r env2 S2
        | .ct env2 S2 => forL C g body r env2 S2
        | .brk env2 S2 => .nx env2 S2
        | z => z
      | none => .bad
    else .bad
def sFor (mi : IX) (g : GX) (body : SX) : SX := fun env S => Z.ofR (mi env S) fun lc S1 => forL lc.2 g body lc.1 env S1
def whileF (c : TX) (body : SX) : Nat → Env → Store → Z
  | 0, _, _ => .bad
  | n + 1, env, S => Z.ofR (c env S) fun b S1 => if b = true then match body env S1 with
      | .nx env2 S2 => whileF c body n env2 S2
      | .ct env2 S2 => whileF c body n env2 S2
      | .brk env2 S2 => .nx env2 S2
      | z => z
    else .nx env S1
def sWhile (n : Nat) (c : TX) (body : SX) : SX := whileF c body n
section
variable {X : Cx} {G : GP} {E : XK} {pos : Pos}
theorem PostS.iter {A B : List Addr} {H : Hp} {D : Ends} {Q1 : It → Hp → Prop} {r : R (List W × (Store → Bool))} {k : (List W × (Store → Bool)) → Store → Z} (p : PostS G A B H E D (Z.ofR r k))
    (h : ∀ lc S' A' H' J, r = .ok lc S' → Ext A A' H H' → RS G A' B H' S' → JOk G J A' B H' lc.1 lc.2 → PostS G A' B H' E D (k lc S') → Q1 J H') : PostI G A B H E Q1 r := by
  cases r with
  | ok a S => exact fun A' H' b e rs q => h a S A' H' b rfl e rs q (PostS.ext e (r := k a S) p)
  | exc c x S => exact p
  | bad => exact p
theorem ms_for {tg it : Expr} {body : List Stmt} {mi : IX} {g : GX} {vs : List Nat} {mb : SX} (hp : PassesOwn (model X.prog X.w) X.A X.env X.xe) (hc : X.calm = true) (hi : PMI X G E tg it mi) (hg : PMG X G tg g vs) (hb : PMSs X G E body mb)
    (hs : ∀ x, foldedSetIterable it X.env x = pure x := by intro _; rfl) : PMS X G E (.For tg it body [] pos) (sFor mi g mb) :=
  (ps_for hp hc hi hg hb hs).weak fun D σ H ⟨A, B, env, S, rs, re, p⟩ => by
    refine ⟨A, B, env, S, rs, re, PostS.iter p fun ⟨l, C⟩ S1 A1 H1 J _ e1 rs1 jok p1 => ?_⟩
    simp only at p1 jok
    refine ⟨fun i m σ' H' => m = l.length - i ∧ i ≤ l.length ∧ ∃ A2 env2 S2, Ext A1 A2 H1 H' ∧ RS G A2 B H' S2 ∧ REnv G A2 B H' env2 σ' ∧ PostS G A2 B H' E D (forL C g mb (l.drop i) env2 S2),
      ⟨_, rfl, Nat.zero_le _, A1, env, S1, .refl, rs1, re.ext e1, by rw [List.drop_zero]; exact p1⟩, ?_⟩
    rintro i m σ' H' ⟨rfl, hil, A2, env2, S2, e2, rs2, re2, p2⟩
    by_cases hlt : i < l.length
    · rw [List.drop_eq_getElem_cons hlt] at p2
      simp only [forL] at p2
      split at p2
      · rename_i hC
        obtain ⟨j1, j2⟩ := jok.go A2 B H' S2 e2 (fun b hb => .inl hb) rs2 hC i l[i] (List.getElem?_eq_getElem hlt)
        refine .inr ⟨j1, fun σ3 H3 => ∃ A3 env3 S3, Ext A1 A3 H1 H3 ∧ RS G A3 B H3 S3 ∧ REnv G A3 B H3 env3 σ3 ∧ PostS G A3 B H3 E D (forL C g mb (l.drop (i + 1)) env3 S3), fun σ3 H3 q => ⟨_, by omega, rfl, hlt, q⟩, fun x H3 yl => ?_⟩
        obtain ⟨e3, rs3, rw3⟩ := j2 x H3 yl
        split at p2
        · rename_i env3 hg3
          refine ⟨A2, B, env2, S2, l[i], rs3, re2.ext e3, rw3, env3, hg3, fun σ4 re4 _ => ⟨A2, B, env3, S2, rs3, re4, ?_⟩⟩
          cases hbd : mb env3 S2 with
          | nx env5 S5 => rw [hbd] at p2; exact fun A5 H5 σ5 e5 rs5 re5 => ⟨A5, env5, S5, e2.trans (e3.trans e5), rs5, re5, PostS.ext (e3.trans e5) p2⟩
          | ct env5 S5 => rw [hbd] at p2; exact fun A5 H5 σ5 e5 rs5 re5 => ⟨A5, env5, S5, e2.trans (e3.trans e5), rs5, re5, PostS.ext (e3.trans e5) p2⟩
          | brk env5 S5 => rw [hbd] at p2; exact fun A5 H5 σ5 e5 rs5 re5 => p2 A5 H5 σ5 (e3.trans e5) rs5 re5
          | ret w S5 => rw [hbd] at p2; exact fun A5 H5 v e5 rs5 r5 => p2 A5 H5 v (e3.trans e5) rs5 r5
          | exc c x S5 => rw [hbd] at p2; exact fun A5 H5 cls d e5 rs5 r5 => p2 A5 H5 cls d (e3.trans e5) rs5 r5
          | bad => rw [hbd] at p2; exact p2.elim
        · exact p2.elim
      · exact p2.elim
    · have e : i = l.length := by omega
      subst e
      rw [List.drop_length] at p2
      simp only [forL] at p2
      split at p2
      · rename_i hC
        exact .inl ⟨jok.stop A2 B H' S2 e2 (fun b hb => .inl hb) rs2 hC _ (Nat.le_refl _), p2 A2 H' σ' .refl rs2 re2⟩
      · exact p2.elim
theorem ms_while (n : Nat) {c : Expr} {body : List Stmt} {mc : TX} {mb : SX} (hp : PassesOwn (model X.prog X.w) X.A X.env X.xe) (hc : PMT X G E c mc) (hb : PMSs X G E body mb) : PMS X G E (.While c body [] pos) (sWhile n mc mb) :=
  (ps_while hp hc hb).weak fun D σ H ⟨A, B, env, S, rs, re, p⟩ => by
    refine ⟨fun m σ' H' => ∃ A2 env2 S2, RS G A2 B H' S2 ∧ REnv G A2 B H' env2 σ' ∧ PostS G A2 B H' E D (whileF mc mb m env2 S2), ⟨n, A, env, S, rs, re, p⟩, ?_⟩
    rintro m σ' H' ⟨A2, env2, S2, rs2, re2, p2⟩
    cases m with
    | zero => exact p2.elim
    | succ m =>
      refine ⟨A2, B, env2, S2, rs2, re2, PostS.bind p2 fun b S3 A3 H3 b' _ e3 rs3 r3 p3 => ?_⟩
      cases (show b = b' from r3)
      cases b with
      | false =>
        rw [if_neg (by decide)] at p3 ⊢
        exact p3 A3 H3 σ' .refl rs3 (re2.ext e3)
      | true =>
        rw [if_pos rfl] at p3 ⊢
        refine ⟨fun σ4 H4 => ∃ A4 env4 S4, RS G A4 B H4 S4 ∧ REnv G A4 B H4 env4 σ4 ∧ PostS G A4 B H4 E D (whileF mc mb m env4 S4), fun σ4 H4 q => ⟨m, Nat.lt_succ_self _, q⟩, A3, B, env2, S3, rs3, re2.ext e3, ?_⟩
        cases hbd : mb env2 S3 with
        | nx env5 S5 => rw [hbd] at p3; exact fun A5 H5 σ5 e5 rs5 re5 => ⟨A5, env5, S5, rs5, re5, PostS.ext e5 p3⟩
        | ct env5 S5 => rw [hbd] at p3; exact fun A5 H5 σ5 e5 rs5 re5 => ⟨A5, env5, S5, rs5, re5, PostS.ext e5 p3⟩
        | brk env5 S5 => rw [hbd] at p3; exact p3
        | ret w S5 => rw [hbd] at p3; exact p3
        | exc c x S5 => rw [hbd] at p3; exact p3
        | bad => rw [hbd] at p3; exact p3.elim
end

/-! ### comprehensions -/
def wipeE (env : Env) : List Nat → Env
  | [] => env
  | v :: vs => (wipeE env vs).set v none
def compL (C : Store → Bool) (g : GX) (t : TX) (e : EX) (env : Env) : List W → Store → R (List W)
  | [], S => if C S = true then .ok [] S else .bad
  | w :: r, S => if C S = true then match g w env with
      | none => .bad
      | some env1 => match t env1 S with
        | .ok true S1 => match e env1 S1 with
          | .ok y S2 => match compL C g t e env r S2 with
            | .ok ys S3 => .ok (y :: ys) S3
            | _ => .bad
          | _ => .bad
        | .ok false S1 => compL C g t e env r S1
        | _ => .bad
    else .bad
def fLc (own : List Nat) (mi : IX) (g : GX) (t : TX) (e : EX) : AX := fun env S => match mi env S with
  | .ok lc S1 => match compL lc.2 g t e (wipeE env own) lc.1 S1 with
    | .ok ys S2 => if ys.length ≤ big then .ok ys S2 else .bad
    | _ => .bad
  | .exc c x S1 => .exc c x S1
  | .bad => .bad
def tYesM : TX := fun _ S => .ok true S
section
variable {G : GP} {A B : List Addr} {H : Hp}
theorem wipe_get {σ : L2.St} {i : Nat} : ∀ {vs : List Nat}, (wipe σ vs)[i]? = if i ∈ vs then (σ[i]?).map (fun _ => none) else σ[i]?
  | [] => by simp [wipe]
  | v :: vs => by
    unfold wipe
    by_cases h : i = v
    · subst h
      rw [if_pos List.mem_cons_self, List.getElem?_set_self']
      rw [wipe_get (vs := vs)]
      split
      · cases σ[i]? <;> rfl
      · cases σ[i]? <;> rfl
    · rw [List.getElem?_set_ne (Ne.symm h), wipe_get (vs := vs)]
      by_cases h2 : i ∈ vs
      · rw [if_pos h2, if_pos (List.mem_cons_of_mem _ h2)]
      · rw [if_neg h2, if_neg (fun z => (List.mem_cons.mp z).elim h h2)]
theorem wipe_back {σ σ2 : L2.St} {own vs : List Nat} (h : SameBut vs (wipe σ own) σ2) (hv : ∀ i ∈ vs, i ∈ own) : wipe σ2 own = wipe σ own := by
  apply List.ext_getElem?
  intro i
  rw [wipe_get]
  by_cases hi : i ∈ own
  · rw [if_pos hi, wipe_get, if_pos hi]
    have hl : σ2.length = σ.length := by rw [h.1, wipe_length]
    by_cases hlt : i < σ.length
    · rw [List.getElem?_eq_getElem hlt, List.getElem?_eq_getElem (by rw [hl]; exact hlt)] <;> rfl
    · rw [List.getElem?_eq_none (by omega), List.getElem?_eq_none (by omega)] <;> rfl
  · rw [if_neg hi]
    exact h.2 i fun z => hi (hv i z)
theorem REnv.wipe {env : Env} {σ : L2.St} (re : REnv G A B H env σ) (own : List Nat) : REnv G A B H (wipeE env own) (wipe σ own) := by
  induction own with
  | nil => exact re
  | cons v vs ih =>
    refine ⟨by simp [wipeE, L2.wipe, ih.len], fun i w h => ?_⟩
    simp only [wipeE, L2.wipe] at h ⊢
    by_cases hi : i = v
    · subst hi
      rw [List.getElem?_set_self'] at h
      cases e : (wipeE env vs)[i]? with
      | none => rw [e] at h; cases h
      | some o => rw [e] at h; cases h
    · rw [List.getElem?_set_ne (Ne.symm hi)] at h
      rw [List.getElem?_set_ne (Ne.symm hi)]
      exact ih.at_ i w h
theorem ne_D {D a : Addr} {B : List Addr} (h : a ∉ D :: B) : a ≠ D := fun z => h (by rw [z]; exact List.mem_cons_self)
mutual
/-- what is kept aside changes -/
theorem RW.updB {D : Addr} {o : HO} : ∀ {w : W} {v : V}, RW G A (D :: B) H w v → RW G A (D :: B) (upd H D o) w v
  | _, _, .non => .non
  | _, _, .bl b => .bl b
  | _, _, .int i => .int i
  | _, _, .str x => .str x
  | _, _, .tup h1 h2 h3 h4 => .tup h1 h2 (by rw [upd_ne (ne_D h2)]; exact h3) (RWs.updB h4)
  | _, _, .lst h1 h2 h3 h4 => .lst h1 h2 (by rw [upd_ne (ne_D h2)]; exact h3) (RWs.updB h4)
  | _, _, .scr h => .scr (h.imp (fun ⟨h1, h2, h3⟩ => ⟨h1, h2, h3.elim (fun h3 => .inl (by rw [upd_ne (ne_D h2)]; exact h3)) fun ⟨ob, h3⟩ => .inr ⟨ob, by rw [upd_ne (ne_D h2)]; exact h3⟩⟩) id)
  | _, _, .ref h => .ref h
  | _, _, .ty n => .ty n
  | _, _, .fn n => .fn n
theorem RWs.updB {D : Addr} {o : HO} : ∀ {l : List W} {vs : List V}, RWs G A (D :: B) H l vs → RWs G A (D :: B) (upd H D o) l vs
  | _, _, .nil => .nil
  | _, _, .cons r q => .cons (RW.updB r) (RWs.updB q)
end
theorem RKV.updB {κ : Type} {D : Addr} {o : HO} {l : List (κ × W)} {ks : List (κ × V)} (r : RKV G A (D :: B) H l ks) : RKV G A (D :: B) (upd H D o) l ks := Paired.mapP r fun _ _ h => ⟨h.1, h.2.updB⟩
theorem RS.updB {S : Store} {D : Addr} {us : List V} (r : RS G A (D :: B) H S) : RS G A (D :: B) (upd H D (.lst us)) S := by
  refine ⟨r.len, r.nd, r.apart, fun i a ob ha ho => ?_, fun b hb => ?_⟩
  · have q := r.ob i a ob ha ho
    have hp : a ≠ D := ne_D (r.apart a (List.mem_of_getElem? ha))
    cases ob with
    | lst l => obtain ⟨vs, h, q⟩ := q; exact ⟨vs, by rw [upd_ne hp]; exact h, q.updB⟩
    | dk lock kvs => obtain ⟨vs, h, q⟩ := q; exact ⟨vs, by rw [upd_ne hp]; exact h, q.updB⟩
    | dt lock kvs => obtain ⟨vs, h, q⟩ := q; exact ⟨vs, by rw [upd_ne hp]; exact h, q.updB⟩
  · by_cases h : b = D
    · rw [h]; exact ⟨_, upd_same⟩
    · rw [upd_ne h]; exact r.res b hb
theorem RWs.snoc {l : List W} {vs : List V} {w : W} {v : V} (r : RWs G A B H l vs) (q : RW G A B H w v) : RWs G A B H (l ++ [w]) (vs ++ [v]) := r.append (.one q)
end
section
variable {X : Cx} {G : GP} {E : XK} {pos : Pos}
abbrev PMTs (X : Cx) (G : GP) (E : XK) (ifs : List Expr) (m : TX) : Prop := PTs X ifs (rd G relB E m)
theorem mts_nil : PMTs X G E [] tYesM := ⟨fun pins s σ H Q I ⟨A, B, env, S, rs, re, p⟩ => pts_nil.run pins s σ H Q I (p A H true .refl rs rfl)⟩
theorem mts_one {c : Expr} {m : TX} (h : PMT X G E c m) : PMTs X G E [c] m := pts_one h
theorem lc_rd {own : List (Str × Nat)} {mi : IX} {g : GX} {vs : List Nat} {mt : TX} {me : EX} (hv : ∀ i ∈ vs, i ∈ own.map (·.2)) {σ : L2.St} {H : Hp} {Q : VK} (h : rdF G E (fLc (own.map (·.2)) mi g mt me) σ H Q) :
    tLc (rdI G E mi) (rdG G g vs) (rd G relB E0 mt) (rd G (relW G) E0 me) (own.map (·.2)) σ H Q := by
  obtain ⟨A, B, env, S, rs, re, p⟩ := h
  refine ⟨A, B, env, S, rs, re, ?_⟩
  unfold fLc at p
  cases hmi : mi env S with
  | exc c x S1 => rw [hmi] at p; exact p
  | bad => rw [hmi] at p; exact p
  | ok lc S1 =>
    obtain ⟨l, C⟩ := lc
    rw [hmi] at p
    simp only at p
    intro A1 H1 J e1 rs1 jok D hD
    simp only at jok
    cases hcl : compL C g mt me (wipeE env (own.map (·.2))) l S1 with
    | exc c x S2 => rw [hcl] at p; exact p.elim
    | bad => rw [hcl] at p; exact p.elim
    | ok ys Sf =>
      rw [hcl] at p
      simp only at p
      split at p
      · rename_i hys
        have fr := rs1.fresh hD
        have inB : ∀ b ∈ D :: B, b ∈ B ∨ H1 b = none := fun b hb => by
          rcases List.mem_cons.mp hb with z | z
          · exact .inr (by rw [z]; exact hD)
          · exact .inl z
        refine ⟨fun i m H' => m = l.length - i ∧ i ≤ l.length ∧ ∃ A2 S2 acc accV rest, Ext A1 A2 H1 H' ∧ RS G A2 (D :: B) H' S2 ∧ H' D = some (.lst accV) ∧ RWs G A2 (D :: B) H' acc accV ∧
          compL C g mt me (wipeE env (own.map (·.2))) (l.drop i) S2 = .ok rest Sf ∧ acc ++ rest = ys,
          ⟨_, rfl, Nat.zero_le _, A1, S1, [], [], ys, Ext.new hD, rs1.newB hD, upd_same, .nil, by rw [List.drop_zero]; exact hcl, rfl⟩, ?_⟩
        rintro i m H' ⟨rfl, hil, A2, S2, acc, accV, rest, e2, rs2, hDv, ra, hcr, hacc⟩
        by_cases hlt : i < l.length
        · rw [List.drop_eq_getElem_cons hlt] at hcr
          simp only [compL] at hcr
          split at hcr
          · rename_i hC
            obtain ⟨j1, j2⟩ := jok.go A2 (D :: B) H' S2 e2 inB rs2 hC i l[i] (List.getElem?_eq_getElem hlt)
            refine .inr ⟨j1, fun H3 => ∃ A2 S2 acc accV rest, Ext A1 A2 H1 H3 ∧ RS G A2 (D :: B) H3 S2 ∧ H3 D = some (.lst accV) ∧ RWs G A2 (D :: B) H3 acc accV ∧
              compL C g mt me (wipeE env (own.map (·.2))) (l.drop (i + 1)) S2 = .ok rest Sf ∧ acc ++ rest = ys, fun H3 q => ⟨_, by omega, rfl, hlt, q⟩, fun x H3 yl => ?_⟩
            obtain ⟨e3, rs3, rw3⟩ := j2 x H3 yl
            have fD : D ∉ A2 := fun z => rs2.apart D z List.mem_cons_self
            have hDv3 := (e3.keep D _ hDv fD).1
            have ra3 := ra.ext e3
            have re3 : REnv G A2 (D :: B) H3 (wipeE env (own.map (·.2))) (wipe σ (own.map (·.2))) := ((re.ext e1).extB (e2.trans e3) inB).wipe _
            split at hcr
            · cases hcr
            · rename_i env1 hg1
              refine ⟨A2, D :: B, _, S2, l[i], rs3, re3, rw3, env1, hg1, fun σ4 re4 sb => ⟨wipe_back sb hv, ?_⟩⟩
              refine ⟨A2, D :: B, env1, S2, rs3, re4, ?_⟩
              split at hcr
              · rename_i S4 ht4
                rw [ht4]
                intro A4 H4 b e4 rs4 hb4
                cases (show true = b from hb4)
                rw [if_pos rfl]
                split at hcr
                · rename_i y S5 he5
                  split at hcr
                  · rename_i ys' S6 hc6
                    cases hcr
                    refine ⟨A4, D :: B, env1, S4, rs4, re4.ext e4, ?_⟩
                    rw [he5]
                    intro A5 H5 yv e5 rs5 ry5
                    have hD5 := ((e4.trans e5).keep D _ hDv3 fD).1
                    refine ⟨accV, hD5, ?_, ?_⟩
                    · have h1 : acc.length < ys.length := by rw [← hacc]; simp
                      rw [← RWs.length ra, sizeLine_eq]
                      exact Nat.lt_of_lt_of_le h1 hys
                    · have ex : Ext A1 A5 H1 (upd H5 D (.lst (accV ++ [yv]))) := by
                        have f := e2.trans (e3.trans (e4.trans e5))
                        refine ⟨f.pre, fun a o ha na => ⟨?_, (f.keep a o ha na).2⟩⟩
                        rw [upd_ne (fun z => by rw [z, hD] at ha; cases ha)]
                        exact (f.keep a o ha na).1
                      refine ⟨A5, S5, acc ++ [y], accV ++ [yv], ys', ex, rs5.updB, upd_same, ((ra3.ext (e4.trans e5)).snoc ry5).updB, hc6, by rw [List.append_assoc]; exact hacc⟩
                  · cases hcr
                · cases hcr
              · rename_i S4 ht4
                rw [ht4]
                intro A4 H4 b e4 rs4 hb4
                cases (show false = b from hb4)
                rw [if_neg (by decide)]
                exact ⟨A4, S4, acc, accV, rest, e2.trans (e3.trans e4), rs4, (e4.keep D _ hDv3 fD).1, ra3.ext e4, hcr, hacc⟩
              · cases hcr
          · cases hcr
        · have e : i = l.length := by omega
          subst e
          rw [List.drop_length] at hcr
          simp only [compL] at hcr
          split at hcr
          · rename_i hC
            cases hcr
            rw [List.append_nil] at hacc
            subst hacc
            have hD0 : H D = none := by
              cases z : H D with
              | none => rfl
              | some o =>
                by_cases ha : D ∈ A
                · have h2 : D ∈ A1 := by obtain ⟨⟨m, rfl⟩, _⟩ := e1; exact List.mem_append_left _ ha
                  exact (fr.1 h2).elim
                · have h3 := (e1.keep D o z ha).1
                  rw [hD] at h3; cases h3
            exact .inl ⟨jok.stop A2 (D :: B) H' _ e2 inB rs2 hC _ (Nat.le_refl _), p A2 H' D accV (e1.trans e2) hD0 rs2 hDv ra⟩
          · cases hcr
      · exact p.elim
theorem f_lc {elt tg iter : Expr} {ifs : List Expr} {scope : Scope} {own : List (Str × Nat)} {mi : IX} {g : GX} {vs : List Nat} {mt : TX} {me : EX} (hc : X.calm = true) (hN : X.N.Nodup) (hi : PMI X G E tg iter mi) (ok : BlkOk X.N X.env.scope scope own)
    (hg : ∀ (s : Shared) (H : Hp) (C : Addr) (cl : List (Str × Addr)) (fp : List Addr), PMG (X.blk s H scope (compEnvC scope cl C X.env) fp) G tg g vs) (ht : ∀ (s : Shared) (H : Hp) (C : Addr) (cl : List (Str × Addr)) (fp : List Addr), PMTs (X.blk s H scope (compEnvC scope cl C X.env) fp) G E0 ifs mt)
    (he : ∀ (s : Shared) (H : Hp) (C : Addr) (cl : List (Str × Addr)) (fp : List Addr), PM (X.blk s H scope (compEnvC scope cl C X.env) fp) G E0 elt me) (hv : ∀ i ∈ vs, i ∈ own.map (·.2) := by decide) (hs : ∀ x, foldedSetIterable iter X.env x = pure x := by intro _; rfl) :
    PF X G E (.ListComp elt [⟨tg, iter, ifs, 0⟩] scope pos) (fLc (own.map (·.2)) mi g mt me) :=
  (pe_lc hc hN hi ok hg ht he hs).weak fun σ H Q z => lc_rd hv z
theorem ms_setLcV {i : Nat} {y : Str} {py spos : Pos} {elt tg iter : Expr} {ifs : List Expr} {scope : Scope} {own : List (Str × Nat)} {mi : IX} {g : GX} {vs : List Nat} {mt : TX} {me : EX} (hc : X.calm = true) (hN : X.N.Nodup) (hy : X.N[i]? = some y) (hyl : X.env.scope.names.lookup y = some .local) (hsw : swapsWith (.ListComp elt [⟨tg, iter, ifs, 0⟩] scope pos) (some (.Name y py)) spos.line X.env = pure true) (hi : PMI X G E tg iter mi) (ok : BlkOk X.N X.env.scope scope own)
    (hg : ∀ (s : Shared) (H : Hp) (C : Addr) (cl : List (Str × Addr)) (fp : List Addr), PMG (X.blk s H scope (compEnvC scope cl C X.env) fp) G tg g vs) (ht : ∀ (s : Shared) (H : Hp) (C : Addr) (cl : List (Str × Addr)) (fp : List Addr), PMTs (X.blk s H scope (compEnvC scope cl C X.env) fp) G E0 ifs mt)
    (he : ∀ (s : Shared) (H : Hp) (C : Addr) (cl : List (Str × Addr)) (fp : List Addr), PM (X.blk s H scope (compEnvC scope cl C X.env) fp) G E0 elt me) (hv : ∀ i ∈ vs, i ∈ own.map (·.2) := by decide) (hs : ∀ x, foldedSetIterable iter X.env x = pure x := by intro _; rfl) : PMS X G E (.Assign [.Name y py] (.ListComp elt [⟨tg, iter, ifs, 0⟩] scope pos) spos) (sAsg (eV (fLc (own.map (·.2)) mi g mt me)) (gN i)) :=
  (ps_setLc hc hN hy hyl hsw hi ok hg ht he hs).weak fun D σ H ⟨A, B, env, S, rs, re, p⟩ => lc_rd hv (val_rd ⟨A, B, env, S, rs, re, PostS.bind p fun w S1 A1 H1 v _ e1 rs1 r1 p1 => p1 A1 H1 _ .refl rs1 ((re.ext e1).set r1 i)⟩)
theorem ms_setLcA {i : Nat} {y : Str} {py spos : Pos} {elt tg iter : Expr} {ifs : List Expr} {scope : Scope} {own : List (Str × Nat)} {mi : IX} {g : GX} {vs : List Nat} {mt : TX} {me : EX} (hc : X.calm = true) (hN : X.N.Nodup) (hy : X.N[i]? = some y) (hyl : X.env.scope.names.lookup y = some .local) (hsw : swapsWith (.ListComp elt [⟨tg, iter, ifs, 0⟩] scope pos) (some (.Name y py)) spos.line X.env = pure true) (hi : PMI X G E tg iter mi) (ok : BlkOk X.N X.env.scope scope own)
    (hg : ∀ (s : Shared) (H : Hp) (C : Addr) (cl : List (Str × Addr)) (fp : List Addr), PMG (X.blk s H scope (compEnvC scope cl C X.env) fp) G tg g vs) (ht : ∀ (s : Shared) (H : Hp) (C : Addr) (cl : List (Str × Addr)) (fp : List Addr), PMTs (X.blk s H scope (compEnvC scope cl C X.env) fp) G E0 ifs mt)
    (he : ∀ (s : Shared) (H : Hp) (C : Addr) (cl : List (Str × Addr)) (fp : List Addr), PM (X.blk s H scope (compEnvC scope cl C X.env) fp) G E0 elt me) (hv : ∀ i ∈ vs, i ∈ own.map (·.2) := by decide) (hs : ∀ x, foldedSetIterable iter X.env x = pure x := by intro _; rfl) : PMS X G E (.Assign [.Name y py] (.ListComp elt [⟨tg, iter, ifs, 0⟩] scope pos) spos) (sAsg (eA (fLc (own.map (·.2)) mi g mt me)) (gN i)) :=
  (ps_setLc hc hN hy hyl hsw hi ok hg ht he hs).weak fun D σ H ⟨A, B, env, S, rs, re, p⟩ => lc_rd hv (alloc_rd ⟨A, B, env, S, rs, re, PostS.bind p fun w S1 A1 H1 v _ e1 rs1 r1 p1 => p1 A1 H1 _ .refl rs1 ((re.ext e1).set r1 i)⟩)

/-! ### methods of built-in types -/
def rM (G : GP) (E : XK) (f : W → List W → Store → R W) : V → List V → Hp → VK → Prop := fun x vs H Q => ∃ A B S w ws, RS G A B H S ∧ RW G A B H w x ∧ RWs G A B H ws vs ∧ Post G (relW G) A B H E Q (f w ws S)
def eMeth (kind : Store → W → Bool) (f : W → List W → Store → R W) (mo : EX) (ma : AX) : EX := fun env S => (mo env S).bind fun w S1 => if kind S1 w = true then (ma env S1).bind fun ws S2 => f w ws S2 else .bad
/-- a list of the store -/
def refL (S : Store) : W → Option (List W)
  | .ref n => match S[n]? with
    | some (.lst l) => some l
    | _ => none
  | _ => none
theorem ref_at {A B : List Addr} {H : Hp} {S : Store} (rs : RS G A B H S) {w : W} {v : V} {l : List W} (h : refL S w = some l) (r : RW G A B H w v) : ∃ n a vs, w = .ref n ∧ v = .ref a ∧ A[n]? = some a ∧ H a = some (.lst vs) ∧ RWs G A B H l vs := by
  cases w with
  | ref n =>
    cases r with
    | ref ha =>
      simp only [refL] at h
      split at h
      · rename_i l' hl
        cases h
        obtain ⟨vs, e, q⟩ := rs.at hl ha
        exact ⟨n, _, vs, rfl, rfl, ha, e, q⟩
      · cases h
  | _ => cases h
def isRefL (S : Store) (w : W) : Bool := (refL S w).isSome
def opAppend (w : W) (ws : List W) (S : Store) : R W := match w, ws with
  | .ref n, [y] => match S[n]? with
    | some (.lst l) => if l.length < big then .ok .non (S.set n (.lst (l ++ [y]))) else .bad
    | _ => .bad
  | _, _ => .bad
variable {o e : Expr} {es : List Expr} {name : Str} {apos cpos : Pos} {id : String}
/-- o.m(..) of a list of the store -/
theorem m_methL {f : W → List W → Store → R W} {mo : EX} {m : AX} (slot : Slot "list" name id) (hty : typeOf (.builtin id) = pure (.type "method_descriptor")) (hm : MtR X id (rM G E f)) (ho : PM X G E o mo) (ha : PMA X G E (e :: es) m) (hbase : attributeBase o name X.env (eval o X.env) = eval o X.env := by rfl)
    (hfew : ((backTo cpos (starEach (e :: es) X.env)).all (fun x => !x.1) && (backToKw cpos (keywordEach [] X.env)).all (fun x => x.1.isSome)
      && decide ((e :: es).length + ([] : List Keyword).length + (if ([] : List Keyword).isEmpty then 0 else 1) < 30)) = true := by rfl)
    (hline : (apos.endLine == cpos.line) = true := by rfl) (hs : starEach (e :: es) X.env = (false, eval e X.env) :: starEach es X.env := by rfl) (hplain : (backTo cpos (starEach es X.env)).any (·.1) = false := by rfl) :
    PM X G E (.Call (.Attribute o name apos) (e :: es) [] cpos) (eMeth isRefL f mo m) :=
  (pe_bm PySem.F.plainAttrs_list slot hty hm ho ha hbase hfew hline hs hplain).weak fun σ H Q ⟨A, B, env, S, rs, re, p⟩ => by
    refine ⟨A, B, env, S, rs, re, Post.bind p fun w S1 A1 H1 x _ e1 rs1 r1 p1 => ?_⟩
    split at p1
    · rename_i hk
      cases hr : refL S1 w with
      | none => rw [isRefL, hr] at hk; cases hk
      | some l =>
        obtain ⟨n, a, vs, rfl, rfl, h1, h2, h3⟩ := ref_at rs1 hr r1
        refine ⟨.inl ⟨rfl, _, SqL.of h2⟩, A1, B, env, S1, rs1, re.ext e1, Post.bind p1 fun ws S2 A2 H2 us _ e2 rs2 r2 p2 => ?_⟩
        exact ⟨A2, B, S2, .ref n, ws, rs2, RW.ext e2 r1, r2, p2⟩
    · exact p1.elim
theorem o_append : MtR X "list.append" (rM G E opAppend) := by
  intro pins s σ H x xs v us Q I rx rxs ⟨A, B, S, w, ws, rs, r1, r2, p⟩
  unfold opAppend at p
  split at p
  · rename_i n y
    split at p
    · rename_i l hl
      split at p
      · rename_i hlen
        cases r1 with
        | ref ha =>
          obtain ⟨vs, e, q⟩ := rs.at hl ha
          cases r2 with
          | cons ry rr =>
            cases rr
            have hm := List.mem_of_getElem? ha
            refine mt_append pins s σ H _ _ v us Q I rx rxs ⟨_, vs, _, rfl, rfl, e, by rw [← RWs.length q, sizeLine_eq]; exact hlen, ?_⟩
            exact p A _ .non (Ext.set hm) (rs.set ha ⟨_, upd_same, (q.snoc ry).ext (Ext.set hm)⟩) .non
      · exact p.elim
    · exact p.elim
  · exact p.elim
def opPopAt (w : W) (ws : List W) (S : Store) : R W := match w, ws with
  | .ref n, [.int i] => match S[n]? with
    | some (.lst l) => match ixN l.length i with
      | some k => match l[k]? with
        | some y => .ok y (S.set n (.lst (l.eraseIdx k)))
        | none => .bad
      | none => .bad
    | _ => .bad
  | _, _ => .bad
theorem o_popAt : MtR X "list.pop" (rM G E opPopAt) := by
  intro pins s σ H x xs v us Q I rx rxs ⟨A, B, S, w, ws, rs, r1, r2, p⟩
  unfold opPopAt at p
  split at p
  · rename_i n i
    split at p
    · rename_i l hl
      split at p
      · rename_i k hk
        split at p
        · rename_i y hy
          cases r1 with
          | ref ha =>
            obtain ⟨vs, e, q⟩ := rs.at hl ha
            cases r2 with
            | cons ri rr =>
              cases rr
              cases ri
              have hm := List.mem_of_getElem? ha
              obtain ⟨z1, z2, z3, z4⟩ := ixN_seq hk
              have zz : l.length ≤ 16777216 := by
                obtain ⟨z, _⟩ := I.hok _ _ e
                rw [← RWs.length q, sizeLine_eq] at z; exact z
              obtain ⟨yv, y1, y2⟩ := q.get hy
              refine mt_popAt pins s σ H _ _ v us Q I rx rxs ⟨_, vs, i, k, yv, rfl, rfl, e, by omega, by omega, by rw [← RWs.length q]; exact z1, y1, ?_⟩
              exact p A _ yv (Ext.set hm) (rs.set ha ⟨_, upd_same, (q.erase k).ext (Ext.set hm)⟩) (y2.ext (Ext.set hm))
        · exact p.elim
      · exact p.elim
    · exact p.elim
  · exact p.elim
end

/-! ### a def -/
def runM (n : Nat) (body : SX) : List W → Store → R W := fun ws S => match body (ws.map some ++ List.replicate (n - ws.length) none) S with
  | .nx _ S' => .ok .non S'
  | .ret w S' => .ok w S'
  | .exc c x S' => .exc c x S'
  | _ => .bad
section
variable {P : Program} {w : World} {K : PySem.W.Frag} {mg : Str → Option Value} {base : Heap} {G : GP}
theorem start_env {A B : List Addr} {H : Hp} {ws : List W} {vs : List V} (r : RWs G A B H ws vs) (N : List Str) : REnv G A B H (ws.map some ++ List.replicate (N.length - ws.length) none) (L2.start N vs) := by
  refine ⟨by simp [L2.start, RWs.length r], fun i w h => ?_⟩
  unfold L2.start
  by_cases hi : i < ws.length
  · rw [List.getElem?_append_left (by simpa using hi), List.getElem?_map] at h
    cases e : ws[i]? with
    | none => rw [e] at h; cases h
    | some w' =>
      rw [e] at h
      cases h
      obtain ⟨v, h1, h2⟩ := r.get e
      exact ⟨v, by rw [List.getElem?_append_left (by rw [List.length_map, ← RWs.length r]; exact hi), List.getElem?_map, h1]; rfl, h2⟩
  · rw [List.getElem?_append_right (by simpa using hi), List.getElem?_replicate] at h
    split at h <;> cases h
theorem fn_mk {x qual : Str} {st : Stmt} {f : Addr} {fd : FuncData} {N ps : List Str} {k : Nat} {body : SX} (F : Fun K x qual st f fd) (S : FnScope N ps (defScope st))
    (hbody : ∀ (cdv : Value) (A : Around) (outer : List PySem.Env) (s : Shared) (H : Hp) (E : XK), Room k (A.deeper (envOfC qual (defScope st) s.heap.objs.size f cdv)) →
      PMSs (cxOf (L2.CX P w) P w K mg base N qual (defScope st) f cdv A outer s H E) G E (defBody st) body) : FnM P w K mg base G (k + 1) f fd ps (runM N.length body) := by
  refine F.okX S (fun vs H Q E ⟨A, B, S0, ws, rs, r, hl, p⟩ => by rw [← RWs.length r]; exact hl) fun cdv A0 outer s H vs Q E hr ⟨A, B, S0, ws, rs, r, hl, p⟩ => ⟨_, hbody cdv A0 outer s H E hr, ?_⟩
  refine ⟨A, B, _, S0, rs, start_env r N, ?_⟩
  unfold runM at p
  cases hb : body (ws.map some ++ List.replicate (N.length - ws.length) none) S0 with
  | nx env S' => rw [hb] at p; exact fun A' H' σ' e rs' _ => p A' H' .non e rs' .non
  | ret u S' => rw [hb] at p; exact fun A' H' v e rs' r' => p A' H' v e rs' r'
  | exc c y S' => rw [hb] at p; exact p
  | brk env S' => rw [hb] at p; exact p.elim
  | ct env S' => rw [hb] at p; exact p.elim
  | bad => rw [hb] at p; exact p.elim
end
end QP

set_option Elab.async false
set_option linter.all false
set_option maxRecDepth 100000
set_option maxHeartbeats 4000000
/-! Built-in functions. -/
namespace QP
open PySem PySem.Spec PyProof.Rows L2
section
variable {G : GP} {A B : List Addr} {H : Hp}
theorem RWs.one_inv {w : W} {vs : List V} (r : RWs G A B H [w] vs) : ∃ v, vs = [v] ∧ RW G A B H w v := by
  cases r with
  | cons a b => cases b; exact ⟨_, rfl, a⟩
theorem RWs.two_inv {w u : W} {vs : List V} (r : RWs G A B H [w, u] vs) : ∃ v v', vs = [v, v'] ∧ RW G A B H w v ∧ RW G A B H u v' := by
  cases r with
  | cons a b => cases b with
    | cons c d => cases d; exact ⟨_, _, rfl, a, c⟩
end

/-! ### len -/
def lenW (S : Store) (w : W) : Option Int := match w with
  | .str x => if x.length ≤ big then some x.length else none
  | .ref n => match S[n]? with
    | some (.lst l) => some l.length
    | some (.dk false kvs) => some kvs.length
    | some (.dt false kvs) => some kvs.length
    | _ => none
  | .tup l => some l.length
  | .lst l => some l.length
  | _ => none
def bLen : List W → Store → R W
  | [w], S => match lenW S w with
    | some n => .ok (.int n) S
    | none => .bad
  | _, _ => .bad
def bAbs : List W → Store → R W
  | [.int i], S => .ok (.int (if i < 0 then -i else i)) S
  | _, _ => .bad
def bInt : List W → Store → R W
  | [.int i], S => .ok (.int i) S
  | [.bl b], S => .ok (.int (if b then 1 else 0)) S
  | _, _ => .bad
/-- the least of ints -/
def minI : Int → List Int → Int
  | m, [] => m
  | m, x :: r => minI (if x < m then x else m) r
def maxI : Int → List Int → Int
  | m, [] => m
  | m, x :: r => maxI (if m < x then x else m) r
def intsOf (S : Store) (w : W) : Option (List Int) := (seqW S w).bind allI
def bMin : List W → Store → R W
  | [.int i, .int j], S => .ok (.int (if j < i then j else i)) S
  | [w], S => match intsOf S w with
    | some (x :: r) => .ok (.int (minI x r)) S
    | _ => .bad
  | _, _ => .bad
def bMax : List W → Store → R W
  | [.int i, .int j], S => .ok (.int (if j > i then j else i)) S
  | [w], S => match intsOf S w with
    | some (x :: r) => .ok (.int (maxI x r)) S
    | _ => .bad
  | _, _ => .bad
theorem minI_spec : ∀ (r : List Int) (m : Int), (minI m r = m ∨ minI m r ∈ r) ∧ minI m r ≤ m ∧ ∀ y ∈ r, minI m r ≤ y
  | [], m => ⟨.inl rfl, Int.le_refl _, fun y h => by cases h⟩
  | x :: r, m => by
    obtain ⟨h1, h2, h3⟩ := minI_spec r (if x < m then x else m)
    simp only [minI]
    refine ⟨?_, ?_, ?_⟩
    · rcases h1 with h1 | h1
      · rw [h1]
        split
        · exact .inr List.mem_cons_self
        · exact .inl rfl
      · exact .inr (List.mem_cons_of_mem _ h1)
    · refine Int.le_trans h2 ?_; split <;> omega
    · intro y hy
      rcases List.mem_cons.mp hy with rfl | hy
      · refine Int.le_trans h2 ?_; split <;> omega
      · exact h3 y hy
theorem maxI_spec : ∀ (r : List Int) (m : Int), (maxI m r = m ∨ maxI m r ∈ r) ∧ m ≤ maxI m r ∧ ∀ y ∈ r, y ≤ maxI m r
  | [], m => ⟨.inl rfl, Int.le_refl _, fun y h => by cases h⟩
  | x :: r, m => by
    obtain ⟨h1, h2, h3⟩ := maxI_spec r (if m < x then x else m)
    simp only [maxI]
    refine ⟨?_, ?_, ?_⟩
    · rcases h1 with h1 | h1
      · rw [h1]
        split
        · exact .inr List.mem_cons_self
        · exact .inl rfl
      · exact .inr (List.mem_cons_of_mem _ h1)
    · refine Int.le_trans ?_ h2; split <;> omega
    · intro y hy
      rcases List.mem_cons.mp hy with rfl | hy
      · refine Int.le_trans ?_ h2; split <;> omega
      · exact h3 y hy
theorem minI_uniq {x : Int} {r : List Int} {m : Int} (h1 : m ∈ x :: r) (h2 : ∀ y ∈ x :: r, m ≤ y) : m = minI x r := by
  obtain ⟨a1, a2, a3⟩ := minI_spec r x
  have b1 : m ≤ minI x r := h2 _ (by rcases a1 with a1 | a1; · rw [a1]; exact List.mem_cons_self
                                     · exact List.mem_cons_of_mem _ a1)
  have b2 : minI x r ≤ m := by
    rcases List.mem_cons.mp h1 with h | h
    · rw [h]; exact a2
    · exact a3 m h
  omega
theorem maxI_uniq {x : Int} {r : List Int} {m : Int} (h1 : m ∈ x :: r) (h2 : ∀ y ∈ x :: r, y ≤ m) : m = maxI x r := by
  obtain ⟨a1, a2, a3⟩ := maxI_spec r x
  have b1 : maxI x r ≤ m := h2 _ (by rcases a1 with a1 | a1; · rw [a1]; exact List.mem_cons_self
                                     · exact List.mem_cons_of_mem _ a1)
  have b2 : m ≤ maxI x r := by
    rcases List.mem_cons.mp h1 with h | h
    · rw [h]; exact a2
    · exact a3 m h
  omega

/-! max and min of a tuple of ints -/
section
variable {prog : Program} {w : World} {A : Around} {E : Value → Shared → Prop} {s : Shared} {l : Addr} {its : List Value} {ns : List Int} {Q : Value → Shared → Prop}
theorem tup_walk (hl : s.heap.IsTuple l its.toArray) (h : ∀ s₂ : Shared, s₂ = { s with heap := s.heap.push { cls := .type "tuple_iterator", data := .fields #[.ref l, .int 0 0] } } →
      (s₂.heap.IsTupleIter s.heap.objs.size l 0 ∧ s₂.heap.IsTuple l its.toArray) → l ≠ s.heap.objs.size → Q (.ref s.heap.objs.size) s₂) : wpAny (model prog w) A (pyIter (.ref l)) Q E s := by
  have hlt : l < s.heap.objs.size := by obtain ⟨_, e, _⟩ := hl; exact Heap.lt_size e
  refine wpAny_pyIter_tuple hl (h _ rfl ⟨⟨_, Heap.get?_push_size _ rfl, rfl, rfl⟩, ?_⟩ (Nat.ne_of_lt hlt))
  obtain ⟨o, e, r⟩ := hl
  exact ⟨o, Heap.get?_push_of_some _ e, r⟩
theorem tmax_raw (hh : A.handled = none) (hl : s.heap.IsTuple l its.toArray) (hi : IntsAre its ns) (hne : 0 < ns.length)
    (h : ∀ h' tk M t', (∀ b o, s.heap.get? b = some o → h'.get? b = some o) → M ∈ ns → (∀ a, a ∈ ns → a ≤ M) → Q (.int M t') { s with heap := h', toks := tk }) : wpAny (model prog w) A (call (.builtin "max") [.ref l]) Q E s := by
  obtain ⟨xs, e⟩ := hi.allInts.items
  have hn : numsOf (intItems xs).toList = ns := by rw [← e]; exact hi.numsOf
  rw [nums_intItems] at hn
  subst hn
  rw [e] at hl
  have hsz : 0 < xs.size := by simpa using hne
  have hl' : s.heap.IsTuple l (intItems xs).toList.toArray := by simpa using hl
  refine call_max_walk (tup_walk hl' fun s₂ e2 st hlI => ?_)
  subst e2
  refine ⟨_, _, _, _, _, _, _, rfl, Walks.tuple (A := A.in1) hh _ l hlI (intItems xs), by simpa using st, fun b hb => ?_, by simpa [intItems] using hsz, CmpOf.ints_gt (numAt xs) (fun _ _ => intItems_at), fun v h' tk hP hk => ?_⟩
  · have hlt : l < s.heap.objs.size := by obtain ⟨_, e, _⟩ := hl; exact Heap.lt_size e
    show b < (s.heap.push _).objs.size
    rw [Heap.size_push]
    rcases List.mem_cons.mp hb with z | z
    · rw [z]; exact Nat.lt_succ_self _
    · rw [List.mem_singleton.mp z]; exact Nat.lt_succ_of_lt hlt
  · have hv : (intItems xs)[argBest (fun i j => decide (numAt xs i > numAt xs j)) (xs.size - 1)]? = some v := by simpa [intItems] using hP
    obtain ⟨t, rfl⟩ := intItems_at hv
    obtain ⟨h1, h2⟩ := argBest_gt (numAt xs) (xs.size - 1)
    refine h h' tk _ t (fun b o eo => hk b o (fun z => Nat.lt_irrefl _ ((List.mem_singleton.mp z) ▸ Heap.lt_size eo)) (Heap.get?_push_of_some _ eo)) ?_ fun a ha => ?_
    · rw [numAt_eq]; exact PySem.getD_mem (by rw [List.length_map, Array.length_toList]; omega)
    · obtain ⟨j, hj, rfl⟩ := mem_getD ha
      rw [List.length_map, Array.length_toList] at hj
      rw [← numAt_eq]; exact h2 j (by omega)
theorem tmin_raw (hh : A.handled = none) (hl : s.heap.IsTuple l its.toArray) (hi : IntsAre its ns) (hne : 0 < ns.length)
    (h : ∀ h' tk M t', (∀ b o, s.heap.get? b = some o → h'.get? b = some o) → M ∈ ns → (∀ a, a ∈ ns → M ≤ a) → Q (.int M t') { s with heap := h', toks := tk }) : wpAny (model prog w) A (call (.builtin "min") [.ref l]) Q E s := by
  obtain ⟨xs, e⟩ := hi.allInts.items
  have hn : numsOf (intItems xs).toList = ns := by rw [← e]; exact hi.numsOf
  rw [nums_intItems] at hn
  subst hn
  rw [e] at hl
  have hsz : 0 < xs.size := by simpa using hne
  have hl' : s.heap.IsTuple l (intItems xs).toList.toArray := by simpa using hl
  refine call_min_walk (tup_walk hl' fun s₂ e2 st hlI => ?_)
  subst e2
  refine ⟨_, _, _, _, _, _, _, rfl, Walks.tuple (A := A.in1) hh _ l hlI (intItems xs), by simpa using st, fun b hb => ?_, by simpa [intItems] using hsz, CmpOf.ints_lt (numAt xs) (fun _ _ => intItems_at), fun v h' tk hP hk => ?_⟩
  · have hlt : l < s.heap.objs.size := by obtain ⟨_, e, _⟩ := hl; exact Heap.lt_size e
    show b < (s.heap.push _).objs.size
    rw [Heap.size_push]
    rcases List.mem_cons.mp hb with z | z
    · rw [z]; exact Nat.lt_succ_self _
    · rw [List.mem_singleton.mp z]; exact Nat.lt_succ_of_lt hlt
  · have hv : (intItems xs)[argBest (fun i j => decide (numAt xs i < numAt xs j)) (xs.size - 1)]? = some v := by simpa [intItems] using hP
    obtain ⟨t, rfl⟩ := intItems_at hv
    obtain ⟨h1, h2⟩ := argBest_lt (numAt xs) (xs.size - 1)
    refine h h' tk _ t (fun b o eo => hk b o (fun z => Nat.lt_irrefl _ ((List.mem_singleton.mp z) ▸ Heap.lt_size eo)) (Heap.get?_push_of_some _ eo)) ?_ fun a ha => ?_
    · rw [numAt_eq]; exact PySem.getD_mem (by rw [List.length_map, Array.length_toList]; omega)
    · obtain ⟨j, hj, rfl⟩ := mem_getD ha
      rw [List.length_map, Array.length_toList] at hj
      rw [← numAt_eq]; exact h2 j (by omega)
end
section
variable {X : Cx} {G : GP} {E : XK}
theorem CallR.or {f : Value} {r r' : List V → Hp → VK → Prop} (h : CallR X f r) (h' : CallR X f r') : CallR X f (fun xs H Q => r xs H Q ∨ r' xs H Q) :=
  fun pins s σ H xs us Q I r q => q.elim (h pins s σ H xs us Q I r) (h' pins s σ H xs us Q I r)
theorem c_len : CallR X (.builtin "len") (rC G E bLen) := by
  intro pins s σ H xs us Q I r ⟨A, B, S, ws, rs, rw', p⟩
  unfold bLen at p
  split at p
  · rename_i w
    split at p
    · rename_i n hn
      obtain ⟨v, rfl, r1⟩ := rw'.one_inv
      have fin : ∀ m : Int, m = n → Q (.int m) H := fun m e => by rw [e]; exact p A H _ .refl rs (.int _)
      cases r1 with
      | str x =>
        simp only [lenW] at hn
        split at hn
        · rename_i hl
          cases hn
          exact call_len_str pins s σ H _ us Q I r ⟨x, rfl, big_line hl, fin _ rfl⟩
        · cases hn
      | tup h1 h2 h3 h4 => cases hn; exact call_len_seq pins s σ H _ us Q I r ⟨_, _, rfl, .inr (SqT.of h3), fin _ (by rw [RWs.length h4])⟩
      | lst h1 h2 h3 h4 => cases hn; exact call_len_seq pins s σ H _ us Q I r ⟨_, _, rfl, .inl (SqL.of h3), fin _ (by rw [RWs.length h4])⟩
      | scr h1 => cases hn
      | ref ha =>
        simp only [lenW] at hn
        split at hn
        · rename_i l hl
          cases hn
          obtain ⟨vs, e, q⟩ := rs.at hl ha
          exact call_len_seq pins s σ H _ us Q I r ⟨_, _, rfl, .inl (SqL.of e), fin _ (by rw [RWs.length q])⟩
        · rename_i kvs hl
          cases hn
          obtain ⟨ks, e, q⟩ := rs.at hl ha
          rw [if_neg (by decide)] at e
          exact call_lenD pins s σ H _ us Q I r ⟨_, ks, rfl, e, fin _ (by rw [q.len])⟩
        · rename_i kvs hl
          cases hn
          obtain ⟨ks, e, q⟩ := rs.at hl ha
          rw [if_neg (by decide)] at e
          exact call_len_dT pins s σ H _ us Q I r ⟨_, ks, rfl, e, fin _ (by rw [q.len])⟩
        · cases hn
      | _ => cases hn
    · exact p.elim
  · exact p.elim
theorem c_abs : CallR X (.builtin "abs") (rC G E bAbs) := by
  intro pins s σ H xs us Q I r ⟨A, B, S, ws, rs, rw', p⟩
  unfold bAbs at p
  split at p
  · obtain ⟨v, rfl, r1⟩ := rw'.one_inv
    cases r1
    exact call_abs pins s σ H _ us Q I r ⟨_, rfl, p A H _ .refl rs (.int _)⟩
  · exact p.elim
theorem c_int : CallR X (.type "int") (rC G E bInt) := by
  intro pins s σ H xs us Q I r ⟨A, B, S, ws, rs, rw', p⟩
  unfold bInt at p
  split at p
  · obtain ⟨v, rfl, r1⟩ := rw'.one_inv
    cases r1
    exact call_int1 pins s σ H _ us Q I r (.inl ⟨_, rfl, p A H _ .refl rs (.int _)⟩)
  · obtain ⟨v, rfl, r1⟩ := rw'.one_inv
    cases r1
    exact call_int1 pins s σ H _ us Q I r (.inr ⟨_, rfl, p A H _ .refl rs (.int _)⟩)
  · exact p.elim
theorem ints_at {A B : List Addr} {H : Hp} {S : Store} (rs : RS G A B H S) {w : W} {v : V} {ns : List Int} (h : intsOf S w = some ns) (r : RW G A B H w v) : ∃ p, v = .ref p ∧ (Rd H p (.lst (ns.map V.int)) ∨ H p = some (.tup (ns.map V.int))) := by
  unfold intsOf at h
  cases hs : seqW S w with
  | none => rw [hs] at h; cases h
  | some l =>
    rw [hs] at h
    have e := allI_eq (show allI l = some ns from h)
    subst e
    obtain ⟨p, vs, rfl, hq, q⟩ := seq_at rs hs r
    rw [q.ints] at hq
    exact ⟨p, rfl, hq⟩
theorem c_max (hc : X.calm = true) : CallR X (.builtin "max") (rC G E bMax) := by
  intro pins s σ H xs us Q I r ⟨A, B, S, ws, rs, rw', p⟩
  unfold bMax at p
  split at p
  · obtain ⟨v, v', rfl, r1, r2⟩ := rw'.two_inv
    cases r1; cases r2
    exact call_max2 hc pins s σ H _ us Q I r ⟨_, _, rfl, p A H _ .refl rs (.int _)⟩
  · split at p
    · rename_i x l hx
      obtain ⟨v, rfl, r1⟩ := rw'.one_inv
      obtain ⟨a, rfl, hq⟩ := ints_at rs hx r1
      have fin : ∀ m, m ∈ x :: l → (∀ y, y ∈ x :: l → y ≤ m) → Q (.int m) H := fun m h1 h2 => by
        rw [maxI_uniq h1 h2]; exact p A H _ .refl rs (.int _)
      rcases hq with hq | hq
      · exact cr_max hc pins s σ H _ us Q I r ⟨a, x :: l, rfl, .inl hq, by simp, fin⟩
      · obtain ⟨its, rv, hl, _⟩ := I.tuple (SqT.of hq)
        rw [Vals.ref1 r]
        exact tmax_raw (I.ok.hd hc) hl rv.ints (by simp) fun h' tk m t' hk h1 h2 => ⟨.int _, H, I.kept hk, ⟨_, rfl⟩, fin m h1 h2⟩
    · exact p.elim
  · exact p.elim
theorem c_min (hc : X.calm = true) : CallR X (.builtin "min") (rC G E bMin) := by
  intro pins s σ H xs us Q I r ⟨A, B, S, ws, rs, rw', p⟩
  unfold bMin at p
  split at p
  · obtain ⟨v, v', rfl, r1, r2⟩ := rw'.two_inv
    cases r1; cases r2
    exact call_min2 hc pins s σ H _ us Q I r ⟨_, _, rfl, p A H _ .refl rs (.int _)⟩
  · split at p
    · rename_i x l hx
      obtain ⟨v, rfl, r1⟩ := rw'.one_inv
      obtain ⟨a, rfl, hq⟩ := ints_at rs hx r1
      have fin : ∀ m, m ∈ x :: l → (∀ y, y ∈ x :: l → m ≤ y) → Q (.int m) H := fun m h1 h2 => by
        rw [minI_uniq h1 h2]; exact p A H _ .refl rs (.int _)
      rcases hq with hq | hq
      · exact cr_min hc pins s σ H _ us Q I r ⟨a, x :: l, rfl, .inl hq, by simp, fin⟩
      · obtain ⟨its, rv, hl, _⟩ := I.tuple (SqT.of hq)
        rw [Vals.ref1 r]
        exact tmin_raw (I.ok.hd hc) hl rv.ints (by simp) fun h' tk m t' hk h1 h2 => ⟨.int _, H, I.kept hk, ⟨_, rfl⟩, fin m h1 h2⟩
    · exact p.elim
  · exact p.elim
/-! sum, all, any of lists -/
def allB : List W → Option (List Bool)
  | [] => some []
  | .bl b :: r => (allB r).map (b :: ·)
  | _ :: _ => none
theorem allB_eq : ∀ {l : List W} {bs : List Bool}, allB l = some bs → l = bs.map W.bl
  | [], bs, h => by cases h; rfl
  | w :: r, bs, h => by
    cases w with
    | bl i =>
      simp only [allB, Option.map_eq_some_iff] at h
      obtain ⟨a, h1, h2⟩ := h
      subst h2
      rw [allB_eq h1]; rfl
    | _ => cases h
theorem allB_bls : ∀ bs : List Bool, allB (bs.map W.bl) = some bs
  | [] => rfl
  | n :: r => by simp only [List.map_cons, allB, allB_bls r, Option.map_some]
def bSum : List W → Store → R W
  | [w], S => match (lstW S w).bind allI with
    | some ns => .ok (.int ns.sum) S
    | none => .bad
  | _, _ => .bad
def bAll : List W → Store → R W
  | [w], S => match (lstW S w).bind allB with
    | some bs => .ok (.bl (bs.all id)) S
    | none => .bad
  | _, _ => .bad
def bAny : List W → Store → R W
  | [w], S => match (lstW S w).bind allB with
    | some bs => .ok (.bl (bs.any id)) S
    | none => .bad
  | _, _ => .bad
theorem c_sum (hc : X.calm = true) : CallR X (.builtin "sum") (rC G E bSum) := by
  intro pins s σ H xs us Q I r ⟨A, B, S, ws, rs, rw', p⟩
  unfold bSum at p
  split at p
  · split at p
    · rename_i w ns hx
      obtain ⟨v, rfl, r1⟩ := rw'.one_inv
      obtain ⟨l, h1, h2⟩ := Option.bind_eq_some_iff.mp hx
      have e := allI_eq h2
      subst e
      obtain ⟨a, vs, rfl, hq, q⟩ := lst_at rs h1 r1
      rw [q.ints] at hq
      exact cr_sum hc pins s σ H _ us Q I r ⟨a, ns, rfl, SqL.of hq, p A H _ .refl rs (.int _)⟩
    · exact p.elim
  · exact p.elim
theorem c_all (hc : X.calm = true) : CallR X (.builtin "all") (rC G E bAll) := by
  intro pins s σ H xs us Q I r ⟨A, B, S, ws, rs, rw', p⟩
  unfold bAll at p
  split at p
  · split at p
    · rename_i w bs hx
      obtain ⟨v, rfl, r1⟩ := rw'.one_inv
      obtain ⟨l, h1, h2⟩ := Option.bind_eq_some_iff.mp hx
      have e := allB_eq h2
      subst e
      obtain ⟨a, vs, rfl, hq, q⟩ := lst_at rs h1 r1
      rw [q.bls] at hq
      exact cr_all hc pins s σ H _ us Q I r ⟨a, bs, rfl, SqL.of hq, p A H _ .refl rs (.bl _)⟩
    · exact p.elim
  · exact p.elim
theorem c_any (hc : X.calm = true) : CallR X (.builtin "any") (rC G E bAny) := by
  intro pins s σ H xs us Q I r ⟨A, B, S, ws, rs, rw', p⟩
  unfold bAny at p
  split at p
  · split at p
    · rename_i w bs hx
      obtain ⟨v, rfl, r1⟩ := rw'.one_inv
      obtain ⟨l, h1, h2⟩ := Option.bind_eq_some_iff.mp hx
      have e := allB_eq h2
      subst e
      obtain ⟨a, vs, rfl, hq, q⟩ := lst_at rs h1 r1
      rw [q.bls] at hq
      exact cr_any hc pins s σ H _ us Q I r ⟨a, bs, rfl, SqL.of hq, p A H _ .refl rs (.bl _)⟩
    · exact p.elim
  · exact p.elim

/-! list(xs), tuple(xs) -/
def bList : List W → Store → R (List W)
  | [.scr l], S => .ok (l.map .int) S
  | [w], S => match seqW S w with
    | some l => .ok l S
    | none => .bad
  | _, _ => .bad
def bTuple : List W → Store → R W
  | [w], S => match seqW S w with
    | some l => .ok (.tup l) S
    | none => .bad
  | _, _ => .bad
theorem c_list (hK : X.K = G.K) : CallR X (.type "list") (rCF G E bList) := by
  intro pins s σ H xs us Q I r ⟨A, B, S, ws, rs, rw', p⟩
  unfold bList at p
  split at p
  · rename_i l
    obtain ⟨v, rfl, r1⟩ := rw'.one_inv
    cases r1 with
    | scr h1 =>
      refine call_list_of pins s σ H _ us Q I r ⟨_, _, rfl, .inl ?_, newF p rs RWs.of_ints⟩
      rcases h1 with ⟨_, _, h⟩ | h
      · exact .inl h
      · exact .inr (by rw [hK]; exact h)
  · split at p
    · rename_i w l hl
      obtain ⟨v, rfl, r1⟩ := rw'.one_inv
      obtain ⟨a, vs, rfl, hq, q⟩ := seq_at rs hl r1
      exact call_list_of pins s σ H _ us Q I r ⟨a, vs, rfl, hq.elim (fun h => .inl (.inl h)) (fun h => .inr (SqT.of h)), newF p rs q⟩
    · exact p.elim
  · exact p.elim
theorem c_tuple : CallR X (.type "tuple") (rC G E bTuple) := by
  intro pins s σ H xs us Q I r ⟨A, B, S, ws, rs, rw', p⟩
  unfold bTuple at p
  split at p
  · rename_i w
    split at p
    · rename_i l hl
      obtain ⟨v, rfl, r1⟩ := rw'.one_inv
      cases w with
      | tup l' =>
        cases hl
        cases r1 with
        | tup h1 h2 h3 h4 => exact call_tuple_of pins s σ H _ us Q I r ⟨_, _, rfl, .inr ⟨SqT.of h3, p A H _ .refl rs (.tup h1 h2 h3 h4)⟩⟩
      | _ =>
        obtain ⟨a, vs, rfl, hq, q⟩ := seq_at rs hl r1
        rcases hq with hq | hq
        · exact call_tuple_of pins s σ H _ us Q I r ⟨a, vs, rfl, .inl ⟨.inl hq, newT p rs q⟩⟩
        · have nt : ∀ {w : W}, (∀ t, w ≠ .tup t) → seqW S w = some l → RW G A B H w (.ref a) → ∃ vs, Rd H a (.lst vs) ∧ RWs G A B H l vs := by
            intro w hw h1 h2
            cases h2 with
            | tup => exact (hw _ rfl).elim
            | lst n m e z => cases h1; exact ⟨_, .inl e, z⟩
            | scr e => cases h1
            | ref ha =>
              simp only [seqW] at h1
              split at h1
              · rename_i l' e
                cases h1
                obtain ⟨vs, e2, z⟩ := rs.at e ha
                exact ⟨vs, .inl e2, z⟩
              · cases h1
            | fn => cases h1
          obtain ⟨vs', h1, h2⟩ := nt (by intro t z; cases z) hl r1
          exact call_tuple_of pins s σ H _ us Q I r ⟨a, vs', rfl, .inl ⟨.inl h1, newT p rs h2⟩⟩
    · exact p.elim
  · exact p.elim
/-! list(range(..)), tuple(range(..)) -/
def fRg (b : Nat → Bool) (m : IX) : AX := fun env S => (m env S).bind fun lc S1 => if lc.1.length ≤ big then .ok lc.1 S1 else .bad
end
end QP

set_option Elab.async false
set_option linter.all false
set_option maxRecDepth 100000
set_option maxHeartbeats 4000000
/-! More of built-ins: a tuple times an int, isinstance, sorted. -/
namespace QP
open PySem PySem.Spec PyProof.Rows L2
/-- t * k where t is handed back as it is: t empty, or k = 1 -/
theorem tuple_mulS (l : Addr) (items : Array Value) (n : Nat) (dd : Option Addr) (sl : Array (Option Value)) (x : Int) (u : Tok) (c0 : (decide (x < -(2 ^ 63)) || decide (x ≥ 2 ^ 63)) = false) (c1 : (items.isEmpty || x == 1) = true) :
    Meets (Builtin.«tuple.__mul__» ⟨[.ref l, .int x u], []⟩) (fun _ R s => s.heap.get? l = some { cls := .type "tuple", dict := dd, data := .seq items n, slots := sl } ∧ R (.ok (.ret (Value.ref l))) s) :=
  .of_wp fun prog w A R s h => by
    obtain ⟨hp, g, d, tk, os⟩ := s
    obtain ⟨hl, h⟩ := h
    have f1 := AutoSeq1.idx_int
    wp_walk using wpAny_loadPart' hl
    repeat (first
      | (refine wpAny_ite_false (decide_eq_false (by rw [c0]; exact Bool.false_ne_true)) ?_; wp_walk using wpAny_loadPart' hl)
      | (refine wpAny_ite_true (decide_eq_true (by rw [c1])) ?_; wp_walk using wpAny_loadPart' hl))
    exact ⟨_, rfl, h⟩
/-- t * k, k not above 0 -/
theorem tuple_mulZ (l : Addr) (items : Array Value) (n : Nat) (dd : Option Addr) (sl : Array (Option Value)) (x : Int) (u : Tok) (c0 : (decide (x < -(2 ^ 63)) || decide (x ≥ 2 ^ 63)) = false) (c1 : (items.isEmpty || x == 1) = false) (c2 : (decide (x ≤ 0) || items.isEmpty) = true) :
    Meets (Builtin.«tuple.__mul__» ⟨[.ref l, .int x u], []⟩) (fun _ R s => s.heap.get? l = some { cls := .type "tuple", dict := dd, data := .seq items n, slots := sl } ∧
      R (.ok (.ret (Value.ref s.heap.objs.size))) { s with heap := s.heap.push { cls := Value.type "tuple", data := Data.seq #[] }, toks := s.toks }) :=
  .of_wp fun prog w A R s h => by
    obtain ⟨hp, g, d, tk, os⟩ := s
    obtain ⟨hl, h⟩ := h
    have f1 := AutoSeq1.idx_int
    wp_walk using wpAny_loadPart' hl
    repeat (first
      | (refine wpAny_ite_false (decide_eq_false (by rw [c0]; exact Bool.false_ne_true)) ?_; wp_walk using wpAny_loadPart' hl)
      | (refine wpAny_ite_false (decide_eq_false (by rw [c1]; exact Bool.false_ne_true)) ?_; wp_walk using wpAny_loadPart' hl)
      | (refine wpAny_ite_true (decide_eq_true (by rw [c2])) ?_; wp_walk using wpAny_loadPart' hl)
      | (refine wpAny_ite_false (decide_eq_false (Nat.not_lt.mpr (Nat.zero_le _))) ?_; wp_walk using wpAny_loadPart' hl))
    exact ⟨_, rfl, h⟩
section
variable {X : Cx} {G : GP} {E : XK}
theorem mul_raw {pins : List (Addr × Obj)} {s : Shared} {σ : L2.St} {H : Hp} {l : Addr} {k : Int} {t : Tok} {xs : List V} {Q : VK} (I : L2.Inv X pins σ H s) (hT : SqT X.K H l xs) (h0 : -(2 ^ 63) ≤ k) (h1 : k < 2 ^ 63)
    (q1 : xs = [] ∨ k = 1 → Q (.ref l) H) (q2 : k ≤ 0 → ∀ p, H p = none → Q (.ref p) (upd H p (.tup []))) (h : xs = [] ∨ k = 1 ∨ k ≤ 0) : wpAny (model X.prog X.w) X.A (binaryOp .Mult (.ref l) (.int k t)) (EP X pins σ Q) X.xe s := by
  obtain ⟨its, r, ⟨⟨cls, dd, data, sl⟩, ho, hc, n, hd⟩, hs⟩ := I.tuple hT
  simp only at hc hd
  subst hc hd
  have hie : its.toArray.isEmpty = xs.isEmpty := by cases r <;> rfl
  have c0 : (decide (k < -(2 ^ 63)) || decide (k ≥ 2 ^ 63)) = false := by
    rw [decide_eq_false (by omega), decide_eq_false (by omega)] <;> rfl
  by_cases hz : xs = [] ∨ k = 1
  · have c1 : (its.toArray.isEmpty || k == 1) = true := by
      rw [hie]
      rcases hz with z | z
      · rw [z]; rfl
      · rw [z]; simp
    exact wpAny_binaryOp_repeat_ref (T := "tuple") (U := "int") (by decide) ⟨_, ho, rfl⟩ (fun s' => typeIs_int s' k t) noFill_tuple_mul F.fills_int_mul F.slot_int_rmul repeat_tuple F.slot_int_index.lookup
      (call_meets F.slot_int_rmul (typeIs_int s k t) F.entry_int_rmul (F.args_int_rmul_2 _ _) (int_rmul_tuple k t l its.toArray n dd sl)
        ⟨ho, rfl, ⟨_, ho, rfl⟩, call_meets F.slot_tuple_mul ⟨_, ho, rfl⟩ F.entry_tuple_mul (F.args_tuple_mul_2 _ _) (tuple_mulS l its.toArray n dd sl k t c0 c1) ⟨ho, .ref l, H, I, rfl, q1 hz⟩⟩)
  · have hne : xs ≠ [] := fun z => hz (.inl z)
    have hk1 : k ≠ 1 := fun z => hz (.inr z)
    have hk : k ≤ 0 := h.elim (fun z => (hne z).elim) fun h => h.elim (fun z => (hk1 z).elim) id
    have hi : its.toArray.isEmpty = false := by
      rw [hie]
      cases xs with
      | nil => exact (hne rfl).elim
      | cons => rfl
    have c1 : (its.toArray.isEmpty || k == 1) = false := by
      rw [hi, Bool.false_or]; exact beq_eq_false_iff_ne.mpr hk1
    have c2 : (decide (k ≤ 0) || its.toArray.isEmpty) = true := by rw [decide_eq_true hk]; rfl
    refine wpAny_binaryOp_repeat_ref (T := "tuple") (U := "int") (by decide) ⟨_, ho, rfl⟩ (fun s' => typeIs_int s' k t) noFill_tuple_mul F.fills_int_mul F.slot_int_rmul repeat_tuple F.slot_int_index.lookup
      (call_meets F.slot_int_rmul (typeIs_int s k t) F.entry_int_rmul (F.args_int_rmul_2 _ _) (int_rmul_tuple k t l its.toArray n dd sl)
        ⟨ho, rfl, ⟨_, ho, rfl⟩, call_meets F.slot_tuple_mul ⟨_, ho, rfl⟩ F.entry_tuple_mul (F.args_tuple_mul_2 _ _) (tuple_mulZ l its.toArray n dd sl k t c0 c1 c2) ⟨ho, ?_⟩⟩)
    refine ⟨.ref s.heap.objs.size, _, I.laid (t' := s.toks) (o := .tup []) (fun b ob q => Heap.get?_push_of_some _ q) (Nat.le_refl _) ?_, rfl, q2 hk _ (I.hok.fresh (Nat.le_refl _))⟩
    exact ⟨Nat.zero_le _, [], .nil, IsTup.new _ _⟩
/-- the product, of tuples too -/
def opMulT : W → W → Store → R W
  | .tup l, .int k, S => if l = [] ∨ k = 1 then (if -(2 ^ 63) ≤ k ∧ k < 2 ^ 63 then .ok (.tup l) S else .bad) else if k ≤ 0 then (if -(2 ^ 63) ≤ k then .ok (.tup []) S else .bad) else opMul (.tup l) (.int k) S
  | x, y, S => opMul x y S
theorem o_mulT : OpR X (binaryOp .Mult) (r2 G E opMulT) := by
  intro pins s σ H x y v u Q I rx ry ⟨A, B, S, wx, wy, rs, r1, r2, p⟩
  by_cases hd : ∃ l k, wx = .tup l ∧ wy = .int k
  · obtain ⟨l, k, rfl, rfl⟩ := hd
    simp only [opMulT] at p
    cases r1 with
    | tup h1 h2 h3 h4 =>
      cases r2
      cases rx
      obtain ⟨t, rfl⟩ := ry
      split at p
      · rename_i hl
        split at p
        · rename_i hk
          refine mul_raw I (SqT.of h3) hk.1 hk.2 (fun _ => p A H _ .refl rs (.tup h1 h2 h3 h4)) (fun hk0 q hq => ?_) ?_
          · rcases hl with hl | hl
            · subst hl
              exact newT p rs .nil q hq
            · omega
          · rcases hl with hl | hl
            · exact .inl ((RWs.nil_iff h4).mp hl)
            · exact .inr (.inl hl)
        · exact p.elim
      · rename_i hl
        split at p
        · rename_i hk
          split at p
          · rename_i hk2
            exact mul_raw I (SqT.of h3) hk2 (by omega) (fun z => (hl (z.imp (RWs.nil_iff h4).mpr id)).elim) (fun _ => newT p rs .nil) (.inr (.inr hk))
          · exact p.elim
        · exact o_mul pins s σ H (.ref _) (.int k) _ _ Q I rfl ⟨t, rfl⟩ ⟨A, B, S, .tup l, .int k, rs, .tup h1 h2 h3 h4, .int k, p⟩
  · have e : opMulT wx wy S = opMul wx wy S := by
      cases wx <;> first
        | rfl
        | (cases wy <;> first
            | rfl
            | exact (hd ⟨_, _, rfl, rfl⟩).elim)
    rw [e] at p
    exact o_mul pins s σ H x y v u Q I rx ry ⟨A, B, S, wx, wy, rs, r1, r2, p⟩

/-! ### isinstance -/
def kindW (S : Store) : W → Option String
  | .non => some "NoneType"
  | .bl _ => some "bool"
  | .int _ => some "int"
  | .str _ => some "str"
  | .tup _ => some "tuple"
  | .lst _ => some "list"
  | .ref n => match S[n]? with
    | some (.lst _) => some "list"
    | some (.dk _ _) => some "dict"
    | some (.dt false _) => some "dict"
    | _ => none
  | _ => none
def isOf (a b : String) : Option Bool := if a ∈ ["NoneType", "bool", "int", "str", "tuple", "list", "dict"] ∧ b ∈ ["bool", "int", "str", "tuple", "list", "dict"] then some (a == b || a == "bool" && b == "int") else none
def bIsInst : List W → Store → R W
  | [x, .ty b], S => match kindW S x with
    | some a => match isOf a b with
      | some r => .ok (.bl r) S
      | none => .bad
    | none => .bad
  | _, _ => .bad
theorem isOf_kit {K : PySem.W.Frag} {a b : String} {r : Bool} (h : isOf a b = some r) : PySem.W.kitOne K (.type a) (.type b) = some r := by
  refine kit_ty ?_
  unfold isOf at h
  split at h
  · rename_i hm
    obtain ⟨h1, h2⟩ := hm
    rw [← h]
    simp only [List.mem_cons, List.mem_nil_iff, or_false] at h1 h2
    rcases h1 with rfl | rfl | rfl | rfl | rfl | rfl | rfl <;> rcases h2 with rfl | rfl | rfl | rfl | rfl | rfl <;> decide +kernel
  · cases h
theorem c_isinst : CallR X (.builtin "isinstance") (rC G E bIsInst) := by
  intro pins s σ H xs us Q I r ⟨A, B, S, ws, rs, rw', p⟩
  unfold bIsInst at p
  split at p
  · rename_i x b
    split at p
    · rename_i a ha
      split at p
      · rename_i k hk
        obtain ⟨v, v', rfl, r1, r2⟩ := rw'.two_inv
        cases r2
        have ty : TyX X.K H v (.type a) := by
          cases r1 with
          | non => cases ha; exact .base .non
          | bl b => cases ha; exact .base (.bl b)
          | int b => cases ha; exact .base (.int b)
          | str b => cases ha; exact .base (.str b)
          | tup h1 h2 h3 h4 => cases ha; exact .base (.tup h3)
          | lst h1 h2 h3 h4 => cases ha; exact .base (.lst h3)
          | scr h1 => cases ha
          | ref hn =>
            simp only [kindW] at ha
            split at ha
            · rename_i l hl
              cases ha
              obtain ⟨vs, e, q⟩ := rs.at hl hn
              exact .base (.lst e)
            · rename_i lock kvs hl
              cases ha
              obtain ⟨ks, e, q⟩ := rs.at hl hn
              split at e
              · obtain ⟨o, e⟩ := e; exact .fDict e
              · exact .base (.dK e)
            · rename_i kvs hl
              cases ha
              obtain ⟨ks, e, q⟩ := rs.at hl hn
              rw [if_neg (by decide)] at e
              exact .base (.dT e)
            · cases ha
          | ty n => cases ha
          | fn n => cases ha
        exact call_isi pins s σ H _ us Q I r ⟨v, .ty b, .type a, .type b, k, rfl, .ty b, ty, isOf_kit hk, p A H _ .refl rs (.bl _)⟩
      · exact p.elim
    · exact p.elim
  · exact p.elim

/-! ### list(range(..)), tuple(range(..)) -/
def fRange (m k : EX) : AX := fun env S => (m env S).bind fun w S1 => (k env S1).bind fun u S2 => match w, u with
  | .int i, .int j => if -(2 ^ 62) ≤ i ∧ i < 2 ^ 62 ∧ -(2 ^ 62) ≤ j ∧ j < 2 ^ 62 ∧ (j - i).toNat ≤ big then .ok (rngW i (j - i).toNat) S2 else .bad
  | _, _ => .bad
def eRange (m k : EX) : EX := fun env S => (m env S).bind fun w S1 => (k env S1).bind fun u S2 => match w, u with
  | .int i, .int j => if -(2 ^ 62) ≤ i ∧ i < 2 ^ 62 ∧ -(2 ^ 62) ≤ j ∧ j < 2 ^ 62 ∧ (j - i).toNat ≤ big then .ok (.tup (rngW i (j - i).toNat)) S2 else .bad
  | _, _ => .bad
theorem rng_R {A B : List Addr} {H : Hp} {a b : Int} : RWs G A B H (rngW a (b - a).toNat) (rgV a b) := by
  unfold rngW rgV
  induction (List.range (b - a).toNat) with
  | nil => exact .nil
  | cons i l ih => exact .cons (.int _) ih
variable {a b : Expr} {m k : EX} {p p2 pos pos2 : Pos}
theorem f_listRg2 (hc : X.calm = true) (hm : X.mg "list" = none) (hm2 : X.mg "range" = none) (ha : PM X G E a m) (hb : PM X G E b k) (hg : Gl X "list" := by rfl) (hg2 : Gl X "range" := by rfl) (h1 : starEach [a, b] X.env = (false, eval a X.env) :: starEach [b] X.env := by rfl) (h2 : starEach [b] X.env = (false, eval b X.env) :: starEach [] X.env := by rfl)
    (hp : (backTo pos2 (starEach [b] X.env)).any (·.1) = false := by rfl) (na : starEach [.Call (.Name "range" p2) [a, b] [] pos2] X.env = (false, eval (.Call (.Name "range" p2) [a, b] [] pos2) X.env) :: starEach [] X.env := by rfl) :
    PF X G E (.Call (.Name "list" p) [.Call (.Name "range" p2) [a, b] [] pos2] [] pos) (fRange m k) := (pe_listRg hc hg hm (prg_2 hg2 hm2 ha hb h1 h2 hp) na).weak fun σ H Q ⟨A, B, env, S, rs, re, p⟩ =>
  ⟨A, B, env, S, rs, re, Post.bindF p fun w S1 A1 H1 v ew e1 rs1 r1 p1 => ⟨A1, B, env, S1, rs1, re.ext e1, Post.bindF p1 fun u S2 A2 H2 v2 eu e2 rs2 r2 p2 => by
    cases r1 with
    | int i => cases r2 with
      | int j =>
        simp only at p2
        split at p2
        · rename_i hj
          obtain ⟨j1, j2, j3, j4, j5⟩ := hj
          exact ⟨i, j, rfl, rfl, ⟨j1, j2, j3, j4, j5⟩, newF p2 rs2 rng_R⟩
        · exact p2.elim
      | _ => exact p2.elim
    | _ => exact p2.elim⟩⟩
theorem m_tupRg2 (hc : X.calm = true) (hm : X.mg "tuple" = none) (hm2 : X.mg "range" = none) (ha : PM X G E a m) (hb : PM X G E b k) (hg : Gl X "tuple" := by rfl) (hg2 : Gl X "range" := by rfl) (h1 : starEach [a, b] X.env = (false, eval a X.env) :: starEach [b] X.env := by rfl) (h2 : starEach [b] X.env = (false, eval b X.env) :: starEach [] X.env := by rfl)
    (hp : (backTo pos2 (starEach [b] X.env)).any (·.1) = false := by rfl) (na : starEach [.Call (.Name "range" p2) [a, b] [] pos2] X.env = (false, eval (.Call (.Name "range" p2) [a, b] [] pos2) X.env) :: starEach [] X.env := by rfl) :
    PM X G E (.Call (.Name "tuple" p) [.Call (.Name "range" p2) [a, b] [] pos2] [] pos) (eRange m k) := (pe_tupRg hc hg hm (prg_2 hg2 hm2 ha hb h1 h2 hp) na).weak fun σ H Q ⟨A, B, env, S, rs, re, p⟩ =>
  ⟨A, B, env, S, rs, re, Post.bind p fun w S1 A1 H1 v ew e1 rs1 r1 p1 => ⟨A1, B, env, S1, rs1, re.ext e1, Post.bind p1 fun u S2 A2 H2 v2 eu e2 rs2 r2 p2 => by
    cases r1 with
    | int i => cases r2 with
      | int j =>
        simp only at p2
        split at p2
        · rename_i hj
          obtain ⟨j1, j2, j3, j4, j5⟩ := hj
          exact ⟨i, j, rfl, rfl, ⟨j1, j2, j3, j4, j5⟩, newT p2 rs2 rng_R⟩
        · exact p2.elim
      | _ => exact p2.elim
    | _ => exact p2.elim⟩⟩
theorem f_listRg1 (hc : X.calm = true) (hm : X.mg "list" = none) (hm2 : X.mg "range" = none) (ha : PM X G E a m) (hg : Gl X "list" := by rfl) (hg2 : Gl X "range" := by rfl) (h1 : starEach [a] X.env = (false, eval a X.env) :: starEach [] X.env := by rfl)
    (na : starEach [.Call (.Name "range" p2) [a] [] pos2] X.env = (false, eval (.Call (.Name "range" p2) [a] [] pos2) X.env) :: starEach [] X.env := by rfl) :
    PF X G E (.Call (.Name "list" p) [.Call (.Name "range" p2) [a] [] pos2] [] pos) (fRange (eC (.int 0)) m) := (pe_listRg hc hg hm (prg_1 hg2 hm2 ha h1) na).weak fun σ H Q ⟨A, B, env, S, rs, re, p⟩ =>
  ⟨A, B, env, S, rs, re, Post.bindF (show PostF G A B H E Q ((m env S).bind fun u S2 => match W.int 0, u with
      | .int i, .int j => if -(2 ^ 62) ≤ i ∧ i < 2 ^ 62 ∧ -(2 ^ 62) ≤ j ∧ j < 2 ^ 62 ∧ (j - i).toNat ≤ big then .ok (rngW i (j - i).toNat) S2 else .bad
      | _, _ => .bad) from p) fun u S2 A2 H2 v2 eu e2 rs2 r2 p2 => by
    cases r2 with
    | int j =>
      simp only at p2
      split at p2
      · rename_i hj
        obtain ⟨j1, j2, j3, j4, j5⟩ := hj
        exact ⟨j, rfl, ⟨j1, j2, j3, j4, j5⟩, newF p2 rs2 rng_R⟩
      · exact p2.elim
    | _ => exact p2.elim⟩
theorem m_tupRg1 (hc : X.calm = true) (hm : X.mg "tuple" = none) (hm2 : X.mg "range" = none) (ha : PM X G E a m) (hg : Gl X "tuple" := by rfl) (hg2 : Gl X "range" := by rfl) (h1 : starEach [a] X.env = (false, eval a X.env) :: starEach [] X.env := by rfl)
    (na : starEach [.Call (.Name "range" p2) [a] [] pos2] X.env = (false, eval (.Call (.Name "range" p2) [a] [] pos2) X.env) :: starEach [] X.env := by rfl) :
    PM X G E (.Call (.Name "tuple" p) [.Call (.Name "range" p2) [a] [] pos2] [] pos) (eRange (eC (.int 0)) m) := (pe_tupRg hc hg hm (prg_1 hg2 hm2 ha h1) na).weak fun σ H Q ⟨A, B, env, S, rs, re, p⟩ =>
  ⟨A, B, env, S, rs, re, Post.bind (show Post G (relW G) A B H E Q ((m env S).bind fun u S2 => match W.int 0, u with
      | .int i, .int j => if -(2 ^ 62) ≤ i ∧ i < 2 ^ 62 ∧ -(2 ^ 62) ≤ j ∧ j < 2 ^ 62 ∧ (j - i).toNat ≤ big then .ok (.tup (rngW i (j - i).toNat)) S2 else .bad
      | _, _ => .bad) from p) fun u S2 A2 H2 v2 eu e2 rs2 r2 p2 => by
    cases r2 with
    | int j =>
      simp only at p2
      split at p2
      · rename_i hj
        obtain ⟨j1, j2, j3, j4, j5⟩ := hj
        exact ⟨j, rfl, ⟨j1, j2, j3, j4, j5⟩, newT p2 rs2 rng_R⟩
      · exact p2.elim
    | _ => exact p2.elim⟩
end
end QP

set_option Elab.async false
set_option linter.all false
set_option maxRecDepth 100000
set_option maxHeartbeats 4000000
/-! sorted. -/
namespace QP
open PySem PySem.Spec PyProof.Rows L2
/-! ### sorting by insertion -/
section
variable {α : Type}
def insB (lt : α → α → Bool) (x : α) : List α → List α
  | [] => [x]
  | y :: r => if lt y x = true then y :: insB lt x r else x :: y :: r
def sortB (lt : α → α → Bool) : List α → List α
  | [] => []
  | x :: r => insB lt x (sortB lt r)
theorem insB_perm (lt : α → α → Bool) (x : α) : ∀ l : List α, (insB lt x l).Perm (x :: l)
  | [] => .refl _
  | y :: r => by
    simp only [insB]
    split
    · exact ((insB_perm lt x r).cons y).trans (.swap x y r)
    · exact .refl _
theorem sortB_perm (lt : α → α → Bool) : ∀ l : List α, (sortB lt l).Perm l
  | [] => .refl _
  | x :: r => (insB_perm lt x _).trans ((sortB_perm lt r).cons x)
theorem insB_srtd {lt : α → α → Bool} (O : SrtO.Swo lt) (x : α) : ∀ {l : List α}, SrtO.Srtd lt l → SrtO.Srtd lt (insB lt x l)
  | [], _ => SrtO.srtd_one x
  | y :: r, h => by
    simp only [insB]
    obtain ⟨h1, h2⟩ := List.pairwise_cons.mp h
    split
    · rename_i hl
      refine List.pairwise_cons.mpr ⟨fun z hz => ?_, insB_srtd O x h2⟩
      rcases List.mem_cons.mp ((insB_perm lt x r).mem_iff.mp hz) with e | hz
      · rw [e]; exact O.asym _ _ hl
      · exact h1 z hz
    · rename_i hl
      have hl : lt y x = false := by cases e : lt y x <;> simp_all
      refine List.pairwise_cons.mpr ⟨fun z hz => ?_, h⟩
      rcases List.mem_cons.mp hz with e | hz
      · rw [e]; exact hl
      · exact O.tr _ _ _ hl (h1 z hz)
theorem sortB_srtd {lt : α → α → Bool} (O : SrtO.Swo lt) : ∀ l : List α, SrtO.Srtd lt (sortB lt l)
  | [] => .nil
  | x :: r => insB_srtd O x (sortB_srtd O r)
end
abbrev ltI (a b : Int) : Bool := decide (a < b)
abbrev sortI : List Int → List Int := sortB ltI
abbrev sortP : List (Int × Int) → List (Int × Int) := sortB SrtO.lexB
theorem swoI : SrtO.Swo ltI := ⟨fun x y h => by simp only [ltI, decide_eq_true_eq, decide_eq_false_iff_not] at *; omega, fun x y z h1 h2 => by simp only [ltI, decide_eq_false_iff_not] at *; omega⟩
theorem swoP : SrtO.Swo SrtO.lexB := by
  refine ⟨fun x y h => ?_, fun x y z h1 h2 => ?_⟩
  · have a := SrtO.lexB_iff.mp h
    refine SrtO.lexB_no.mpr ?_
    omega
  · have a := SrtO.lexB_no.mp h1
    have b := SrtO.lexB_no.mp h2
    refine SrtO.lexB_no.mpr ?_
    omega
theorem sortI_uniq {a b : List Int} (hp : a.Perm b) (h : a.Pairwise (· ≤ ·)) : a = sortI b := by
  refine List.Perm.eq_of_pairwise (le := fun x y => x ≤ y) (fun x y _ _ h1 h2 => Int.le_antisymm h1 h2) h ?_ (hp.trans (sortB_perm ltI b).symm)
  refine (sortB_srtd swoI b).imp fun {x y} h => ?_
  simp only [ltI, decide_eq_false_iff_not] at h
  omega
theorem sortP_uniq {a b : List (Int × Int)} (hp : a.Perm b) (h : SrtO.Srtd SrtO.lexB a) : a = sortP b := by
  refine List.Perm.eq_of_pairwise (le := fun x y => SrtO.lexB y x = false) (fun x y _ _ h1 h2 => ?_) h (sortB_srtd swoP b) (hp.trans (sortB_perm _ b).symm)
  have a := SrtO.lexB_no.mp h1
  have b := SrtO.lexB_no.mp h2
  exact Prod.ext (by omega) (by omega)

/-! ### pairs as values -/
def pairW (p : Int × Int) : W := .tup [.int p.1, .int p.2]
def allP : List W → Option (List (Int × Int))
  | [] => some []
  | .tup [.int i, .int j] :: r => (allP r).map ((i, j) :: ·)
  | _ :: _ => none
theorem allP_eq (l : List W) : ∀ {ps : List (Int × Int)}, allP l = some ps → l = ps.map pairW := by
  fun_induction allP l with
  | case1 => intro ps h; cases h; rfl
  | case2 i j r ih =>
    intro ps h
    obtain ⟨a, h1, h2⟩ := Option.map_eq_some_iff.mp h
    subst h2
    rw [ih h1]; rfl
  | case3 => intro ps h; cases h
theorem allP_pairs : ∀ ps : List (Int × Int), allP (ps.map pairW) = some ps
  | [] => rfl
  | p :: r => by simp only [List.map_cons, pairW, allP, allP_pairs r, Option.map_some]
/-- the two ints of a tracked pair -/
def kOf (H : Hp) : V → Int × Int
  | .ref a => match H a with
    | some (.tup [.int i, .int j]) => (i, j)
    | _ => (0, 0)
  | _ => (0, 0)
section
variable {G : GP} {A B : List Addr} {H : Hp}
/-- v is such a pair -/
def IsPr (A B : List Addr) (H : Hp) (v : V) : Prop := ∃ t i j, v = .ref t ∧ t ∉ A ∧ t ∉ B ∧ H t = some (.tup [.int i, .int j])
theorem pairs_V : ∀ {ps : List (Int × Int)} {vs : List V}, RWs G A B H (ps.map pairW) vs → (∀ v ∈ vs, IsPr A B H v) ∧ vs.map (kOf H) = ps
  | [], _, r => by cases r; exact ⟨fun v h => (by cases h), rfl⟩
  | p :: ps, _, r => by
    cases r with
    | cons a b =>
      obtain ⟨h1, h2⟩ := pairs_V b
      cases a with
      | tup n m e q =>
        obtain ⟨x, y, rfl, rx, ry⟩ := RWs.two_inv q
        cases rx
        cases ry
        refine ⟨fun v hv => ?_, ?_⟩
        · rcases List.mem_cons.mp hv with z | z
          · exact ⟨_, _, _, z, n, m, e⟩
          · exact h1 v z
        · rw [List.map_cons, h2]
          simp only [kOf, e]
theorem pairs_W : ∀ {vs : List V}, (∀ v ∈ vs, IsPr A B H v) → RWs G A B H ((vs.map (kOf H)).map pairW) vs
  | [], _ => .nil
  | v :: vs, h => by
    refine .cons ?_ (pairs_W fun u hu => h u (List.mem_cons_of_mem _ hu))
    obtain ⟨t, i, j, rfl, n, m, e⟩ := h v List.mem_cons_self
    simp only [kOf, e, pairW]
    exact .tup n m e (.cons (.int _) (.cons (.int _) .nil))
end

/-! ### sorted(d), d a dict whose keys are pairs -/
section
variable {prog : Program} {w : World} {A : Around} {E : Value → Shared → Prop} {s : Shared}
theorem sorted_src {T : String} {r d : Addr} {n : Nat} {P : Nat → Value → Prop} {OK : Heap → Prop} {k : Value → Int × Int} {Q : Value → Shared → Prop} (K : PySem.W.KdlSrc prog w T r d n P OK) (hh : A.handled = none) (hok : OK s.heap) (hn : n ≤ sizeLine)
    (hp : ∀ acc : Array Value, ItemsOf P acc n → ∀ v ∈ acc.toList, Srt.IsPair s.heap v (k v).1 (k v).2)
    (h : ∀ (hm h' : Heap) (tk : Nat) (q : Addr) (acc : Array Value) (out : List Value), ItemsOf P acc n → SrtO.Srtd (fun v u => SrtO.lexB (k v) (k u)) out → SrtO.Stb (fun v u => SrtO.lexB (k v) (k u)) out acc.toList →
      (∀ b o, s.heap.get? b = some o → hm.get? b = some o) → (∀ b o, hm.get? b = some o → h'.get? b = some o) → hm.objs.size ≤ q → (∃ m, h'.get? q = some (seqObj "list" out.toArray m)) → Q (.ref q) { s with heap := h', toks := tk }) :
    wpAny (model prog w) A (call (.builtin "sorted") [.ref r]) Q E s := by
  refine Calls.call_function_entry kind_sorted plain_sorted entry_sorted (args_sorted1 _) ?_
  unfold Builtin.«sorted»
  refine wpAny_bind (m := checkCount "sorted" 1 1 _) (wpAny_pure ?_)
  refine wpAny_bind (PySem.W.kdu_collect (A := A.in1) K hh hok hn fun h' tk acc hk hacc => ?_)
  have hal : acc.toList.length ≤ sizeLine := by rw [Array.length_toList, hacc.1]; exact hn
  refine wpAny_bind (wpAny_newList ?_ hal)
  have hoL : (h'.push (seqObj "list" acc.toList.toArray 0)).get? h'.objs.size = some (seqObj "list" acc.toList.toArray 0) := Heap.get?_push_size _ rfl
  have keep : ∀ b o, h'.get? b = some o → b ≠ h'.objs.size ∧ (h'.push (seqObj "list" acc.toList.toArray 0)).get? b = some o := fun b o e =>
    ⟨Nat.ne_of_lt (Heap.lt_size e), Heap.get?_push_of_some _ e⟩
  show wpAny _ _ _ _ _ { s with heap := h'.push (seqObj "list" acc.toList.toArray 0), toks := tk }
  refine wpAny_bind (wpAny_holding (wpAny_call_entry slot_list_sort ⟨_, hoL, rfl⟩ entry_list_sort (SrtO.list_sort_ord (SrtO.swo_lex k) hoL hal (fun h2 => ?_) fun out hs hb => ⟨_, rfl, ?_⟩) (args_list_sort _)))
  · refine SrtO.pairs_sortableO (s := { s with heap := h'.push (seqObj "list" acc.toList.toArray 0), toks := tk }) (by omega) (fun v hm => (hp acc hacc v hm).keeps fun b o e _ => (keep b o (hk b o e)).2) fun o e => ?_
    have e' : some o = some (seqObj "list" acc.toList.toArray 0) := e.symm.trans hoL
    cases e'
    intro c
    exact absurd (Value.type.inj c) (by decide)
  · refine wpAny_pure ⟨_, rfl, h h' _ _ _ acc out hacc hs hb hk (fun b o e => ?_) (Nat.le_refl _) ?_⟩
    · rw [sortedHeap_old (keep b o e).1 (Heap.lt_size (keep b o e).2)]
      exact (keep b o e).2
    · exact sortedHeap_at (vs := acc.toList) (out := out.toArray) hoL
end
section
variable {X : Cx} {G : GP} {E : XK}
def keyP : List Key → Option (Int × Int)
  | [.inl i, .inl j] => some (i, j)
  | _ => none
def keysP {α : Type} : List (List Key × α) → Option (List (Int × Int))
  | [] => some []
  | p :: r => match keyP p.1, keysP r with
    | some k, some ks => some (k :: ks)
    | _, _ => none
/-- sorted: ints, pairs of ints, a dict with such pairs as keys -/
def bSorted : List W → Store → R (List W)
  | [w], S => match w with
    | .ref n => match S[n]? with
      | some (.dt _ kvs) => match keysP kvs with
        | some ks => .ok ((sortP ks).map pairW) S
        | none => .bad
      | some (.lst l) => match allI l, allP l with
        | some ns, _ => .ok ((sortI ns).map .int) S
        | _, some ps => .ok ((sortP ps).map pairW) S
        | _, _ => .bad
      | _ => .bad
    | .lst l => match allI l, allP l with
      | some ns, _ => .ok ((sortI ns).map .int) S
      | _, some ps => .ok ((sortP ps).map pairW) S
      | _, _ => .bad
    | _ => .bad
  | _, _ => .bad
theorem keyP_V {k : List Key} {p : Int × Int} (h : keyP k = some p) : k.map kV = [V.int p.1, V.int p.2] := by
  unfold keyP at h
  split at h
  · cases h; rfl
  · cases h
theorem keysP_V : ∀ {ks : List (List Key × V)} {ps : List (Int × Int)} {xs : List (List Key × Addr × Value)} {H : Hp}, keysP ks = some ps →
    Paired (fun (p : List Key × V) (q : List Key × Addr × Value) => p.1 = q.1 ∧ H q.2.1 = some (.tup (p.1.map kV)) ∧ L2.RelV p.2 q.2.2) ks xs → (xs.map fun x => V.ref x.2.1).map (kOf H) = ps ∧ ∀ x ∈ xs, ∃ i j, H x.2.1 = some (.tup [.int i, .int j])
  | _, _, _, _, h, .nil => by cases h; exact ⟨rfl, fun x hx => (by cases hx)⟩
  | _, _, _, _, h, .cons a b => by
    simp only [keysP] at h
    split at h
    · rename_i k ks e1 e2
      cases h
      obtain ⟨h1, h2⟩ := keysP_V e2 b
      have ek := keyP_V e1
      have hq := a.2.1
      rw [ek] at hq
      refine ⟨?_, fun x hx => ?_⟩
      · rw [List.map_cons, List.map_cons, h1]
        simp only [kOf, hq]
      · rcases List.mem_cons.mp hx with z | z
        · rw [z]; exact ⟨_, _, hq⟩
        · exact h2 x z
    · cases h
theorem keysP_R {A B : List Addr} {H : Hp} {kvs : List (List Key × W)} {ks : List (List Key × V)} (r : RKV G A B H kvs ks) : keysP kvs = keysP ks := by
  unfold RKV at r
  induction r with
  | nil => rfl
  | cons h t ih => simp only [keysP, ih, h.1]
/-- a tuple is nobody's to change -/
theorem tup_free {A B : List Addr} {H : Hp} {S : Store} (rs : RS G A B H S) {a : Addr} {xs : List V} (h : H a = some (.tup xs)) : a ∉ A := fun z => by
  obtain ⟨n, hn⟩ := List.getElem?_of_mem z
  have hl : n < S.length := by rw [← rs.len]; exact (List.getElem?_eq_some_iff.mp hn).1
  have q := rs.ob n a _ hn (List.getElem?_eq_getElem hl)
  cases e : S[n] with
  | lst l => rw [e] at q; obtain ⟨vs, h', _⟩ := q; rw [h] at h'; cases h'
  | dk lock kvs =>
    rw [e] at q
    obtain ⟨vs, h', _⟩ := q
    split at h'
    · obtain ⟨o, h'⟩ := h'; rw [h] at h'; cases h'
    · rw [h] at h'; cases h'
  | dt lock kvs =>
    rw [e] at q
    obtain ⟨vs, h', _⟩ := q
    split at h'
    · obtain ⟨o, h'⟩ := h'; rw [h] at h'; cases h'
    · rw [h] at h'; cases h'
theorem c_sorted (hc : X.calm = true) : CallR X (.builtin "sorted") (rCF G E bSorted) := by
  intro pins s σ H xs us Q I r ⟨A, B, S, ws, rs, rw', p⟩
  have lists : ∀ {w : W} {v : V} {l : List W}, lstW S w = some l → RW G A B H w v → xs = [v] → PostF G A B H E Q (match allI l, allP l with
      | some ns, _ => .ok ((sortI ns).map .int) S
      | _, some ps => .ok ((sortP ps).map pairW) S
      | _, _ => .bad) → wpAny (model X.prog X.w) X.A (call (.builtin "sorted") us) (EP X pins σ Q) X.xe s := by
    intro w v l hl r1 hx p
    subst hx
    obtain ⟨a, vs, rfl, hq, q⟩ := lst_at rs hl r1
    split at p
    · rename_i ns hns
      have e := allI_eq hns
      subst e
      rw [q.ints] at hq
      refine cr_sortedI pins s σ H _ us Q I r ⟨a, ns, rfl, SqL.of hq, fun ns' t h1 h2 ht => ?_⟩
      rw [sortI_uniq h1 h2]
      exact newF p rs RWs.of_ints t ht
    · rename_i ps hps _
      have e := allP_eq _ hps
      subst e
      obtain ⟨h1, h2⟩ := pairs_V q
      refine cr_sortedPO pins s σ H _ us Q I r ⟨a, vs, kOf H, rfl, SqL.of hq, fun x hx => ?_, fun ys t k1 k2 ht => ?_⟩
      · obtain ⟨t, i, j, rfl, _, _, e⟩ := h1 x hx
        exact ⟨t, rfl, by simp only [kOf, e]⟩
      · have k3 : ys.map (kOf H) = sortP ps := sortP_uniq (by rw [← h2]; exact k2.perm.map _) (SrtO.srtd_map k1)
        have k4 : RWs G A B H ((ys.map (kOf H)).map pairW) ys := pairs_W fun v hv => h1 v (k2.perm.mem_iff.mp hv)
        rw [k3] at k4
        exact newF p rs k4 t ht
    · exact p.elim
  unfold bSorted at p
  split at p
  · obtain ⟨v, rfl, r1⟩ := rw'.one_inv
    split at p
    · rename_i n
      split at p
      · rename_i lock kvs hS
        split at p
        · rename_i ps hps
          cases r1 with
          | ref ha =>
            obtain ⟨ks, hd, q⟩ := (rs.at hS ha).dtRd
            rw [keysP_R q] at hps
            have od : ObjOk X.prog X.w H s.heap _ (.dT ks) := hd.ok I.hok
            obtain ⟨z, hs, xs, pr, o, es, ep, ho, hx, hdt, he, hn⟩ := od
            obtain ⟨g1, g2⟩ := keysP_V hps pr
            have l1 : es.size = xs.length := size_of_entries he
            have l2 : ks.length = xs.length := Paired.length pr
            rw [Vals.ref1 r]
            have items : ∀ acc : Array Value, ItemsOf (fun i v => ∃ en : DictEntry, es[i]? = some en ∧ v = en.key) acc es.size → acc.toList = xs.map fun x => Value.ref x.2.1 := by
              intro acc it
              have hl : acc.toList.length = xs.length := by rw [Array.length_toList, it.1]; exact l1
              apply List.ext_getElem?
              intro j
              rw [List.getElem?_map]
              cases hj : acc.toList[j]? with
              | none =>
                have h1 := List.getElem?_eq_none_iff.mp hj
                rw [List.getElem?_eq_none (by omega)]
                all_goals rfl
              | some v =>
                obtain ⟨en, hen, hv⟩ := it.2 j v (by rw [← Array.getElem?_toList]; exact hj)
                have qe := entry_at he j
                rw [hen] at qe
                cases hb : xs[j]? with
                | none => rw [hb] at qe; exact nomatch (show some en = none from qe)
                | some b =>
                  rw [hb] at qe
                  have e2 : en = entryOfKey (tupleKind (mixKind X.prog X.w)) b := Option.some.inj qe
                  rw [hv, e2]
                  all_goals rfl
            have ispr : ∀ x ∈ xs, ∃ i j, H x.2.1 = some (.tup [.int i, .int j]) := g2
            have free : ∀ x ∈ xs, IsPr A B H (.ref x.2.1) := by
              intro x hx
              obtain ⟨i, j, e⟩ := g2 x hx
              refine ⟨_, i, j, rfl, tup_free rs e, fun zb => ?_, e⟩
              obtain ⟨us, e2⟩ := rs.res _ zb
              rw [e] at e2; cases e2
            refine sorted_src (k := fun u => kOf H (backV u)) (kdl_raw hs hx hdt) (I.ok.hd hc) ho (by omega) (fun acc it v hv => ?_) fun hm h' tk t acc out it hs1 hb kp kp2 ht he' => ?_
            · rw [items acc it] at hv
              obtain ⟨x, hx1, rfl⟩ := List.mem_map.mp hv
              obtain ⟨i, j, e⟩ := g2 x hx1
              obtain ⟨_, its2, r2, o2, ho2, hc2, n2, hd2⟩ := I.hok _ _ e
              obtain ⟨u1, u2, rfl, ri, rj⟩ := vals2 r2
              obtain ⟨t1, rfl⟩ := ri
              obtain ⟨t2, rfl⟩ := rj
              simp only [backV, kOf, e]
              exact ⟨_, o2, t1, t2, n2, rfl, ho2, hc2, hd2⟩
            · rw [items acc it] at hb
              have hmm : ∀ u ∈ out, ∃ x ∈ xs, u = Value.ref x.2.1 := fun u hu => by
                obtain ⟨x, h1, h2⟩ := List.mem_map.mp (hb.perm.mem_iff.mp hu)
                exact ⟨x, h1, h2.symm⟩
              have k3 : (out.map backV).map (kOf H) = sortP ps := by
                refine sortP_uniq ?_ ?_
                · rw [← g1, List.map_map, List.map_map]
                  have := hb.perm.map fun u => kOf H (backV u)
                  rw [List.map_map] at this
                  exact this
                · rw [List.map_map]
                  exact SrtO.srtd_map hs1
              have k4 : RWs G A B H (((out.map backV).map (kOf H)).map pairW) (out.map backV) := pairs_W fun v hv => by
                obtain ⟨u, hu, rfl⟩ := List.mem_map.mp hv
                obtain ⟨x, hx1, rfl⟩ := hmm u hu
                exact free x hx1
              rw [k3] at k4
              obtain ⟨m, he'⟩ := he'
              have hlen : out.length ≤ sizeLine := by rw [hb.len, List.length_map]; omega
              have J : L2.Inv X pins σ H { s with heap := hm, toks := tk } := I.kept kp
              exact ⟨.ref t, upd H t (.lst (out.map backV)), J.laid (t' := tk) kp2 ht ⟨by rw [List.length_map]; exact hlen, out, m, vals_back fun u hu => let ⟨x, _, e⟩ := hmm u hu; ⟨_, e⟩, he'⟩, rfl, newF p rs k4 t (J.hok.fresh ht)⟩
        · exact p.elim
      · rename_i l hS
        exact lists (by simp only [lstW, hS]) r1 rfl p
      · exact p.elim
    · exact lists rfl r1 rfl p
    · exact p.elim
  · exact p.elim
end
end QP

set_option Elab.async false
set_option linter.all false
set_option maxRecDepth 100000
set_option maxHeartbeats 4000000
/-! Displays of dicts, three stores at once, small facts. -/
namespace QP
open PySem PySem.Spec PyProof.Rows L2

/-! ### three names at once -/
def sPar3 (i j l : Nat) (ma mb mc : EX) : SX := fun env S => Z.ofR (ma env S) fun w S1 => Z.ofR (mb env S1) fun u S2 => Z.ofR (mc env S2) fun t S3 => .nx (((env.set i (some w)).set j (some u)).set l (some t)) S3
section
variable {X : Cx} {G : GP} {E : XK} {pos : Pos}
theorem ms_par3 {i j l : Nat} {x y z : Str} {a b c : Expr} {ma mb mc : EX} {px py pz pt : Pos} {kt k2 pt2} (ha : PM X G E a ma) (hb : PM X G E b mb) (hcc : PM X G E c mc) (hc : X.calm = true) (hN : X.N.Nodup) (hi : X.N[i]? = some x := by rfl) (hj : X.N[j]? = some y := by rfl) (hl : X.N[l]? = some z := by rfl)
    (hij : i ≠ j := by decide) (hil : i ≠ l := by decide) (hjl : j ≠ l := by decide)
    (hx : X.env.scope.names.lookup x = some .local := by rfl) (hy : X.env.scope.names.lookup y = some .local := by rfl) (hz : X.env.scope.names.lookup z = some .local := by rfl)
    (hw : swappedStores [.Tuple [.Name x px, .Name y py, .Name z pz] kt pt] (.Tuple [a, b, c] k2 pt2) X.env = pure (some [x, y, z]) := by rfl)
    (hs : swapsWithSole [.Tuple [.Name x px, .Name y py, .Name z pz] kt pt] (.Tuple [a, b, c] k2 pt2) pos.line X.env = pure false := by rfl)
    (h1 : starEach (a :: [b, c]) X.env = (false, eval a X.env) :: starEach [b, c] X.env := by rfl) (h2 : starEach (b :: [c]) X.env = (false, eval b X.env) :: starEach [c] X.env := by rfl) (h3 : starEach (c :: []) X.env = (false, eval c X.env) :: starEach [] X.env := by rfl) :
    PMS X G E (.Assign [.Tuple [.Name x px, .Name y py, .Name z pz] kt pt] (.Tuple [a, b, c] k2 pt2) pos) (sPar3 i j l ma mb mc) :=
  (ps_par3 (i := i) (j := j) (l := l) hc hN hi hj hl hij hil hjl hx hy hz (pa_cons ha (pa_cons hb (pa_cons hcc pa_nil h3) h2) h1) hw hs).weak fun D σ H ⟨A, B, env, S, rs, re, p⟩ =>
    ⟨A, B, env, S, rs, re, PostS.bind p fun w S1 A1 H1 v _ e1 rs1 r1 p1 => ⟨A1, B, env, S1, rs1, re.ext e1, PostS.bind p1 fun u S2 A2 H2 v2 _ e2 rs2 r2 p2 =>
      ⟨A2, B, env, S2, rs2, re.ext (e1.trans e2), PostS.bind p2 fun t S3 A3 H3 v3 _ e3 rs3 r3 p3 =>
      ⟨v, v2, v3, rfl, p3 A3 H3 _ .refl rs3 ((((re.ext (e1.trans (e2.trans e3))).set (RW.ext (e2.trans e3) r1) i).set (RW.ext e3 r2) j).set r3 l)⟩⟩⟩⟩

/-! ### {k: v, ..} -/
def pairsM : List (EX × EX) → Env → Store → R (List (W × W))
  | [], _, S => .ok [] S
  | (k, v) :: r, env, S => (k env S).bind fun x S1 => (v env S1).bind fun y S2 => (pairsM r env S2).bind fun l S3 => .ok ((x, y) :: l) S3
def RPP (G : GP) : Rel (List (W × W)) (List (V × V)) := fun A B H l vs => Paired (fun p q => RW G A B H p.1 q.1 ∧ RW G A B H p.2 q.2) l vs
theorem RPP.ext {A A' B : List Addr} {H H' : Hp} (e : Ext A A' H H') {l : List (W × W)} {vs : List (V × V)} (r : RPP G A B H l vs) : RPP G A' B H' l vs := Paired.mapP r fun _ _ h => ⟨h.1.ext e, h.2.ext e⟩
def rdPP (G : GP) (E : XK) (p : EX × EX) : TE × TE := (rd G (relW G) E p.1, rd G (relW G) E p.2)
theorem pairs_rd : ∀ {ms : List (EX × EX)} {σ : L2.St} {H : Hp} {A B : List Addr} {env : Env} {S : Store} {Q : List (V × V) → Hp → Prop}, RS G A B H S → REnv G A B H env σ → Post G (RPP G) A B H E Q (pairsM ms env S) → tPairs (ms.map (rdPP G E)) σ H Q
  | [], σ, H, A, B, env, S, Q, rs, re, p => p A H [] .refl rs .nil
  | (k, v) :: r, σ, H, A, B, env, S, Q, rs, re, p => by
    refine ⟨A, B, env, S, rs, re, Post.bind p fun wx S1 A1 H1 x ex e1 rs1 r1 p1 => ⟨A1, B, env, S1, rs1, re.ext e1, Post.bind p1 fun wy S2 A2 H2 y ey e2 rs2 r2 p2 => ?_⟩⟩
    refine pairs_rd rs2 (re.ext (e1.trans e2)) (Post.bind p2 fun l S3 A3 H3 vs el e3 rs3 r3 p3 => ?_)
    exact p3 A3 H3 _ .refl rs3 (.cons ⟨RW.ext (e2.trans e3) r1, RW.ext e3 r2⟩ r3)
abbrev PMPs (X : Cx) (G : GP) (E : XK) (pos : Pos) (keys : List (Option Expr)) (values : List Expr) (ms : List (EX × EX)) : Prop := PPs X pos keys values (ms.map (rdPP G E))
theorem mps_nil : PMPs X G E pos [] [] [] := pps_nil
theorem mps_cons {k v : Expr} {ks : List (Option Expr)} {vs : List Expr} {mk mv : EX} {ms : List (EX × EX)} (hk : PM X G E k mk) (hv : PM X G E v mv) (hr : PMPs X G E pos ks vs ms) : PMPs X G E pos (some k :: ks) (v :: vs) ((mk, mv) :: ms) := pps_cons hk hv hr
def keyPs : List (W × W) → Option (List (Key × W))
  | [] => some []
  | p :: r => match keyW p.1, keyPs r with
    | some k, some l => some ((k, p.2) :: l)
    | _, _ => none
def mergeW (kvs more : List (Key × W)) : List (Key × W) := more.foldl (fun acc kv => putW acc kv.1 kv.2) kvs
theorem RKV.merge {A B : List Addr} {H : Hp} : ∀ {more : List (Key × W)} {rs : List (Key × V)} {kvs : List (Key × W)} {vs : List (Key × V)}, RKV G A B H more rs → RKV G A B H kvs vs → RKV G A B H (mergeW kvs more) (mergeK vs rs) := by
  intro more rs kvs vs r
  unfold RKV at r
  induction r generalizing kvs vs with
  | nil => intro q; exact q
  | @cons p q ps qs h t ih =>
    intro r0
    have e : RKV G A B H (putW kvs p.1 p.2) (putK vs q.1 q.2) := by
      have := r0.put p.1 h.2
      rw [← h.1]; exact this
    exact ih e
theorem keyPs_V {A B : List Addr} {H : Hp} : ∀ {l : List (W × W)} {vs : List (V × V)} {kvs : List (Key × W)}, RPP G A B H l vs → keyPs l = some kvs → ∃ ks : List (Key × V), vs = ks.map (fun kv => (kV kv.1, kv.2)) ∧ RKV G A B H kvs ks
  | [], _, _, r, h => by
    unfold RPP at r
    cases r
    cases h
    exact ⟨[], rfl, .nil⟩
  | p :: l, _, _, r, h => by
    unfold RPP at r
    cases r with
    | @cons _ q _ qs a b =>
      simp only [keyPs] at h
      split at h
      · rename_i k kvs e1 e2
        cases h
        obtain ⟨ks, rfl, rk⟩ := keyPs_V b e2
        refine ⟨(k, q.2) :: ks, ?_, .cons ⟨rfl, a.2⟩ rk⟩
        rw [List.map_cons]
        obtain ⟨q1, q2⟩ := q
        have := keyW_V a.1 e1
        simp only at this
        rw [this]
      · cases h
/-- keys ints and texts -/
def eDisp (ms : List (EX × EX)) : EX := fun env S => (pairsM ms env (S ++ [.dk false []])).bind fun ps S1 => match S1[S.length]?, keyPs ps with
  | some (.dk false []), some kvs => if kvs.length ≤ 15 then .ok (.ref S.length) (S1.set S.length (.dk false (mergeW [] kvs))) else .bad
  | _, _ => .bad
theorem m_disp {keys : List (Option Expr)} {values : List Expr} {ms : List (EX × EX)} (h : PMPs X G E pos keys values ms) (hall : keys.all (·.isSome) = true := by rfl) (hl : keys.length = values.length := by rfl) (h0 : keys ≠ [] := by exact List.cons_ne_nil _ _)
    (h15 : keys.length ≤ 15 := by decide) : PM X G E (.Dict keys values pos) (eDisp ms) := (pe_disp h hall hl h0 h15).weak fun σ H Q ⟨A, B, env, S, rs, re, p⟩ => fun q hq => by
  have eA : Ext A (A ++ [q]) H (upd H q (.dK [])) := Ext.newS hq
  have rs0 : RS G (A ++ [q]) B (upd H q (.dK [])) (S ++ [.dk false []]) := rs.newS hq ⟨[], by rw [if_neg (by decide)]; exact upd_same, .nil⟩
  have hA : (A ++ [q])[S.length]? = some q := by rw [List.getElem?_append_right (by rw [rs.len]; exact Nat.le_refl _), rs.len]; simp
  refine pairs_rd rs0 (re.ext eA) (Post.bind (Post.ext eA p) fun ps S1 A1 H1 vs _ e1 rs1 r1 p1 => ?_)
  split at p1
  · rename_i kvs hS hk
    split at p1
    · rename_i h15
      obtain ⟨ks, rfl, rk⟩ := keyPs_V r1 hk
      have hA1 := e1.get hA
      obtain ⟨zs, hz, hz2⟩ := rs1.at hS hA1
      rw [if_neg (by decide)] at hz
      cases hz2
      refine ⟨hz, ks, rfl, by rw [← rk.len]; exact h15, ?_⟩
      have hm := List.mem_of_getElem? hA1
      exact p1 A1 _ (.ref q) (Ext.set hm) (rs1.set hA1 ⟨_, by rw [if_neg (by decide)]; exact upd_same, (RKV.merge rk .nil).ext (Ext.set hm)⟩) (.ref hA1)
    · exact p1.elim
  · exact p1.elim
end

/-! ### in a dict, or in a list or tuple -/
def opInX (x y : W) (S : Store) : R W := match dGet S y x with
  | some o => .ok (.bl o.isSome) S
  | none => opIn x y S
def opNotInX (x y : W) (S : Store) : R W := match dGet S y x with
  | some o => .ok (.bl (!o.isSome)) S
  | none => opNotIn x y S
theorem RWo.isSome {G : GP} {A B : List Addr} {H : Hp} {o : Option W} {o' : Option V} (h : RWo G A B H o o') : o'.isSome = o.isSome := by
  cases o <;> cases o' <;> first | rfl | exact h.elim
section
variable {X : Cx} {G : GP} {E : XK}
theorem o_inX (hu : X.A.units + 65 < cLine) : OpR X (compareOp .In) (r2 G E opInX) := by
  intro pins s σ H x y v u Q I rx ry ⟨A, B, S, wx, wy, rs, r1, r2, p⟩
  simp only [opInX] at p
  cases hd : dGet S wy wx with
  | none => rw [hd] at p; exact o_in hu pins s σ H x y v u Q I rx ry ⟨A, B, S, wx, wy, rs, r1, r2, p⟩
  | some o =>
    rw [hd] at p
    obtain ⟨a, o', rfl, g, q⟩ := dGet_V rs r2 r1 hd
    cases (show u = Value.ref a from ry)
    exact d_in (by omega) I g rx fun s' I' => ⟨.bl o'.isSome, H, I', rfl, by rw [q.isSome]; exact p A H _ .refl rs (.bl _)⟩
theorem o_notinX (hu : X.A.units + 65 < cLine) : OpR X (compareOp .NotIn) (r2 G E opNotInX) := by
  intro pins s σ H x y v u Q I rx ry ⟨A, B, S, wx, wy, rs, r1, r2, p⟩
  simp only [opNotInX] at p
  cases hd : dGet S wy wx with
  | none => rw [hd] at p; exact o_notin hu pins s σ H x y v u Q I rx ry ⟨A, B, S, wx, wy, rs, r1, r2, p⟩
  | some o =>
    rw [hd] at p
    obtain ⟨a, o', rfl, g, q⟩ := dGet_V rs r2 r1 hd
    cases (show u = Value.ref a from ry)
    exact d_notIn (by omega) I g rx fun s' I' => ⟨.bl (!o'.isSome), H, I', rfl, by rw [q.isSome]; exact p A H _ .refl rs (.bl _)⟩
end

/-! ### nothing is promised -/
def fBad : List W → Store → R W := fun _ _ => .bad
theorem fn_bad {P : Program} {w : World} {K : PySem.W.Frag} {mg : Str → Option Value} {base : Heap} {G : GP} {k : Nat} {f : Addr} {fd : FuncData} {ps : List Str} : FnM P w K mg base G k f fd ps fBad :=
  ⟨fun vs H Q E ⟨A, B, S, ws, rs, r, h, p⟩ => p.elim, fun A outer s H args us vs Q E hr he hb hv ⟨A', B, S, ws, rs, r, h, p⟩ => p.elim⟩
theorem _root_.L2.Room.units1 {k : Nat} {A : Around} (r : Room k A) : A.units + 1 < cLine := by have := r.un; omega
theorem _root_.L2.Room.units65 {k : Nat} {A : Around} (r : Room k A) : A.units + 65 < cLine := by have := r.un; omega
theorem _root_.L2.Room.units64 {k : Nat} {A : Around} (r : Room k A) : A.units + 64 < cLine := by have := r.un; omega

/-! ### the built-in names -/
theorem bt_len : bootBuiltins "len" = some (.builtin "len") := by decide +kernel
theorem bt_abs : bootBuiltins "abs" = some (.builtin "abs") := by decide +kernel
theorem bt_max : bootBuiltins "max" = some (.builtin "max") := by decide +kernel
theorem bt_min : bootBuiltins "min" = some (.builtin "min") := by decide +kernel
theorem bt_sum : bootBuiltins "sum" = some (.builtin "sum") := by decide +kernel
theorem bt_all : bootBuiltins "all" = some (.builtin "all") := by decide +kernel
theorem bt_any : bootBuiltins "any" = some (.builtin "any") := by decide +kernel
theorem bt_sorted : bootBuiltins "sorted" = some (.builtin "sorted") := by decide +kernel
theorem bt_isinstance : bootBuiltins "isinstance" = some (.builtin "isinstance") := by decide +kernel
theorem bt_int : bootBuiltins "int" = some (.type "int") := by decide +kernel
theorem bt_bool : bootBuiltins "bool" = some (.type "bool") := by decide +kernel
theorem bt_str : bootBuiltins "str" = some (.type "str") := by decide +kernel
theorem bt_list : bootBuiltins "list" = some (.type "list") := by decide +kernel
theorem bt_tuple : bootBuiltins "tuple" = some (.type "tuple") := by decide +kernel
theorem bt_dict : bootBuiltins "dict" = some (.type "dict") := by decide +kernel
theorem bt_set : bootBuiltins "set" = some (.type "set") := by decide +kernel
theorem bt_range : bootBuiltins "range" = some (.type "range") := by decide +kernel
theorem bt_zip : bootBuiltins "zip" = some (.type "zip") := by decide +kernel
theorem bt_enumerate : bootBuiltins "enumerate" = some (.type "enumerate") := by decide +kernel
end QP

set_option Elab.async false
set_option linter.all false
set_option maxRecDepth 100000
set_option maxHeartbeats 4000000
/-! How the mirrors are worked out. -/
namespace QP
open PySem PySem.Spec PyProof.Rows L2
section
variable {α β : Type} {a b c : EX} {env : Env} {S : Store} {w u : W} {i j : Nat}
@[simp] theorem bind_ok (x : α) (S : Store) (k : α → Store → R β) : (R.ok x S).bind k = k x S := id rfl
@[simp] theorem bind_exc (x o) (S : Store) (k : α → Store → R β) : (R.exc x o S).bind k = .exc x o S := id rfl
@[simp] theorem bind_bad (k : α → Store → R β) : R.bad.bind k = .bad := id rfl
theorem bind_congr {r r' : R α} (k : α → Store → R β) (h : r = r') : r.bind k = r'.bind k := by rw [h]
@[simp] theorem ofR_ok (x : α) (S : Store) (k : α → Store → Z) : Z.ofR (R.ok x S) k = k x S := id rfl
@[simp] theorem ofR_exc (x o) (S : Store) (k : α → Store → Z) : Z.ofR (R.exc x o S) k = .exc x o S := id rfl
@[simp] theorem ofR_bad (k : α → Store → Z) : Z.ofR R.bad k = .bad := id rfl
theorem ofR_congr {r r' : R α} (k : α → Store → Z) (h : r = r') : Z.ofR r k = Z.ofR r' k := by rw [h]
@[simp] theorem seq_nx (env S) (k : Env → Store → Z) : (Z.nx env S).seq k = k env S := id rfl
@[simp] theorem seq_ret (w S) (k : Env → Store → Z) : (Z.ret w S).seq k = .ret w S := id rfl
@[simp] theorem seq_brk (env S) (k : Env → Store → Z) : (Z.brk env S).seq k = .brk env S := id rfl
@[simp] theorem seq_ct (env S) (k : Env → Store → Z) : (Z.ct env S).seq k = .ct env S := id rfl
@[simp] theorem seq_exc (x o S) (k : Env → Store → Z) : (Z.exc x o S).seq k = .exc x o S := id rfl
@[simp] theorem seq_bad (k : Env → Store → Z) : Z.bad.seq k = .bad := id rfl
theorem seq_congr {r r' : Z} (k : Env → Store → Z) (h : r = r') : r.seq k = r'.seq k := by rw [h]
@[simp] theorem eC_eq : eC w env S = .ok w S := id rfl
theorem eVar_eq (h : env[i]? = some (some w)) : eVar i env S = .ok w S := by unfold eVar; rw [h]
@[simp] theorem eVar_0 {e : Env} : eVar 0 (some w :: e) S = .ok w S := id rfl
@[simp] theorem eVar_s {o} {e : Env} : eVar (i + 1) (o :: e) S = eVar i e S := id rfl
@[simp] theorem eBin_eq {f} : eBin f a b env S = (a env S).bind fun x S1 => (b env S1).bind fun y S2 => f x y S2 := id rfl
@[simp] theorem eUn_eq {f} : eUn f a env S = (a env S).bind fun x S1 => f x S1 := id rfl
@[simp] theorem eChain_eq {f g} : eChain f g a b c env S = (a env S).bind fun x S1 => (b env S1).bind fun y S2 => (f x y S2).bind fun z S3 => match z with
  | .bl true => (c env S3).bind fun u S4 => g y u S4
  | .bl false => .ok (.bl false) S3
  | _ => .bad := id rfl
@[simp] theorem tOf_eq : tOf a env S = (a env S).bind fun w S1 => match w with
  | .bl b => .ok b S1
  | _ => .bad := id rfl
@[simp] theorem eV_eq {m : AX} : eV m env S = (m env S).bind fun l S' => .ok (.lst l) S' := id rfl
@[simp] theorem eA_eq {m : AX} : eA m env S = (m env S).bind fun l S' => .ok (.ref S'.length) (S' ++ [.lst l]) := id rfl
@[simp] theorem aNil_eq : aNil env S = .ok [] S := id rfl
@[simp] theorem aCons_eq {r : AX} : aCons a r env S = (a env S).bind fun w S1 => (r env S1).bind fun l S2 => .ok (w :: l) S2 := id rfl
@[simp] theorem eTup_eq {m : AX} : eTup m env S = (m env S).bind fun l S' => if l.length ≤ big then .ok (.tup l) S' else .bad := id rfl
@[simp] theorem fLst_eq {m : AX} : fLst m env S = (m env S).bind fun l S' => if l.length ≤ big then .ok l S' else .bad := id rfl
@[simp] theorem fBin_eq {f} : fBin f a b env S = (a env S).bind fun x S1 => (b env S1).bind fun y S2 => f x y S2 := id rfl
@[simp] theorem tTru_eq : tTru a env S = (a env S).bind fun w S1 => match truW S1 w with
  | some b => .ok b S1
  | none => .bad := id rfl
@[simp] theorem tAndM_eq {p q : TX} : tAndM p q env S = (p env S).bind fun x S1 => if x = true then q env S1 else .ok false S1 := id rfl
@[simp] theorem tOrM_eq {p q : TX} : tOrM p q env S = (p env S).bind fun x S1 => if x = true then .ok true S1 else q env S1 := id rfl
@[simp] theorem tNotM_eq {p : TX} : tNotM p env S = (p env S).bind fun x S1 => .ok (!x) S1 := id rfl
@[simp] theorem eAnd_eq : eAnd a b env S = (a env S).bind fun x S1 => match truW S1 x with
  | some true => b env S1
  | some false => .ok x S1
  | none => .bad := id rfl
@[simp] theorem eOr_eq : eOr a b env S = (a env S).bind fun x S1 => match truW S1 x with
  | some true => .ok x S1
  | some false => b env S1
  | none => .bad := id rfl
@[simp] theorem eNot_eq : eNot a env S = (a env S).bind fun x S1 => match truW S1 x with
  | some t => .ok (.bl (!t)) S1
  | none => .bad := id rfl
@[simp] theorem eIf_eq {t : TX} : eIf t a b env S = (t env S).bind fun x S1 => if x = true then a env S1 else b env S1 := id rfl
@[simp] theorem eSlice_eq {lo hi : OX} : eSlice a lo hi env S = (a env S).bind fun x S1 => (lo env S1).bind fun y S2 => (hi env S2).bind fun z S3 => opSlice x y z S3 := id rfl
@[simp] theorem fSlice_eq {lo hi : OX} : fSlice a lo hi env S = (a env S).bind fun x S1 => (lo env S1).bind fun y S2 => (hi env S2).bind fun z S3 => match lstW S3 x with
  | some l => .ok (cutW l y z) S3
  | none => .bad := id rfl
@[simp] theorem oNone_eq : oNone env S = .ok none S := id rfl
@[simp] theorem oSome_eq : oSome a env S = (a env S).bind fun w S1 => match w with
  | .int i => .ok (some i) S1
  | _ => .bad := id rfl
@[simp] theorem eCall_eq {f} {m : AX} : eCall f m env S = (m env S).bind fun l S1 => f l S1 := id rfl
@[simp] theorem fCall_eq {f} {m : AX} : fCall f m env S = (m env S).bind fun l S1 => f l S1 := id rfl
@[simp] theorem eFn_eq {n f} {m : AX} : eFn n f m env S = (m env S).bind fun l S1 => if l.length = n then f l S1 else .bad := id rfl
@[simp] theorem eMeth_eq {kd f} {m : AX} : eMeth kd f a m env S = (a env S).bind fun w S1 => if kd S1 w = true then (m env S1).bind fun ws S2 => f w ws S2 else .bad := id rfl
@[simp] theorem eNewK_eq : eNewK env S = .ok (.ref S.length) (S ++ [.dk false []]) := id rfl
@[simp] theorem eNewT_eq : eNewT env S = .ok (.ref S.length) (S ++ [.dt false []]) := id rfl
@[simp] theorem sNext_eq : sNext env S = .nx env S := id rfl
@[simp] theorem sSeq_eq {x y : SX} : sSeq x y env S = (x env S).seq y := id rfl
@[simp] theorem sBad_eq : sBad env S = .bad := id rfl
@[simp] theorem sRet_eq : sRet a env S = Z.ofR (a env S) fun w S1 => .ret w S1 := id rfl
@[simp] theorem sRetN_eq : sRetN env S = .ret .non S := id rfl
@[simp] theorem sDrop_eq : sDrop a env S = Z.ofR (a env S) fun _ S1 => .nx env S1 := id rfl
@[simp] theorem sIf_eq {t : TX} {x y : SX} : sIf t x y env S = Z.ofR (t env S) fun k S1 => if k = true then x env S1 else y env S1 := id rfl
@[simp] theorem sBrk_eq : sBrk env S = .brk env S := id rfl
@[simp] theorem sCt_eq : sCt env S = .ct env S := id rfl
@[simp] theorem gN_eq : gN i w env = some (env.set i (some w)) := id rfl
@[simp] theorem sAsgN_eq : sAsg a (gN i) env S = Z.ofR (a env S) fun w S1 => .nx (env.set i (some w)) S1 := id rfl
theorem sAsg_eq {g : GX} : sAsg a g env S = Z.ofR (a env S) fun w S1 => match g w env with
  | some env' => .nx env' S1
  | none => .bad := id rfl
@[simp] theorem gT_eq {g : GXs} {l : List W} : gT g (.tup l) env = g l env := id rfl
@[simp] theorem gsNil_eq : gsNil [] env = some env := id rfl
@[simp] theorem gsCons_eq {g : GX} {r : GXs} {t : List W} : gsCons g r (w :: t) env = match g w env with
  | some env' => r t env'
  | none => none := id rfl
@[simp] theorem sPar_eq : sPar i j a b env S = Z.ofR (a env S) fun w S1 => Z.ofR (b env S1) fun u S2 => .nx ((env.set i (some w)).set j (some u)) S2 := id rfl
@[simp] theorem sPar3_eq {l : Nat} : sPar3 i j l a b c env S = Z.ofR (a env S) fun w S1 => Z.ofR (b env S1) fun u S2 => Z.ofR (c env S2) fun t S3 => .nx (((env.set i (some w)).set j (some u)).set l (some t)) S3 := id rfl
@[simp] theorem sPut_eq : sPut a b c env S = Z.ofR (c env S) fun w S1 => Z.ofR (a env S1) fun o S2 => Z.ofR (b env S2) fun i S3 => match stSet o i w S3 with
  | some S4 => .nx env S4
  | none => .bad := id rfl
theorem sFor_eq {mi : IX} {g : GX} {x : SX} : sFor mi g x env S = Z.ofR (mi env S) fun lc S1 => forL lc.2 g x lc.1 env S1 := id rfl
@[simp] theorem iSeq_eq : iSeq a env S = (a env S).bind fun w S1 => match seqW S1 w with
  | some l => .ok (l, sameL w l) S1
  | none => .bad := id rfl
@[simp] theorem tYesM_eq : tYesM env S = .ok true S := id rfl
end

/-! ### loops -/
theorem for_inv {C : Store → Bool} {g : GX} {body : SX} (P : Nat → Env → Store → Prop) : ∀ (l : List W) (k : Nat) (env : Env) (S : Store), P k env S →
    (∀ i (hi : i < l.length) env S, P (k + i) env S → C S = true ∧ ∃ env1 env2 S2, g l[i] env = some env1 ∧ (body env1 S = .nx env2 S2 ∨ body env1 S = .ct env2 S2) ∧ P (k + i + 1) env2 S2) →
    (∀ env S, P (k + l.length) env S → C S = true) → ∃ env' S', forL C g body l env S = .nx env' S' ∧ P (k + l.length) env' S'
  | [], k, env, S, h0, hs, he => ⟨env, S, by simp [forL, he env S h0], h0⟩
  | w :: r, k, env, S, h0, hs, he => by
    obtain ⟨hC, env1, env2, S2, hg, hb, hp⟩ := hs 0 (by simp) env S h0
    obtain ⟨env', S', h1, h2⟩ := for_inv P r (k + 1) env2 S2 hp (fun i hi env S hp => by
      have := hs (i + 1) (by simp; omega) env S (by rw [show k + (i + 1) = k + 1 + i from by omega]; exact hp)
      rw [show k + (i + 1) + 1 = k + 1 + i + 1 from by omega] at this
      exact this) (fun env S hp => he env S (by rw [show k + (w :: r).length = k + 1 + r.length from by simp; omega]; exact hp))
    refine ⟨env', S', ?_, by rw [show k + (w :: r).length = k + 1 + r.length from by simp; omega]; exact h2⟩
    simp only [List.getElem_cons_zero] at hg
    simp only [forL, hC, if_true, hg]
    rcases hb with hb | hb <;> rw [hb] <;> exact h1
/-- a loop that goes on to its end -/
theorem sFor_inv {mi : IX} {g : GX} {body : SX} {env : Env} {S S1 : Store} {l : List W} {C : Store → Bool} (P : Nat → Env → Store → Prop) (hi : mi env S = .ok (l, C) S1) (h0 : P 0 env S1)
    (hs : ∀ i (hi : i < l.length) env S, P i env S → C S = true ∧ ∃ env1 env2 S2, g l[i] env = some env1 ∧ (body env1 S = .nx env2 S2 ∨ body env1 S = .ct env2 S2) ∧ P (i + 1) env2 S2)
    (he : ∀ env S, P l.length env S → C S = true) : ∃ env' S', sFor mi g body env S = .nx env' S' ∧ P l.length env' S' := by
  have := for_inv (C := C) (g := g) (body := body) P l 0 env S1 h0 (fun i hi env S h => by simpa using hs i hi env S (by simpa using h)) (fun env S h => he env S (by simpa using h))
  obtain ⟨env', S', h1, h2⟩ := this
  exact ⟨env', S', by rw [sFor_eq, hi]; exact h1, by simpa using h2⟩
theorem while_inv {c : TX} {body : SX} (P : Nat → Env → Store → Prop) (Q : Env → Store → Prop) : ∀ (n m : Nat) (env : Env) (S : Store), m < n → P m env S →
    (∀ m env S, P m env S → (∃ S', c env S = .ok false S' ∧ Q env S') ∨ ∃ S1 env2 S2 m', c env S = .ok true S1 ∧ (body env S1 = .nx env2 S2 ∨ body env S1 = .ct env2 S2) ∧ m' < m ∧ P m' env2 S2) →
    ∃ env' S', sWhile n c body env S = .nx env' S' ∧ Q env' S'
  | 0, m, env, S, h, _, _ => by omega
  | n + 1, m, env, S, h, hp, hs => by
    rcases hs m env S hp with ⟨S', h1, h2⟩ | ⟨S1, env2, S2, m', h1, h2, h3, h4⟩
    · exact ⟨env, S', by simp [sWhile, whileF, h1], h2⟩
    · obtain ⟨env', S', h5, h6⟩ := while_inv P Q n m' env2 S2 (by omega) h4 hs
      refine ⟨env', S', ?_, h6⟩
      simp only [sWhile, whileF, h1, ofR_ok, if_true]
      rcases h2 with h2 | h2 <;> rw [h2] <;> exact h5
/-- a comprehension whose parts leave the store alone -/
theorem comp_map {C : Store → Bool} {g : GX} {t : TX} {e : EX} {env : Env} {S : Store} (p : W → Bool) (f : W → W) (hC : C S = true) : ∀ (l : List W),
    (∀ w ∈ l, ∃ env1, g w env = some env1 ∧ t env1 S = .ok (p w) S ∧ (p w = true → e env1 S = .ok (f w) S)) → compL C g t e env l S = .ok ((l.filter p).map f) S
  | [], _ => by simp [compL, hC]
  | w :: r, h => by
    obtain ⟨env1, h1, h2, h3⟩ := h w (by simp)
    have ih := comp_map p f hC r fun w hw => h w (by simp [hw])
    simp only [compL, hC, if_true, h1, h2]
    cases hp : p w with
    | true => simp only [h3 hp, ih, List.filter_cons, hp, if_true, List.map_cons]
    | false => simp only [ih, List.filter_cons, hp]; rfl
theorem comp_mapY {C : Store → Bool} {g : GX} {e : EX} {env : Env} {S : Store} (f : W → W) (hC : C S = true) : ∀ (l : List W),
    (∀ w ∈ l, ∃ env1, g w env = some env1 ∧ e env1 S = .ok (f w) S) → compL C g tYesM e env l S = .ok (l.map f) S
  | [], _ => by simp [compL, hC]
  | w :: r, h => by
    obtain ⟨env1, h1, h3⟩ := h w (by simp)
    have ih := comp_mapY f hC r fun w hw => h w (by simp [hw])
    simp only [compL, hC, if_true, h1, tYesM_eq, h3, ih, List.map_cons]
/-- a comprehension, by an invariant -/
theorem comp_inv {C : Store → Bool} {g : GX} {e : EX} {env : Env} (P : Nat → Store → Prop) (Q : Nat → W → Prop) : ∀ (l : List W) (k : Nat) (S : Store), P k S →
    (∀ i (hi : i < l.length) S, P (k + i) S → C S = true ∧ ∃ env1 y S2, g l[i] env = some env1 ∧ e env1 S = .ok y S2 ∧ Q (k + i) y ∧ P (k + i + 1) S2) →
    (∀ S, P (k + l.length) S → C S = true) → ∃ ys S', compL C g tYesM e env l S = .ok ys S' ∧ P (k + l.length) S' ∧ ys.length = l.length ∧ ∀ i (hi : i < ys.length), Q (k + i) ys[i]
  | [], k, S, h0, hs, he => ⟨[], S, by simp [compL, he S h0], h0, rfl, fun i hi => by simp at hi⟩
  | w :: r, k, S, h0, hs, he => by
    obtain ⟨hC, env1, y, S2, hg, hb, hq, hp⟩ := hs 0 (by simp) S h0
    obtain ⟨ys, S', h1, h2, h3, h4⟩ := comp_inv P Q r (k + 1) S2 hp (fun i hi S hp => by
      have := hs (i + 1) (by simp; omega) S (by rw [show k + (i + 1) = k + 1 + i from by omega]; exact hp)
      rw [show k + (i + 1) + 1 = k + 1 + i + 1 from by omega, show k + (i + 1) = k + 1 + i from by omega] at this
      exact this) (fun S hp => he S (by rw [show k + (w :: r).length = k + 1 + r.length from by simp; omega]; exact hp))
    simp only [List.getElem_cons_zero] at hg
    refine ⟨y :: ys, S', by simp only [compL, hC, if_true, hg, tYesM_eq, hb, h1], by rw [show k + (w :: r).length = k + 1 + r.length from by simp; omega]; exact h2, by simp [h3], fun i hi => ?_⟩
    cases i with
    | zero => simpa using hq
    | succ i =>
      have := h4 i (by simpa using hi)
      rw [show k + (i + 1) = k + 1 + i from by omega]
      simpa using this
theorem fLc_ok {own : List Nat} {mi : IX} {g : GX} {t : TX} {e : EX} {env : Env} {S S1 S2 : Store} {l ys : List W} {C : Store → Bool} (hi : mi env S = .ok (l, C) S1) (hc : compL C g t e (wipeE env own) l S1 = .ok ys S2) (hl : ys.length ≤ big) :
    fLc own mi g t e env S = .ok ys S2 := by
  unfold fLc
  rw [hi]
  simp only [hc, if_pos hl]
theorem runM_ret {n : Nat} {body : SX} {ws : List W} {S S' : Store} {w : W} (h : body (ws.map some ++ List.replicate (n - ws.length) none) S = .ret w S') : runM n body ws S = .ok w S' := by
  unfold runM; rw [h]
theorem runM_nx {n : Nat} {body : SX} {ws : List W} {S S' : Store} {env : Env} (h : body (ws.map some ++ List.replicate (n - ws.length) none) S = .nx env S') : runM n body ws S = .ok .non S' := by
  unfold runM; rw [h]
end QP

set_option Elab.async false
set_option linter.all false
set_option maxRecDepth 100000
set_option maxHeartbeats 4000000
/-! The helpers that all laws share. -/
namespace QP
open PySem PySem.Spec PyProof.Rows L2
def bgCup : SX :=
    (sSeq (sAsg (eCall bAbs (aCons (eBin opItem (eV (fBin opCat (eV (fCall bList (aCons (eVar 0) aNil))) (eV (fLst (aCons (eC (.int 0)) aNil))))) (eC (.int 0))) aNil)) (gN 1))
    (sRet (eA (fLst (aCons (eIf (tOf (eBin opGe (eVar 1) (eBin opPow (eC (.int 10)) (eC (.int 18))))) (eBin opFdiv (eVar 1) (eC (.int 131))) (eC (.int 0))) (aCons (eBin opAdd (eBin opMod (eCall bInt (aCons (eBin opAdd (eBin opMulT (eVar 1) (eC (.int 379))) (eC (.int 5503))) aNil)) (eC (.int 1964129453))) (eC (.int 233))) aNil))))))
def gCup : List W → Store → R W := runM 2 bgCup
def bgRoll : SX :=
    (sSeq (sIf (tOf (eBin opGt (eBin opItem (eVar 0) (eC (.int 0))) (eC (.int 0)))) (sSeq (sAsg (eBin opMod (eCall bInt (aCons (eBin opItem (eVar 0) (eC (.int 0))) aNil)) (eVar 1)) (gN 2))
    (sSeq (sPut (eVar 0) (eC (.int 0)) (eBin opFdiv (eBin opItem (eVar 0) (eC (.int 0))) (eVar 1)))
    (sRet (eVar 2)))) sNext)
    (sSeq (sPut (eVar 0) (eC (.int 1)) (eBin opMod (eCall bInt (aCons (eBin opAdd (eBin opMulT (eBin opItem (eVar 0) (eC (.int 1))) (eC (.int 29819))) (eC (.int 9203))) aNil)) (eC (.int 2147483543))))
    (sSeq (sAsg (eBin opMod (eCall bInt (aCons (eBin opMulT (eBin opItem (eVar 0) (eC (.int 1))) (eBin opAdd (eBin opItem (eVar 0) (eC (.int 1))) (eC (.int 311)))) aNil)) (eC (.int 2147483587))) (gN 3))
    (sRet (eBin opMod (eCall bInt (aCons (eBin opFdiv (eVar 3) (eC (.int 907))) aNil)) (eVar 1))))))
def gRoll : List W → Store → R W := runM 4 bgRoll
def bgSome : SX :=
    (sRet (eBin opItem (eVar 1) (eFn 2 gRoll (aCons (eVar 0) (aCons (eCall bLen (aCons (eVar 1) aNil)) aNil)))))
def gSome : List W → Store → R W := runM 2 bgSome
def bgSort : SX :=
    (sSeq (sIf (tOrM (tOf (eBin opIs (eVar 0) (eC .non))) (tTru (eCall bIsInst (aCons (eVar 0) (aCons (eC (.ty "bool")) aNil))))) (sRet (eIf (tOf (eBin opIs (eVar 0) (eC .non))) (eC (.int 0)) (eC (.int 1)))) sNext)
    (sSeq (sIf (tOrM (tTru (eCall bIsInst (aCons (eVar 0) (aCons (eC (.ty "int")) aNil)))) (tTru (eCall bIsInst (aCons (eVar 0) (aCons (eC (.ty "str")) aNil))))) (sRet (eIf (tTru (eCall bIsInst (aCons (eVar 0) (aCons (eC (.ty "int")) aNil)))) (eC (.int 2)) (eC (.int 3)))) sNext)
    (sRet (eIf (tTru (eCall bIsInst (aCons (eVar 0) (aCons (eC (.ty "tuple")) aNil)))) (eC (.int 4)) (eIf (tTru (eCall bIsInst (aCons (eVar 0) (aCons (eC (.ty "list")) aNil)))) (eC (.int 5)) (eC (.int 6)))))))
def gSort : List W → Store → R W := runM 1 bgSort
def bgLike (rc : List W → Store → R W) : SX :=
    (sSeq (sAsg (eFn 1 gSort (aCons (eVar 1) aNil)) (gN 2))
    (sSeq (sIf (tOrM (tOf (eBin opNe (eFn 1 gSort (aCons (eVar 0) aNil)) (eVar 2))) (tOf (eBin opEq (eVar 2) (eC (.int 6))))) (sRet (eC (.bl false))) sNext)
    (sSeq (sIf (tOf (eBin opInX (eVar 2) (eTup (aCons (eC (.int 4)) (aCons (eC (.int 5)) aNil))))) (sRet (eAnd (eBin opEq (eCall bLen (aCons (eVar 0) aNil)) (eCall bLen (aCons (eVar 1) aNil))) (eBin opEq (eV (fLc [3, 4] (iZp (eVar 0) (eVar 1)) (gT (gsCons (gN 3) (gsCons (gN 4) gsNil))) (tNotM (tTru (eFn 2 rc (aCons (eVar 3) (aCons (eVar 4) aNil))))) (eC (.int 1)))) (eV (fLst aNil))))) sNext)
    (sRet (eBin opEq (eVar 0) (eVar 1))))))
def gLike : Nat → List W → Store → R W
  | 0 => fBad
  | n + 1 => runM 5 (bgLike (gLike n))
def bgWhole : SX :=
    (sRet (eAnd (eBin opEq (eFn 1 gSort (aCons (eVar 0) aNil)) (eC (.int 2))) (eChain opLe opLe (eVar 1) (eVar 0) (eVar 2))))
def gWhole : List W → Store → R W := runM 3 bgWhole
/-! ### the state of all draws -/
def CupAt (S : Store) : Prop := ∃ a b : Int, S[0]? = some (.lst [.int a, .int b])
/-- later: the cup aside, all is as it was; there may be more -/
structure Nxt (S S' : Store) : Prop where
  cup : CupAt S'
  len : S.length ≤ S'.length
  same : ∀ i, 0 < i → i < S.length → S'[i]? = S[i]?
theorem Nxt.refl {S : Store} (h : CupAt S) : Nxt S S := ⟨h, Nat.le_refl _, fun _ _ _ => rfl⟩
theorem Nxt.trans {S S1 S2 : Store} (a : Nxt S S1) (b : Nxt S1 S2) : Nxt S S2 := ⟨b.cup, Nat.le_trans a.len b.len, fun i h1 h2 => (b.same i h1 (Nat.lt_of_lt_of_le h2 a.len)).trans (a.same i h1 h2)⟩
theorem CupAt.pos {S : Store} (h : CupAt S) : 0 < S.length := by
  obtain ⟨a, b, h⟩ := h
  exact (List.getElem?_eq_some_iff.mp h).1
theorem Nxt.app {S : Store} (h : CupAt S) (T : Store) : Nxt S (S ++ T) := by
  refine ⟨?_, by simp, fun i h1 h2 => by rw [List.getElem?_append_left h2]⟩
  have := h.pos
  obtain ⟨a, b, h⟩ := h
  exact ⟨a, b, by rw [List.getElem?_append_left this]; exact h⟩
theorem atI_0 {α : Type} {x : α} {l : List α} : atI (x :: l) 0 = some x := by simp [atI, ixN]
theorem atI_nat {α : Type} {l : List α} {i : Nat} (h : i < l.length) : atI l (i : Int) = some l[i] := by
  unfold atI ixN
  rw [if_pos (by constructor <;> omega)]
  simp [h]
theorem ixN_nat {n i : Nat} (h : i < n) : ixN n (i : Int) = some i := by
  unfold ixN
  rw [if_pos (by constructor <;> omega)]
  simp [h]
theorem atI_1 {α : Type} {x y : α} {l : List α} : atI (x :: y :: l) 1 = some y := atI_nat (l := x :: y :: l) (i := 1) (by simp)
theorem roll_ok {S : Store} (h : CupAt S) {m : Int} (h1 : 0 < m) (h2 : m < 1073741824) : ∃ r S', gRoll [.ref 0, .int m] S = .ok (.int r) S' ∧ 0 ≤ r ∧ r < m ∧ Nxt S S' ∧ S'.length = S.length := by
  obtain ⟨a, b, h⟩ := h
  cases S with
  | nil => cases h
  | cons o S =>
  cases h
  by_cases ha : 0 < a
  · refine ⟨a % m, .lst [.int (a / m), .int b] :: S, ?_, Int.emod_nonneg _ (by omega), Int.emod_lt_of_pos _ h1, ⟨⟨_, _, rfl⟩, by simp, fun i hi _ => by cases i with | zero => omega | succ i => rfl⟩, by simp⟩
    apply runM_ret
    simp [bgRoll, opItem, dGet, seqW, atI_0, opGt, ha, bInt, opMod, h1, opFdiv, h2, stSet, ixN]
  · refine ⟨((b * 29819 + 9203) % 2147483543 * ((b * 29819 + 9203) % 2147483543 + 311) % 2147483587 / 907) % m, .lst [.int a, .int ((b * 29819 + 9203) % 2147483543)] :: S, ?_, Int.emod_nonneg _ (by omega), Int.emod_lt_of_pos _ h1, ⟨⟨_, _, rfl⟩, by simp, fun i hi _ => by cases i with | zero => omega | succ i => rfl⟩, by simp⟩
    apply runM_ret
    have k1 : -18446744073709551616 < (b * 29819 + 9203) % 2147483543 ∧ (b * 29819 + 9203) % 2147483543 < 18446744073709551616 := by omega
    have k2 : ixN 2 1 = some 1 := ixN_nat (n := 2) (i := 1) (by omega)
    simp [bgRoll, opItem, dGet, seqW, atI_0, opGt, ha, bInt, opMod, h1, opFdiv, h2, stSet, k2, opMulT, opMul, opAdd, k1, atI_1]
theorem cup_ok (ns : List Int) (hl : ns.length ≤ 63) : ∃ a b : Int, gCup [.scr ns] [] = .ok (.ref 0) [.lst [.int a, .int b]] := by
  have key : ∀ x : Int, 0 ≤ x → ∃ a b : Int, (sRet (eA (fLst (aCons (eIf (tOf (eBin opGe (eVar 1) (eBin opPow (eC (.int 10)) (eC (.int 18))))) (eBin opFdiv (eVar 1) (eC (.int 131))) (eC (.int 0))) (aCons (eBin opAdd (eBin opMod (eCall bInt (aCons (eBin opAdd (eBin opMulT (eVar 1) (eC (.int 379))) (eC (.int 5503))) aNil)) (eC (.int 1964129453))) (eC (.int 233))) aNil)))))
      [some (.scr ns), some (.int x)] [] = .ret (.ref 0) [.lst [.int a, .int b]] := by
    intro x hx
    by_cases h : (1000000000000000000 : Int) ≤ x
    · exact ⟨x / 131, (x * 379 + 5503) % 1964129453 + 233, by simp [opGe, opPow, h, opFdiv, bInt, opAdd, opMulT, opMul, opMod, big]⟩
    · exact ⟨0, (x * 379 + 5503) % 1964129453 + 233, by simp [opGe, opPow, h, opFdiv, bInt, opAdd, opMulT, opMul, opMod, big]⟩
  have h0 : ∃ x : Int, 0 ≤ x ∧ sAsg (eCall bAbs (aCons (eBin opItem (eV (fBin opCat (eV (fCall bList (aCons (eVar 0) aNil))) (eV (fLst (aCons (eC (.int 0)) aNil))))) (eC (.int 0))) aNil)) (gN 1) [some (.scr ns), none] [] = .nx [some (.scr ns), some (.int x)] [] := by
    cases ns with
    | nil => exact ⟨0, by omega, by simp [bList, opCat, lstW, opItem, dGet, seqW, atI_0, bAbs, big]⟩
    | cons i r =>
      simp at hl
      refine ⟨if i < 0 then -i else i, by split <;> omega, ?_⟩
      have h1 : r.length + 1 + 1 ≤ big := by show _ ≤ 16777216; omega
      simp [bList, opCat, lstW, opItem, dGet, seqW, atI_0, bAbs, h1, (show 1 ≤ big from by decide)]
  obtain ⟨x, h1, h2⟩ := h0
  obtain ⟨a, b, h3⟩ := key x h1
  exact ⟨a, b, runM_ret (by show (sSeq _ _ _ _) = _; rw [sSeq_eq]; show (sAsg _ _ _ _).seq _ = _; erw [h2]; exact h3)⟩
theorem some_ok {S : Store} (h : CupAt S) {l : List W} (h1 : l ≠ []) (h2 : l.length < 1073741824) : ∃ w S', gSome [.ref 0, .lst l] S = .ok w S' ∧ w ∈ l ∧ Nxt S S' ∧ S'.length = S.length := by
  have hl : 0 < l.length := List.length_pos_iff.mpr h1
  obtain ⟨r, S', e, r0, r1, n, len⟩ := roll_ok h (m := (l.length : Int)) (by omega) (by omega)
  obtain ⟨k, rfl⟩ := Int.eq_ofNat_of_zero_le r0
  have hk : k < l.length := by omega
  refine ⟨l[k], S', ?_, List.getElem_mem hk, n, len⟩
  apply runM_ret
  simp [bgSome, bLen, lenW, e, opItem, dGet, seqW, atI_nat hk]
@[simp] theorem sort_non {S : Store} : gSort [.non] S = .ok (.int 0) S := by simp [gSort, bgSort, runM, opIs, truW]
@[simp] theorem sort_bl {S : Store} {b : Bool} : gSort [.bl b] S = .ok (.int 1) S := by simp [gSort, bgSort, runM, opIs, truW, bIsInst, kindW, isOf]
@[simp] theorem sort_int {S : Store} {b : Int} : gSort [.int b] S = .ok (.int 2) S := by simp [gSort, bgSort, runM, opIs, truW, bIsInst, kindW, isOf]
@[simp] theorem sort_str {S : Store} {b : Str} : gSort [.str b] S = .ok (.int 3) S := by simp [gSort, bgSort, runM, opIs, truW, bIsInst, kindW, isOf]
@[simp] theorem sort_tup {S : Store} {b : List W} : gSort [.tup b] S = .ok (.int 4) S := by simp [gSort, bgSort, runM, opIs, truW, bIsInst, kindW, isOf]
@[simp] theorem sort_lst {S : Store} {b : List W} : gSort [.lst b] S = .ok (.int 5) S := by simp [gSort, bgSort, runM, opIs, truW, bIsInst, kindW, isOf]
def plain : Nat → W → Bool
  | 0, _ => false
  | _ + 1, .non => true
  | _ + 1, .bl _ => true
  | _ + 1, .int _ => true
  | _ + 1, .str x => SeqAt.shaped (.str x)
  | k + 1, .tup l => l.all (plain k)
  | k + 1, .lst l => l.all (plain k)
  | _ + 1, _ => false
theorem like_in (k : Int) (h : k = 4 ∨ k = 5) {S : Store} : opInX (.int k) (.tup [.int 4, .int 5]) S = .ok (.bl true) S := by
  rcases h with h | h <;> subst h <;> rfl
theorem eqW_int {S : Store} {i j : Int} : eqW S (.int i) (.int j) = some (i == j) := rfl
theorem zip_self (l : List W) : zipW l l = l.map fun a => .tup [a, a] := by
  induction l with
  | nil => rfl
  | cons a l ih => simp only [zipW, List.zipWith_cons_cons, List.map_cons]; rw [← ih]; rfl
theorem like_refl : ∀ (k : Nat) (w : W) (S : Store), plain k w = true → gLike k [w, w] S = .ok (.bl true) S
  | 0, w, S, h => by simp [plain] at h
  | k + 1, w, S, h => by
    show runM 5 (bgLike (gLike k)) [w, w] S = _
    apply runM_ret
    have leaf : ∀ n : Int, gSort [w] S = .ok (.int n) S → n ≠ 4 → n ≠ 5 → n ≠ 6 → eqW S w w = some true → bgLike (gLike k) ([w, w].map some ++ List.replicate (5 - [w, w].length) none) S = .ret (.bl true) S := by
      intro n h1 h4 h5 h6 he
      have hin : opInX (.int n) (.tup [.int 4, .int 5]) S = .ok (.bl false) S := by
        simp [opInX, dGet, opIn, inW, seqW, flatW, eqF, Ne.symm h4, Ne.symm h5]
      have h46 : (n == 6) = false := by simp [h6]
      simp [bgLike, h1, opNe, eqW_int, opEq, h46, hin, he, big]
    have comp : ∀ (n : Int) (l : List W) (C : Store → Bool), gSort [w] S = .ok (.int n) S → (n = 4 ∨ n = 5) → lenW S w = some (l.length : Int) → (∀ env, env[0]? = some (some w) → env[1]? = some (some w) → iZp (eVar 0) (eVar 1) env S = .ok (zipW l l, C) S) → C S = true → (∀ a ∈ l, plain k a = true) →
        bgLike (gLike k) ([w, w].map some ++ List.replicate (5 - [w, w].length) none) S = .ret (.bl true) S := by
      intro n l C h1 hn hlen hz hC ha
      have h46 : (n == 6) = false := by rcases hn with rfl | rfl <;> rfl
      have hc : fLc [3, 4] (iZp (eVar 0) (eVar 1)) (gT (gsCons (gN 3) (gsCons (gN 4) gsNil))) (tNotM (tTru (eFn 2 (gLike k) (aCons (eVar 3) (aCons (eVar 4) aNil))))) (eC (.int 1)) [some w, some w, some (.int n), none, none] S = .ok [] S := by
        refine fLc_ok (hz _ rfl rfl) (?_ : compL _ _ _ _ _ _ _ = .ok [] S) (by decide)
        have := comp_map (C := C) (g := gT (gsCons (gN 3) (gsCons (gN 4) gsNil))) (t := tNotM (tTru (eFn 2 (gLike k) (aCons (eVar 3) (aCons (eVar 4) aNil))))) (e := eC (.int 1)) (env := wipeE [some w, some w, some (.int n), none, none] [3, 4]) (S := S) (fun _ => false) (fun _ => .int 1) hC (zipW l l) (by
          intro x hx
          rw [zip_self] at hx
          obtain ⟨a, h2, rfl⟩ := List.mem_map.mp hx
          refine ⟨_, by simp [wipeE]; rfl, ?_, fun h => by cases h⟩
          have := like_refl k a S (ha a h2)
          simp [this, truW])
        rw [this]
        simp
      have hlen2 : bLen [w] S = .ok (.int l.length) S := by simp [bLen, hlen]
      have he : eqW S (.lst []) (.lst []) = some true := rfl
      simp [bgLike, h1, opNe, eqW_int, opEq, h46, like_in n hn, hlen2, big, truW, hc, he]
    cases w with
    | non => exact leaf 0 sort_non (by decide) (by decide) (by decide) rfl
    | bl b => exact leaf 1 sort_bl (by decide) (by decide) (by decide) (by cases b <;> rfl)
    | int i => exact leaf 2 sort_int (by decide) (by decide) (by decide) (by simp [eqW])
    | str x => exact leaf 3 sort_str (by decide) (by decide) (by decide) (by
        simp only [plain] at h
        simp [eqW, datR, dat, h, PyData.eqv])
    | tup l =>
      simp only [plain, List.all_eq_true] at h
      exact comp 4 l (fun _ => true) sort_tup (.inl rfl) rfl (fun env h0 h1 => by simp [iZp, eVar_eq h0, eVar_eq h1]) rfl h
    | lst l =>
      simp only [plain, List.all_eq_true] at h
      exact comp 5 l (fun S => sameL (.lst l) l S && sameL (.lst l) l S) sort_lst (.inr rfl) rfl (fun env h0 h1 => by simp [iZp, eVar_eq h0, eVar_eq h1, lstW]) rfl h
    | _ => simp [plain] at h
end QP

set_option Elab.async false
set_option linter.all false
set_option maxRecDepth 100000
set_option maxHeartbeats 4000000
/-! Equality of tuples and lists of ints; greatest and least. -/
namespace QP
open PySem PySem.Spec PyProof.Rows L2
theorem dats_ints : ∀ l : List Int, dats (l.map W.int) = some (l.map PyData.int)
  | [] => rfl
  | i :: l => by simp only [List.map_cons, dats, dat, dats_ints l]
theorem lay_ints : ∀ l : List Int, PyData.canLayAll0 (l.map PyData.int) = true
  | [] => by simp only [List.map_nil, PyData.canLayAll0]
  | i :: l => by simp only [List.map_cons, PyData.canLayAll0, lay_ints l, PyData.canLay0, Bool.and_self]
theorem depth_ints : ∀ l : List Int, PyData.depthAll (l.map PyData.int) = 0
  | [] => by simp only [List.map_nil, PyData.depthAll]
  | i :: l => by simp only [List.map_cons, PyData.depthAll, depth_ints l, PyData.depth, Nat.max_self]
theorem shaped_tup (l : List Int) : SeqAt.shaped (.tuple (l.map PyData.int)) = true := by
  unfold SeqAt.shaped
  simp only [PyData.canLay0, lay_ints, PyData.depth, depth_ints]
  rfl
theorem shaped_lst (l : List Int) : SeqAt.shaped (.list (l.map PyData.int)) = true := by
  unfold SeqAt.shaped
  simp only [PyData.canLay0, lay_ints, PyData.depth, depth_ints]
  rfl
theorem eqv_ints : ∀ l r : List Int, PyData.eqvAll (l.map PyData.int) (r.map PyData.int) = decide (l = r)
  | [], [] => by simp [PyData.eqvAll]
  | [], j :: r => by simp [PyData.eqvAll]
  | i :: l, [] => by simp [PyData.eqvAll]
  | i :: l, j :: r => by
    simp only [List.map_cons, PyData.eqvAll, PyData.eqv, eqv_ints l r]
    by_cases h : i = j <;> by_cases h2 : l = r <;> simp [h, h2]
theorem eqW_tup {S : Store} (l r : List Int) : eqW S (.tup (l.map W.int)) (.tup (r.map W.int)) = some (decide (l = r)) := by
  simp only [eqW, datR, dat, dats_ints, Option.map_some, shaped_tup, Bool.and_self, if_true, PyData.eqv, eqv_ints]
theorem eqW_lst {S : Store} (l r : List Int) : eqW S (.lst (l.map W.int)) (.lst (r.map W.int)) = some (decide (l = r)) := by
  simp only [eqW, datR, dat, dats_ints, Option.map_some, shaped_lst, Bool.and_self, if_true, PyData.eqv, eqv_ints]
/-- the greatest, the least -/
def mx : List Int → Int
  | [] => 0
  | x :: r => maxI x r
def mn : List Int → Int
  | [] => 0
  | x :: r => minI x r
theorem mx_mem {l : List Int} (h : l ≠ []) : mx l ∈ l := by
  cases l with
  | nil => exact absurd rfl h
  | cons x r =>
    rcases (maxI_spec r x).1 with z | z
    · simp only [mx]; rw [z]; simp
    · simp only [mx]; simp [z]
theorem le_mx {l : List Int} {y : Int} (hy : y ∈ l) : y ≤ mx l := by
  cases l with
  | nil => simp at hy
  | cons x r =>
    rcases List.mem_cons.mp hy with z | z
    · rw [z]; exact (maxI_spec r x).2.1
    · exact (maxI_spec r x).2.2 y z
theorem mn_mem {l : List Int} (h : l ≠ []) : mn l ∈ l := by
  cases l with
  | nil => exact absurd rfl h
  | cons x r =>
    rcases (minI_spec r x).1 with z | z
    · simp only [mn]; rw [z]; simp
    · simp only [mn]; simp [z]
theorem mn_le {l : List Int} {y : Int} (hy : y ∈ l) : mn l ≤ y := by
  cases l with
  | nil => simp at hy
  | cons x r =>
    rcases List.mem_cons.mp hy with z | z
    · rw [z]; exact (minI_spec r x).2.1
    · exact (minI_spec r x).2.2 y z
theorem mn_uniq {l : List Int} {m : Int} (h1 : m ∈ l) (h2 : ∀ y ∈ l, m ≤ y) : mn l = m := by
  have h : l ≠ [] := by intro z; subst z; simp at h1
  have := mn_le h1
  have := h2 _ (mn_mem h)
  omega
theorem mx_uniq {l : List Int} {m : Int} (h1 : m ∈ l) (h2 : ∀ y ∈ l, y ≤ m) : mx l = m := by
  have h : l ≠ [] := by intro z; subst z; simp at h1
  have := le_mx h1
  have := h2 _ (mx_mem h)
  omega
theorem mn_same {l r : List Int} (h : ∀ x, x ∈ l ↔ x ∈ r) (h0 : l ≠ []) : mn l = mn r :=
  (mn_uniq ((h _).mp (mn_mem h0)) fun y hy => mn_le ((h y).mpr hy)).symm
theorem bMax_tup {S : Store} {l : List Int} (h : l ≠ []) : bMax [.tup (l.map W.int)] S = .ok (.int (mx l)) S := by
  cases l with
  | nil => exact absurd rfl h
  | cons x r => simp only [bMax, intsOf, seqW, Option.bind_some, allI_ints, mx]
theorem bMax_lst {S : Store} {l : List Int} (h : l ≠ []) : bMax [.lst (l.map W.int)] S = .ok (.int (mx l)) S := by
  cases l with
  | nil => exact absurd rfl h
  | cons x r => simp only [bMax, intsOf, seqW, Option.bind_some, allI_ints, mx]
theorem bMin_lst {S : Store} {l : List Int} (h : l ≠ []) : bMin [.lst (l.map W.int)] S = .ok (.int (mn l)) S := by
  cases l with
  | nil => exact absurd rfl h
  | cons x r => simp only [bMin, intsOf, seqW, Option.bind_some, allI_ints, mn]
theorem bTuple_lst {S : Store} (l : List W) : bTuple [.lst l] S = .ok (.tup l) S := rfl
end QP

set_option Elab.async false
set_option linter.all false
set_option maxRecDepth 100000
set_option maxHeartbeats 4000000
namespace QP
open PySem PySem.Spec PyProof.Rows L2
namespace K50
def top (i : Nat) : Stmt := PySem.Challenge.pw_messengers_k50_whole_hop_numbers.main.body.getD i (.Pass ⟨0, 0, 0, 0⟩)
abbrev s__law_cup : Stmt := top 37
abbrev s__law_path : Stmt := top 46
abbrev s__law_roll : Stmt := top 38
abbrev s_is_ascending : Stmt := top 9
abbrev s_is_tuple_of : Stmt := top 8
abbrev s_is_whole : Stmt := top 6
abbrev s_is_pair_of : Stmt := top 14
abbrev s_are_friends : Stmt := top 15
abbrev s_need_friends : Stmt := top 16
abbrev s_need_few : Stmt := top 21
abbrev s_spread : Stmt := top 18
abbrev s_beside : Stmt := top 17
abbrev s_need_whole_town : Stmt := top 25
abbrev s_far : Stmt := top 27
abbrev s_most_steps : Stmt := top 34
abbrev s_are_wholes : Stmt := top 10
abbrev s_need_numbers : Stmt := top 26
abbrev s_step : Stmt := top 28
abbrev s_rest_in : Stmt := top 29
abbrev s_steps_to_rest : Stmt := top 33
abbrev s__law_sort : Stmt := top 40
abbrev s__law_like : Stmt := top 41
abbrev s__law_beside : Stmt := top 43
abbrev s__law_far : Stmt := top 44
abbrev s_late_numbers : Stmt := top 35
abbrev s__law_some : Stmt := top 39
abbrev s__law_hopped : Stmt := top 49
abbrev s_stepped : Stmt := top 31
abbrev s_need_whole : Stmt := top 7
abbrev s_behind_steps : Stmt := top 32
abbrev s_distances : Stmt := top 30
abbrev s__law_whole : Stmt := top 42
abbrev s__law_right : Stmt := top 50
abbrev s__law_ring : Stmt := top 48
abbrev s__law_star : Stmt := top 47
abbrev s__law_friends : Stmt := top 45
abbrev s__law_great_right : Stmt := top 51
abbrev s__law_written_right : Stmt := top 52
abbrev s_law : Stmt := top 53
structure Top (K : PySem.W.Frag) (mg : Str → Option Value) (G : GP) (fd : String → FuncData) : Prop where
  gk : K = G.K
  F__law_cup : Fun K "_law_cup" "_law_cup" s__law_cup (G.fa "_law_cup") (fd "_law_cup")
  M__law_cup : mg "_law_cup" = some (.ref (G.fa "_law_cup"))
  F__law_path : Fun K "_law_path" "_law_path" s__law_path (G.fa "_law_path") (fd "_law_path")
  M__law_path : mg "_law_path" = some (.ref (G.fa "_law_path"))
  F__law_roll : Fun K "_law_roll" "_law_roll" s__law_roll (G.fa "_law_roll") (fd "_law_roll")
  M__law_roll : mg "_law_roll" = some (.ref (G.fa "_law_roll"))
  F_is_ascending : Fun K "is_ascending" "is_ascending" s_is_ascending (G.fa "is_ascending") (fd "is_ascending")
  M_is_ascending : mg "is_ascending" = some (.ref (G.fa "is_ascending"))
  F_is_tuple_of : Fun K "is_tuple_of" "is_tuple_of" s_is_tuple_of (G.fa "is_tuple_of") (fd "is_tuple_of")
  M_is_tuple_of : mg "is_tuple_of" = some (.ref (G.fa "is_tuple_of"))
  F_is_whole : Fun K "is_whole" "is_whole" s_is_whole (G.fa "is_whole") (fd "is_whole")
  M_is_whole : mg "is_whole" = some (.ref (G.fa "is_whole"))
  F_is_pair_of : Fun K "is_pair_of" "is_pair_of" s_is_pair_of (G.fa "is_pair_of") (fd "is_pair_of")
  M_is_pair_of : mg "is_pair_of" = some (.ref (G.fa "is_pair_of"))
  F_are_friends : Fun K "are_friends" "are_friends" s_are_friends (G.fa "are_friends") (fd "are_friends")
  M_are_friends : mg "are_friends" = some (.ref (G.fa "are_friends"))
  F_need_friends : Fun K "need_friends" "need_friends" s_need_friends (G.fa "need_friends") (fd "need_friends")
  M_need_friends : mg "need_friends" = some (.ref (G.fa "need_friends"))
  F_need_few : Fun K "need_few" "need_few" s_need_few (G.fa "need_few") (fd "need_few")
  M_need_few : mg "need_few" = some (.ref (G.fa "need_few"))
  F_spread : Fun K "spread" "spread" s_spread (G.fa "spread") (fd "spread")
  M_spread : mg "spread" = some (.ref (G.fa "spread"))
  F_beside : Fun K "beside" "beside" s_beside (G.fa "beside") (fd "beside")
  M_beside : mg "beside" = some (.ref (G.fa "beside"))
  F_need_whole_town : Fun K "need_whole_town" "need_whole_town" s_need_whole_town (G.fa "need_whole_town") (fd "need_whole_town")
  M_need_whole_town : mg "need_whole_town" = some (.ref (G.fa "need_whole_town"))
  F_far : Fun K "far" "far" s_far (G.fa "far") (fd "far")
  M_far : mg "far" = some (.ref (G.fa "far"))
  F_most_steps : Fun K "most_steps" "most_steps" s_most_steps (G.fa "most_steps") (fd "most_steps")
  M_most_steps : mg "most_steps" = some (.ref (G.fa "most_steps"))
  F_are_wholes : Fun K "are_wholes" "are_wholes" s_are_wholes (G.fa "are_wholes") (fd "are_wholes")
  M_are_wholes : mg "are_wholes" = some (.ref (G.fa "are_wholes"))
  F_need_numbers : Fun K "need_numbers" "need_numbers" s_need_numbers (G.fa "need_numbers") (fd "need_numbers")
  M_need_numbers : mg "need_numbers" = some (.ref (G.fa "need_numbers"))
  F_step : Fun K "step" "step" s_step (G.fa "step") (fd "step")
  M_step : mg "step" = some (.ref (G.fa "step"))
  F_rest_in : Fun K "rest_in" "rest_in" s_rest_in (G.fa "rest_in") (fd "rest_in")
  M_rest_in : mg "rest_in" = some (.ref (G.fa "rest_in"))
  F_steps_to_rest : Fun K "steps_to_rest" "steps_to_rest" s_steps_to_rest (G.fa "steps_to_rest") (fd "steps_to_rest")
  M_steps_to_rest : mg "steps_to_rest" = some (.ref (G.fa "steps_to_rest"))
  F__law_sort : Fun K "_law_sort" "_law_sort" s__law_sort (G.fa "_law_sort") (fd "_law_sort")
  M__law_sort : mg "_law_sort" = some (.ref (G.fa "_law_sort"))
  F__law_like : Fun K "_law_like" "_law_like" s__law_like (G.fa "_law_like") (fd "_law_like")
  M__law_like : mg "_law_like" = some (.ref (G.fa "_law_like"))
  F__law_beside : Fun K "_law_beside" "_law_beside" s__law_beside (G.fa "_law_beside") (fd "_law_beside")
  M__law_beside : mg "_law_beside" = some (.ref (G.fa "_law_beside"))
  F__law_far : Fun K "_law_far" "_law_far" s__law_far (G.fa "_law_far") (fd "_law_far")
  M__law_far : mg "_law_far" = some (.ref (G.fa "_law_far"))
  F_late_numbers : Fun K "late_numbers" "late_numbers" s_late_numbers (G.fa "late_numbers") (fd "late_numbers")
  M_late_numbers : mg "late_numbers" = some (.ref (G.fa "late_numbers"))
  F__law_some : Fun K "_law_some" "_law_some" s__law_some (G.fa "_law_some") (fd "_law_some")
  M__law_some : mg "_law_some" = some (.ref (G.fa "_law_some"))
  F__law_hopped : Fun K "_law_hopped" "_law_hopped" s__law_hopped (G.fa "_law_hopped") (fd "_law_hopped")
  M__law_hopped : mg "_law_hopped" = some (.ref (G.fa "_law_hopped"))
  F_stepped : Fun K "stepped" "stepped" s_stepped (G.fa "stepped") (fd "stepped")
  M_stepped : mg "stepped" = some (.ref (G.fa "stepped"))
  F_need_whole : Fun K "need_whole" "need_whole" s_need_whole (G.fa "need_whole") (fd "need_whole")
  M_need_whole : mg "need_whole" = some (.ref (G.fa "need_whole"))
  F_behind_steps : Fun K "behind_steps" "behind_steps" s_behind_steps (G.fa "behind_steps") (fd "behind_steps")
  M_behind_steps : mg "behind_steps" = some (.ref (G.fa "behind_steps"))
  F_distances : Fun K "distances" "distances" s_distances (G.fa "distances") (fd "distances")
  M_distances : mg "distances" = some (.ref (G.fa "distances"))
  F__law_whole : Fun K "_law_whole" "_law_whole" s__law_whole (G.fa "_law_whole") (fd "_law_whole")
  M__law_whole : mg "_law_whole" = some (.ref (G.fa "_law_whole"))
  F__law_right : Fun K "_law_right" "_law_right" s__law_right (G.fa "_law_right") (fd "_law_right")
  M__law_right : mg "_law_right" = some (.ref (G.fa "_law_right"))
  F__law_ring : Fun K "_law_ring" "_law_ring" s__law_ring (G.fa "_law_ring") (fd "_law_ring")
  M__law_ring : mg "_law_ring" = some (.ref (G.fa "_law_ring"))
  F__law_star : Fun K "_law_star" "_law_star" s__law_star (G.fa "_law_star") (fd "_law_star")
  M__law_star : mg "_law_star" = some (.ref (G.fa "_law_star"))
  F__law_friends : Fun K "_law_friends" "_law_friends" s__law_friends (G.fa "_law_friends") (fd "_law_friends")
  M__law_friends : mg "_law_friends" = some (.ref (G.fa "_law_friends"))
  F__law_great_right : Fun K "_law_great_right" "_law_great_right" s__law_great_right (G.fa "_law_great_right") (fd "_law_great_right")
  M__law_great_right : mg "_law_great_right" = some (.ref (G.fa "_law_great_right"))
  F__law_written_right : Fun K "_law_written_right" "_law_written_right" s__law_written_right (G.fa "_law_written_right") (fd "_law_written_right")
  M__law_written_right : mg "_law_written_right" = some (.ref (G.fa "_law_written_right"))
  F_law : Fun K "law" "law" s_law (G.fa "law") (fd "law")
  M_law : mg "law" = some (.ref (G.fa "law"))
  c_HOUSES_friends : ∃ t, mg "HOUSES_friends" = some (.int 60 t)
  c_HOUSES_recolours : ∃ t, mg "HOUSES_recolours" = some (.int 40 t)
  c_NUMBER : ∃ t, mg "NUMBER" = some (.int 1000000 t)
  c_PAIRS : ∃ t, mg "PAIRS" = some (.int 400 t)
  c_STEPS : ∃ t, mg "STEPS" = some (.int 1000000000000000000 t)
  z_abs : mg "abs" = none
  z_all : mg "all" = none
  z_bool : mg "bool" = none
  z_int : mg "int" = none
  z_isinstance : mg "isinstance" = none
  z_len : mg "len" = none
  z_list : mg "list" = none
  z_max : mg "max" = none
  z_min : mg "min" = none
  z_range : mg "range" = none
  z_sorted : mg "sorted" = none
  z_str : mg "str" = none
  z_tuple : mg "tuple" = none
  z_zip : mg "zip" = none
section
variable {P : Program} {w : World} {K : PySem.W.Frag} {mg : Str → Option Value} {base : Heap} {G : GP} {fd : String → FuncData}
theorem Top.B__law_cup (T : Top K mg G fd) : Binds K (fd "_law_cup") ["script"] [] := T.F__law_cup.binds fun _ _ _ _ _ _ us hl => match us, hl with | [_], _ => rfl
theorem Top.B__law_path (T : Top K mg G fd) : Binds K (fd "_law_path") ["houses"] [] := T.F__law_path.binds fun _ _ _ _ _ _ us hl => match us, hl with | [_], _ => rfl
theorem Top.B__law_roll (T : Top K mg G fd) : Binds K (fd "_law_roll") ["cup", "many"] [] := T.F__law_roll.binds fun _ _ _ _ _ _ us hl => match us, hl with | [_, _], _ => rfl
theorem Top.B_is_ascending (T : Top K mg G fd) : Binds K (fd "is_ascending") ["values"] [] := T.F_is_ascending.binds fun _ _ _ _ _ _ us hl => match us, hl with | [_], _ => rfl
theorem Top.B_is_tuple_of (T : Top K mg G fd) : Binds K (fd "is_tuple_of") ["value", "low", "high"] [] := T.F_is_tuple_of.binds fun _ _ _ _ _ _ us hl => match us, hl with | [_, _, _], _ => rfl
theorem Top.B_is_whole (T : Top K mg G fd) : Binds K (fd "is_whole") ["value", "low", "high"] [] := T.F_is_whole.binds fun _ _ _ _ _ _ us hl => match us, hl with | [_, _, _], _ => rfl
theorem Top.B_is_pair_of (T : Top K mg G fd) : Binds K (fd "is_pair_of") ["value", "houses"] [] := T.F_is_pair_of.binds fun _ _ _ _ _ _ us hl => match us, hl with | [_, _], _ => rfl
theorem Top.B_are_friends (T : Top K mg G fd) : Binds K (fd "are_friends") ["value"] [] := T.F_are_friends.binds fun _ _ _ _ _ _ us hl => match us, hl with | [_], _ => rfl
theorem Top.B_need_friends (T : Top K mg G fd) : Binds K (fd "need_friends") ["value"] [] := T.F_need_friends.binds fun _ _ _ _ _ _ us hl => match us, hl with | [_], _ => rfl
theorem Top.B_need_few (T : Top K mg G fd) : Binds K (fd "need_few") ["friends"] [] := T.F_need_few.binds fun _ _ _ _ _ _ us hl => match us, hl with | [_], _ => rfl
theorem Top.B_spread (T : Top K mg G fd) : Binds K (fd "spread") ["rows", "start"] [] := T.F_spread.binds fun _ _ _ _ _ _ us hl => match us, hl with | [_, _], _ => rfl
theorem Top.B_beside (T : Top K mg G fd) : Binds K (fd "beside") ["friends"] [] := T.F_beside.binds fun _ _ _ _ _ _ us hl => match us, hl with | [_], _ => rfl
theorem Top.B_need_whole_town (T : Top K mg G fd) : Binds K (fd "need_whole_town") ["friends"] [] := T.F_need_whole_town.binds fun _ _ _ _ _ _ us hl => match us, hl with | [_], _ => rfl
theorem Top.B_far (T : Top K mg G fd) : Binds K (fd "far") ["friends"] [] := T.F_far.binds fun _ _ _ _ _ _ us hl => match us, hl with | [_], _ => rfl
theorem Top.B_most_steps (T : Top K mg G fd) : Binds K (fd "most_steps") ["friends"] [] := T.F_most_steps.binds fun _ _ _ _ _ _ us hl => match us, hl with | [_], _ => rfl
theorem Top.B_are_wholes (T : Top K mg G fd) : Binds K (fd "are_wholes") ["value", "many", "low", "high"] [] := T.F_are_wholes.binds fun _ _ _ _ _ _ us hl => match us, hl with | [_, _, _, _], _ => rfl
theorem Top.B_need_numbers (T : Top K mg G fd) : Binds K (fd "need_numbers") ["friends", "numbers"] [] := T.F_need_numbers.binds fun _ _ _ _ _ _ us hl => match us, hl with | [_, _], _ => rfl
theorem Top.B_step (T : Top K mg G fd) : Binds K (fd "step") ["rows", "numbers"] [] := T.F_step.binds fun _ _ _ _ _ _ us hl => match us, hl with | [_, _], _ => rfl
theorem Top.B_rest_in (T : Top K mg G fd) : Binds K (fd "rest_in") ["friends", "numbers"] [] := T.F_rest_in.binds fun _ _ _ _ _ _ us hl => match us, hl with | [_, _], _ => rfl
theorem Top.B_steps_to_rest (T : Top K mg G fd) : Binds K (fd "steps_to_rest") ["friends", "numbers"] [] := T.F_steps_to_rest.binds fun _ _ _ _ _ _ us hl => match us, hl with | [_, _], _ => rfl
theorem Top.B__law_sort (T : Top K mg G fd) : Binds K (fd "_law_sort") ["value"] [] := T.F__law_sort.binds fun _ _ _ _ _ _ us hl => match us, hl with | [_], _ => rfl
theorem Top.B__law_like (T : Top K mg G fd) : Binds K (fd "_law_like") ["one", "other"] [] := T.F__law_like.binds fun _ _ _ _ _ _ us hl => match us, hl with | [_, _], _ => rfl
theorem Top.B__law_beside (T : Top K mg G fd) : Binds K (fd "_law_beside") ["friends"] [] := T.F__law_beside.binds fun _ _ _ _ _ _ us hl => match us, hl with | [_], _ => rfl
theorem Top.B__law_far (T : Top K mg G fd) : Binds K (fd "_law_far") ["rows", "start"] [] := T.F__law_far.binds fun _ _ _ _ _ _ us hl => match us, hl with | [_, _], _ => rfl
theorem Top.B_late_numbers (T : Top K mg G fd) : Binds K (fd "late_numbers") ["friends"] [] := T.F_late_numbers.binds fun _ _ _ _ _ _ us hl => match us, hl with | [_], _ => rfl
theorem Top.B__law_some (T : Top K mg G fd) : Binds K (fd "_law_some") ["cup", "things"] [] := T.F__law_some.binds fun _ _ _ _ _ _ us hl => match us, hl with | [_, _], _ => rfl
theorem Top.B__law_hopped (T : Top K mg G fd) : Binds K (fd "_law_hopped") ["rows", "numbers"] [] := T.F__law_hopped.binds fun _ _ _ _ _ _ us hl => match us, hl with | [_, _], _ => rfl
theorem Top.B_stepped (T : Top K mg G fd) : Binds K (fd "stepped") ["friends", "numbers"] [] := T.F_stepped.binds fun _ _ _ _ _ _ us hl => match us, hl with | [_, _], _ => rfl
theorem Top.B_need_whole (T : Top K mg G fd) : Binds K (fd "need_whole") ["value", "low", "high"] [] := T.F_need_whole.binds fun _ _ _ _ _ _ us hl => match us, hl with | [_, _, _], _ => rfl
theorem Top.B_behind_steps (T : Top K mg G fd) : Binds K (fd "behind_steps") ["friends", "numbers", "steps"] [] := T.F_behind_steps.binds fun _ _ _ _ _ _ us hl => match us, hl with | [_, _, _], _ => rfl
theorem Top.B_distances (T : Top K mg G fd) : Binds K (fd "distances") ["friends"] [] := T.F_distances.binds fun _ _ _ _ _ _ us hl => match us, hl with | [_], _ => rfl
theorem Top.B__law_whole (T : Top K mg G fd) : Binds K (fd "_law_whole") ["value", "low", "high"] [] := T.F__law_whole.binds fun _ _ _ _ _ _ us hl => match us, hl with | [_, _, _], _ => rfl
theorem Top.B__law_right (T : Top K mg G fd) : Binds K (fd "_law_right") ["cup", "friends"] [] := T.F__law_right.binds fun _ _ _ _ _ _ us hl => match us, hl with | [_, _], _ => rfl
theorem Top.B__law_ring (T : Top K mg G fd) : Binds K (fd "_law_ring") ["houses"] [] := T.F__law_ring.binds fun _ _ _ _ _ _ us hl => match us, hl with | [_], _ => rfl
theorem Top.B__law_star (T : Top K mg G fd) : Binds K (fd "_law_star") ["houses"] [] := T.F__law_star.binds fun _ _ _ _ _ _ us hl => match us, hl with | [_], _ => rfl
theorem Top.B__law_friends (T : Top K mg G fd) : Binds K (fd "_law_friends") ["cup", "most", "is_whole_v"] [] := T.F__law_friends.binds fun _ _ _ _ _ _ us hl => match us, hl with | [_, _, _], _ => rfl
theorem Top.B__law_great_right (T : Top K mg G fd) : Binds K (fd "_law_great_right") ["cup"] [] := T.F__law_great_right.binds fun _ _ _ _ _ _ us hl => match us, hl with | [_], _ => rfl
theorem Top.B__law_written_right (T : Top K mg G fd) : Binds K (fd "_law_written_right") [] [] := T.F__law_written_right.binds fun _ _ _ _ _ _ us hl => match us, hl with | [], _ => rfl
theorem Top.B_law (T : Top K mg G fd) : Binds K (fd "law") ["script"] [] := T.F_law.binds fun _ _ _ _ _ _ us hl => match us, hl with | [_], _ => rfl
def N__law_cup : List Str := ["script", "cell"]
theorem sc__law_cup : FnScope N__law_cup ["script"] (defScope s__law_cup) := ⟨rfl, rfl, rfl, by decide +kernel, rfl, by decide +kernel, by decide +kernel⟩
abbrev m__law_cup : List W → Store → R W := gCup
theorem ok__law_cup (T : Top K mg G fd) : FnM P w K mg base G 1 (G.fa "_law_cup") (fd "_law_cup") ["script"] m__law_cup :=
  fn_mk (k := 0) (N := N__law_cup) (body := bgCup) T.F__law_cup sc__law_cup fun cdv A outer s H E hr => have hu := hu_of hr; have hu0 := hr.units0; have hu64 := hr.units64; have hu65 := hr.units65; 
    (ms_cons (ms_set (i := 1) (m_callB c_abs T.z_abs bt_abs (ma_cons (m_item hu (PF.val (f_bin o_cat (PF.val (f_callT (c_list T.gk) T.z_list bt_list (ma_cons (m_var 0) ma_nil))) (PF.val (f_lst (ma_cons m_int ma_nil))))) m_int) ma_nil)) sc__law_cup.nd)
    (ms_one (ms_ret (PF.alloc (f_lst (ma_cons (m_if (mt_cmp o_ge (m_var 1) (m_bin o_pow m_int m_int) (nomark _)) (m_bin o_fdiv (m_var 1) m_int) m_int) (ma_cons (m_bin o_add (m_bin o_mod (m_callT c_int T.z_int bt_int (ma_cons (m_bin o_add (m_bin o_mulT (m_var 1) m_int) m_int) ma_nil)) m_int) m_int) ma_nil)))))))
def N__law_path : List Str := ["houses", "house"]
theorem sc__law_path : FnScope N__law_path ["houses"] (defScope s__law_path) := ⟨rfl, rfl, rfl, by decide +kernel, rfl, by decide +kernel, by decide +kernel⟩
def b__law_path : SX :=
    (sRet (eTup (aCons (eVar 0) (aCons (eCall bTuple (aCons (eV (fLc [1] (iRg1 (eBin opSub (eVar 0) (eC (.int 1)))) (gN 1) tYesM (eTup (aCons (eVar 1) (aCons (eBin opAdd (eVar 1) (eC (.int 1))) aNil))))) aNil)) aNil))))
def m__law_path : List W → Store → R W := runM 2 b__law_path
theorem ok__law_path (T : Top K mg G fd) : FnM P w K mg base G 1 (G.fa "_law_path") (fd "_law_path") ["houses"] m__law_path :=
  fn_mk (k := 0) (N := N__law_path) (body := b__law_path) T.F__law_path sc__law_path fun cdv A outer s H E hr => have hu := hu_of hr; have hu0 := hr.units0; have hu64 := hr.units64; have hu65 := hr.units65; 
    (ms_one (ms_ret (m_tup (ma_cons (m_var 0) (ma_cons (m_callT c_tuple T.z_tuple bt_tuple (ma_cons (PF.val (f_lc (own := [("house", 1)]) rfl sc__law_path.nd (mi_range1 T.z_range (m_bin o_sub (m_var 0) m_int)) (blkOk_by (own := [("house", 1)]) (N := N__law_path) (sc := defScope s__law_path) (by decide +kernel)) (fun _ _ _ _ _ => (mg_name (i := 1) sc__law_path.nd rfl (by first | exact Or.inl rfl | exact Or.inr rfl))) (fun _ _ _ _ _ => mts_nil) (fun _ _ _ _ _ => (m_tup (ma_cons (m_var 1) (ma_cons (m_bin o_add (m_var 1) m_int) ma_nil)))))) ma_nil)) ma_nil)))))
def N__law_roll : List Str := ["cup", "many", "found", "deep"]
theorem sc__law_roll : FnScope N__law_roll ["cup", "many"] (defScope s__law_roll) := ⟨rfl, rfl, rfl, by decide +kernel, rfl, by decide +kernel, by decide +kernel⟩
abbrev m__law_roll : List W → Store → R W := gRoll
theorem ok__law_roll (T : Top K mg G fd) : FnM P w K mg base G 1 (G.fa "_law_roll") (fd "_law_roll") ["cup", "many"] m__law_roll :=
  fn_mk (k := 0) (N := N__law_roll) (body := bgRoll) T.F__law_roll sc__law_roll fun cdv A outer s H E hr => have hu := hu_of hr; have hu0 := hr.units0; have hu64 := hr.units64; have hu65 := hr.units65; 
    (ms_cons (ms_if (mt_cmp o_gt (m_item hu (m_var 0) m_int) m_int (nomark _)) (ms_cons (ms_set (i := 2) (m_bin o_mod (m_callT c_int T.z_int bt_int (ma_cons (m_item hu (m_var 0) m_int) ma_nil)) (m_var 1)) sc__law_roll.nd)
    (ms_cons (ms_put hu (m_var 0) m_int (m_bin o_fdiv (m_item hu (m_var 0) m_int) (m_var 1)))
    (ms_one (ms_ret (m_var 2))))) ms_nil)
    (ms_cons (ms_put hu (m_var 0) m_int (m_bin o_mod (m_callT c_int T.z_int bt_int (ma_cons (m_bin o_add (m_bin o_mulT (m_item hu (m_var 0) m_int) m_int) m_int) ma_nil)) m_int))
    (ms_cons (ms_set (i := 3) (m_bin o_mod (m_callT c_int T.z_int bt_int (ma_cons (m_bin o_mulT (m_item hu (m_var 0) m_int) (m_bin o_add (m_item hu (m_var 0) m_int) m_int)) ma_nil)) m_int) sc__law_roll.nd)
    (ms_one (ms_ret (m_bin o_mod (m_callT c_int T.z_int bt_int (ma_cons (m_bin o_fdiv (m_var 3) m_int) ma_nil)) (m_var 1)))))))
def N_is_ascending : List Str := ["values", "one", "other"]
theorem sc_is_ascending : FnScope N_is_ascending ["values"] (defScope s_is_ascending) := ⟨rfl, rfl, rfl, by decide +kernel, rfl, by decide +kernel, by decide +kernel⟩
def b_is_ascending : SX :=
    (sRet (eCall bAll (aCons (eV (fLc [1, 2] (iZp (eVar 0) (eSlice (eVar 0) (oSome (eC (.int 1))) oNone)) (gT (gsCons (gN 1) (gsCons (gN 2) gsNil))) tYesM (eBin opLt (eVar 1) (eVar 2)))) aNil)))
def m_is_ascending : List W → Store → R W := runM 3 b_is_ascending
theorem ok_is_ascending (T : Top K mg G fd) : FnM P w K mg base G 1 (G.fa "is_ascending") (fd "is_ascending") ["values"] m_is_ascending :=
  fn_mk (k := 0) (N := N_is_ascending) (body := b_is_ascending) T.F_is_ascending sc_is_ascending fun cdv A outer s H E hr => have hu := hu_of hr; have hu0 := hr.units0; have hu64 := hr.units64; have hu65 := hr.units65; 
    (ms_one (ms_ret (m_callB (c_all rfl) T.z_all bt_all (ma_cons (PF.val (f_lc (own := [("one", 1), ("other", 2)]) rfl sc_is_ascending.nd (mi_zip T.z_zip (m_var 0) (m_slice (m_var 0) (mo_some m_int) mo_none)) (blkOk_by (own := [("one", 1), ("other", 2)]) (N := N_is_ascending) (sc := defScope s_is_ascending) (by decide +kernel)) (fun _ _ _ _ _ => (mg_tup rfl (mgs_cons (mg_name (i := 1) sc_is_ascending.nd rfl (by first | exact Or.inl rfl | exact Or.inr rfl)) (mgs_cons (mg_name (i := 2) sc_is_ascending.nd rfl (by first | exact Or.inl rfl | exact Or.inr rfl)) mgs_nil)) (gs_len (gs_len gs_len0)))) (fun _ _ _ _ _ => mts_nil) (fun _ _ _ _ _ => (m_cmp (o_lt hu0) (m_var 1) (m_var 2) (nomark _))))) ma_nil))))
def N_is_tuple_of : List Str := ["value", "low", "high"]
theorem sc_is_tuple_of : FnScope N_is_tuple_of ["value", "low", "high"] (defScope s_is_tuple_of) := ⟨rfl, rfl, rfl, by decide +kernel, rfl, by decide +kernel, by decide +kernel⟩
def b_is_tuple_of : SX :=
    (sRet (eAnd (eCall bIsInst (aCons (eVar 0) (aCons (eC (.ty "tuple")) aNil))) (eChain opLe opLe (eVar 1) (eCall bLen (aCons (eVar 0) aNil)) (eVar 2))))
def m_is_tuple_of : List W → Store → R W := runM 3 b_is_tuple_of
theorem ok_is_tuple_of (T : Top K mg G fd) : FnM P w K mg base G 1 (G.fa "is_tuple_of") (fd "is_tuple_of") ["value", "low", "high"] m_is_tuple_of :=
  fn_mk (k := 0) (N := N_is_tuple_of) (body := b_is_tuple_of) T.F_is_tuple_of sc_is_tuple_of fun cdv A outer s H E hr => have hu := hu_of hr; have hu0 := hr.units0; have hu64 := hr.units64; have hu65 := hr.units65; 
    (ms_one (ms_ret (m_and (m_callB c_isinst T.z_isinstance bt_isinstance (ma_cons (m_var 0) (ma_cons (m_ty T.z_tuple bt_tuple) ma_nil))) (m_one (m_chain o_le o_le (m_var 1) (m_callB c_len T.z_len bt_len (ma_cons (m_var 0) ma_nil)) (m_var 2))))))
def N_is_whole : List Str := ["value", "low", "high"]
theorem sc_is_whole : FnScope N_is_whole ["value", "low", "high"] (defScope s_is_whole) := ⟨rfl, rfl, rfl, by decide +kernel, rfl, by decide +kernel, by decide +kernel⟩
def b_is_whole : SX :=
    (sRet (eAnd (eCall bIsInst (aCons (eVar 0) (aCons (eC (.ty "int")) aNil))) (eAnd (eNot (eCall bIsInst (aCons (eVar 0) (aCons (eC (.ty "bool")) aNil)))) (eChain opLe opLe (eVar 1) (eVar 0) (eVar 2)))))
def m_is_whole : List W → Store → R W := runM 3 b_is_whole
theorem ok_is_whole (T : Top K mg G fd) : FnM P w K mg base G 1 (G.fa "is_whole") (fd "is_whole") ["value", "low", "high"] m_is_whole :=
  fn_mk (k := 0) (N := N_is_whole) (body := b_is_whole) T.F_is_whole sc_is_whole fun cdv A outer s H E hr => have hu := hu_of hr; have hu0 := hr.units0; have hu64 := hr.units64; have hu65 := hr.units65; 
    (ms_one (ms_ret (m_and (m_callB c_isinst T.z_isinstance bt_isinstance (ma_cons (m_var 0) (ma_cons (m_ty T.z_int bt_int) ma_nil))) (m_and (m_not (m_callB c_isinst T.z_isinstance bt_isinstance (ma_cons (m_var 0) (ma_cons (m_ty T.z_bool bt_bool) ma_nil)))) (m_one (m_chain o_le o_le (m_var 1) (m_var 0) (m_var 2)))))))
def N_is_pair_of : List Str := ["value", "houses"]
theorem sc_is_pair_of : FnScope N_is_pair_of ["value", "houses"] (defScope s_is_pair_of) := ⟨rfl, rfl, rfl, by decide +kernel, rfl, by decide +kernel, by decide +kernel⟩
def b_is_pair_of : SX :=
    (sSeq (sIf (tOrM (tNotM (tTru (eFn 3 m_is_tuple_of (aCons (eVar 0) (aCons (eC (.int 2)) (aCons (eC (.int 2)) aNil)))))) (tOrM (tNotM (tTru (eFn 3 m_is_whole (aCons (eBin opItem (eVar 0) (eC (.int 0))) (aCons (eC (.int 0)) (aCons (eBin opSub (eVar 1) (eC (.int 1))) aNil)))))) (tNotM (tTru (eFn 3 m_is_whole (aCons (eBin opItem (eVar 0) (eC (.int 1))) (aCons (eC (.int 0)) (aCons (eBin opSub (eVar 1) (eC (.int 1))) aNil)))))))) (sRet (eC (.bl false))) sNext)
    (sRet (eBin opLt (eBin opItem (eVar 0) (eC (.int 0))) (eBin opItem (eVar 0) (eC (.int 1))))))
def m_is_pair_of : List W → Store → R W := runM 2 b_is_pair_of
theorem ok_is_pair_of (T : Top K mg G fd) : FnM P w K mg base G 2 (G.fa "is_pair_of") (fd "is_pair_of") ["value", "houses"] m_is_pair_of :=
  fn_mk (k := 1) (N := N_is_pair_of) (body := b_is_pair_of) T.F_is_pair_of sc_is_pair_of fun cdv A outer s H E hr => have hu := hu_of hr; have hu0 := hr.units0; have hu64 := hr.units64; have hu65 := hr.units65; 
    (ms_cons (ms_if (mw_or (mt_not (mt_tru (m_fn (ok_is_tuple_of T) (hr.mono (by decide)) T.M_is_tuple_of T.F_is_tuple_of.kp T.B_is_tuple_of (passes_call (takes_of rfl rfl rfl rfl) (fun _ _ _ _ h => h)) (ma_cons (m_var 0) (ma_cons m_int (ma_cons m_int ma_nil)))))) (mw_or (mt_not (mt_tru (m_fn (ok_is_whole T) (hr.mono (by decide)) T.M_is_whole T.F_is_whole.kp T.B_is_whole (passes_call (takes_of rfl rfl rfl rfl) (fun _ _ _ _ h => h)) (ma_cons (m_item hu (m_var 0) m_int) (ma_cons m_int (ma_cons (m_bin o_sub (m_var 1) m_int) ma_nil)))))) (mw_or1 (mt_not (mt_tru (m_fn (ok_is_whole T) (hr.mono (by decide)) T.M_is_whole T.F_is_whole.kp T.B_is_whole (passes_call (takes_of rfl rfl rfl rfl) (fun _ _ _ _ h => h)) (ma_cons (m_item hu (m_var 0) m_int) (ma_cons m_int (ma_cons (m_bin o_sub (m_var 1) m_int) ma_nil))))))))).pt (ms_one (ms_ret m_bl)) ms_nil)
    (ms_one (ms_ret (m_cmp (o_lt hu0) (m_item hu (m_var 0) m_int) (m_item hu (m_var 0) m_int) (nomark _)))))
def N_are_friends : List Str := ["value", "pair"]
theorem sc_are_friends : FnScope N_are_friends ["value"] (defScope s_are_friends) := ⟨rfl, rfl, rfl, by decide +kernel, rfl, by decide +kernel, by decide +kernel⟩
def b_are_friends : SX :=
    (sSeq (sIf (tOrM (tNotM (tTru (eFn 3 m_is_tuple_of (aCons (eVar 0) (aCons (eC (.int 2)) (aCons (eC (.int 2)) aNil)))))) (tOrM (tNotM (tTru (eFn 3 m_is_whole (aCons (eBin opItem (eVar 0) (eC (.int 0))) (aCons (eC (.int 1)) (aCons (eC (.int 60)) aNil)))))) (tNotM (tTru (eFn 3 m_is_tuple_of (aCons (eBin opItem (eVar 0) (eC (.int 1))) (aCons (eC (.int 0)) (aCons (eC (.int 400)) aNil)))))))) (sRet (eC (.bl false))) sNext)
    (sRet (eAnd (eCall bAll (aCons (eV (fLc [1] (iSeq (eBin opItem (eVar 0) (eC (.int 1)))) (gN 1) tYesM (eFn 2 m_is_pair_of (aCons (eVar 1) (aCons (eBin opItem (eVar 0) (eC (.int 0))) aNil))))) aNil)) (eFn 1 m_is_ascending (aCons (eBin opItem (eVar 0) (eC (.int 1))) aNil)))))
def m_are_friends : List W → Store → R W := runM 2 b_are_friends
theorem ok_are_friends (T : Top K mg G fd) : FnM P w K mg base G 3 (G.fa "are_friends") (fd "are_friends") ["value"] m_are_friends :=
  fn_mk (k := 2) (N := N_are_friends) (body := b_are_friends) T.F_are_friends sc_are_friends fun cdv A outer s H E hr => have hu := hu_of hr; have hu0 := hr.units0; have hu64 := hr.units64; have hu65 := hr.units65; 
    (ms_cons (ms_if (mw_or (mt_not (mt_tru (m_fn (ok_is_tuple_of T) (hr.mono (by decide)) T.M_is_tuple_of T.F_is_tuple_of.kp T.B_is_tuple_of (passes_call (takes_of rfl rfl rfl rfl) (fun _ _ _ _ h => h)) (ma_cons (m_var 0) (ma_cons m_int (ma_cons m_int ma_nil)))))) (mw_or (mt_not (mt_tru (m_fn (ok_is_whole T) (hr.mono (by decide)) T.M_is_whole T.F_is_whole.kp T.B_is_whole (passes_call (takes_of rfl rfl rfl rfl) (fun _ _ _ _ h => h)) (ma_cons (m_item hu (m_var 0) m_int) (ma_cons m_int (ma_cons (m_globI T.c_HOUSES_friends.choose_spec) ma_nil)))))) (mw_or1 (mt_not (mt_tru (m_fn (ok_is_tuple_of T) (hr.mono (by decide)) T.M_is_tuple_of T.F_is_tuple_of.kp T.B_is_tuple_of (passes_call (takes_of rfl rfl rfl rfl) (fun _ _ _ _ h => h)) (ma_cons (m_item hu (m_var 0) m_int) (ma_cons m_int (ma_cons (m_globI T.c_PAIRS.choose_spec) ma_nil))))))))).pt (ms_one (ms_ret m_bl)) ms_nil)
    (ms_one (ms_ret (m_and (m_callB (c_all rfl) T.z_all bt_all (ma_cons (PF.val (f_lc (own := [("pair", 1)]) rfl sc_are_friends.nd (mi_seq (m_item hu (m_var 0) m_int)) (blkOk_by (own := [("pair", 1)]) (N := N_are_friends) (sc := defScope s_are_friends) (by decide +kernel)) (fun _ _ _ _ _ => (mg_name (i := 1) sc_are_friends.nd rfl (by first | exact Or.inl rfl | exact Or.inr rfl))) (fun _ _ _ _ _ => mts_nil) (fun _ _ _ _ _ => (m_fn (ok_is_pair_of T) (hr.mono (by decide)) T.M_is_pair_of T.F_is_pair_of.kp T.B_is_pair_of passL (ma_cons (m_var 1) (ma_cons (m_item hu (m_var 0) m_int) ma_nil)))))) ma_nil)) (m_one (m_fn (ok_is_ascending T) (hr.mono (by decide)) T.M_is_ascending T.F_is_ascending.kp T.B_is_ascending (passes_call (takes_of rfl rfl rfl rfl) (fun _ _ _ _ h => h)) (ma_cons (m_item hu (m_var 0) m_int) ma_nil)))))))
def N_need_friends : List Str := ["value"]
theorem sc_need_friends : FnScope N_need_friends ["value"] (defScope s_need_friends) := ⟨rfl, rfl, rfl, by decide +kernel, rfl, by decide +kernel, by decide +kernel⟩
def b_need_friends : SX :=
    (sIf (tNotM (tTru (eFn 1 m_are_friends (aCons (eVar 0) aNil)))) sBad sNext)
def m_need_friends : List W → Store → R W := runM 1 b_need_friends
theorem ok_need_friends (T : Top K mg G fd) : FnM P w K mg base G 4 (G.fa "need_friends") (fd "need_friends") ["value"] m_need_friends :=
  fn_mk (k := 3) (N := N_need_friends) (body := b_need_friends) T.F_need_friends sc_need_friends fun cdv A outer s H E hr => have hu := hu_of hr; have hu0 := hr.units0; have hu64 := hr.units64; have hu65 := hr.units65; 
    (ms_one (ms_if (mt_not (mt_tru (m_fn (ok_are_friends T) (hr.mono (by decide)) T.M_are_friends T.F_are_friends.kp T.B_are_friends (passes_call (takes_of rfl rfl rfl rfl) (fun _ _ _ _ h => h)) (ma_cons (m_var 0) ma_nil)))) (ms_one ms_never) ms_nil))
def N_need_few : List Str := ["friends"]
theorem sc_need_few : FnScope N_need_few ["friends"] (defScope s_need_few) := ⟨rfl, rfl, rfl, by decide +kernel, rfl, by decide +kernel, by decide +kernel⟩
def b_need_few : SX :=
    (sSeq (sDrop (eFn 1 m_need_friends (aCons (eVar 0) aNil)))
    (sIf (tOf (eBin opGt (eBin opItem (eVar 0) (eC (.int 0))) (eC (.int 40)))) sBad sNext))
def m_need_few : List W → Store → R W := runM 1 b_need_few
theorem ok_need_few (T : Top K mg G fd) : FnM P w K mg base G 5 (G.fa "need_few") (fd "need_few") ["friends"] m_need_few :=
  fn_mk (k := 4) (N := N_need_few) (body := b_need_few) T.F_need_few sc_need_few fun cdv A outer s H E hr => have hu := hu_of hr; have hu0 := hr.units0; have hu64 := hr.units64; have hu65 := hr.units65; 
    (ms_cons (ms_expr (m_fn (ok_need_friends T) (hr.mono (by decide)) T.M_need_friends T.F_need_friends.kp T.B_need_friends (passes_call (takes_of rfl rfl rfl rfl) (fun _ _ _ _ h => h)) (ma_cons (m_var 0) ma_nil)))
    (ms_one (ms_if (mt_cmp o_gt (m_item hu (m_var 0) m_int) (m_globI T.c_HOUSES_recolours.choose_spec) (nomark _)) (ms_one ms_never) ms_nil)))
def N_spread : List Str := ["rows", "start", "came", "queue", "at", "house", "other"]
theorem sc_spread : FnScope N_spread ["rows", "start"] (defScope s_spread) := ⟨rfl, rfl, rfl, by decide +kernel, rfl, by decide +kernel, by decide +kernel⟩
def b_spread : SX :=
    (sSeq (sPar3 2 3 4 (eDisp [((eVar 1), (eTup (aCons (eC (.int 0)) (aCons (eC .non) aNil))))]) (eA (fLst (aCons (eVar 1) aNil))) (eC (.int 0)))
    (sSeq (sWhile 4000 (tOf (eBin opLt (eVar 4) (eCall bLen (aCons (eVar 3) aNil)))) (sSeq (sPar 5 4 (eBin opItem (eVar 3) (eVar 4)) (eBin opAdd (eVar 4) (eC (.int 1))))
    (sFor (iSeq (eBin opItem (eVar 0) (eVar 5))) (gN 6) (sIf (tOf (eBin opNotInX (eVar 6) (eVar 2))) (sSeq (sPut (eVar 2) (eVar 6) (eTup (aCons (eBin opAdd (eBin opItem (eBin opItem (eVar 2) (eVar 5)) (eC (.int 0))) (eC (.int 1))) (aCons (eVar 5) aNil))))
    (sDrop (eMeth isRefL opAppend (eVar 3) (aCons (eVar 6) aNil)))) sNext))))
    (sRet (eVar 2))))
def m_spread : List W → Store → R W := runM 7 b_spread
theorem ok_spread (T : Top K mg G fd) : FnM P w K mg base G 1 (G.fa "spread") (fd "spread") ["rows", "start"] m_spread :=
  fn_mk (k := 0) (N := N_spread) (body := b_spread) T.F_spread sc_spread fun cdv A outer s H E hr => have hu := hu_of hr; have hu0 := hr.units0; have hu64 := hr.units64; have hu65 := hr.units65; 
    (ms_cons (ms_par3 (i := 2) (j := 3) (l := 4) (m_disp (mps_cons (m_var 1) (m_tup (ma_cons m_int (ma_cons m_non ma_nil))) mps_nil)) (PF.alloc (f_lst (ma_cons (m_var 1) ma_nil))) m_int rfl sc_spread.nd)
    (ms_cons (ms_while 4000 (passes_of rfl) (mt_cmp (o_lt hu0) (m_var 4) (m_callB c_len T.z_len bt_len (ma_cons (m_var 3) ma_nil)) (nomark _)) (ms_cons (ms_par (i := 5) (j := 4) (m_item hu (m_var 3) (m_var 4)) (m_bin o_add (m_var 4) m_int) rfl sc_spread.nd)
    (ms_one (ms_for (passes_of rfl) rfl (mi_seq (m_item hu (m_var 0) (m_var 5))) (mg_name (i := 6) sc_spread.nd rfl (by first | exact Or.inl rfl | exact Or.inr rfl)) (ms_one (ms_if (mt_cmp (o_notinX hu65) (m_var 6) (m_var 2) (by with_unfolding_all rfl)) (ms_cons (ms_put hu (m_var 2) (m_var 6) (m_tup (ma_cons (m_bin o_add (m_item hu (m_item hu (m_var 2) (m_var 5)) m_int) m_int) (ma_cons (m_var 5) ma_nil))))
    (ms_one (ms_expr (m_methL PySem.F.slot_list_append rfl o_append (m_var 3) (ma_cons (m_var 6) ma_nil))))) ms_nil))))))
    (ms_one (ms_ret (m_var 2)))))
def N_beside : List Str := ["friends", "found", "one", "other", "house", "row"]
theorem sc_beside : FnScope N_beside ["friends"] (defScope s_beside) := ⟨rfl, rfl, rfl, by decide +kernel, rfl, by decide +kernel, by decide +kernel⟩
def b_beside : SX :=
    (sSeq (sAsg (eV (fLc [4] (iRg1 (eBin opItem (eVar 0) (eC (.int 0)))) (gN 4) tYesM (eA (fLst aNil)))) (gN 1))
    (sSeq (sFor (iSeq (eBin opItem (eVar 0) (eC (.int 1)))) (gT (gsCons (gN 2) (gsCons (gN 3) gsNil))) (sSeq (sDrop (eMeth isRefL opAppend (eBin opItem (eVar 1) (eVar 2)) (aCons (eVar 3) aNil)))
    (sDrop (eMeth isRefL opAppend (eBin opItem (eVar 1) (eVar 3)) (aCons (eVar 2) aNil)))))
    (sRet (eV (fLc [5] (iSeq (eVar 1)) (gN 5) tYesM (eV (fCall bSorted (aCons (eVar 5) aNil))))))))
def m_beside : List W → Store → R W := runM 6 b_beside
theorem ok_beside (T : Top K mg G fd) : FnM P w K mg base G 1 (G.fa "beside") (fd "beside") ["friends"] m_beside :=
  fn_mk (k := 0) (N := N_beside) (body := b_beside) T.F_beside sc_beside fun cdv A outer s H E hr => have hu := hu_of hr; have hu0 := hr.units0; have hu64 := hr.units64; have hu65 := hr.units65; 
    (ms_cons (ms_setLcV (i := 1) (own := [("house", 4)]) rfl sc_beside.nd rfl rfl (sw_true rfl rfl rfl (by decide +kernel)) (mi_range1 T.z_range (m_item hu (m_var 0) m_int)) (blkOk_by (own := [("house", 4)]) (N := N_beside) (sc := defScope s_beside) (by decide +kernel)) (fun _ _ _ _ _ => (mg_name (i := 4) sc_beside.nd rfl (by first | exact Or.inl rfl | exact Or.inr rfl))) (fun _ _ _ _ _ => mts_nil) (fun _ _ _ _ _ => (PF.alloc (f_lst ma_nil))))
    (ms_cons (ms_for (passes_of rfl) rfl (mi_seq (m_item hu (m_var 0) m_int)) (mg_tup rfl (mgs_cons (mg_name (i := 2) sc_beside.nd rfl (by first | exact Or.inl rfl | exact Or.inr rfl)) (mgs_cons (mg_name (i := 3) sc_beside.nd rfl (by first | exact Or.inl rfl | exact Or.inr rfl)) mgs_nil)) (gs_len (gs_len gs_len0))) (ms_cons (ms_expr (m_methL PySem.F.slot_list_append rfl o_append (m_item hu (m_var 1) (m_var 2)) (ma_cons (m_var 3) ma_nil)))
    (ms_one (ms_expr (m_methL PySem.F.slot_list_append rfl o_append (m_item hu (m_var 1) (m_var 3)) (ma_cons (m_var 2) ma_nil))))))
    (ms_one (ms_ret (PF.val (f_lc (own := [("row", 5)]) rfl sc_beside.nd (mi_seq (m_var 1)) (blkOk_by (own := [("row", 5)]) (N := N_beside) (sc := defScope s_beside) (by decide +kernel)) (fun _ _ _ _ _ => (mg_name (i := 5) sc_beside.nd rfl (by first | exact Or.inl rfl | exact Or.inr rfl))) (fun _ _ _ _ _ => mts_nil) (fun _ _ _ _ _ => (PF.val (f_callB (c_sorted rfl) T.z_sorted bt_sorted (ma_cons (m_var 5) ma_nil))))))))))
def N_need_whole_town : List Str := ["friends"]
theorem sc_need_whole_town : FnScope N_need_whole_town ["friends"] (defScope s_need_whole_town) := ⟨rfl, rfl, rfl, by decide +kernel, rfl, by decide +kernel, by decide +kernel⟩
def b_need_whole_town : SX :=
    (sSeq (sDrop (eFn 1 m_need_few (aCons (eVar 0) aNil)))
    (sIf (tOf (eBin opLt (eCall bLen (aCons (eFn 2 m_spread (aCons (eFn 1 m_beside (aCons (eVar 0) aNil)) (aCons (eC (.int 0)) aNil))) aNil)) (eBin opItem (eVar 0) (eC (.int 0))))) sBad sNext))
def m_need_whole_town : List W → Store → R W := runM 1 b_need_whole_town
theorem ok_need_whole_town (T : Top K mg G fd) : FnM P w K mg base G 6 (G.fa "need_whole_town") (fd "need_whole_town") ["friends"] m_need_whole_town :=
  fn_mk (k := 5) (N := N_need_whole_town) (body := b_need_whole_town) T.F_need_whole_town sc_need_whole_town fun cdv A outer s H E hr => have hu := hu_of hr; have hu0 := hr.units0; have hu64 := hr.units64; have hu65 := hr.units65; 
    (ms_cons (ms_expr (m_fn (ok_need_few T) (hr.mono (by decide)) T.M_need_few T.F_need_few.kp T.B_need_few (passes_call (takes_of rfl rfl rfl rfl) (fun _ _ _ _ h => h)) (ma_cons (m_var 0) ma_nil)))
    (ms_one (ms_if (mt_cmp (o_lt hu0) (m_callB c_len T.z_len bt_len (ma_cons (m_fn (ok_spread T) (hr.mono (by decide)) T.M_spread T.F_spread.kp T.B_spread (passes_call (takes_of rfl rfl rfl rfl) (fun _ _ _ _ h => h)) (ma_cons (m_fn (ok_beside T) (hr.mono (by decide)) T.M_beside T.F_beside.kp T.B_beside (passes_call (takes_of rfl rfl rfl rfl) (fun _ _ _ _ h => h)) (ma_cons (m_var 0) ma_nil)) (ma_cons m_int ma_nil))) ma_nil)) (m_item hu (m_var 0) m_int) (nomark _)) (ms_one ms_never) ms_nil)))
def N_far : List Str := ["friends", "came", "house"]
theorem sc_far : FnScope N_far ["friends"] (defScope s_far) := ⟨rfl, rfl, rfl, by decide +kernel, rfl, by decide +kernel, by decide +kernel⟩
def b_far : SX :=
    (sSeq (sAsg (eFn 2 m_spread (aCons (eFn 1 m_beside (aCons (eVar 0) aNil)) (aCons (eC (.int 0)) aNil))) (gN 1))
    (sRet (eCall bTuple (aCons (eV (fLc [2] (iRg1 (eBin opItem (eVar 0) (eC (.int 0)))) (gN 2) tYesM (eBin opItem (eBin opItem (eVar 1) (eVar 2)) (eC (.int 0))))) aNil))))
def m_far : List W → Store → R W := runM 3 b_far
theorem ok_far (T : Top K mg G fd) : FnM P w K mg base G 2 (G.fa "far") (fd "far") ["friends"] m_far :=
  fn_mk (k := 1) (N := N_far) (body := b_far) T.F_far sc_far fun cdv A outer s H E hr => have hu := hu_of hr; have hu0 := hr.units0; have hu64 := hr.units64; have hu65 := hr.units65; 
    (ms_cons (ms_set (i := 1) (m_fn (ok_spread T) (hr.mono (by decide)) T.M_spread T.F_spread.kp T.B_spread (passes_call (takes_of rfl rfl rfl rfl) (fun _ _ _ _ h => h)) (ma_cons (m_fn (ok_beside T) (hr.mono (by decide)) T.M_beside T.F_beside.kp T.B_beside (passes_call (takes_of rfl rfl rfl rfl) (fun _ _ _ _ h => h)) (ma_cons (m_var 0) ma_nil)) (ma_cons m_int ma_nil))) sc_far.nd)
    (ms_one (ms_ret (m_callT c_tuple T.z_tuple bt_tuple (ma_cons (PF.val (f_lc (own := [("house", 2)]) rfl sc_far.nd (mi_range1 T.z_range (m_item hu (m_var 0) m_int)) (blkOk_by (own := [("house", 2)]) (N := N_far) (sc := defScope s_far) (by decide +kernel)) (fun _ _ _ _ _ => (mg_name (i := 2) sc_far.nd rfl (by first | exact Or.inl rfl | exact Or.inr rfl))) (fun _ _ _ _ _ => mts_nil) (fun _ _ _ _ _ => (m_item hu (m_item hu (m_var 1) (m_var 2)) m_int)))) ma_nil)))))
def N_most_steps : List Str := ["friends"]
theorem sc_most_steps : FnScope N_most_steps ["friends"] (defScope s_most_steps) := ⟨rfl, rfl, rfl, by decide +kernel, rfl, by decide +kernel, by decide +kernel⟩
def b_most_steps : SX :=
    (sSeq (sDrop (eFn 1 m_need_whole_town (aCons (eVar 0) aNil)))
    (sRet (eBin opAdd (eCall bMax (aCons (eFn 1 m_far (aCons (eVar 0) aNil)) aNil)) (eC (.int 1)))))
def m_most_steps : List W → Store → R W := runM 1 b_most_steps
theorem ok_most_steps (T : Top K mg G fd) : FnM P w K mg base G 7 (G.fa "most_steps") (fd "most_steps") ["friends"] m_most_steps :=
  fn_mk (k := 6) (N := N_most_steps) (body := b_most_steps) T.F_most_steps sc_most_steps fun cdv A outer s H E hr => have hu := hu_of hr; have hu0 := hr.units0; have hu64 := hr.units64; have hu65 := hr.units65; 
    (ms_cons (ms_expr (m_fn (ok_need_whole_town T) (hr.mono (by decide)) T.M_need_whole_town T.F_need_whole_town.kp T.B_need_whole_town (passes_call (takes_of rfl rfl rfl rfl) (fun _ _ _ _ h => h)) (ma_cons (m_var 0) ma_nil)))
    (ms_one (ms_ret (m_bin o_add (m_callB (c_max rfl) T.z_max bt_max (ma_cons (m_fn (ok_far T) (hr.mono (by decide)) T.M_far T.F_far.kp T.B_far (passes_call (takes_of rfl rfl rfl rfl) (fun _ _ _ _ h => h)) (ma_cons (m_var 0) ma_nil)) ma_nil)) m_int))))
def N_are_wholes : List Str := ["value", "many", "low", "high", "one"]
theorem sc_are_wholes : FnScope N_are_wholes ["value", "many", "low", "high"] (defScope s_are_wholes) := ⟨rfl, rfl, rfl, by decide +kernel, rfl, by decide +kernel, by decide +kernel⟩
def b_are_wholes : SX :=
    (sRet (eAnd (eFn 3 m_is_tuple_of (aCons (eVar 0) (aCons (eVar 1) (aCons (eVar 1) aNil)))) (eCall bAll (aCons (eV (fLc [4] (iSeq (eVar 0)) (gN 4) tYesM (eFn 3 m_is_whole (aCons (eVar 4) (aCons (eVar 2) (aCons (eVar 3) aNil)))))) aNil))))
def m_are_wholes : List W → Store → R W := runM 5 b_are_wholes
theorem ok_are_wholes (T : Top K mg G fd) : FnM P w K mg base G 2 (G.fa "are_wholes") (fd "are_wholes") ["value", "many", "low", "high"] m_are_wholes :=
  fn_mk (k := 1) (N := N_are_wholes) (body := b_are_wholes) T.F_are_wholes sc_are_wholes fun cdv A outer s H E hr => have hu := hu_of hr; have hu0 := hr.units0; have hu64 := hr.units64; have hu65 := hr.units65; 
    (ms_one (ms_ret (m_and (m_fn (ok_is_tuple_of T) (hr.mono (by decide)) T.M_is_tuple_of T.F_is_tuple_of.kp T.B_is_tuple_of (passes_call (takes_of rfl rfl rfl rfl) (fun _ _ _ _ h => h)) (ma_cons (m_var 0) (ma_cons (m_var 1) (ma_cons (m_var 1) ma_nil)))) (m_one (m_callB (c_all rfl) T.z_all bt_all (ma_cons (PF.val (f_lc (own := [("one", 4)]) rfl sc_are_wholes.nd (mi_seq (m_var 0)) (blkOk_by (own := [("one", 4)]) (N := N_are_wholes) (sc := defScope s_are_wholes) (by decide +kernel)) (fun _ _ _ _ _ => (mg_name (i := 4) sc_are_wholes.nd rfl (by first | exact Or.inl rfl | exact Or.inr rfl))) (fun _ _ _ _ _ => mts_nil) (fun _ _ _ _ _ => (m_fn (ok_is_whole T) (hr.mono (by decide)) T.M_is_whole T.F_is_whole.kp T.B_is_whole passL (ma_cons (m_var 4) (ma_cons (m_var 2) (ma_cons (m_var 3) ma_nil))))))) ma_nil))))))
def N_need_numbers : List Str := ["friends", "numbers"]
theorem sc_need_numbers : FnScope N_need_numbers ["friends", "numbers"] (defScope s_need_numbers) := ⟨rfl, rfl, rfl, by decide +kernel, rfl, by decide +kernel, by decide +kernel⟩
def b_need_numbers : SX :=
    (sSeq (sDrop (eFn 1 m_need_whole_town (aCons (eVar 0) aNil)))
    (sIf (tNotM (tTru (eFn 4 m_are_wholes (aCons (eVar 1) (aCons (eBin opItem (eVar 0) (eC (.int 0))) (aCons (eC (.int 0)) (aCons (eC (.int 1000000)) aNil))))))) sBad sNext))
def m_need_numbers : List W → Store → R W := runM 2 b_need_numbers
theorem ok_need_numbers (T : Top K mg G fd) : FnM P w K mg base G 7 (G.fa "need_numbers") (fd "need_numbers") ["friends", "numbers"] m_need_numbers :=
  fn_mk (k := 6) (N := N_need_numbers) (body := b_need_numbers) T.F_need_numbers sc_need_numbers fun cdv A outer s H E hr => have hu := hu_of hr; have hu0 := hr.units0; have hu64 := hr.units64; have hu65 := hr.units65; 
    (ms_cons (ms_expr (m_fn (ok_need_whole_town T) (hr.mono (by decide)) T.M_need_whole_town T.F_need_whole_town.kp T.B_need_whole_town (passes_call (takes_of rfl rfl rfl rfl) (fun _ _ _ _ h => h)) (ma_cons (m_var 0) ma_nil)))
    (ms_one (ms_if (mt_not (mt_tru (m_fn (ok_are_wholes T) (hr.mono (by decide)) T.M_are_wholes T.F_are_wholes.kp T.B_are_wholes (passes_call (takes_of rfl rfl rfl rfl) (fun _ _ _ _ h => h)) (ma_cons (m_var 1) (ma_cons (m_item hu (m_var 0) m_int) (ma_cons m_int (ma_cons (m_globI T.c_NUMBER.choose_spec) ma_nil))))))) (ms_one ms_never) ms_nil)))
def N_step : List Str := ["rows", "numbers", "row", "other"]
theorem sc_step : FnScope N_step ["rows", "numbers"] (defScope s_step) := ⟨rfl, rfl, rfl, by decide +kernel, rfl, by decide +kernel, by decide +kernel⟩
def b_step : SX :=
    (sRet (eBin opAdd (eTup (aCons (eC (.int 0)) aNil)) (eCall bTuple (aCons (eV (fLc [2] (iSeq (eSlice (eVar 0) (oSome (eC (.int 1))) oNone)) (gN 2) tYesM (eBin opAdd (eC (.int 1)) (eCall bMin (aCons (eV (fLc [3] (iSeq (eVar 2)) (gN 3) tYesM (eBin opItem (eVar 1) (eVar 3)))) aNil))))) aNil))))
def m_step : List W → Store → R W := runM 4 b_step
theorem ok_step (T : Top K mg G fd) : FnM P w K mg base G 1 (G.fa "step") (fd "step") ["rows", "numbers"] m_step :=
  fn_mk (k := 0) (N := N_step) (body := b_step) T.F_step sc_step fun cdv A outer s H E hr => have hu := hu_of hr; have hu0 := hr.units0; have hu64 := hr.units64; have hu65 := hr.units65; 
    (ms_one (ms_ret (m_bin o_add (m_tup (ma_cons m_int ma_nil)) (m_callT c_tuple T.z_tuple bt_tuple (ma_cons (PF.val (f_lc (own := [("row", 2)]) rfl sc_step.nd (mi_seq (m_slice (m_var 0) (mo_some m_int) mo_none)) (blkOk_by (own := [("row", 2)]) (N := N_step) (sc := defScope s_step) (by decide +kernel)) (fun _ _ _ _ _ => (mg_name (i := 2) sc_step.nd rfl (by first | exact Or.inl rfl | exact Or.inr rfl))) (fun _ _ _ _ _ => mts_nil) (fun _ _ _ _ _ => (m_bin o_add m_int (m_callB (c_min rfl) T.z_min bt_min (ma_cons (PF.val (f_lc (own := [("other", 3)]) rfl sc_step.nd (mi_seq (m_var 2)) (blkOk_by (own := [("other", 3)]) (by with_unfolding_all rfl)) (fun _ _ _ _ _ => (mg_name (i := 3) sc_step.nd rfl (by first | exact Or.inl rfl | exact Or.inr rfl))) (fun _ _ _ _ _ => mts_nil) (fun _ _ _ _ _ => (m_item hu (m_var 1) (m_var 3))))) ma_nil)))))) ma_nil)))))
def N_rest_in : List Str := ["friends", "numbers", "rows", "due", "found"]
theorem sc_rest_in : FnScope N_rest_in ["friends", "numbers"] (defScope s_rest_in) := ⟨rfl, rfl, rfl, by decide +kernel, rfl, by decide +kernel, by decide +kernel⟩
def b_rest_in : SX :=
    (sSeq (sPar3 2 3 4 (eFn 1 m_beside (aCons (eVar 0) aNil)) (eFn 1 m_far (aCons (eVar 0) aNil)) (eC (.int 0)))
    (sSeq (sWhile 4000 (tOf (eBin opNe (eVar 1) (eVar 3))) (sPar 1 4 (eFn 2 m_step (aCons (eVar 2) (aCons (eVar 1) aNil))) (eBin opAdd (eVar 4) (eC (.int 1)))))
    (sRet (eVar 4))))
def m_rest_in : List W → Store → R W := runM 5 b_rest_in
theorem ok_rest_in (T : Top K mg G fd) : FnM P w K mg base G 3 (G.fa "rest_in") (fd "rest_in") ["friends", "numbers"] m_rest_in :=
  fn_mk (k := 2) (N := N_rest_in) (body := b_rest_in) T.F_rest_in sc_rest_in fun cdv A outer s H E hr => have hu := hu_of hr; have hu0 := hr.units0; have hu64 := hr.units64; have hu65 := hr.units65; 
    (ms_cons (ms_par3 (i := 2) (j := 3) (l := 4) (m_fn (ok_beside T) (hr.mono (by decide)) T.M_beside T.F_beside.kp T.B_beside (passes_call (takes_of rfl rfl rfl rfl) (fun _ _ _ _ h => h)) (ma_cons (m_var 0) ma_nil)) (m_fn (ok_far T) (hr.mono (by decide)) T.M_far T.F_far.kp T.B_far (passes_call (takes_of rfl rfl rfl rfl) (fun _ _ _ _ h => h)) (ma_cons (m_var 0) ma_nil)) m_int rfl sc_rest_in.nd)
    (ms_cons (ms_while 4000 (passes_of rfl) (mt_cmp (o_ne hu64) (m_var 1) (m_var 3) (nomark _)) (ms_one (ms_par (i := 1) (j := 4) (m_fn (ok_step T) (hr.mono (by decide)) T.M_step T.F_step.kp T.B_step (passes_call (takes_of rfl rfl rfl rfl) (fun _ _ _ _ h => h)) (ma_cons (m_var 2) (ma_cons (m_var 1) ma_nil))) (m_bin o_add (m_var 4) m_int) rfl sc_rest_in.nd)))
    (ms_one (ms_ret (m_var 4)))))
def N_steps_to_rest : List Str := ["friends", "numbers"]
theorem sc_steps_to_rest : FnScope N_steps_to_rest ["friends", "numbers"] (defScope s_steps_to_rest) := ⟨rfl, rfl, rfl, by decide +kernel, rfl, by decide +kernel, by decide +kernel⟩
def b_steps_to_rest : SX :=
    (sSeq (sDrop (eFn 2 m_need_numbers (aCons (eVar 0) (aCons (eVar 1) aNil))))
    (sRet (eFn 2 m_rest_in (aCons (eVar 0) (aCons (eVar 1) aNil)))))
def m_steps_to_rest : List W → Store → R W := runM 2 b_steps_to_rest
theorem ok_steps_to_rest (T : Top K mg G fd) : FnM P w K mg base G 8 (G.fa "steps_to_rest") (fd "steps_to_rest") ["friends", "numbers"] m_steps_to_rest :=
  fn_mk (k := 7) (N := N_steps_to_rest) (body := b_steps_to_rest) T.F_steps_to_rest sc_steps_to_rest fun cdv A outer s H E hr => have hu := hu_of hr; have hu0 := hr.units0; have hu64 := hr.units64; have hu65 := hr.units65; 
    (ms_cons (ms_expr (m_fn (ok_need_numbers T) (hr.mono (by decide)) T.M_need_numbers T.F_need_numbers.kp T.B_need_numbers (passes_call (takes_of rfl rfl rfl rfl) (fun _ _ _ _ h => h)) (ma_cons (m_var 0) (ma_cons (m_var 1) ma_nil))))
    (ms_one (ms_ret (m_fn (ok_rest_in T) (hr.mono (by decide)) T.M_rest_in T.F_rest_in.kp T.B_rest_in (passes_call (takes_of rfl rfl rfl rfl) (fun _ _ _ _ h => h)) (ma_cons (m_var 0) (ma_cons (m_var 1) ma_nil))))))
def N__law_sort : List Str := ["value"]
theorem sc__law_sort : FnScope N__law_sort ["value"] (defScope s__law_sort) := ⟨rfl, rfl, rfl, by decide +kernel, rfl, by decide +kernel, by decide +kernel⟩
abbrev m__law_sort : List W → Store → R W := gSort
theorem ok__law_sort (T : Top K mg G fd) : FnM P w K mg base G 1 (G.fa "_law_sort") (fd "_law_sort") ["value"] m__law_sort :=
  fn_mk (k := 0) (N := N__law_sort) (body := bgSort) T.F__law_sort sc__law_sort fun cdv A outer s H E hr => have hu := hu_of hr; have hu0 := hr.units0; have hu64 := hr.units64; have hu65 := hr.units65; 
    (ms_cons (ms_if (mw_or (mt_cmp o_is (m_var 0) m_non (nomark _)) (mw_or1 (mt_tru (m_callB c_isinst T.z_isinstance bt_isinstance (ma_cons (m_var 0) (ma_cons (m_ty T.z_bool bt_bool) ma_nil)))))).pt (ms_one (ms_ret (m_if (mt_cmp o_is (m_var 0) m_non (nomark _)) m_int m_int))) ms_nil)
    (ms_cons (ms_if (mw_or (mt_tru (m_callB c_isinst T.z_isinstance bt_isinstance (ma_cons (m_var 0) (ma_cons (m_ty T.z_int bt_int) ma_nil)))) (mw_or1 (mt_tru (m_callB c_isinst T.z_isinstance bt_isinstance (ma_cons (m_var 0) (ma_cons (m_ty T.z_str bt_str) ma_nil)))))).pt (ms_one (ms_ret (m_if (mt_tru (m_callB c_isinst T.z_isinstance bt_isinstance (ma_cons (m_var 0) (ma_cons (m_ty T.z_int bt_int) ma_nil)))) m_int m_int))) ms_nil)
    (ms_one (ms_ret (m_if (mt_tru (m_callB c_isinst T.z_isinstance bt_isinstance (ma_cons (m_var 0) (ma_cons (m_ty T.z_tuple bt_tuple) ma_nil)))) m_int (m_if (mt_tru (m_callB c_isinst T.z_isinstance bt_isinstance (ma_cons (m_var 0) (ma_cons (m_ty T.z_list bt_list) ma_nil)))) m_int m_int))))))
def N__law_like : List Str := ["one", "other", "sort", "first", "second"]
theorem sc__law_like : FnScope N__law_like ["one", "other"] (defScope s__law_like) := ⟨rfl, rfl, rfl, by decide +kernel, rfl, by decide +kernel, by decide +kernel⟩
abbrev m__law_like : Nat → List W → Store → R W := gLike
theorem ok__law_like (T : Top K mg G fd) : ∀ n, FnM P w K mg base G (n + 1) (G.fa "_law_like") (fd "_law_like") ["one", "other"] (m__law_like n)
  | 0 => fn_bad
  | n + 1 => by
    have ih := ok__law_like T n
    rw [show n + 1 + 1 = (n + 1) + 1 from by omega]
    exact fn_mk (N := N__law_like) (body := bgLike (gLike n)) T.F__law_like sc__law_like fun cdv A outer s H E hr => have hu := hu_of hr; have hu0 := hr.units0; have hu64 := hr.units64; have hu65 := hr.units65; 
    (ms_cons (ms_set (i := 2) (m_fn (ok__law_sort T) (hr.mono (Nat.le_trans (by decide : _ ≤ 1) (Nat.le_add_left _ _))) T.M__law_sort T.F__law_sort.kp T.B__law_sort (passes_call (takes_of rfl rfl rfl rfl) (fun _ _ _ _ h => h)) (ma_cons (m_var 1) ma_nil)) sc__law_like.nd)
    (ms_cons (ms_if (mw_or (mt_cmp (o_ne hu64) (m_fn (ok__law_sort T) (hr.mono (Nat.le_trans (by decide : _ ≤ 1) (Nat.le_add_left _ _))) T.M__law_sort T.F__law_sort.kp T.B__law_sort (passes_call (takes_of rfl rfl rfl rfl) (fun _ _ _ _ h => h)) (ma_cons (m_var 0) ma_nil)) (m_var 2) (nomark _)) (mw_or1 (mt_cmp (o_eq hu64) (m_var 2) m_int (nomark _)))).pt (ms_one (ms_ret m_bl)) ms_nil)
    (ms_cons (ms_if (mt_cmp (o_inX hu65) (m_var 2) (m_tup (ma_cons m_int (ma_cons m_int ma_nil))) (by with_unfolding_all rfl)) (ms_one (ms_ret (m_and (m_cmp (o_eq hu64) (m_callB c_len T.z_len bt_len (ma_cons (m_var 0) ma_nil)) (m_callB c_len T.z_len bt_len (ma_cons (m_var 1) ma_nil)) (nomark _)) (m_one (m_cmp (o_eq hu64) (PF.val (f_lc (own := [("first", 3), ("second", 4)]) rfl sc__law_like.nd (mi_zip T.z_zip (m_var 0) (m_var 1)) (blkOk_by (own := [("first", 3), ("second", 4)]) (N := N__law_like) (sc := defScope s__law_like) (by decide +kernel)) (fun _ _ _ _ _ => (mg_tup rfl (mgs_cons (mg_name (i := 3) sc__law_like.nd rfl (by first | exact Or.inl rfl | exact Or.inr rfl)) (mgs_cons (mg_name (i := 4) sc__law_like.nd rfl (by first | exact Or.inl rfl | exact Or.inr rfl)) mgs_nil)) (gs_len (gs_len gs_len0)))) (fun _ _ _ _ _ => (mts_one (mt_not (mt_tru (m_fn ih hr T.M__law_like T.F__law_like.kp T.B__law_like passL (ma_cons (m_var 3) (ma_cons (m_var 4) ma_nil))))))) (fun _ _ _ _ _ => m_int))) (PF.val (f_lst ma_nil)) (nomark _)))))) ms_nil)
    (ms_one (ms_ret (m_cmp (o_eq hu64) (m_var 0) (m_var 1) (nomark _)))))))
def N__law_beside : List Str := ["friends", "rows", "one", "other", "house"]
theorem sc__law_beside : FnScope N__law_beside ["friends"] (defScope s__law_beside) := ⟨rfl, rfl, rfl, by decide +kernel, rfl, by decide +kernel, by decide +kernel⟩
def b__law_beside : SX :=
    (sSeq (sAsg (eV (fLc [4] (iRg1 (eBin opItem (eVar 0) (eC (.int 0)))) (gN 4) tYesM (eA (fLst aNil)))) (gN 1))
    (sSeq (sFor (iSeq (eBin opItem (eVar 0) (eC (.int 1)))) (gT (gsCons (gN 2) (gsCons (gN 3) gsNil))) (sSeq (sDrop (eMeth isRefL opAppend (eBin opItem (eVar 1) (eVar 2)) (aCons (eVar 3) aNil)))
    (sDrop (eMeth isRefL opAppend (eBin opItem (eVar 1) (eVar 3)) (aCons (eVar 2) aNil)))))
    (sRet (eVar 1))))
def m__law_beside : List W → Store → R W := runM 5 b__law_beside
theorem ok__law_beside (T : Top K mg G fd) : FnM P w K mg base G 1 (G.fa "_law_beside") (fd "_law_beside") ["friends"] m__law_beside :=
  fn_mk (k := 0) (N := N__law_beside) (body := b__law_beside) T.F__law_beside sc__law_beside fun cdv A outer s H E hr => have hu := hu_of hr; have hu0 := hr.units0; have hu64 := hr.units64; have hu65 := hr.units65; 
    (ms_cons (ms_setLcV (i := 1) (own := [("house", 4)]) rfl sc__law_beside.nd rfl rfl (sw_true rfl rfl rfl (by decide +kernel)) (mi_range1 T.z_range (m_item hu (m_var 0) m_int)) (blkOk_by (own := [("house", 4)]) (N := N__law_beside) (sc := defScope s__law_beside) (by decide +kernel)) (fun _ _ _ _ _ => (mg_name (i := 4) sc__law_beside.nd rfl (by first | exact Or.inl rfl | exact Or.inr rfl))) (fun _ _ _ _ _ => mts_nil) (fun _ _ _ _ _ => (PF.alloc (f_lst ma_nil))))
    (ms_cons (ms_for (passes_of rfl) rfl (mi_seq (m_item hu (m_var 0) m_int)) (mg_tup rfl (mgs_cons (mg_name (i := 2) sc__law_beside.nd rfl (by first | exact Or.inl rfl | exact Or.inr rfl)) (mgs_cons (mg_name (i := 3) sc__law_beside.nd rfl (by first | exact Or.inl rfl | exact Or.inr rfl)) mgs_nil)) (gs_len (gs_len gs_len0))) (ms_cons (ms_expr (m_methL PySem.F.slot_list_append rfl o_append (m_item hu (m_var 1) (m_var 2)) (ma_cons (m_var 3) ma_nil)))
    (ms_one (ms_expr (m_methL PySem.F.slot_list_append rfl o_append (m_item hu (m_var 1) (m_var 3)) (ma_cons (m_var 2) ma_nil))))))
    (ms_one (ms_ret (m_var 1)))))
def N__law_far : List Str := ["rows", "start", "found", "now", "turn", "later", "house", "other"]
theorem sc__law_far : FnScope N__law_far ["rows", "start"] (defScope s__law_far) := ⟨rfl, rfl, rfl, by decide +kernel, rfl, by decide +kernel, by decide +kernel⟩
def b__law_far : SX :=
    (sSeq (sPar 2 3 (eDisp [((eVar 1), (eC (.int 0)))]) (eV (fLst (aCons (eVar 1) aNil))))
    (sSeq (sFor (iRg1 (eCall bLen (aCons (eVar 0) aNil))) (gN 4) (sSeq (sAsg (eA (fLst aNil)) (gN 5))
    (sSeq (sFor (iSeq (eVar 3)) (gN 6) (sFor (iSeq (eBin opItem (eVar 0) (eVar 6))) (gN 7) (sIf (tOf (eBin opNotInX (eVar 7) (eVar 2))) (sSeq (sPut (eVar 2) (eVar 7) (eBin opAdd (eVar 4) (eC (.int 1))))
    (sDrop (eMeth isRefL opAppend (eVar 5) (aCons (eVar 7) aNil)))) sNext)))
    (sAsg (eVar 5) (gN 3)))))
    (sRet (eVar 2))))
def m__law_far : List W → Store → R W := runM 8 b__law_far
theorem ok__law_far (T : Top K mg G fd) : FnM P w K mg base G 1 (G.fa "_law_far") (fd "_law_far") ["rows", "start"] m__law_far :=
  fn_mk (k := 0) (N := N__law_far) (body := b__law_far) T.F__law_far sc__law_far fun cdv A outer s H E hr => have hu := hu_of hr; have hu0 := hr.units0; have hu64 := hr.units64; have hu65 := hr.units65; 
    (ms_cons (ms_par (i := 2) (j := 3) (m_disp (mps_cons (m_var 1) m_int mps_nil)) (PF.val (f_lst (ma_cons (m_var 1) ma_nil))) rfl sc__law_far.nd)
    (ms_cons (ms_for (passes_of rfl) rfl (mi_range1 T.z_range (m_callB c_len T.z_len bt_len (ma_cons (m_var 0) ma_nil))) (mg_name (i := 4) sc__law_far.nd rfl (by first | exact Or.inl rfl | exact Or.inr rfl)) (ms_cons (ms_set (i := 5) (PF.alloc (f_lst ma_nil)) sc__law_far.nd)
    (ms_cons (ms_for (passes_of rfl) rfl (mi_seq (m_var 3)) (mg_name (i := 6) sc__law_far.nd rfl (by first | exact Or.inl rfl | exact Or.inr rfl)) (ms_one (ms_for (passes_of rfl) rfl (mi_seq (m_item hu (m_var 0) (m_var 6))) (mg_name (i := 7) sc__law_far.nd rfl (by first | exact Or.inl rfl | exact Or.inr rfl)) (ms_one (ms_if (mt_cmp (o_notinX hu65) (m_var 7) (m_var 2) (by with_unfolding_all rfl)) (ms_cons (ms_put hu (m_var 2) (m_var 7) (m_bin o_add (m_var 4) m_int))
    (ms_one (ms_expr (m_methL PySem.F.slot_list_append rfl o_append (m_var 5) (ma_cons (m_var 7) ma_nil))))) ms_nil)))))
    (ms_one (ms_set (i := 3) (m_var 5) sc__law_far.nd)))))
    (ms_one (ms_ret (m_var 2)))))
def N_late_numbers : List Str := ["friends"]
theorem sc_late_numbers : FnScope N_late_numbers ["friends"] (defScope s_late_numbers) := ⟨rfl, rfl, rfl, by decide +kernel, rfl, by decide +kernel, by decide +kernel⟩
def b_late_numbers : SX :=
    (sSeq (sDrop (eFn 1 m_need_whole_town (aCons (eVar 0) aNil)))
    (sRet (eBin opMulT (eTup (aCons (eC (.int 1000000)) aNil)) (eBin opItem (eVar 0) (eC (.int 0))))))
def m_late_numbers : List W → Store → R W := runM 1 b_late_numbers
theorem ok_late_numbers (T : Top K mg G fd) : FnM P w K mg base G 7 (G.fa "late_numbers") (fd "late_numbers") ["friends"] m_late_numbers :=
  fn_mk (k := 6) (N := N_late_numbers) (body := b_late_numbers) T.F_late_numbers sc_late_numbers fun cdv A outer s H E hr => have hu := hu_of hr; have hu0 := hr.units0; have hu64 := hr.units64; have hu65 := hr.units65; 
    (ms_cons (ms_expr (m_fn (ok_need_whole_town T) (hr.mono (by decide)) T.M_need_whole_town T.F_need_whole_town.kp T.B_need_whole_town (passes_call (takes_of rfl rfl rfl rfl) (fun _ _ _ _ h => h)) (ma_cons (m_var 0) ma_nil)))
    (ms_one (ms_ret (m_bin o_mulT (m_tup (ma_cons (m_globI T.c_NUMBER.choose_spec) ma_nil)) (m_item hu (m_var 0) m_int)))))
def N__law_some : List Str := ["cup", "things"]
theorem sc__law_some : FnScope N__law_some ["cup", "things"] (defScope s__law_some) := ⟨rfl, rfl, rfl, by decide +kernel, rfl, by decide +kernel, by decide +kernel⟩
abbrev m__law_some : List W → Store → R W := gSome
theorem ok__law_some (T : Top K mg G fd) : FnM P w K mg base G 2 (G.fa "_law_some") (fd "_law_some") ["cup", "things"] m__law_some :=
  fn_mk (k := 1) (N := N__law_some) (body := bgSome) T.F__law_some sc__law_some fun cdv A outer s H E hr => have hu := hu_of hr; have hu0 := hr.units0; have hu64 := hr.units64; have hu65 := hr.units65; 
    (ms_one (ms_ret (m_item hu (m_var 1) (m_fn (ok__law_roll T) (hr.mono (by decide)) T.M__law_roll T.F__law_roll.kp T.B__law_roll (passes_call (takes_of rfl rfl rfl rfl) (fun _ _ _ _ h => h)) (ma_cons (m_var 0) (ma_cons (m_callB c_len T.z_len bt_len (ma_cons (m_var 1) ma_nil)) ma_nil))))))
def N__law_hopped : List Str := ["rows", "numbers", "row", "other"]
theorem sc__law_hopped : FnScope N__law_hopped ["rows", "numbers"] (defScope s__law_hopped) := ⟨rfl, rfl, rfl, by decide +kernel, rfl, by decide +kernel, by decide +kernel⟩
def b__law_hopped : SX :=
    (sRet (eBin opAdd (eTup (aCons (eC (.int 0)) aNil)) (eCall bTuple (aCons (eV (fLc [2] (iSeq (eSlice (eVar 0) (oSome (eC (.int 1))) oNone)) (gN 2) tYesM (eBin opAdd (eC (.int 1)) (eCall bMin (aCons (eV (fLc [3] (iSeq (eVar 2)) (gN 3) tYesM (eBin opItem (eVar 1) (eVar 3)))) aNil))))) aNil))))
def m__law_hopped : List W → Store → R W := runM 4 b__law_hopped
theorem ok__law_hopped (T : Top K mg G fd) : FnM P w K mg base G 1 (G.fa "_law_hopped") (fd "_law_hopped") ["rows", "numbers"] m__law_hopped :=
  fn_mk (k := 0) (N := N__law_hopped) (body := b__law_hopped) T.F__law_hopped sc__law_hopped fun cdv A outer s H E hr => have hu := hu_of hr; have hu0 := hr.units0; have hu64 := hr.units64; have hu65 := hr.units65; 
    (ms_one (ms_ret (m_bin o_add (m_tup (ma_cons m_int ma_nil)) (m_callT c_tuple T.z_tuple bt_tuple (ma_cons (PF.val (f_lc (own := [("row", 2)]) rfl sc__law_hopped.nd (mi_seq (m_slice (m_var 0) (mo_some m_int) mo_none)) (blkOk_by (own := [("row", 2)]) (N := N__law_hopped) (sc := defScope s__law_hopped) (by decide +kernel)) (fun _ _ _ _ _ => (mg_name (i := 2) sc__law_hopped.nd rfl (by first | exact Or.inl rfl | exact Or.inr rfl))) (fun _ _ _ _ _ => mts_nil) (fun _ _ _ _ _ => (m_bin o_add m_int (m_callB (c_min rfl) T.z_min bt_min (ma_cons (PF.val (f_lc (own := [("other", 3)]) rfl sc__law_hopped.nd (mi_seq (m_var 2)) (blkOk_by (own := [("other", 3)]) (by with_unfolding_all rfl)) (fun _ _ _ _ _ => (mg_name (i := 3) sc__law_hopped.nd rfl (by first | exact Or.inl rfl | exact Or.inr rfl))) (fun _ _ _ _ _ => mts_nil) (fun _ _ _ _ _ => (m_item hu (m_var 1) (m_var 3))))) ma_nil)))))) ma_nil)))))
def N_stepped : List Str := ["friends", "numbers"]
theorem sc_stepped : FnScope N_stepped ["friends", "numbers"] (defScope s_stepped) := ⟨rfl, rfl, rfl, by decide +kernel, rfl, by decide +kernel, by decide +kernel⟩
def b_stepped : SX :=
    (sSeq (sDrop (eFn 2 m_need_numbers (aCons (eVar 0) (aCons (eVar 1) aNil))))
    (sRet (eFn 2 m_step (aCons (eFn 1 m_beside (aCons (eVar 0) aNil)) (aCons (eVar 1) aNil)))))
def m_stepped : List W → Store → R W := runM 2 b_stepped
theorem ok_stepped (T : Top K mg G fd) : FnM P w K mg base G 8 (G.fa "stepped") (fd "stepped") ["friends", "numbers"] m_stepped :=
  fn_mk (k := 7) (N := N_stepped) (body := b_stepped) T.F_stepped sc_stepped fun cdv A outer s H E hr => have hu := hu_of hr; have hu0 := hr.units0; have hu64 := hr.units64; have hu65 := hr.units65; 
    (ms_cons (ms_expr (m_fn (ok_need_numbers T) (hr.mono (by decide)) T.M_need_numbers T.F_need_numbers.kp T.B_need_numbers (passes_call (takes_of rfl rfl rfl rfl) (fun _ _ _ _ h => h)) (ma_cons (m_var 0) (ma_cons (m_var 1) ma_nil))))
    (ms_one (ms_ret (m_fn (ok_step T) (hr.mono (by decide)) T.M_step T.F_step.kp T.B_step (passes_call (takes_of rfl rfl rfl rfl) (fun _ _ _ _ h => h)) (ma_cons (m_fn (ok_beside T) (hr.mono (by decide)) T.M_beside T.F_beside.kp T.B_beside (passes_call (takes_of rfl rfl rfl rfl) (fun _ _ _ _ h => h)) (ma_cons (m_var 0) ma_nil)) (ma_cons (m_var 1) ma_nil))))))
def N_need_whole : List Str := ["value", "low", "high"]
theorem sc_need_whole : FnScope N_need_whole ["value", "low", "high"] (defScope s_need_whole) := ⟨rfl, rfl, rfl, by decide +kernel, rfl, by decide +kernel, by decide +kernel⟩
def b_need_whole : SX :=
    (sIf (tNotM (tTru (eFn 3 m_is_whole (aCons (eVar 0) (aCons (eVar 1) (aCons (eVar 2) aNil)))))) sBad sNext)
def m_need_whole : List W → Store → R W := runM 3 b_need_whole
theorem ok_need_whole (T : Top K mg G fd) : FnM P w K mg base G 2 (G.fa "need_whole") (fd "need_whole") ["value", "low", "high"] m_need_whole :=
  fn_mk (k := 1) (N := N_need_whole) (body := b_need_whole) T.F_need_whole sc_need_whole fun cdv A outer s H E hr => have hu := hu_of hr; have hu0 := hr.units0; have hu64 := hr.units64; have hu65 := hr.units65; 
    (ms_one (ms_if (mt_not (mt_tru (m_fn (ok_is_whole T) (hr.mono (by decide)) T.M_is_whole T.F_is_whole.kp T.B_is_whole (passes_call (takes_of rfl rfl rfl rfl) (fun _ _ _ _ h => h)) (ma_cons (m_var 0) (ma_cons (m_var 1) (ma_cons (m_var 2) ma_nil)))))) (ms_one ms_never) ms_nil))
def N_behind_steps : List Str := ["friends", "numbers", "steps", "rows", "due"]
theorem sc_behind_steps : FnScope N_behind_steps ["friends", "numbers", "steps"] (defScope s_behind_steps) := ⟨rfl, rfl, rfl, by decide +kernel, rfl, by decide +kernel, by decide +kernel⟩
def b_behind_steps : SX :=
    (sSeq (sDrop (eFn 2 m_need_numbers (aCons (eVar 0) (aCons (eVar 1) aNil))))
    (sSeq (sDrop (eFn 3 m_need_whole (aCons (eVar 2) (aCons (eC (.int 0)) (aCons (eC (.int 1000000000000000000)) aNil)))))
    (sSeq (sPar 3 4 (eFn 1 m_beside (aCons (eVar 0) aNil)) (eFn 1 m_far (aCons (eVar 0) aNil)))
    (sSeq (sWhile 4000 (tAndM (tOf (eBin opGt (eVar 2) (eC (.int 0)))) (tOf (eBin opNe (eVar 1) (eVar 4)))) (sPar 1 2 (eFn 2 m_step (aCons (eVar 3) (aCons (eVar 1) aNil))) (eBin opSub (eVar 2) (eC (.int 1)))))
    (sRet (eVar 1))))))
def m_behind_steps : List W → Store → R W := runM 5 b_behind_steps
theorem ok_behind_steps (T : Top K mg G fd) : FnM P w K mg base G 8 (G.fa "behind_steps") (fd "behind_steps") ["friends", "numbers", "steps"] m_behind_steps :=
  fn_mk (k := 7) (N := N_behind_steps) (body := b_behind_steps) T.F_behind_steps sc_behind_steps fun cdv A outer s H E hr => have hu := hu_of hr; have hu0 := hr.units0; have hu64 := hr.units64; have hu65 := hr.units65; 
    (ms_cons (ms_expr (m_fn (ok_need_numbers T) (hr.mono (by decide)) T.M_need_numbers T.F_need_numbers.kp T.B_need_numbers (passes_call (takes_of rfl rfl rfl rfl) (fun _ _ _ _ h => h)) (ma_cons (m_var 0) (ma_cons (m_var 1) ma_nil))))
    (ms_cons (ms_expr (m_fn (ok_need_whole T) (hr.mono (by decide)) T.M_need_whole T.F_need_whole.kp T.B_need_whole (passes_call (takes_of rfl rfl rfl rfl) (fun _ _ _ _ h => h)) (ma_cons (m_var 2) (ma_cons m_int (ma_cons (m_globI T.c_STEPS.choose_spec) ma_nil)))))
    (ms_cons (ms_par (i := 3) (j := 4) (m_fn (ok_beside T) (hr.mono (by decide)) T.M_beside T.F_beside.kp T.B_beside (passes_call (takes_of rfl rfl rfl rfl) (fun _ _ _ _ h => h)) (ma_cons (m_var 0) ma_nil)) (m_fn (ok_far T) (hr.mono (by decide)) T.M_far T.F_far.kp T.B_far (passes_call (takes_of rfl rfl rfl rfl) (fun _ _ _ _ h => h)) (ma_cons (m_var 0) ma_nil)) rfl sc_behind_steps.nd)
    (ms_cons (ms_while 4000 (passes_of rfl) (mw_and (mt_cmp o_gt (m_var 2) m_int (nomark _)) (mw_and1 (mt_cmp (o_ne hu64) (m_var 1) (m_var 4) (nomark _)))).pt (ms_one (ms_par (i := 1) (j := 2) (m_fn (ok_step T) (hr.mono (by decide)) T.M_step T.F_step.kp T.B_step (passes_call (takes_of rfl rfl rfl rfl) (fun _ _ _ _ h => h)) (ma_cons (m_var 3) (ma_cons (m_var 1) ma_nil))) (m_bin o_sub (m_var 2) m_int) rfl sc_behind_steps.nd)))
    (ms_one (ms_ret (m_var 1)))))))
def N_distances : List Str := ["friends"]
theorem sc_distances : FnScope N_distances ["friends"] (defScope s_distances) := ⟨rfl, rfl, rfl, by decide +kernel, rfl, by decide +kernel, by decide +kernel⟩
def b_distances : SX :=
    (sSeq (sDrop (eFn 1 m_need_whole_town (aCons (eVar 0) aNil)))
    (sRet (eFn 1 m_far (aCons (eVar 0) aNil))))
def m_distances : List W → Store → R W := runM 1 b_distances
theorem ok_distances (T : Top K mg G fd) : FnM P w K mg base G 7 (G.fa "distances") (fd "distances") ["friends"] m_distances :=
  fn_mk (k := 6) (N := N_distances) (body := b_distances) T.F_distances sc_distances fun cdv A outer s H E hr => have hu := hu_of hr; have hu0 := hr.units0; have hu64 := hr.units64; have hu65 := hr.units65; 
    (ms_cons (ms_expr (m_fn (ok_need_whole_town T) (hr.mono (by decide)) T.M_need_whole_town T.F_need_whole_town.kp T.B_need_whole_town (passes_call (takes_of rfl rfl rfl rfl) (fun _ _ _ _ h => h)) (ma_cons (m_var 0) ma_nil)))
    (ms_one (ms_ret (m_fn (ok_far T) (hr.mono (by decide)) T.M_far T.F_far.kp T.B_far (passes_call (takes_of rfl rfl rfl rfl) (fun _ _ _ _ h => h)) (ma_cons (m_var 0) ma_nil)))))
def N__law_whole : List Str := ["value", "low", "high"]
theorem sc__law_whole : FnScope N__law_whole ["value", "low", "high"] (defScope s__law_whole) := ⟨rfl, rfl, rfl, by decide +kernel, rfl, by decide +kernel, by decide +kernel⟩
abbrev m__law_whole : List W → Store → R W := gWhole
theorem ok__law_whole (T : Top K mg G fd) : FnM P w K mg base G 2 (G.fa "_law_whole") (fd "_law_whole") ["value", "low", "high"] m__law_whole :=
  fn_mk (k := 1) (N := N__law_whole) (body := bgWhole) T.F__law_whole sc__law_whole fun cdv A outer s H E hr => have hu := hu_of hr; have hu0 := hr.units0; have hu64 := hr.units64; have hu65 := hr.units65; 
    (ms_one (ms_ret (m_and (m_cmp (o_eq hu64) (m_fn (ok__law_sort T) (hr.mono (by decide)) T.M__law_sort T.F__law_sort.kp T.B__law_sort (passes_call (takes_of rfl rfl rfl rfl) (fun _ _ _ _ h => h)) (ma_cons (m_var 0) ma_nil)) m_int (nomark _)) (m_one (m_chain o_le o_le (m_var 1) (m_var 0) (m_var 2))))))
def N__law_right : List Str := ["cup", "friends", "rows", "far_v", "due", "late", "most", "start", "numbers", "now", "steps", "turn", "some", "there", "told", "house", "one"]
theorem sc__law_right : FnScope N__law_right ["cup", "friends"] (defScope s__law_right) := ⟨rfl, rfl, rfl, by decide +kernel, rfl, by decide +kernel, by decide +kernel⟩
def b__law_right : SX :=
    (sSeq (sAsg (eFn 1 m__law_beside (aCons (eVar 1) aNil)) (gN 2))
    (sSeq (sAsg (eFn 2 m__law_far (aCons (eVar 2) (aCons (eC (.int 0)) aNil))) (gN 3))
    (sSeq (sAsg (eCall bTuple (aCons (eV (fLc [15] (iRg1 (eBin opItem (eVar 1) (eC (.int 0)))) (gN 15) tYesM (eBin opItem (eVar 3) (eVar 15)))) aNil)) (gN 4))
    (sSeq (sAsg (eFn 1 m_late_numbers (aCons (eVar 1) aNil)) (gN 5))
    (sSeq (sIf (tNotM (tTru (eFn 2 (m__law_like 6) (aCons (eV (fLst (aCons (eFn 1 m_distances (aCons (eVar 1) aNil)) (aCons (eFn 1 m_most_steps (aCons (eVar 1) aNil)) aNil)))) (aCons (eV (fLst (aCons (eVar 4) (aCons (eBin opAdd (eCall bMax (aCons (eVar 4) aNil)) (eC (.int 1))) aNil)))) aNil))))) (sRet (eC (.bl false))) sNext)
    (sSeq (sIf (tOrM (tOf (eBin opNe (eFn 1 m__law_sort (aCons (eVar 5) aNil)) (eC (.int 4)))) (tOrM (tOf (eBin opNe (eCall bLen (aCons (eVar 5) aNil)) (eBin opItem (eVar 1) (eC (.int 0))))) (tOf (eBin opNe (eV (fLc [16] (iSeq (eVar 5)) (gN 16) (tNotM (tTru (eFn 3 m__law_whole (aCons (eVar 16) (aCons (eC (.int 0)) (aCons (eBin opPow (eC (.int 10)) (eC (.int 6))) aNil)))))) (eC (.int 1)))) (eV (fLst aNil)))))) (sRet (eC (.bl false))) sNext)
    (sSeq (sAsg (eFn 2 m__law_some (aCons (eVar 0) (aCons (eV (fLst (aCons (eC (.int 1)) (aCons (eC (.int 5)) (aCons (eC (.int 50)) (aCons (eC (.int 1000000)) aNil)))))) aNil))) (gN 6))
    (sSeq (sAsg (eCall bTuple (aCons (eV (fLc [15] (iRg1 (eBin opItem (eVar 1) (eC (.int 0)))) (gN 15) tYesM (eFn 2 m__law_roll (aCons (eVar 0) (aCons (eBin opAdd (eVar 6) (eC (.int 1))) aNil))))) aNil)) (gN 7))
    (sSeq (sFor (iSeq (eTup (aCons (eVar 7) (aCons (eBin opMulT (eTup (aCons (eC (.int 0)) aNil)) (eBin opItem (eVar 1) (eC (.int 0)))) (aCons (eVar 5) (aCons (eVar 4) (aCons (eBin opMulT (eTup (aCons (eC (.int 1000000)) aNil)) (eBin opItem (eVar 1) (eC (.int 0)))) aNil))))))) (gN 8) (sSeq (sPar 9 10 (eVar 8) (eC (.int 0)))
    (sSeq (sFor (iRg1 (eBin opAdd (eBin opItem (eVar 1) (eC (.int 0))) (eC (.int 2)))) (gN 11) (sIf (tOf (eBin opNe (eVar 9) (eVar 4))) (sPar 9 10 (eFn 2 m__law_hopped (aCons (eVar 2) (aCons (eVar 9) aNil))) (eBin opAdd (eVar 10) (eC (.int 1)))) sNext))
    (sSeq (sIf (tOrM (tOf (eBin opNe (eVar 9) (eVar 4))) (tNotM (tTru (eFn 2 (m__law_like 6) (aCons (eFn 2 m_steps_to_rest (aCons (eVar 1) (aCons (eVar 8) aNil))) (aCons (eVar 10) aNil)))))) (sRet (eC (.bl false))) sNext)
    (sSeq (sIf (tOrM (tAndM (tOf (eBin opEq (eVar 8) (eVar 5))) (tOf (eBin opNe (eVar 10) (eBin opAdd (eCall bMax (aCons (eVar 4) aNil)) (eC (.int 1)))))) (tOrM (tAndM (tOf (eBin opEq (eCall bMax (aCons (eVar 8) aNil)) (eC (.int 0)))) (tOf (eBin opNe (eVar 10) (eCall bMax (aCons (eVar 4) aNil))))) (tOf (eBin opGt (eVar 10) (eBin opAdd (eCall bMax (aCons (eVar 4) aNil)) (eC (.int 1))))))) (sRet (eC (.bl false))) sNext)
    (sSeq (sAsg (eFn 2 m__law_roll (aCons (eVar 0) (aCons (eBin opAdd (eVar 10) (eC (.int 3))) aNil))) (gN 12))
    (sSeq (sAsg (eVar 8) (gN 13))
    (sSeq (sFor (iRg1 (eVar 12)) (gN 11) (sAsg (eFn 2 m__law_hopped (aCons (eVar 2) (aCons (eVar 13) aNil))) (gN 13)))
    (sSeq (sAsg (eV (fLst (aCons (eFn 2 m_stepped (aCons (eVar 1) (aCons (eVar 8) aNil))) (aCons (eFn 3 m_behind_steps (aCons (eVar 1) (aCons (eVar 8) (aCons (eVar 12) aNil)))) (aCons (eFn 3 m_behind_steps (aCons (eVar 1) (aCons (eVar 8) (aCons (eBin opPow (eC (.int 10)) (eC (.int 18))) aNil)))) (aCons (eFn 3 m_behind_steps (aCons (eVar 1) (aCons (eVar 8) (aCons (eC (.int 0)) aNil)))) aNil)))))) (gN 14))
    (sIf (tNotM (tTru (eFn 2 (m__law_like 6) (aCons (eVar 14) (aCons (eV (fLst (aCons (eFn 2 m__law_hopped (aCons (eVar 2) (aCons (eVar 8) aNil))) (aCons (eVar 13) (aCons (eVar 4) (aCons (eVar 8) aNil)))))) aNil))))) (sRet (eC (.bl false))) sNext))))))))))
    (sRet (eC (.bl true))))))))))))
def m__law_right : List W → Store → R W := runM 17 b__law_right
theorem ok__law_right (T : Top K mg G fd) : FnM P w K mg base G 9 (G.fa "_law_right") (fd "_law_right") ["cup", "friends"] m__law_right :=
  fn_mk (k := 8) (N := N__law_right) (body := b__law_right) T.F__law_right sc__law_right fun cdv A outer s H E hr => have hu := hu_of hr; have hu0 := hr.units0; have hu64 := hr.units64; have hu65 := hr.units65; 
    (ms_cons (ms_set (i := 2) (m_fn (ok__law_beside T) (hr.mono (by decide)) T.M__law_beside T.F__law_beside.kp T.B__law_beside (passes_call (takes_of rfl rfl rfl rfl) (fun _ _ _ _ h => h)) (ma_cons (m_var 1) ma_nil)) sc__law_right.nd)
    (ms_cons (ms_set (i := 3) (m_fn (ok__law_far T) (hr.mono (by decide)) T.M__law_far T.F__law_far.kp T.B__law_far (passes_call (takes_of rfl rfl rfl rfl) (fun _ _ _ _ h => h)) (ma_cons (m_var 2) (ma_cons m_int ma_nil))) sc__law_right.nd)
    (ms_cons (ms_set (i := 4) (m_callT c_tuple T.z_tuple bt_tuple (ma_cons (PF.val (f_lc (own := [("house", 15)]) rfl sc__law_right.nd (mi_range1 T.z_range (m_item hu (m_var 1) m_int)) (blkOk_by (own := [("house", 15)]) (N := N__law_right) (sc := defScope s__law_right) (by decide +kernel)) (fun _ _ _ _ _ => (mg_name (i := 15) sc__law_right.nd rfl (by first | exact Or.inl rfl | exact Or.inr rfl))) (fun _ _ _ _ _ => mts_nil) (fun _ _ _ _ _ => (m_item hu (m_var 3) (m_var 15))))) ma_nil)) sc__law_right.nd)
    (ms_cons (ms_set (i := 5) (m_fn (ok_late_numbers T) (hr.mono (by decide)) T.M_late_numbers T.F_late_numbers.kp T.B_late_numbers (passes_call (takes_of rfl rfl rfl rfl) (fun _ _ _ _ h => h)) (ma_cons (m_var 1) ma_nil)) sc__law_right.nd)
    (ms_cons (ms_if (mt_not (mt_tru (m_fn (ok__law_like T 6) (hr.mono (by decide)) T.M__law_like T.F__law_like.kp T.B__law_like (passes_call (takes_of rfl rfl rfl rfl) (fun _ _ _ _ h => h)) (ma_cons (PF.val (f_lst (ma_cons (m_fn (ok_distances T) (hr.mono (by decide)) T.M_distances T.F_distances.kp T.B_distances (passes_call (takes_of rfl rfl rfl rfl) (fun _ _ _ _ h => h)) (ma_cons (m_var 1) ma_nil)) (ma_cons (m_fn (ok_most_steps T) (hr.mono (by decide)) T.M_most_steps T.F_most_steps.kp T.B_most_steps (passes_call (takes_of rfl rfl rfl rfl) (fun _ _ _ _ h => h)) (ma_cons (m_var 1) ma_nil)) ma_nil)))) (ma_cons (PF.val (f_lst (ma_cons (m_var 4) (ma_cons (m_bin o_add (m_callB (c_max rfl) T.z_max bt_max (ma_cons (m_var 4) ma_nil)) m_int) ma_nil)))) ma_nil))))) (ms_one (ms_ret m_bl)) ms_nil)
    (ms_cons (ms_if (mw_or (mt_cmp (o_ne hu64) (m_fn (ok__law_sort T) (hr.mono (by decide)) T.M__law_sort T.F__law_sort.kp T.B__law_sort (passes_call (takes_of rfl rfl rfl rfl) (fun _ _ _ _ h => h)) (ma_cons (m_var 5) ma_nil)) m_int (nomark _)) (mw_or (mt_cmp (o_ne hu64) (m_callB c_len T.z_len bt_len (ma_cons (m_var 5) ma_nil)) (m_item hu (m_var 1) m_int) (nomark _)) (mw_or1 (mt_cmp (o_ne hu64) (PF.val (f_lc (own := [("one", 16)]) rfl sc__law_right.nd (mi_seq (m_var 5)) (blkOk_by (own := [("one", 16)]) (N := N__law_right) (sc := defScope s__law_right) (by decide +kernel)) (fun _ _ _ _ _ => (mg_name (i := 16) sc__law_right.nd rfl (by first | exact Or.inl rfl | exact Or.inr rfl))) (fun _ _ _ _ _ => (mts_one (mt_not (mt_tru (m_fn (ok__law_whole T) (hr.mono (by decide)) T.M__law_whole T.F__law_whole.kp T.B__law_whole passL (ma_cons (m_var 16) (ma_cons m_int (ma_cons (m_bin o_pow m_int m_int) ma_nil)))))))) (fun _ _ _ _ _ => m_int))) (PF.val (f_lst ma_nil)) (nomark _))))).pt (ms_one (ms_ret m_bl)) ms_nil)
    (ms_cons (ms_set (i := 6) (m_fn (ok__law_some T) (hr.mono (by decide)) T.M__law_some T.F__law_some.kp T.B__law_some (passes_call (takes_of rfl rfl rfl rfl) (fun _ _ _ _ h => h)) (ma_cons (m_var 0) (ma_cons (PF.val (f_lst (ma_cons m_int (ma_cons m_int (ma_cons m_int (ma_cons m_int ma_nil)))))) ma_nil))) sc__law_right.nd)
    (ms_cons (ms_set (i := 7) (m_callT c_tuple T.z_tuple bt_tuple (ma_cons (PF.val (f_lc (own := [("house", 15)]) rfl sc__law_right.nd (mi_range1 T.z_range (m_item hu (m_var 1) m_int)) (blkOk_by (own := [("house", 15)]) (N := N__law_right) (sc := defScope s__law_right) (by decide +kernel)) (fun _ _ _ _ _ => (mg_name (i := 15) sc__law_right.nd rfl (by first | exact Or.inl rfl | exact Or.inr rfl))) (fun _ _ _ _ _ => mts_nil) (fun _ _ _ _ _ => (m_fn (ok__law_roll T) (hr.mono (by decide)) T.M__law_roll T.F__law_roll.kp T.B__law_roll passL (ma_cons (m_var 0) (ma_cons (m_bin o_add (m_var 6) m_int) ma_nil)))))) ma_nil)) sc__law_right.nd)
    (ms_cons (ms_for (passes_of rfl) rfl (mi_seq (m_tup (ma_cons (m_var 7) (ma_cons (m_bin o_mulT (m_tup (ma_cons m_int ma_nil)) (m_item hu (m_var 1) m_int)) (ma_cons (m_var 5) (ma_cons (m_var 4) (ma_cons (m_bin o_mulT (m_tup (ma_cons m_int ma_nil)) (m_item hu (m_var 1) m_int)) ma_nil))))))) (mg_name (i := 8) sc__law_right.nd rfl (by first | exact Or.inl rfl | exact Or.inr rfl)) (ms_cons (ms_par (i := 9) (j := 10) (m_var 8) m_int rfl sc__law_right.nd)
    (ms_cons (ms_for (passes_of rfl) rfl (mi_range1 T.z_range (m_bin o_add (m_item hu (m_var 1) m_int) m_int)) (mg_name (i := 11) sc__law_right.nd rfl (by first | exact Or.inl rfl | exact Or.inr rfl)) (ms_one (ms_if (mt_cmp (o_ne hu64) (m_var 9) (m_var 4) (nomark _)) (ms_one (ms_par (i := 9) (j := 10) (m_fn (ok__law_hopped T) (hr.mono (by decide)) T.M__law_hopped T.F__law_hopped.kp T.B__law_hopped (passes_call (takes_of rfl rfl rfl rfl) (fun _ _ _ _ h => h)) (ma_cons (m_var 2) (ma_cons (m_var 9) ma_nil))) (m_bin o_add (m_var 10) m_int) rfl sc__law_right.nd)) ms_nil)))
    (ms_cons (ms_if (mw_or (mt_cmp (o_ne hu64) (m_var 9) (m_var 4) (nomark _)) (mw_or1 (mt_not (mt_tru (m_fn (ok__law_like T 6) (hr.mono (by decide)) T.M__law_like T.F__law_like.kp T.B__law_like (passes_call (takes_of rfl rfl rfl rfl) (fun _ _ _ _ h => h)) (ma_cons (m_fn (ok_steps_to_rest T) (hr.mono (by decide)) T.M_steps_to_rest T.F_steps_to_rest.kp T.B_steps_to_rest (passes_call (takes_of rfl rfl rfl rfl) (fun _ _ _ _ h => h)) (ma_cons (m_var 1) (ma_cons (m_var 8) ma_nil))) (ma_cons (m_var 10) ma_nil))))))).pt (ms_one (ms_ret m_bl)) ms_nil)
    (ms_cons (ms_if (mw_or (mw_and (mt_cmp (o_eq hu64) (m_var 8) (m_var 5) (nomark _)) (mw_and1 (mt_cmp (o_ne hu64) (m_var 10) (m_bin o_add (m_callB (c_max rfl) T.z_max bt_max (ma_cons (m_var 4) ma_nil)) m_int) (nomark _)))).pt (mw_or (mw_and (mt_cmp (o_eq hu64) (m_callB (c_max rfl) T.z_max bt_max (ma_cons (m_var 8) ma_nil)) m_int (nomark _)) (mw_and1 (mt_cmp (o_ne hu64) (m_var 10) (m_callB (c_max rfl) T.z_max bt_max (ma_cons (m_var 4) ma_nil)) (nomark _)))).pt (mw_or1 (mt_cmp o_gt (m_var 10) (m_bin o_add (m_callB (c_max rfl) T.z_max bt_max (ma_cons (m_var 4) ma_nil)) m_int) (nomark _))))).pt (ms_one (ms_ret m_bl)) ms_nil)
    (ms_cons (ms_set (i := 12) (m_fn (ok__law_roll T) (hr.mono (by decide)) T.M__law_roll T.F__law_roll.kp T.B__law_roll (passes_call (takes_of rfl rfl rfl rfl) (fun _ _ _ _ h => h)) (ma_cons (m_var 0) (ma_cons (m_bin o_add (m_var 10) m_int) ma_nil))) sc__law_right.nd)
    (ms_cons (ms_set (i := 13) (m_var 8) sc__law_right.nd)
    (ms_cons (ms_for (passes_of rfl) rfl (mi_range1 T.z_range (m_var 12)) (mg_name (i := 11) sc__law_right.nd rfl (by first | exact Or.inl rfl | exact Or.inr rfl)) (ms_one (ms_set (i := 13) (m_fn (ok__law_hopped T) (hr.mono (by decide)) T.M__law_hopped T.F__law_hopped.kp T.B__law_hopped (passes_call (takes_of rfl rfl rfl rfl) (fun _ _ _ _ h => h)) (ma_cons (m_var 2) (ma_cons (m_var 13) ma_nil))) sc__law_right.nd)))
    (ms_cons (ms_set (i := 14) (PF.val (f_lst (ma_cons (m_fn (ok_stepped T) (hr.mono (by decide)) T.M_stepped T.F_stepped.kp T.B_stepped (passes_call (takes_of rfl rfl rfl rfl) (fun _ _ _ _ h => h)) (ma_cons (m_var 1) (ma_cons (m_var 8) ma_nil))) (ma_cons (m_fn (ok_behind_steps T) (hr.mono (by decide)) T.M_behind_steps T.F_behind_steps.kp T.B_behind_steps (passes_call (takes_of rfl rfl rfl rfl) (fun _ _ _ _ h => h)) (ma_cons (m_var 1) (ma_cons (m_var 8) (ma_cons (m_var 12) ma_nil)))) (ma_cons (m_fn (ok_behind_steps T) (hr.mono (by decide)) T.M_behind_steps T.F_behind_steps.kp T.B_behind_steps (passes_call (takes_of rfl rfl rfl rfl) (fun _ _ _ _ h => h)) (ma_cons (m_var 1) (ma_cons (m_var 8) (ma_cons (m_bin o_pow m_int m_int) ma_nil)))) (ma_cons (m_fn (ok_behind_steps T) (hr.mono (by decide)) T.M_behind_steps T.F_behind_steps.kp T.B_behind_steps (passes_call (takes_of rfl rfl rfl rfl) (fun _ _ _ _ h => h)) (ma_cons (m_var 1) (ma_cons (m_var 8) (ma_cons m_int ma_nil)))) ma_nil)))))) sc__law_right.nd)
    (ms_one (ms_if (mt_not (mt_tru (m_fn (ok__law_like T 6) (hr.mono (by decide)) T.M__law_like T.F__law_like.kp T.B__law_like (passes_call (takes_of rfl rfl rfl rfl) (fun _ _ _ _ h => h)) (ma_cons (m_var 14) (ma_cons (PF.val (f_lst (ma_cons (m_fn (ok__law_hopped T) (hr.mono (by decide)) T.M__law_hopped T.F__law_hopped.kp T.B__law_hopped (passes_call (takes_of rfl rfl rfl rfl) (fun _ _ _ _ h => h)) (ma_cons (m_var 2) (ma_cons (m_var 8) ma_nil))) (ma_cons (m_var 13) (ma_cons (m_var 4) (ma_cons (m_var 8) ma_nil)))))) ma_nil))))) (ms_one (ms_ret m_bl)) ms_nil)))))))))))
    (ms_one (ms_ret m_bl)))))))))))
def N__law_ring : List Str := ["houses", "house"]
theorem sc__law_ring : FnScope N__law_ring ["houses"] (defScope s__law_ring) := ⟨rfl, rfl, rfl, by decide +kernel, rfl, by decide +kernel, by decide +kernel⟩
def b__law_ring : SX :=
    (sRet (eTup (aCons (eVar 0) (aCons (eCall bTuple (aCons (eV (fCall bSorted (aCons (eV (fBin opCat (eV (fLc [1] (iRg1 (eBin opSub (eVar 0) (eC (.int 1)))) (gN 1) tYesM (eTup (aCons (eVar 1) (aCons (eBin opAdd (eVar 1) (eC (.int 1))) aNil))))) (eV (fLst (aCons (eTup (aCons (eC (.int 0)) (aCons (eBin opSub (eVar 0) (eC (.int 1))) aNil))) aNil))))) aNil))) aNil)) aNil))))
def m__law_ring : List W → Store → R W := runM 2 b__law_ring
theorem ok__law_ring (T : Top K mg G fd) : FnM P w K mg base G 1 (G.fa "_law_ring") (fd "_law_ring") ["houses"] m__law_ring :=
  fn_mk (k := 0) (N := N__law_ring) (body := b__law_ring) T.F__law_ring sc__law_ring fun cdv A outer s H E hr => have hu := hu_of hr; have hu0 := hr.units0; have hu64 := hr.units64; have hu65 := hr.units65; 
    (ms_one (ms_ret (m_tup (ma_cons (m_var 0) (ma_cons (m_callT c_tuple T.z_tuple bt_tuple (ma_cons (PF.val (f_callB (c_sorted rfl) T.z_sorted bt_sorted (ma_cons (PF.val (f_bin o_cat (PF.val (f_lc (own := [("house", 1)]) rfl sc__law_ring.nd (mi_range1 T.z_range (m_bin o_sub (m_var 0) m_int)) (blkOk_by (own := [("house", 1)]) (N := N__law_ring) (sc := defScope s__law_ring) (by decide +kernel)) (fun _ _ _ _ _ => (mg_name (i := 1) sc__law_ring.nd rfl (by first | exact Or.inl rfl | exact Or.inr rfl))) (fun _ _ _ _ _ => mts_nil) (fun _ _ _ _ _ => (m_tup (ma_cons (m_var 1) (ma_cons (m_bin o_add (m_var 1) m_int) ma_nil)))))) (PF.val (f_lst (ma_cons (m_tup (ma_cons m_int (ma_cons (m_bin o_sub (m_var 0) m_int) ma_nil))) ma_nil))))) ma_nil))) ma_nil)) ma_nil)))))
def N__law_star : List Str := ["houses", "house"]
theorem sc__law_star : FnScope N__law_star ["houses"] (defScope s__law_star) := ⟨rfl, rfl, rfl, by decide +kernel, rfl, by decide +kernel, by decide +kernel⟩
def b__law_star : SX :=
    (sRet (eTup (aCons (eVar 0) (aCons (eCall bTuple (aCons (eV (fLc [1] (iRg2 (eC (.int 1)) (eVar 0)) (gN 1) tYesM (eTup (aCons (eC (.int 0)) (aCons (eVar 1) aNil))))) aNil)) aNil))))
def m__law_star : List W → Store → R W := runM 2 b__law_star
theorem ok__law_star (T : Top K mg G fd) : FnM P w K mg base G 1 (G.fa "_law_star") (fd "_law_star") ["houses"] m__law_star :=
  fn_mk (k := 0) (N := N__law_star) (body := b__law_star) T.F__law_star sc__law_star fun cdv A outer s H E hr => have hu := hu_of hr; have hu0 := hr.units0; have hu64 := hr.units64; have hu65 := hr.units65; 
    (ms_one (ms_ret (m_tup (ma_cons (m_var 0) (ma_cons (m_callT c_tuple T.z_tuple bt_tuple (ma_cons (PF.val (f_lc (own := [("house", 1)]) rfl sc__law_star.nd (mi_range2 T.z_range m_int (m_var 0)) (blkOk_by (own := [("house", 1)]) (N := N__law_star) (sc := defScope s__law_star) (by decide +kernel)) (fun _ _ _ _ _ => (mg_name (i := 1) sc__law_star.nd rfl (by first | exact Or.inl rfl | exact Or.inr rfl))) (fun _ _ _ _ _ => mts_nil) (fun _ _ _ _ _ => (m_tup (ma_cons m_int (ma_cons (m_var 1) ma_nil)))))) ma_nil)) ma_nil)))))
def N__law_friends : List Str := ["cup", "most", "is_whole_v", "houses", "pairs", "thick", "other", "one"]
theorem sc__law_friends : FnScope N__law_friends ["cup", "most", "is_whole_v"] (defScope s__law_friends) := ⟨rfl, rfl, rfl, by decide +kernel, rfl, by decide +kernel, by decide +kernel⟩
def b__law_friends : SX :=
    (sSeq (sPar 3 4 (eBin opAdd (eC (.int 1)) (eFn 2 m__law_roll (aCons (eVar 0) (aCons (eVar 1) aNil)))) eNewT)
    (sSeq (sAsg (eFn 2 m__law_some (aCons (eVar 0) (aCons (eV (fLst (aCons (eC (.int 2)) (aCons (eC (.int 4)) (aCons (eC (.int 12)) aNil))))) aNil))) (gN 5))
    (sSeq (sFor (iRg2 (eC (.int 1)) (eVar 3)) (gN 6) (sSeq (sIf (tTru (eVar 2)) (sPut (eVar 4) (eTup (aCons (eFn 2 m__law_roll (aCons (eVar 0) (aCons (eVar 6) aNil))) (aCons (eVar 6) aNil))) (eC (.bl true))) sNext)
    (sFor (iRg1 (eVar 6)) (gN 7) (sIf (tAndM (tOf (eBin opEq (eFn 2 m__law_roll (aCons (eVar 0) (aCons (eVar 5) aNil))) (eC (.int 0)))) (tOf (eBin opLt (eCall bLen (aCons (eVar 4) aNil)) (eC (.int 300))))) (sPut (eVar 4) (eTup (aCons (eVar 7) (aCons (eVar 6) aNil))) (eC (.bl true))) sNext))))
    (sRet (eTup (aCons (eVar 3) (aCons (eCall bTuple (aCons (eV (fCall bSorted (aCons (eVar 4) aNil))) aNil)) aNil)))))))
def m__law_friends : List W → Store → R W := runM 8 b__law_friends
theorem ok__law_friends (T : Top K mg G fd) : FnM P w K mg base G 3 (G.fa "_law_friends") (fd "_law_friends") ["cup", "most", "is_whole_v"] m__law_friends :=
  fn_mk (k := 2) (N := N__law_friends) (body := b__law_friends) T.F__law_friends sc__law_friends fun cdv A outer s H E hr => have hu := hu_of hr; have hu0 := hr.units0; have hu64 := hr.units64; have hu65 := hr.units65; 
    (ms_cons (ms_par (i := 3) (j := 4) (m_bin o_add m_int (m_fn (ok__law_roll T) (hr.mono (by decide)) T.M__law_roll T.F__law_roll.kp T.B__law_roll (passes_call (takes_of rfl rfl rfl rfl) (fun _ _ _ _ h => h)) (ma_cons (m_var 0) (ma_cons (m_var 1) ma_nil)))) m_newT rfl sc__law_friends.nd)
    (ms_cons (ms_set (i := 5) (m_fn (ok__law_some T) (hr.mono (by decide)) T.M__law_some T.F__law_some.kp T.B__law_some (passes_call (takes_of rfl rfl rfl rfl) (fun _ _ _ _ h => h)) (ma_cons (m_var 0) (ma_cons (PF.val (f_lst (ma_cons m_int (ma_cons m_int (ma_cons m_int ma_nil))))) ma_nil))) sc__law_friends.nd)
    (ms_cons (ms_for (passes_of rfl) rfl (mi_range2 T.z_range m_int (m_var 3)) (mg_name (i := 6) sc__law_friends.nd rfl (by first | exact Or.inl rfl | exact Or.inr rfl)) (ms_cons (ms_if (mt_tru (m_var 2)) (ms_one (ms_put hu (m_var 4) (m_tup (ma_cons (m_fn (ok__law_roll T) (hr.mono (by decide)) T.M__law_roll T.F__law_roll.kp T.B__law_roll (passes_call (takes_of rfl rfl rfl rfl) (fun _ _ _ _ h => h)) (ma_cons (m_var 0) (ma_cons (m_var 6) ma_nil))) (ma_cons (m_var 6) ma_nil))) m_bl)) ms_nil)
    (ms_one (ms_for (passes_of rfl) rfl (mi_range1 T.z_range (m_var 6)) (mg_name (i := 7) sc__law_friends.nd rfl (by first | exact Or.inl rfl | exact Or.inr rfl)) (ms_one (ms_if (mw_and (mt_cmp (o_eq hu64) (m_fn (ok__law_roll T) (hr.mono (by decide)) T.M__law_roll T.F__law_roll.kp T.B__law_roll (passes_call (takes_of rfl rfl rfl rfl) (fun _ _ _ _ h => h)) (ma_cons (m_var 0) (ma_cons (m_var 5) ma_nil))) m_int (nomark _)) (mw_and1 (mt_cmp (o_lt hu0) (m_callB c_len T.z_len bt_len (ma_cons (m_var 4) ma_nil)) m_int (nomark _)))).pt (ms_one (ms_put hu (m_var 4) (m_tup (ma_cons (m_var 7) (ma_cons (m_var 6) ma_nil))) m_bl)) ms_nil))))))
    (ms_one (ms_ret (m_tup (ma_cons (m_var 3) (ma_cons (m_callT c_tuple T.z_tuple bt_tuple (ma_cons (PF.val (f_callB (c_sorted rfl) T.z_sorted bt_sorted (ma_cons (m_var 4) ma_nil))) ma_nil)) ma_nil))))))))
def N__law_great_right : List Str := ["cup", "path", "at", "order", "row", "middle", "told", "one", "other"]
theorem sc__law_great_right : FnScope N__law_great_right ["cup"] (defScope s__law_great_right) := ⟨rfl, rfl, rfl, by decide +kernel, rfl, by decide +kernel, by decide +kernel⟩
def b__law_great_right : SX :=
    (sSeq (sPar 1 2 (eFn 1 m__law_path (aCons (eC (.int 40)) aNil)) (eFn 2 m__law_roll (aCons (eVar 0) (aCons (eC (.int 40)) aNil))))
    (sSeq (sAsg (eV (fBin opCat (eV (fLst (aCons (eC (.int 0)) aNil))) (eV (fRange (eC (.int 1)) (eC (.int 40)))))) (gN 3))
    (sSeq (sAsg (eV (fBin opCat (eV (fBin opCat (eV (fSlice (eVar 3) (oSome (eC (.int 1))) (oSome (eBin opAdd (eVar 2) (eC (.int 1)))))) (eV (fLst (aCons (eC (.int 0)) aNil))))) (eV (fSlice (eVar 3) (oSome (eBin opAdd (eVar 2) (eC (.int 1)))) oNone)))) (gN 4))
    (sSeq (sAsg (eTup (aCons (eC (.int 40)) (aCons (eCall bTuple (aCons (eV (fCall bSorted (aCons (eV (fLc [7, 8] (iZp (eVar 4) (eSlice (eVar 4) (oSome (eC (.int 1))) oNone)) (gT (gsCons (gN 7) (gsCons (gN 8) gsNil))) tYesM (eTup (aCons (eCall bMin (aCons (eVar 7) (aCons (eVar 8) aNil))) (aCons (eCall bMax (aCons (eVar 7) (aCons (eVar 8) aNil))) aNil))))) aNil))) aNil)) aNil))) (gN 5))
    (sSeq (sAsg (eV (fLst (aCons (eFn 1 m_most_steps (aCons (eVar 1) aNil)) (aCons (eFn 1 m_most_steps (aCons (eVar 5) aNil)) (aCons (eFn 1 m_most_steps (aCons (eFn 1 m__law_ring (aCons (eC (.int 40)) aNil)) aNil)) (aCons (eFn 1 m_most_steps (aCons (eFn 1 m__law_star (aCons (eC (.int 40)) aNil)) aNil)) (aCons (eFn 1 m_most_steps (aCons (eTup (aCons (eC (.int 1)) (aCons (eTup aNil) aNil))) aNil)) (aCons (eFn 2 m_steps_to_rest (aCons (eVar 1) (aCons (eBin opMulT (eTup (aCons (eC (.int 0)) aNil)) (eC (.int 40))) aNil))) (aCons (eFn 2 m_steps_to_rest (aCons (eVar 1) (aCons (eBin opMulT (eTup (aCons (eC (.int 1000000)) aNil)) (eC (.int 40))) aNil))) aNil))))))))) (gN 6))
    (sSeq (sIf (tNotM (tTru (eFn 2 (m__law_like 6) (aCons (eVar 6) (aCons (eV (fLst (aCons (eC (.int 40)) (aCons (eBin opAdd (eCall bMax (aCons (eVar 2) (aCons (eBin opSub (eC (.int 39)) (eVar 2)) aNil))) (eC (.int 1))) (aCons (eC (.int 21)) (aCons (eC (.int 2)) (aCons (eC (.int 1)) (aCons (eC (.int 39)) (aCons (eC (.int 40)) aNil))))))))) aNil))))) (sRet (eC (.bl false))) sNext)
    (sRet (eAnd (eFn 2 m__law_right (aCons (eVar 0) (aCons (eVar 5) aNil))) (eFn 2 m__law_right (aCons (eVar 0) (aCons (eFn 3 m__law_friends (aCons (eVar 0) (aCons (eC (.int 40)) (aCons (eC (.bl true)) aNil)))) aNil)))))))))))
def m__law_great_right : List W → Store → R W := runM 9 b__law_great_right
theorem ok__law_great_right (T : Top K mg G fd) : FnM P w K mg base G 10 (G.fa "_law_great_right") (fd "_law_great_right") ["cup"] m__law_great_right :=
  fn_mk (k := 9) (N := N__law_great_right) (body := b__law_great_right) T.F__law_great_right sc__law_great_right fun cdv A outer s H E hr => have hu := hu_of hr; have hu0 := hr.units0; have hu64 := hr.units64; have hu65 := hr.units65; 
    (ms_cons (ms_par (i := 1) (j := 2) (m_fn (ok__law_path T) (hr.mono (by decide)) T.M__law_path T.F__law_path.kp T.B__law_path (passes_call (takes_of rfl rfl rfl rfl) (fun _ _ _ _ h => h)) (ma_cons m_int ma_nil)) (m_fn (ok__law_roll T) (hr.mono (by decide)) T.M__law_roll T.F__law_roll.kp T.B__law_roll (passes_call (takes_of rfl rfl rfl rfl) (fun _ _ _ _ h => h)) (ma_cons (m_var 0) (ma_cons m_int ma_nil))) rfl sc__law_great_right.nd)
    (ms_cons (ms_set (i := 3) (PF.val (f_bin o_cat (PF.val (f_lst (ma_cons m_int ma_nil))) (PF.val (f_listRg2 rfl T.z_list T.z_range m_int m_int)))) sc__law_great_right.nd)
    (ms_cons (ms_set (i := 4) (PF.val (f_bin o_cat (PF.val (f_bin o_cat (PF.val (f_slice (m_var 3) (mo_some m_int) (mo_some (m_bin o_add (m_var 2) m_int)))) (PF.val (f_lst (ma_cons m_int ma_nil))))) (PF.val (f_slice (m_var 3) (mo_some (m_bin o_add (m_var 2) m_int)) mo_none)))) sc__law_great_right.nd)
    (ms_cons (ms_set (i := 5) (m_tup (ma_cons m_int (ma_cons (m_callT c_tuple T.z_tuple bt_tuple (ma_cons (PF.val (f_callB (c_sorted rfl) T.z_sorted bt_sorted (ma_cons (PF.val (f_lc (own := [("one", 7), ("other", 8)]) rfl sc__law_great_right.nd (mi_zip T.z_zip (m_var 4) (m_slice (m_var 4) (mo_some m_int) mo_none)) (blkOk_by (own := [("one", 7), ("other", 8)]) (N := N__law_great_right) (sc := defScope s__law_great_right) (by decide +kernel)) (fun _ _ _ _ _ => (mg_tup rfl (mgs_cons (mg_name (i := 7) sc__law_great_right.nd rfl (by first | exact Or.inl rfl | exact Or.inr rfl)) (mgs_cons (mg_name (i := 8) sc__law_great_right.nd rfl (by first | exact Or.inl rfl | exact Or.inr rfl)) mgs_nil)) (gs_len (gs_len gs_len0)))) (fun _ _ _ _ _ => mts_nil) (fun _ _ _ _ _ => (m_tup (ma_cons (m_callB (c_min rfl) T.z_min bt_min (ma_cons (m_var 7) (ma_cons (m_var 8) ma_nil))) (ma_cons (m_callB (c_max rfl) T.z_max bt_max (ma_cons (m_var 7) (ma_cons (m_var 8) ma_nil))) ma_nil)))))) ma_nil))) ma_nil)) ma_nil))) sc__law_great_right.nd)
    (ms_cons (ms_set (i := 6) (PF.val (f_lst (ma_cons (m_fn (ok_most_steps T) (hr.mono (by decide)) T.M_most_steps T.F_most_steps.kp T.B_most_steps (passes_call (takes_of rfl rfl rfl rfl) (fun _ _ _ _ h => h)) (ma_cons (m_var 1) ma_nil)) (ma_cons (m_fn (ok_most_steps T) (hr.mono (by decide)) T.M_most_steps T.F_most_steps.kp T.B_most_steps (passes_call (takes_of rfl rfl rfl rfl) (fun _ _ _ _ h => h)) (ma_cons (m_var 5) ma_nil)) (ma_cons (m_fn (ok_most_steps T) (hr.mono (by decide)) T.M_most_steps T.F_most_steps.kp T.B_most_steps (passes_call (takes_of rfl rfl rfl rfl) (fun _ _ _ _ h => h)) (ma_cons (m_fn (ok__law_ring T) (hr.mono (by decide)) T.M__law_ring T.F__law_ring.kp T.B__law_ring (passes_call (takes_of rfl rfl rfl rfl) (fun _ _ _ _ h => h)) (ma_cons m_int ma_nil)) ma_nil)) (ma_cons (m_fn (ok_most_steps T) (hr.mono (by decide)) T.M_most_steps T.F_most_steps.kp T.B_most_steps (passes_call (takes_of rfl rfl rfl rfl) (fun _ _ _ _ h => h)) (ma_cons (m_fn (ok__law_star T) (hr.mono (by decide)) T.M__law_star T.F__law_star.kp T.B__law_star (passes_call (takes_of rfl rfl rfl rfl) (fun _ _ _ _ h => h)) (ma_cons m_int ma_nil)) ma_nil)) (ma_cons (m_fn (ok_most_steps T) (hr.mono (by decide)) T.M_most_steps T.F_most_steps.kp T.B_most_steps (passes_call (takes_of rfl rfl rfl rfl) (fun _ _ _ _ h => h)) (ma_cons (m_tup (ma_cons m_int (ma_cons (m_tup ma_nil) ma_nil))) ma_nil)) (ma_cons (m_fn (ok_steps_to_rest T) (hr.mono (by decide)) T.M_steps_to_rest T.F_steps_to_rest.kp T.B_steps_to_rest (passes_call (takes_of rfl rfl rfl rfl) (fun _ _ _ _ h => h)) (ma_cons (m_var 1) (ma_cons (m_bin o_mulT (m_tup (ma_cons m_int ma_nil)) m_int) ma_nil))) (ma_cons (m_fn (ok_steps_to_rest T) (hr.mono (by decide)) T.M_steps_to_rest T.F_steps_to_rest.kp T.B_steps_to_rest (passes_call (takes_of rfl rfl rfl rfl) (fun _ _ _ _ h => h)) (ma_cons (m_var 1) (ma_cons (m_bin o_mulT (m_tup (ma_cons m_int ma_nil)) m_int) ma_nil))) ma_nil))))))))) sc__law_great_right.nd)
    (ms_cons (ms_if (mt_not (mt_tru (m_fn (ok__law_like T 6) (hr.mono (by decide)) T.M__law_like T.F__law_like.kp T.B__law_like (passes_call (takes_of rfl rfl rfl rfl) (fun _ _ _ _ h => h)) (ma_cons (m_var 6) (ma_cons (PF.val (f_lst (ma_cons m_int (ma_cons (m_bin o_add (m_callB (c_max rfl) T.z_max bt_max (ma_cons (m_var 2) (ma_cons (m_bin o_sub m_int (m_var 2)) ma_nil))) m_int) (ma_cons m_int (ma_cons m_int (ma_cons m_int (ma_cons m_int (ma_cons m_int ma_nil))))))))) ma_nil))))) (ms_one (ms_ret m_bl)) ms_nil)
    (ms_one (ms_ret (m_and (m_fn (ok__law_right T) (hr.mono (by decide)) T.M__law_right T.F__law_right.kp T.B__law_right (passes_call (takes_of rfl rfl rfl rfl) (fun _ _ _ _ h => h)) (ma_cons (m_var 0) (ma_cons (m_var 5) ma_nil))) (m_one (m_fn (ok__law_right T) (hr.mono (by decide)) T.M__law_right T.F__law_right.kp T.B__law_right (passes_call (takes_of rfl rfl rfl rfl) (fun _ _ _ _ h => h)) (ma_cons (m_var 0) (ma_cons (m_fn (ok__law_friends T) (hr.mono (by decide)) T.M__law_friends T.F__law_friends.kp T.B__law_friends (passes_call (takes_of rfl rfl rfl rfl) (fun _ _ _ _ h => h)) (ma_cons (m_var 0) (ma_cons m_int (ma_cons m_bl ma_nil)))) ma_nil)))))))))))))
def N__law_written_right : List Str := ["path", "star", "told"]
theorem sc__law_written_right : FnScope N__law_written_right [] (defScope s__law_written_right) := ⟨rfl, rfl, rfl, by decide +kernel, rfl, by decide +kernel, by decide +kernel⟩
def b__law_written_right : SX :=
    (sSeq (sPar 0 1 (eFn 1 m__law_path (aCons (eC (.int 4)) aNil)) (eFn 1 m__law_star (aCons (eC (.int 4)) aNil)))
    (sSeq (sAsg (eV (fLst (aCons (eFn 1 m_distances (aCons (eVar 0) aNil)) (aCons (eFn 2 m_stepped (aCons (eVar 0) (aCons (eTup (aCons (eC (.int 0)) (aCons (eC (.int 0)) (aCons (eC (.int 0)) (aCons (eC (.int 0)) aNil))))) aNil))) (aCons (eFn 3 m_behind_steps (aCons (eVar 0) (aCons (eTup (aCons (eC (.int 9)) (aCons (eC (.int 9)) (aCons (eC (.int 9)) (aCons (eC (.int 9)) aNil))))) (aCons (eC (.int 3)) aNil)))) (aCons (eFn 2 m_steps_to_rest (aCons (eVar 0) (aCons (eTup (aCons (eC (.int 0)) (aCons (eC (.int 0)) (aCons (eC (.int 0)) (aCons (eC (.int 0)) aNil))))) aNil))) (aCons (eFn 2 m_steps_to_rest (aCons (eVar 0) (aCons (eTup (aCons (eC (.int 9)) (aCons (eC (.int 9)) (aCons (eC (.int 9)) (aCons (eC (.int 9)) aNil))))) aNil))) aNil))))))) (gN 2))
    (sSeq (sAsg (eV (fBin opCat (eVar 2) (eV (fLst (aCons (eFn 1 m_most_steps (aCons (eVar 0) aNil)) (aCons (eFn 2 m_steps_to_rest (aCons (eVar 1) (aCons (eTup (aCons (eC (.int 0)) (aCons (eC (.int 1)) (aCons (eC (.int 1)) (aCons (eC (.int 1)) aNil))))) aNil))) aNil)))))) (gN 2))
    (sSeq (sAsg (eV (fBin opCat (eVar 2) (eV (fLst (aCons (eFn 1 m_most_steps (aCons (eTup (aCons (eC (.int 1)) (aCons (eTup aNil) aNil))) aNil)) (aCons (eFn 3 m_behind_steps (aCons (eVar 1) (aCons (eTup (aCons (eC (.int 7)) (aCons (eC (.int 7)) (aCons (eC (.int 7)) (aCons (eC (.int 7)) aNil))))) (aCons (eBin opPow (eC (.int 10)) (eC (.int 18))) aNil)))) (aCons (eFn 2 m_stepped (aCons (eTup (aCons (eC (.int 1)) (aCons (eTup aNil) aNil))) (aCons (eTup (aCons (eC (.int 5)) aNil)) aNil))) aNil))))))) (gN 2))
    (sSeq (sAsg (eV (fBin opCat (eVar 2) (eV (fLst (aCons (eFn 2 m_steps_to_rest (aCons (eTup (aCons (eC (.int 1)) (aCons (eTup aNil) aNil))) (aCons (eTup (aCons (eC (.int 5)) aNil)) aNil))) (aCons (eFn 2 m_steps_to_rest (aCons (eTup (aCons (eC (.int 1)) (aCons (eTup aNil) aNil))) (aCons (eTup (aCons (eC (.int 0)) aNil)) aNil))) (aCons (eFn 2 m_steps_to_rest (aCons (eVar 0) (aCons (eTup (aCons (eC (.int 3)) (aCons (eC (.int 2)) (aCons (eC (.int 1)) (aCons (eC (.int 0)) aNil))))) aNil))) aNil))))))) (gN 2))
    (sRet (eFn 2 (m__law_like 6) (aCons (eVar 2) (aCons (eV (fLst (aCons (eTup (aCons (eC (.int 0)) (aCons (eC (.int 1)) (aCons (eC (.int 2)) (aCons (eC (.int 3)) aNil))))) (aCons (eTup (aCons (eC (.int 0)) (aCons (eC (.int 1)) (aCons (eC (.int 1)) (aCons (eC (.int 1)) aNil))))) (aCons (eTup (aCons (eC (.int 0)) (aCons (eC (.int 1)) (aCons (eC (.int 2)) (aCons (eC (.int 12)) aNil))))) (aCons (eC (.int 3)) (aCons (eC (.int 4)) (aCons (eC (.int 4)) (aCons (eC (.int 0)) (aCons (eC (.int 1)) (aCons (eTup (aCons (eC (.int 0)) (aCons (eC (.int 1)) (aCons (eC (.int 1)) (aCons (eC (.int 1)) aNil))))) (aCons (eTup (aCons (eC (.int 0)) aNil)) (aCons (eC (.int 1)) (aCons (eC (.int 0)) (aCons (eC (.int 4)) aNil))))))))))))))) aNil)))))))))
def m__law_written_right : List W → Store → R W := runM 3 b__law_written_right
theorem ok__law_written_right (T : Top K mg G fd) : FnM P w K mg base G 9 (G.fa "_law_written_right") (fd "_law_written_right") [] m__law_written_right :=
  fn_mk (k := 8) (N := N__law_written_right) (body := b__law_written_right) T.F__law_written_right sc__law_written_right fun cdv A outer s H E hr => have hu := hu_of hr; have hu0 := hr.units0; have hu64 := hr.units64; have hu65 := hr.units65; 
    (ms_cons (ms_par (i := 0) (j := 1) (m_fn (ok__law_path T) (hr.mono (by decide)) T.M__law_path T.F__law_path.kp T.B__law_path (passes_call (takes_of rfl rfl rfl rfl) (fun _ _ _ _ h => h)) (ma_cons m_int ma_nil)) (m_fn (ok__law_star T) (hr.mono (by decide)) T.M__law_star T.F__law_star.kp T.B__law_star (passes_call (takes_of rfl rfl rfl rfl) (fun _ _ _ _ h => h)) (ma_cons m_int ma_nil)) rfl sc__law_written_right.nd)
    (ms_cons (ms_set (i := 2) (PF.val (f_lst (ma_cons (m_fn (ok_distances T) (hr.mono (by decide)) T.M_distances T.F_distances.kp T.B_distances (passes_call (takes_of rfl rfl rfl rfl) (fun _ _ _ _ h => h)) (ma_cons (m_var 0) ma_nil)) (ma_cons (m_fn (ok_stepped T) (hr.mono (by decide)) T.M_stepped T.F_stepped.kp T.B_stepped (passes_call (takes_of rfl rfl rfl rfl) (fun _ _ _ _ h => h)) (ma_cons (m_var 0) (ma_cons (m_tup (ma_cons m_int (ma_cons m_int (ma_cons m_int (ma_cons m_int ma_nil))))) ma_nil))) (ma_cons (m_fn (ok_behind_steps T) (hr.mono (by decide)) T.M_behind_steps T.F_behind_steps.kp T.B_behind_steps (passes_call (takes_of rfl rfl rfl rfl) (fun _ _ _ _ h => h)) (ma_cons (m_var 0) (ma_cons (m_tup (ma_cons m_int (ma_cons m_int (ma_cons m_int (ma_cons m_int ma_nil))))) (ma_cons m_int ma_nil)))) (ma_cons (m_fn (ok_steps_to_rest T) (hr.mono (by decide)) T.M_steps_to_rest T.F_steps_to_rest.kp T.B_steps_to_rest (passes_call (takes_of rfl rfl rfl rfl) (fun _ _ _ _ h => h)) (ma_cons (m_var 0) (ma_cons (m_tup (ma_cons m_int (ma_cons m_int (ma_cons m_int (ma_cons m_int ma_nil))))) ma_nil))) (ma_cons (m_fn (ok_steps_to_rest T) (hr.mono (by decide)) T.M_steps_to_rest T.F_steps_to_rest.kp T.B_steps_to_rest (passes_call (takes_of rfl rfl rfl rfl) (fun _ _ _ _ h => h)) (ma_cons (m_var 0) (ma_cons (m_tup (ma_cons m_int (ma_cons m_int (ma_cons m_int (ma_cons m_int ma_nil))))) ma_nil))) ma_nil))))))) sc__law_written_right.nd)
    (ms_cons (ms_set (i := 2) (PF.val (f_bin o_cat (m_var 2) (PF.val (f_lst (ma_cons (m_fn (ok_most_steps T) (hr.mono (by decide)) T.M_most_steps T.F_most_steps.kp T.B_most_steps (passes_call (takes_of rfl rfl rfl rfl) (fun _ _ _ _ h => h)) (ma_cons (m_var 0) ma_nil)) (ma_cons (m_fn (ok_steps_to_rest T) (hr.mono (by decide)) T.M_steps_to_rest T.F_steps_to_rest.kp T.B_steps_to_rest (passes_call (takes_of rfl rfl rfl rfl) (fun _ _ _ _ h => h)) (ma_cons (m_var 1) (ma_cons (m_tup (ma_cons m_int (ma_cons m_int (ma_cons m_int (ma_cons m_int ma_nil))))) ma_nil))) ma_nil)))))) sc__law_written_right.nd)
    (ms_cons (ms_set (i := 2) (PF.val (f_bin o_cat (m_var 2) (PF.val (f_lst (ma_cons (m_fn (ok_most_steps T) (hr.mono (by decide)) T.M_most_steps T.F_most_steps.kp T.B_most_steps (passes_call (takes_of rfl rfl rfl rfl) (fun _ _ _ _ h => h)) (ma_cons (m_tup (ma_cons m_int (ma_cons (m_tup ma_nil) ma_nil))) ma_nil)) (ma_cons (m_fn (ok_behind_steps T) (hr.mono (by decide)) T.M_behind_steps T.F_behind_steps.kp T.B_behind_steps (passes_call (takes_of rfl rfl rfl rfl) (fun _ _ _ _ h => h)) (ma_cons (m_var 1) (ma_cons (m_tup (ma_cons m_int (ma_cons m_int (ma_cons m_int (ma_cons m_int ma_nil))))) (ma_cons (m_bin o_pow m_int m_int) ma_nil)))) (ma_cons (m_fn (ok_stepped T) (hr.mono (by decide)) T.M_stepped T.F_stepped.kp T.B_stepped (passes_call (takes_of rfl rfl rfl rfl) (fun _ _ _ _ h => h)) (ma_cons (m_tup (ma_cons m_int (ma_cons (m_tup ma_nil) ma_nil))) (ma_cons (m_tup (ma_cons m_int ma_nil)) ma_nil))) ma_nil))))))) sc__law_written_right.nd)
    (ms_cons (ms_set (i := 2) (PF.val (f_bin o_cat (m_var 2) (PF.val (f_lst (ma_cons (m_fn (ok_steps_to_rest T) (hr.mono (by decide)) T.M_steps_to_rest T.F_steps_to_rest.kp T.B_steps_to_rest (passes_call (takes_of rfl rfl rfl rfl) (fun _ _ _ _ h => h)) (ma_cons (m_tup (ma_cons m_int (ma_cons (m_tup ma_nil) ma_nil))) (ma_cons (m_tup (ma_cons m_int ma_nil)) ma_nil))) (ma_cons (m_fn (ok_steps_to_rest T) (hr.mono (by decide)) T.M_steps_to_rest T.F_steps_to_rest.kp T.B_steps_to_rest (passes_call (takes_of rfl rfl rfl rfl) (fun _ _ _ _ h => h)) (ma_cons (m_tup (ma_cons m_int (ma_cons (m_tup ma_nil) ma_nil))) (ma_cons (m_tup (ma_cons m_int ma_nil)) ma_nil))) (ma_cons (m_fn (ok_steps_to_rest T) (hr.mono (by decide)) T.M_steps_to_rest T.F_steps_to_rest.kp T.B_steps_to_rest (passes_call (takes_of rfl rfl rfl rfl) (fun _ _ _ _ h => h)) (ma_cons (m_var 0) (ma_cons (m_tup (ma_cons m_int (ma_cons m_int (ma_cons m_int (ma_cons m_int ma_nil))))) ma_nil))) ma_nil))))))) sc__law_written_right.nd)
    (ms_one (ms_ret (m_fn (ok__law_like T 6) (hr.mono (by decide)) T.M__law_like T.F__law_like.kp T.B__law_like (passes_call (takes_of rfl rfl rfl rfl) (fun _ _ _ _ h => h)) (ma_cons (m_var 2) (ma_cons (PF.val (f_lst (ma_cons (m_tup (ma_cons m_int (ma_cons m_int (ma_cons m_int (ma_cons m_int ma_nil))))) (ma_cons (m_tup (ma_cons m_int (ma_cons m_int (ma_cons m_int (ma_cons m_int ma_nil))))) (ma_cons (m_tup (ma_cons m_int (ma_cons m_int (ma_cons m_int (ma_cons m_int ma_nil))))) (ma_cons m_int (ma_cons m_int (ma_cons m_int (ma_cons m_int (ma_cons m_int (ma_cons (m_tup (ma_cons m_int (ma_cons m_int (ma_cons m_int (ma_cons m_int ma_nil))))) (ma_cons (m_tup (ma_cons m_int ma_nil)) (ma_cons m_int (ma_cons m_int (ma_cons m_int ma_nil))))))))))))))) ma_nil))))))))))
def N_law : List Str := ["script", "cup", "turn"]
theorem sc_law : FnScope N_law ["script"] (defScope s_law) := ⟨rfl, rfl, rfl, by decide +kernel, rfl, by decide +kernel, by decide +kernel⟩
def b_law : SX :=
    (sSeq (sAsg (eFn 1 m__law_cup (aCons (eVar 0) aNil)) (gN 1))
    (sSeq (sFor (iRg1 (eC (.int 6))) (gN 2) (sIf (tNotM (tTru (eFn 2 m__law_right (aCons (eVar 1) (aCons (eFn 3 m__law_friends (aCons (eVar 1) (aCons (eC (.int 9)) (aCons (eC (.bl true)) aNil)))) aNil))))) (sRet (eC (.bl false))) sNext))
    (sRet (eAnd (eFn 1 m__law_great_right (aCons (eVar 1) aNil)) (eFn 0 m__law_written_right aNil)))))
def m_law : List W → Store → R W := runM 3 b_law
theorem ok_law (T : Top K mg G fd) : FnM P w K mg base G 11 (G.fa "law") (fd "law") ["script"] m_law :=
  fn_mk (k := 10) (N := N_law) (body := b_law) T.F_law sc_law fun cdv A outer s H E hr => have hu := hu_of hr; have hu0 := hr.units0; have hu64 := hr.units64; have hu65 := hr.units65; 
    (ms_cons (ms_set (i := 1) (m_fn (ok__law_cup T) (hr.mono (by decide)) T.M__law_cup T.F__law_cup.kp T.B__law_cup (passes_call (takes_of rfl rfl rfl rfl) (fun _ _ _ _ h => h)) (ma_cons (m_var 0) ma_nil)) sc_law.nd)
    (ms_cons (ms_for (passes_of rfl) rfl (mi_range1 T.z_range m_int) (mg_name (i := 2) sc_law.nd rfl (by first | exact Or.inl rfl | exact Or.inr rfl)) (ms_one (ms_if (mt_not (mt_tru (m_fn (ok__law_right T) (hr.mono (by decide)) T.M__law_right T.F__law_right.kp T.B__law_right (passes_call (takes_of rfl rfl rfl rfl) (fun _ _ _ _ h => h)) (ma_cons (m_var 1) (ma_cons (m_fn (ok__law_friends T) (hr.mono (by decide)) T.M__law_friends T.F__law_friends.kp T.B__law_friends (passes_call (takes_of rfl rfl rfl rfl) (fun _ _ _ _ h => h)) (ma_cons (m_var 1) (ma_cons m_int (ma_cons m_bl ma_nil)))) ma_nil))))) (ms_one (ms_ret m_bl)) ms_nil)))
    (ms_one (ms_ret (m_and (m_fn (ok__law_great_right T) (hr.mono (by decide)) T.M__law_great_right T.F__law_great_right.kp T.B__law_great_right (passes_call (takes_of rfl rfl rfl rfl) (fun _ _ _ _ h => h)) (ma_cons (m_var 1) ma_nil)) (m_one (m_fn0 (ok__law_written_right T) (hr.mono (by decide)) T.M__law_written_right T.F__law_written_right.kp T.B__law_written_right (passes_call (takes_of rfl rfl rfl rfl) (fun _ _ _ _ h => h)))))))))
end
end K50
end QP

set_option Elab.async false
set_option linter.all false
set_option maxRecDepth 100000
set_option maxHeartbeats 4000000
namespace QP
open PySem PySem.Spec PyProof.Rows L2
/-! ### small things about stores -/
theorem seqW_app {S T : Store} {w : W} {l : List W} (h : seqW S w = some l) : seqW (S ++ T) w = some l := by
  cases w with
  | ref n =>
    simp only [seqW] at h ⊢
    split at h
    · rename_i l' e
      have hn : n < S.length := (List.getElem?_eq_some_iff.mp e).1
      rw [List.getElem?_append_left hn, e]; exact h
    · cases h
  | _ => exact h
theorem sameL_of {S : Store} {w : W} {l : List W} (h : seqW S w = some l) : sameL w l S = true := by
  cases w with
  | ref n =>
    simp only [seqW] at h
    simp only [sameL]
    split at h
    · rename_i l' e
      cases h
      try rw [e]
      exact wEqs_refl l
    · cases h
  | _ => rfl
theorem dGet_none {S : Store} {w y : W} {l : List W} (h : seqW S w = some l) : dGet S w y = none := by
  cases w with
  | ref n =>
    simp only [seqW] at h
    split at h
    · rename_i l' e
      simp only [dGet, e]
    · cases h
  | _ => rfl
theorem item_seq {S : Store} {w : W} {l : List W} (h : seqW S w = some l) {i : Nat} (hi : i < l.length) : opItem w (.int i) S = .ok l[i] S := by
  simp only [opItem, dGet_none h, h, atI_nat hi]
theorem getElem?_app_len {S T : Store} {k : Nat} : (S ++ T)[S.length + k]? = T[k]? := by
  rw [List.getElem?_append_right (by omega)]; congr 1; omega
theorem set_app_len {S T : Store} {k : Nat} {o : O} : (S ++ T).set (S.length + k) o = S ++ T.set k o := by
  rw [List.set_append_right _ _ (by omega)]; congr 2; omega
theorem bAll_ok {S : Store} (bs : List Bool) : bAll [.lst (bs.map W.bl)] S = .ok (.bl (bs.all id)) S := by simp [bAll, lstW, allB_bls]
theorem allI_int {ns : List Int} : allI (ns.map W.int) = some ns := allI_ints ns
namespace K50
section
variable {S : Store}
theorem is_whole_ok (v lo hi : Int) : m_is_whole [.int v, .int lo, .int hi] S = .ok (.bl (decide (lo ≤ v) && decide (v ≤ hi))) S := by
  apply runM_ret
  by_cases h : lo ≤ v <;> simp [b_is_whole, bIsInst, kindW, isOf, truW, opLe, h]
theorem is_tuple_ok (l : List W) (lo hi : Int) : m_is_tuple_of [.tup l, .int lo, .int hi] S = .ok (.bl (decide (lo ≤ l.length) && decide ((l.length : Int) ≤ hi))) S := by
  apply runM_ret
  by_cases h : lo ≤ l.length <;> simp [b_is_tuple_of, bIsInst, kindW, isOf, truW, opLe, bLen, lenW, h]
theorem is_pair_ok (a b n : Int) (h : 0 ≤ a ∧ a < n ∧ 0 ≤ b ∧ b < n) : m_is_pair_of [.tup [.int a, .int b], .int n] S = .ok (.bl (decide (a < b))) S := by
  apply runM_ret
  have h1 : ∀ x : Int, 0 ≤ x → x < n → (decide (0 ≤ x) && decide (x ≤ n - 1)) = true := fun x h1 h2 => by simp [h1]; omega
  simp [b_is_pair_of, is_tuple_ok, truW, opItem, dGet, seqW, atI_0, atI_1, opSub, is_whole_ok, h1 a h.1 h.2.1, h1 b h.2.2.1 h.2.2.2, opLt]
def lexP (p q : Int × Int) : Bool := HT.lexLt [p.1, p.2] [q.1, q.2]
def ascP (ps : List (Int × Int)) : Bool := (ps.zip (ps.drop 1)).all fun x => lexP x.1 x.2
theorem ascend_ok (ps : List (Int × Int)) (hl : ps.length ≤ big) : m_is_ascending [.tup (ps.map pairW)] S = .ok (.bl (ascP ps)) S := by
  apply runM_ret
  have hs : opSlice (.tup (ps.map pairW)) (some 1) none S = .ok (.tup ((ps.drop 1).map pairW)) S := by
    have h1 : HT.sIx (ps.map pairW).length 0 (some 1) = min 1 ps.length := by
      simp [HT.sIx]
      try omega
    have h2 : HT.sIx (ps.map pairW).length (ps.map pairW).length none = ps.length := by simp [HT.sIx]
    simp only [opSlice, cutW, h1, h2]
    congr 2
    cases ps with
    | nil => rfl
    | cons p ps =>
      have : min 1 (p :: ps).length = 1 := by simp
      rw [this]
      simp [List.take_of_length_le]
  have hc : fLc [1, 2] (iZp (eVar 0) (eSlice (eVar 0) (oSome (eC (.int 1))) oNone)) (gT (gsCons (gN 1) (gsCons (gN 2) gsNil))) tYesM (eBin opLt (eVar 1) (eVar 2)) [some (.tup (ps.map pairW)), none, none] S = .ok (((ps.zip (ps.drop 1)).map fun x => lexP x.1 x.2).map W.bl) S := by
    refine fLc_ok (S1 := S) (l := zipW (ps.map pairW) ((ps.drop 1).map pairW)) (C := fun _ => true) (by simp [iZp, hs]) ?_ (by simp; omega)
    rw [comp_map (fun _ => true) (fun w => match w with
      | .tup [.tup [.int a, .int b], .tup [.int c, .int d]] => .bl (HT.lexLt [a, b] [c, d])
      | _ => .non) rfl]
    · congr 1
      rw [List.filter_eq_self.mpr (fun _ _ => rfl)]
      simp only [zipW, List.zipWith_map, List.zip, List.map_zipWith]
      rfl
    · intro w hw
      simp only [zipW, List.zipWith_map] at hw
      obtain ⟨i, hi, rfl⟩ := List.getElem_of_mem hw
      simp only [List.getElem_zipWith]
      refine ⟨_, by simp [wipeE, pairW]; rfl, by simp, fun _ => ?_⟩
      simp [pairW, opLt, allI]
  simp only [b_is_ascending, sRet_eq, eCall_eq, aCons_eq, eV_eq, aNil_eq, List.map_cons, List.map_nil, List.length_cons, List.length_nil, List.cons_append, List.nil_append, List.replicate]
  rw [hc]
  simp only [bind_ok, bAll_ok, ofR_ok]
  simp [ascP, List.all_map]
end
end K50
end QP

set_option Elab.async false
set_option linter.all false
set_option maxRecDepth 100000
set_option maxHeartbeats 4000000
namespace QP
open PySem PySem.Spec PyProof.Rows L2
theorem append_ok {S : Store} {k : Nat} {l : List W} {w : W} (h : S[k]? = some (.lst l)) (hl : l.length < big) : opAppend (.ref k) [w] S = .ok .non (S.set k (.lst (l ++ [w]))) := by
  simp only [opAppend, h, if_pos hl]
theorem isRefL_of {S : Store} {k : Nat} {l : List W} (h : S[k]? = some (.lst l)) : isRefL S (.ref k) = true := by
  simp [isRefL, refL, h]
/-- x.append(y), x a list of the store -/
theorem sAppend_ok {mo me : EX} {env : Env} {S : Store} {k : Nat} {l : List W} {w : W} (h1 : mo env S = .ok (.ref k) S) (h2 : S[k]? = some (.lst l)) (h3 : me env S = .ok w S) (hl : l.length < big) :
    sDrop (eMeth isRefL opAppend mo (aCons me aNil)) env S = .nx env (S.set k (.lst (l ++ [w]))) := by
  simp [h1, isRefL_of h2, h3, append_ok h2 hl]
theorem rngW_len {lo : Int} {n : Nat} : (rngW lo n).length = n := by simp [rngW]
theorem rngW_get {lo : Int} {n i : Nat} (h : i < (rngW lo n).length) : (rngW lo n)[i] = .int (lo + i) := by simp [rngW]
theorem rg_cond (n : Nat) (h : n ≤ 1000000) : -(2 ^ 62) ≤ (n : Int) ∧ (n : Int) < 2 ^ 62 :=
  ⟨Int.le_trans (by decide) (Int.natCast_nonneg n), Int.lt_of_le_of_lt (show (n : Int) ≤ 1000000 from by omega) (by decide)⟩
theorem rg1_j {m : EX} {env : Env} {S : Store} {j : Int} (h : m env S = .ok (.int j) S) (hj : -(2 ^ 62) ≤ j ∧ j < 2 ^ 62) : iRg1 m env S = .ok (rngW 0 j.toNat, fun _ => true) S := by
  simp only [iRg1, h, bind_ok]
  rw [if_pos hj]
theorem rg1_ok {m : EX} {env : Env} {S : Store} {n : Nat} (h : m env S = .ok (.int n) S) (hn : n ≤ 1000000) : iRg1 m env S = .ok (rngW 0 n, fun _ => true) S := rg1_j h (rg_cond n hn)
theorem rg2_j {m k : EX} {env : Env} {S : Store} {i j : Int} (h : m env S = .ok (.int i) S) (h2 : k env S = .ok (.int j) S) (hj : -(2 ^ 62) ≤ i ∧ i < 2 ^ 62 ∧ -(2 ^ 62) ≤ j ∧ j < 2 ^ 62) : iRg2 m k env S = .ok (rngW i (j - i).toNat, fun _ => true) S := by
  simp only [iRg2, h, h2, bind_ok]
  rw [if_pos hj]
namespace K50
def fr (n : Nat) (ps : List (Int × Int)) : W := .tup [.int n, .tup (ps.map pairW)]
def nb1 (v : Int) (p : Int × Int) : List Int := (if p.1 = v then [p.2] else []) ++ (if p.2 = v then [p.1] else [])
def nb (ps : List (Int × Int)) (v : Nat) : List Int := ps.flatMap (nb1 v)
theorem nb_snoc (ps : List (Int × Int)) (p : Int × Int) (v : Nat) : nb (ps ++ [p]) v = nb ps v ++ nb1 v p := by
  simp [nb]
theorem nb_len (ps : List (Int × Int)) (v : Nat) : (nb ps v).length ≤ 2 * ps.length := by
  induction ps with
  | nil => simp [nb]
  | cons p ps ih =>
    simp only [nb, nb1, List.flatMap_cons, List.length_append, List.length_cons] at ih ⊢
    have h1 : (if p.1 = (v : Int) then [p.2] else []).length ≤ 1 := by split <;> simp
    have h2 : (if p.2 = (v : Int) then [p.1] else []).length ≤ 1 := by split <;> simp
    omega
theorem nb_mem {ps : List (Int × Int)} {v : Nat} {u : Int} : u ∈ nb ps v ↔ ((v : Int), u) ∈ ps ∨ (u, (v : Int)) ∈ ps := by
  simp only [nb, nb1, List.mem_flatMap, List.mem_append]
  constructor
  · rintro ⟨p, hp, h | h⟩
    · split at h
      · rename_i e; simp at h; left; rw [← e, h]; exact hp
      · simp at h
    · split at h
      · rename_i e; simp at h; right; rw [← e, h]; exact hp
      · simp at h
  · rintro (h | h)
    · exact ⟨_, h, .inl (by simp)⟩
    · exact ⟨_, h, .inr (by simp)⟩
/-- the town as the program is told it -/
structure Ok (n : Nat) (ps : List (Int × Int)) : Prop where
  n1 : 1 ≤ n
  n40 : n ≤ 40
  pr : ∀ p ∈ ps, 0 ≤ p.1 ∧ p.1 < p.2 ∧ p.2 < n
  asc : ascP ps = true
  len : ps.length ≤ 400
variable {S : Store} {n : Nat} {ps : List (Int × Int)}
theorem fr_0 : opItem (fr n ps) (.int 0) S = .ok (.int n) S := by simp [fr, opItem, dGet, seqW, atI_0]
theorem fr_1 : opItem (fr n ps) (.int 1) S = .ok (.tup (ps.map pairW)) S := by simp [fr, opItem, dGet, seqW, atI_1]
theorem friends_ok (h : Ok n ps) : m_are_friends [fr n ps] S = .ok (.bl true) S := by
  apply runM_ret
  have h1 := h.n1; have h40 := h.n40; have hlen := h.len
  have hp : fLc [1] (iSeq (eBin opItem (eVar 0) (eC (.int 1)))) (gN 1) tYesM (eFn 2 m_is_pair_of (aCons (eVar 1) (aCons (eBin opItem (eVar 0) (eC (.int 0))) aNil))) [some (fr n ps), none] S = .ok ((ps.map fun _ => true).map W.bl) S := by
    refine fLc_ok (S1 := S) (l := ps.map pairW) (C := fun _ => true) (by simp [fr_1, seqW]; rfl) ?_ (by show _ ≤ 16777216; simp; omega)
    rw [comp_mapY (fun w => .bl true) rfl]
    · simp
    · intro w hw
      obtain ⟨p, hp, rfl⟩ := List.mem_map.mp hw
      obtain ⟨a1, a2, a3⟩ := h.pr p hp
      refine ⟨_, rfl, ?_⟩
      have := is_pair_ok (S := S) p.1 p.2 n ⟨a1, by omega, by omega, a3⟩
      rw [decide_eq_true a2] at this
      simp [fr_0, pairW, this, wipeE]
  have ha : m_is_ascending [.tup (ps.map pairW)] S = .ok (.bl true) S := by rw [ascend_ok ps (by show _ ≤ 16777216; omega), h.asc]
  have hb : bAll [.lst ((ps.map fun _ => true).map W.bl)] S = .ok (.bl true) S := by rw [bAll_ok]; simp
  have e1 : m_is_tuple_of [fr n ps, .int 2, .int 2] S = .ok (.bl true) S := by simp [fr, is_tuple_ok]
  have e2 : m_is_whole [.int n, .int 1, .int 60] S = .ok (.bl true) S := by
    rw [is_whole_ok]; simp; omega
  have e3 : m_is_tuple_of [.tup (ps.map pairW), .int 0, .int 400] S = .ok (.bl true) S := by
    rw [is_tuple_ok]; simp; omega
  simp only [b_are_friends, sSeq_eq, sIf_eq, tOrM_eq, tNotM_eq, tTru_eq, eFn_eq, aCons_eq, aNil_eq, eC_eq, eBin_eq, bind_ok, List.map_cons, List.map_nil, List.length_cons, List.length_nil, List.cons_append, List.nil_append, List.replicate, eVar_0, fr_0, fr_1, if_true, e1, e2, e3, truW, ofR_ok, seq_nx, sNext_eq, sRet_eq, eAnd_eq, eCall_eq, eV_eq, Bool.not_true, Bool.false_eq_true, if_false, hp, hb, ha]
theorem need_friends_ok (h : Ok n ps) : m_need_friends [fr n ps] S = .ok .non S := by
  apply runM_nx (env := [some (fr n ps)])
  simp [b_need_friends, friends_ok h, truW]
theorem need_few_ok (h : Ok n ps) : m_need_few [fr n ps] S = .ok .non S := by
  apply runM_nx (env := [some (fr n ps)])
  have := h.n40
  simp [b_need_few, need_friends_ok h, fr_0, opGt]
  omega
/-- the rows in the store -/
def rowsS (n : Nat) (ps : List (Int × Int)) : Store := (List.range n).map fun v => O.lst ((nb ps v).map W.int)
theorem rowsS_len : (rowsS n ps).length = n := by simp [rowsS]
theorem rowsS_get {v : Nat} (h : v < n) : (rowsS n ps)[v]? = some (.lst ((nb ps v).map W.int)) := by
  simp [rowsS, h]
theorem rowsS_snoc {a b : Nat} (ha : a < n) (hb : b < n) (hab : a ≠ b) : ((rowsS n ps).set a (.lst ((nb ps a).map W.int ++ [.int b]))).set b (.lst ((nb ps b).map W.int ++ [.int a])) = rowsS n (ps ++ [((a : Int), (b : Int))]) := by
  apply List.ext_getElem?
  intro v
  by_cases hv : v < n
  · rw [rowsS_get hv, nb_snoc, nb1]
    by_cases h1 : b = v
    · subst h1
      rw [List.getElem?_set_self (by simp [rowsS_len]; exact hv)]
      have : ¬ (a : Int) = (b : Int) := by omega
      simp [this]
    · rw [List.getElem?_set_ne h1]
      by_cases h2 : a = v
      · subst h2
        rw [List.getElem?_set_self (by simp [rowsS_len]; exact hv)]
        have : ¬ (b : Int) = (a : Int) := by omega
        simp [this]
      · rw [List.getElem?_set_ne h2, rowsS_get hv]
        have h3 : ¬ (a : Int) = (v : Int) := by omega
        have h4 : ¬ (b : Int) = (v : Int) := by omega
        simp [h3, h4]
  · rw [List.getElem?_eq_none (by simp [rowsS_len]; omega), List.getElem?_eq_none (by simp [rowsS_len]; omega)]
def refsW (k n : Nat) : List W := (List.range n).map fun v => W.ref (k + v)
theorem made_ok {t : Env} (h : n ≤ 40) : sAsg (eV (fLc [4] (iRg1 (eBin opItem (eVar 0) (eC (.int 0)))) (gN 4) tYesM (eA (fLst aNil)))) (gN 1) (some (fr n ps) :: none :: none :: none :: none :: t) S
    = .nx (some (fr n ps) :: some (.lst (refsW S.length n)) :: none :: none :: none :: t) (S ++ rowsS n []) := by
  have hr : iRg1 (eBin opItem (eVar 0) (eC (.int 0))) (some (fr n ps) :: none :: none :: none :: none :: t) S = .ok (rngW 0 n, fun _ => true) S := rg1_ok (by simp [fr_0]) (by omega)
  obtain ⟨ys, S', e, hS, hl, hq⟩ := comp_inv (C := fun _ => true) (g := gN 4) (e := eA (fLst aNil)) (env := wipeE (some (fr n ps) :: none :: none :: none :: none :: t) [4]) (fun k S' => S' = S ++ List.replicate k (.lst [])) (fun k y => y = .ref (S.length + k)) (rngW 0 n) 0 S (by simp)
    (fun i hi S' hS' => ⟨rfl, _, _, _, rfl, by simp [big]; exact ⟨rfl, rfl⟩, by subst hS'; simp, by subst hS'; rw [List.replicate_succ', List.append_assoc]⟩) (fun _ _ => rfl)
  have e2 := fLc_ok (own := [4]) hr e (by rw [hl, rngW_len]; show _ ≤ 16777216; omega)
  have hy : ys = refsW S.length n := by
    apply List.ext_getElem
    · simp [refsW, hl, rngW_len]
    · intro i h1 h2
      rw [hq i h1]
      simp [refsW]
  have hS2 : S' = S ++ rowsS n [] := by
    rw [hS, Nat.zero_add, rngW_len]
    refine congrArg (S ++ ·) ?_
    apply List.ext_getElem
    · simp [rowsS_len]
    · intro i h1 h2
      simp [rowsS, nb]
  simp only [sAsgN_eq, eV_eq, e2, bind_ok, ofR_ok, hy, hS2, List.set_cons_succ, List.set_cons_zero]
theorem filled_ok {t : Env} (h : Ok n ps) : ∃ env', sFor (iSeq (eBin opItem (eVar 0) (eC (.int 1)))) (gT (gsCons (gN 2) (gsCons (gN 3) gsNil))) (sSeq (sDrop (eMeth isRefL opAppend (eBin opItem (eVar 1) (eVar 2)) (aCons (eVar 3) aNil)))
    (sDrop (eMeth isRefL opAppend (eBin opItem (eVar 1) (eVar 3)) (aCons (eVar 2) aNil)))) (some (fr n ps) :: some (.lst (refsW S.length n)) :: none :: none :: none :: t) (S ++ rowsS n [])
    = .nx env' (S ++ rowsS n ps) ∧ ∃ x y, env' = some (fr n ps) :: some (.lst (refsW S.length n)) :: x :: y :: none :: t := by
  have hlen := h.len
  obtain ⟨env', S', e, hS, x, y, he⟩ := sFor_inv (mi := iSeq (eBin opItem (eVar 0) (eC (.int 1)))) (g := gT (gsCons (gN 2) (gsCons (gN 3) gsNil))) (body := sSeq (sDrop (eMeth isRefL opAppend (eBin opItem (eVar 1) (eVar 2)) (aCons (eVar 3) aNil)))
    (sDrop (eMeth isRefL opAppend (eBin opItem (eVar 1) (eVar 3)) (aCons (eVar 2) aNil)))) (env := some (fr n ps) :: some (.lst (refsW S.length n)) :: none :: none :: none :: t) (S := S ++ rowsS n []) (S1 := S ++ rowsS n []) (l := ps.map pairW) (C := fun _ => true)
    (fun i env S' => S' = S ++ rowsS n (ps.take i) ∧ ∃ x y, env = some (fr n ps) :: some (.lst (refsW S.length n)) :: x :: y :: none :: t) (by simp [fr_1, seqW]; rfl) ⟨by simp, _, _, rfl⟩
    (fun i hi env S' ⟨hS', x, y, he⟩ => by
      subst hS' he
      simp only [List.length_map] at hi
      obtain ⟨a1, a2, a3⟩ := h.pr ps[i] (List.getElem_mem hi)
      obtain ⟨a, ha⟩ := Int.eq_ofNat_of_zero_le a1
      obtain ⟨b, hb⟩ := Int.eq_ofNat_of_zero_le (show 0 ≤ ps[i].2 by omega)
      have hp : ps[i] = ((a : Int), (b : Int)) := by rw [← ha, ← hb]
      have han : a < n := by omega
      have hbn : b < n := by omega
      have hab : a ≠ b := by omega
      refine ⟨rfl, some (fr n ps) :: some (.lst (refsW S.length n)) :: some (.int a) :: some (.int b) :: none :: t, some (fr n ps) :: some (.lst (refsW S.length n)) :: some (.int a) :: some (.int b) :: none :: t, S ++ rowsS n (ps.take (i + 1)), by simp [hp, pairW], .inl ?_, rfl, _, _, rfl⟩
      have nl : ∀ v, (nb (ps.take i) v).length < big := fun v => by
        have := nb_len (ps.take i) v
        have : (ps.take i).length ≤ 400 := by simp; omega
        show _ < 16777216
        omega
      have r1 : ∀ (S' : Store) (v : Nat), v < n → opItem (.lst (refsW S.length n)) (.int v) S' = .ok (.ref (S.length + v)) S' := fun S' v hv => by
        rw [item_seq (l := refsW S.length n) rfl (by simp [refsW]; exact hv)]
        simp [refsW]
      have s1 := sAppend_ok (mo := eBin opItem (eVar 1) (eVar 2)) (me := eVar 3) (env := some (fr n ps) :: some (.lst (refsW S.length n)) :: some (.int a) :: some (.int b) :: none :: t) (S := S ++ rowsS n (ps.take i)) (k := S.length + a) (l := (nb (ps.take i) a).map W.int) (w := .int b)
        (by simp [r1 _ a han]) (by rw [getElem?_app_len, rowsS_get han]) (by simp) (by simpa using nl a)
      have s2 := sAppend_ok (mo := eBin opItem (eVar 1) (eVar 3)) (me := eVar 2) (env := some (fr n ps) :: some (.lst (refsW S.length n)) :: some (.int a) :: some (.int b) :: none :: t) (S := S ++ (rowsS n (ps.take i)).set a (.lst ((nb (ps.take i) a).map W.int ++ [.int b]))) (k := S.length + b) (l := (nb (ps.take i) b).map W.int) (w := .int a)
        (by simp [r1 _ b hbn]) (by rw [getElem?_app_len, List.getElem?_set_ne hab, rowsS_get hbn]) (by simp) (by simpa using nl b)
      rw [set_app_len] at s1 s2
      rw [sSeq_eq, s1, seq_nx, s2, rowsS_snoc han hbn hab, ← hp, ← List.take_succ_eq_append_getElem hi])
    (fun _ _ _ => rfl)
  simp only [List.length_map, List.take_length] at hS
  subst hS
  exact ⟨env', e, x, y, he⟩
theorem law_beside_ok (h : Ok n ps) : m__law_beside [fr n ps] S = .ok (.lst (refsW S.length n)) (S ++ rowsS n ps) := by
  apply runM_ret
  obtain ⟨env', e, x, y, he⟩ := filled_ok (S := S) (t := []) h
  subst he
  show (b__law_beside [some (fr n ps), none, none, none, none] S) = _
  rw [b__law_beside, sSeq_eq, made_ok h.n40, seq_nx, sSeq_eq, e, seq_nx]
  simp
/-- the rows that the program makes -/
def rowsP (n : Nat) (ps : List (Int × Int)) : List W := (List.range n).map fun v => .lst ((sortI (nb ps v)).map W.int)
theorem beside_ok (h : Ok n ps) : m_beside [fr n ps] S = .ok (.lst (rowsP n ps)) (S ++ rowsS n ps) := by
  apply runM_ret
  have h40 := h.n40
  obtain ⟨env', e, x, y, he⟩ := filled_ok (S := S) (t := [none]) h
  subst he
  have hc : fLc [5] (iSeq (eVar 1)) (gN 5) tYesM (eV (fCall bSorted (aCons (eVar 5) aNil))) (some (fr n ps) :: some (.lst (refsW S.length n)) :: x :: y :: none :: [none]) (S ++ rowsS n ps) = .ok (rowsP n ps) (S ++ rowsS n ps) := by
    refine fLc_ok (S1 := S ++ rowsS n ps) (l := refsW S.length n) (C := fun _ => true) rfl ?_ (by show _ ≤ 16777216; simp [rowsP]; omega)
    rw [comp_mapY (fun w => match w with
      | .ref k => .lst ((sortI (nb ps (k - S.length))).map W.int)
      | _ => .non) rfl]
    · simp [refsW, rowsP]
    · intro w hw
      obtain ⟨v, hv, rfl⟩ := List.mem_map.mp hw
      have hv := List.mem_range.mp hv
      have hs : bSorted [.ref (S.length + v)] (S ++ rowsS n ps) = .ok ((sortI (nb ps v)).map W.int) (S ++ rowsS n ps) := by
        simp only [bSorted, getElem?_app_len, rowsS_get hv, allI_int]
      exact ⟨_, rfl, by simp [hs, wipeE]⟩
  show (b_beside [some (fr n ps), none, none, none, none, none] S) = _
  rw [b_beside, sSeq_eq, made_ok h.n40, seq_nx, sSeq_eq, e, seq_nx, sRet_eq, eV_eq, hc]
  rfl
end K50
end QP

set_option Elab.async false
set_option linter.all false
set_option maxRecDepth 100000
set_option maxHeartbeats 4000000
namespace QP
open PySem PySem.Spec PyProof.Rows L2
theorem nodup_le {l : List Nat} {n : Nat} (h : l.Nodup) (h2 : ∀ x ∈ l, x < n) : l.length ≤ n := by
  have := h.length_le_of_subset (l₂ := List.range n) (fun x hx => List.mem_range.mpr (h2 x hx))
  simpa using this
namespace K50
/-- d tells the distances from house 0 -/
structure Net (n : Nat) (Rw : Nat → List Int) (d : Nat → Nat) : Prop where
  n1 : 1 ≤ n
  n40 : n ≤ 40
  z : d 0 = 0
  e : ∀ v, v < n → ∀ x ∈ Rw v, ∃ u : Nat, x = u ∧ u < n ∧ d u ≤ d v + 1
  p : ∀ v, v < n → 0 < v → ∃ u, u < n ∧ d u + 1 = d v ∧ (v : Int) ∈ Rw u
  lt : ∀ v, v < n → d v < n
/-- the rows as they are held -/
structure Rows (S : Store) (rows : List W) (Rw : Nat → List Int) (n : Nat) : Prop where
  len : rows.length = n
  at_ : ∀ v (h : v < rows.length), seqW S rows[v] = some ((Rw v).map W.int)
theorem Rows.app {S T : Store} {rows : List W} {Rw : Nat → List Int} {n : Nat} (h : Rows S rows Rw n) : Rows (S ++ T) rows Rw n := ⟨h.len, fun v hv => seqW_app (h.at_ v hv)⟩
theorem Rows.item {S : Store} {rows : List W} {Rw : Nat → List Int} {n v : Nat} (h : Rows S rows Rw n) (hv : v < n) : ∃ w, (∀ S' : Store, opItem (.lst rows) (.int v) S' = .ok w S') ∧ ∀ T, seqW (S ++ T) w = some ((Rw v).map W.int) :=
  ⟨rows[v]'(by rw [h.len]; exact hv), fun S' => item_seq (l := rows) rfl (by rw [h.len]; exact hv), fun T => (h.app (T := T)).at_ v _⟩
section
variable {n : Nat} {Rw : Nat → List Int} {d : Nat → Nat}
/-! ### spread -/
def kvsS (d : Nat → Nat) (Q : List (Nat × W)) : List (Key × W) := Q.map fun x => (.inl (x.1 : Int), .tup [.int (d x.1), x.2])
def queS (Q : List (Nat × W)) : List W := Q.map fun x => .int x.1
theorem kvs_none {Q : List (Nat × W)} {h : Nat} (hn : h ∉ Q.map (·.1)) : valW (kvsS d Q) (.inl (h : Int)) = none := by
  induction Q with
  | nil => rfl
  | cons x Q ih =>
    simp only [List.map_cons, List.mem_cons, not_or] at hn
    simp only [kvsS, List.map_cons, valW]
    rw [if_neg (by intro z; have := Sum.inl.inj z; exact hn.1 (by omega))]
    exact ih hn.2
theorem kvs_some {Q : List (Nat × W)} {h : Nat} (hn : h ∈ Q.map (·.1)) : ∃ p, valW (kvsS d Q) (.inl (h : Int)) = some (.tup [.int (d h), p]) := by
  induction Q with
  | nil => simp at hn
  | cons x Q ih =>
    by_cases e : x.1 = h
    · subst e
      exact ⟨x.2, by simp [kvsS, valW]⟩
    · simp only [List.map_cons, List.mem_cons] at hn
      obtain ⟨p, hp⟩ := ih (hn.elim (fun z => (e z.symm).elim) id)
      refine ⟨p, ?_⟩
      simp only [kvsS, List.map_cons, valW]
      rw [if_neg (by intro z; have := Sum.inl.inj z; exact e (by omega))]
      exact hp
/-- what holds of the queue: its first at houses are done -/
structure Bfs (n : Nat) (Rw : Nat → List Int) (d : Nat → Nat) (Q : List (Nat × W)) (at_ : Nat) : Prop where
  nd : (Q.map (·.1)).Nodup
  lt : ∀ x ∈ Q, x.1 < n
  z : 0 ∈ Q.map (·.1)
  le : at_ ≤ Q.length
  srt : ∀ i j (hi : i < Q.length) (hj : j < Q.length), i ≤ j → d Q[i].1 ≤ d Q[j].1
  done : ∀ i (hi : i < Q.length), i < at_ → ∀ y : Nat, (y : Int) ∈ Rw Q[i].1 → y ∈ Q.map (·.1)
  all : ∀ (h : at_ < Q.length), ∀ v, v < n → d v ≤ d Q[at_].1 → v ∈ Q.map (·.1)
  near : ∀ (h : at_ < Q.length), ∀ x ∈ Q, d x.1 ≤ d Q[at_].1 + 1
/-- while the house h = Q[at] is worked at: N is new -/
structure Bfs1 (n : Nat) (d : Nat → Nat) (Q N : List (Nat × W)) (k : Nat) : Prop where
  nd : ((Q ++ N).map (·.1)).Nodup
  new : ∀ x ∈ N, x.1 < n ∧ d x.1 = k + 1
theorem Bfs.len {Q : List (Nat × W)} {a : Nat} (h : Bfs n Rw d Q a) : Q.length ≤ n := by
  have := nodup_le h.nd (n := n) (fun x hx => by
    obtain ⟨y, hy, rfl⟩ := List.mem_map.mp hx
    exact h.lt y hy)
  simpa using this
theorem Bfs.next (t : Net n Rw d) {Q N : List (Nat × W)} {a : Nat} (h : Bfs n Rw d Q a) (ha : a < Q.length) (h1 : Bfs1 n d Q N (d Q[a].1)) (hd : ∀ y : Nat, (y : Int) ∈ Rw Q[a].1 → y ∈ (Q ++ N).map (·.1)) : Bfs n Rw d (Q ++ N) (a + 1) := by
  have srt : ∀ i j (hi : i < (Q ++ N).length) (hj : j < (Q ++ N).length), i ≤ j → d (Q ++ N)[i].1 ≤ d (Q ++ N)[j].1 := by
    intro i j hi hj hij
    by_cases h2 : j < Q.length
    · rw [List.getElem_append_left h2, List.getElem_append_left (by omega)]
      exact h.srt i j (by omega) h2 hij
    · have e2 : d (Q ++ N)[j].1 = d Q[a].1 + 1 := by
        rw [List.getElem_append_right (by omega)]
        exact (h1.new _ (List.getElem_mem _)).2
      rw [e2]
      by_cases h3 : i < Q.length
      · rw [List.getElem_append_left h3]
        exact h.near ha _ (List.getElem_mem _)
      · rw [List.getElem_append_right (by omega)]
        exact Nat.le_of_eq (h1.new _ (List.getElem_mem _)).2
  have near0 : ∀ x ∈ Q ++ N, d x.1 ≤ d Q[a].1 + 1 := fun x hx => by
    rcases List.mem_append.mp hx with hx | hx
    · exact h.near ha x hx
    · exact Nat.le_of_eq (h1.new x hx).2
  refine ⟨h1.nd, fun x hx => ?_, by simp only [List.map_append, List.mem_append]; exact .inl h.z, by simp; omega, srt, fun i hi hia y hy => ?_, fun ha2 v hv hdv => ?_, fun ha2 x hx => ?_⟩
  · rcases List.mem_append.mp hx with hx | hx
    · exact h.lt x hx
    · exact (h1.new x hx).1
  · by_cases e : i = a
    · subst e
      rw [List.getElem_append_left ha] at hy
      exact hd y hy
    · rw [List.getElem_append_left (by omega)] at hy
      have := h.done i (by omega) (by omega) y hy
      simp only [List.map_append, List.mem_append]; exact .inl this
  · have g1 : d Q[a].1 ≤ d (Q ++ N)[a + 1].1 := by
      have := srt a (a + 1) (by simp; omega) ha2 (by omega)
      rwa [List.getElem_append_left ha] at this
    by_cases c : d v ≤ d Q[a].1
    · have := h.all ha v hv c
      simp only [List.map_append, List.mem_append]; exact .inl this
    · have g2 := near0 _ (List.getElem_mem ha2)
      have v0 : 0 < v := by
        rcases Nat.eq_zero_or_pos v with z | z
        · subst z; rw [t.z] at c; omega
        · exact z
      obtain ⟨u, hu, hud, hum⟩ := t.p v hv v0
      have hq := h.all ha u hu (by omega)
      obtain ⟨x, hx, hxu⟩ := List.mem_map.mp hq
      obtain ⟨j, hj, rfl⟩ := List.getElem_of_mem hx
      have hja : j ≤ a := by
        apply Nat.le_of_not_lt
        intro z
        have := srt (a + 1) j ha2 (by simp; omega) z
        rw [List.getElem_append_left hj, hxu] at this
        omega
      rw [← hxu] at hum
      by_cases e : j = a
      · subst e; exact hd v hum
      · have := h.done j hj (by omega) v hum
        simp only [List.map_append, List.mem_append]; exact .inl this
  · have g1 : d Q[a].1 ≤ d (Q ++ N)[a + 1].1 := by
      have := srt a (a + 1) (by simp; omega) ha2 (by omega)
      rwa [List.getElem_append_left ha] at this
    have := near0 x hx
    omega
theorem Bfs.fin (t : Net n Rw d) {Q : List (Nat × W)} (h : Bfs n Rw d Q Q.length) : ∀ v, v < n → v ∈ Q.map (·.1) := by
  have key : ∀ k v, v < n → d v = k → v ∈ Q.map (·.1) := by
    intro k
    induction k with
    | zero =>
      intro v hv hd
      rcases Nat.eq_zero_or_pos v with z | z
      · subst z; exact h.z
      · obtain ⟨u, _, hud, _⟩ := t.p v hv z
        omega
    | succ k ih =>
      intro v hv hd
      rcases Nat.eq_zero_or_pos v with z | z
      · subst z; exact h.z
      · obtain ⟨u, hu, hud, hum⟩ := t.p v hv z
        obtain ⟨x, hx, hxu⟩ := List.mem_map.mp (ih u hu (by omega))
        obtain ⟨j, hj, rfl⟩ := List.getElem_of_mem hx
        rw [← hxu] at hum
        exact h.done j hj hj v hum
  exact fun v hv => key _ v hv rfl
end
end K50
end QP

set_option Elab.async false
set_option linter.all false
set_option maxRecDepth 100000
set_option maxHeartbeats 4000000
namespace QP
open PySem PySem.Spec PyProof.Rows L2
theorem app_get0 {S T : Store} {a : O} : (S ++ a :: T)[S.length]? = some a := by simp
theorem app_get1 {S T : Store} {a b : O} : (S ++ a :: b :: T)[S.length + 1]? = some b := by rw [getElem?_app_len]; rfl
theorem app_set0 {S T : Store} {a c : O} : (S ++ a :: T).set S.length c = S ++ c :: T := by
  have := set_app_len (S := S) (T := a :: T) (k := 0) (o := c)
  exact this
theorem app_set1 {S T : Store} {a b c : O} : (S ++ a :: b :: T).set (S.length + 1) c = S ++ a :: c :: T := by rw [set_app_len]; rfl
theorem whole_le {n k : Nat} (h : n ≤ 100000) (hk : k ≤ n) : k < big := by show _ < 16777216; omega
namespace K50
section
variable {n : Nat} {Rw : Nat → List Int} {d : Nat → Nat} {S : Store} {rows : List W}
theorem kvsS_snoc {Q : List (Nat × W)} {u : Nat} {p : W} (h : u ∉ Q.map (·.1)) : putW (kvsS d Q) (.inl (u : Int)) (.tup [.int (d u), p]) = kvsS d (Q ++ [(u, p)]) := by
  unfold putW
  rw [kvs_none h]
  simp [kvsS]
theorem queS_snoc {Q : List (Nat × W)} {u : Nat} {p : W} : queS Q ++ [.int u] = queS (Q ++ [(u, p)]) := by simp [queS]
/-- one friend of the house h -/
theorem spread_one (t : Net n Rw d) {Q N : List (Nat × W)} {k h u : Nat} {x6 : Option W} (hl : (Q ++ N).length ≤ n) (b : Bfs1 n d Q N (d h)) (hh : h ∈ Q.map (·.1)) (hu : u < n) (hdu : u ∉ (Q ++ N).map (·.1) → d u = d h + 1) :
    ∃ N', (sIf (tOf (eBin opNotInX (eVar 6) (eVar 2))) (sSeq (sPut (eVar 2) (eVar 6) (eTup (aCons (eBin opAdd (eBin opItem (eBin opItem (eVar 2) (eVar 5)) (eC (.int 0))) (eC (.int 1))) (aCons (eVar 5) aNil))))
    (sDrop (eMeth isRefL opAppend (eVar 3) (aCons (eVar 6) aNil)))) sNext) [some (.lst rows), some (.int 0), some (.ref S.length), some (.ref (S.length + 1)), some (.int k), some (.int h), some (.int u)] (S ++ [.dk false (kvsS d (Q ++ N)), .lst (queS (Q ++ N))])
      = .nx [some (.lst rows), some (.int 0), some (.ref S.length), some (.ref (S.length + 1)), some (.int k), some (.int h), some (.int u)] (S ++ [.dk false (kvsS d (Q ++ N')), .lst (queS (Q ++ N'))]) ∧ Bfs1 n d Q N' (d h) ∧ u ∈ (Q ++ N').map (·.1) ∧ ∀ y ∈ (Q ++ N).map (·.1), y ∈ (Q ++ N').map (·.1) := by
  have hg : ∀ v : Nat, dGet (S ++ [.dk false (kvsS d (Q ++ N)), .lst (queS (Q ++ N))]) (.ref S.length) (.int v) = some (valW (kvsS d (Q ++ N)) (.inl (v : Int))) := fun v => by
    simp only [dGet, app_get0, keyW, Option.map_some]
  by_cases hm : u ∈ (Q ++ N).map (·.1)
  · refine ⟨N, ?_, b, hm, fun y hy => hy⟩
    obtain ⟨p, hp⟩ := kvs_some (d := d) hm
    simp [opNotInX, hg, hp]
  · refine ⟨N ++ [(u, .int h)], ?_, ⟨?_, ?_⟩, by simp, fun y hy => by rw [← List.append_assoc, List.map_append]; exact List.mem_append_left _ hy⟩
    · obtain ⟨p, hp⟩ := kvs_some (d := d) (Q := Q ++ N) (h := h) (by simp only [List.map_append, List.mem_append]; exact .inl hh)
      have hn := kvs_none (d := d) hm
      have hd := hdu hm
      have hlk : (kvsS d (Q ++ N)).length < big := by
        rw [kvsS, List.length_map]; exact whole_le (n := 40) (by omega) (by have := t.n40; omega)
      have hlq : (queS (Q ++ N)).length < big := by
        rw [queS, List.length_map]; exact whole_le (n := 40) (by omega) (by have := t.n40; omega)
      have hitem : ∀ S' : Store, opItem (.tup [.int (d h), p]) (.int 0) S' = .ok (.int (d h)) S' := fun S' => by simp [opItem, dGet, seqW, atI_0]
      have hi2 : opItem (.ref S.length) (.int h) (S ++ [.dk false (kvsS d (Q ++ N)), .lst (queS (Q ++ N))]) = .ok (.tup [.int (d h), p]) (S ++ [.dk false (kvsS d (Q ++ N)), .lst (queS (Q ++ N))]) := by
        simp only [opItem, hg, hp]
      have hput : stSet (.ref S.length) (.int u) (.tup [.int ((d h : Int) + 1), .int h]) (S ++ [.dk false (kvsS d (Q ++ N)), .lst (queS (Q ++ N))]) = some (S ++ [.dk false (kvsS d (Q ++ (N ++ [(u, .int h)]))), .lst (queS (Q ++ N))]) := by
        simp only [stSet, app_get0, keyW, if_pos hlk]
        rw [app_set0, show ((d h : Int) + 1) = ((d u : Nat) : Int) from by rw [hd]; simp, kvsS_snoc hm, List.append_assoc]
      have happ := sAppend_ok (mo := eVar 3) (me := eVar 6) (env := [some (.lst rows), some (.int 0), some (.ref S.length), some (.ref (S.length + 1)), some (.int k), some (.int h), some (.int u)]) (S := S ++ [.dk false (kvsS d (Q ++ (N ++ [(u, .int h)]))), .lst (queS (Q ++ N))]) (k := S.length + 1) (l := queS (Q ++ N)) (w := .int u) rfl app_get1 rfl hlq
      rw [app_set1, queS_snoc (p := .int h), List.append_assoc] at happ
      have h2 : (2 : Nat) ≤ big := by decide
      rw [sIf_eq]
      have c : tOf (eBin opNotInX (eVar 6) (eVar 2)) [some (.lst rows), some (.int 0), some (.ref S.length), some (.ref (S.length + 1)), some (.int k), some (.int h), some (.int u)] (S ++ [.dk false (kvsS d (Q ++ N)), .lst (queS (Q ++ N))]) = .ok true (S ++ [.dk false (kvsS d (Q ++ N)), .lst (queS (Q ++ N))]) := by
        simp [opNotInX, hg, hn]
      rw [c, ofR_ok, if_pos rfl, sSeq_eq]
      have pt : sPut (eVar 2) (eVar 6) (eTup (aCons (eBin opAdd (eBin opItem (eBin opItem (eVar 2) (eVar 5)) (eC (.int 0))) (eC (.int 1))) (aCons (eVar 5) aNil))) [some (.lst rows), some (.int 0), some (.ref S.length), some (.ref (S.length + 1)), some (.int k), some (.int h), some (.int u)] (S ++ [.dk false (kvsS d (Q ++ N)), .lst (queS (Q ++ N))])
          = .nx [some (.lst rows), some (.int 0), some (.ref S.length), some (.ref (S.length + 1)), some (.int k), some (.int h), some (.int u)] (S ++ [.dk false (kvsS d (Q ++ (N ++ [(u, .int h)]))), .lst (queS (Q ++ N))]) := by
        simp [hi2, hitem, opAdd, h2, hput]
      rw [pt, seq_nx, happ]
    · rw [← List.append_assoc, List.map_append]
      refine List.nodup_append.mpr ⟨b.nd, by simp, fun a ha c hc => ?_⟩
      simp at hc
      subst hc
      exact fun z => hm (z ▸ ha)
    · intro x hx
      rcases List.mem_append.mp hx with hx | hx
      · exact b.new x hx
      · simp at hx; subst hx; exact ⟨hu, hdu hm⟩
theorem nodup_map_le {Q : List (Nat × W)} (h : (Q.map (·.1)).Nodup) (h2 : ∀ x ∈ Q, x.1 < n) : Q.length ≤ n := by
  have := nodup_le h (n := n) (fun x hx => by
    obtain ⟨y, hy, rfl⟩ := List.mem_map.mp hx
    exact h2 y hy)
  simpa using this
theorem spread_ok (t : Net n Rw d) (r : Rows S rows Rw n) : ∃ Q, m_spread [.lst rows, .int 0] S = .ok (.ref S.length) (S ++ [.dk false (kvsS d Q), .lst (queS Q)]) ∧ Q.length = n ∧ ∀ v, v < n → v ∈ Q.map (·.1) := by
  have h1 := t.n1
  have h40 := t.n40
  have e0 : sPar3 2 3 4 (eDisp [((eVar 1), (eTup (aCons (eC (.int 0)) (aCons (eC .non) aNil))))]) (eA (fLst (aCons (eVar 1) aNil))) (eC (.int 0)) [some (.lst rows), some (.int 0), none, none, none, none, none] S
      = .nx [some (.lst rows), some (.int 0), some (.ref S.length), some (.ref (S.length + 1)), some (.int 0), none, none] (S ++ [.dk false (kvsS d [(0, .non)]), .lst (queS [(0, .non)])]) := by
    have hd : eDisp [((eVar 1), (eTup (aCons (eC (.int 0)) (aCons (eC .non) aNil))))] [some (.lst rows), some (.int 0), none, none, none, none, none] S = .ok (.ref S.length) (S ++ [.dk false (kvsS d [(0, .non)])]) := by
      simp only [eDisp, pairsM, eVar_s, eVar_0, bind_ok, eTup_eq, aCons_eq, eC_eq, aNil_eq, List.length_cons, List.length_nil]
      rw [if_pos (by decide)]
      simp only [bind_ok, keyPs, keyW]
      rw [app_get0]
      simp only [List.length_cons, List.length_nil]
      rw [if_pos (by decide), app_set0]
      simp [mergeW, putW, valW, kvsS, t.z]
    simp [hd, big, queS]
  obtain ⟨env', S', e1, hq⟩ := while_inv (c := tOf (eBin opLt (eVar 4) (eCall bLen (aCons (eVar 3) aNil)))) (body := sSeq (sPar 5 4 (eBin opItem (eVar 3) (eVar 4)) (eBin opAdd (eVar 4) (eC (.int 1))))
    (sFor (iSeq (eBin opItem (eVar 0) (eVar 5))) (gN 6) (sIf (tOf (eBin opNotInX (eVar 6) (eVar 2))) (sSeq (sPut (eVar 2) (eVar 6) (eTup (aCons (eBin opAdd (eBin opItem (eBin opItem (eVar 2) (eVar 5)) (eC (.int 0))) (eC (.int 1))) (aCons (eVar 5) aNil))))
    (sDrop (eMeth isRefL opAppend (eVar 3) (aCons (eVar 6) aNil)))) sNext)))
    (fun m env S' => ∃ Q a x5 x6, m = n - a ∧ env = [some (.lst rows), some (.int 0), some (.ref S.length), some (.ref (S.length + 1)), some (.int ((a : Nat) : Int)), x5, x6] ∧ S' = S ++ [.dk false (kvsS d Q), .lst (queS Q)] ∧ Bfs n Rw d Q a)
    (fun env S' => ∃ Q x5 x6 x4, env = [some (.lst rows), some (.int 0), some (.ref S.length), some (.ref (S.length + 1)), x4, x5, x6] ∧ S' = S ++ [.dk false (kvsS d Q), .lst (queS Q)] ∧ Bfs n Rw d Q Q.length)
    4000 n [some (.lst rows), some (.int 0), some (.ref S.length), some (.ref (S.length + 1)), some (.int 0), none, none] (S ++ [.dk false (kvsS d [(0, .non)]), .lst (queS [(0, .non)])]) (by omega)
    ⟨[(0, .non)], 0, none, none, by omega, rfl, rfl, by simp, by intro x hx; simp at hx; subst hx; exact h1, by simp, by simp, fun i j hi hj hij => by simp at hi hj; subst hi hj; exact Nat.le_refl _, fun i hi h0 => by omega,
      fun h v hv hd => by
        simp [t.z] at hd
        rcases Nat.eq_zero_or_pos v with z | z
        · subst z; simp
        · obtain ⟨u, _, hu, _⟩ := t.p v hv z; omega, fun h x hx => by simp at hx; subst hx; simp⟩
    (by
      rintro m env S' ⟨Q, a, x5, x6, rfl, rfl, rfl, b⟩
      have hc : ∀ (x5 x6 : Option W), tOf (eBin opLt (eVar 4) (eCall bLen (aCons (eVar 3) aNil))) [some (.lst rows), some (.int 0), some (.ref S.length), some (.ref (S.length + 1)), some (.int ((a : Nat) : Int)), x5, x6] (S ++ [.dk false (kvsS d Q), .lst (queS Q)]) = .ok (decide (a < Q.length)) (S ++ [.dk false (kvsS d Q), .lst (queS Q)]) := fun x5 x6 => by
        have hlen : bLen [.ref (S.length + 1)] (S ++ [.dk false (kvsS d Q), .lst (queS Q)]) = .ok (.int Q.length) (S ++ [.dk false (kvsS d Q), .lst (queS Q)]) := by
          simp only [bLen, lenW, app_get1]; simp [queS]
        simp [hlen, opLt]
      by_cases ha : a < Q.length
      · right
        have hQn := b.len
        have hhn : Q[a].1 < n := b.lt _ (List.getElem_mem ha)
        have hget : opItem (.ref (S.length + 1)) (.int a) (S ++ [.dk false (kvsS d Q), .lst (queS Q)]) = .ok (.int (Q[a].1 : Int)) (S ++ [.dk false (kvsS d Q), .lst (queS Q)]) := by
          rw [item_seq (l := queS Q) (by simp only [seqW, app_get1]) (by simp [queS]; exact ha)]
          simp [queS]
        obtain ⟨w, hw1, hw2⟩ := r.item hhn
        obtain ⟨env2, S2, e2, N, x6', he2, hS2, b2, hd2⟩ := sFor_inv (mi := iSeq (eBin opItem (eVar 0) (eVar 5))) (g := gN 6) (body := sIf (tOf (eBin opNotInX (eVar 6) (eVar 2))) (sSeq (sPut (eVar 2) (eVar 6) (eTup (aCons (eBin opAdd (eBin opItem (eBin opItem (eVar 2) (eVar 5)) (eC (.int 0))) (eC (.int 1))) (aCons (eVar 5) aNil))))
            (sDrop (eMeth isRefL opAppend (eVar 3) (aCons (eVar 6) aNil)))) sNext)
          (env := [some (.lst rows), some (.int 0), some (.ref S.length), some (.ref (S.length + 1)), some (.int ((a + 1 : Nat) : Int)), some (.int (Q[a].1 : Int)), x6]) (S := S ++ [.dk false (kvsS d Q), .lst (queS Q)]) (S1 := S ++ [.dk false (kvsS d Q), .lst (queS Q)]) (l := (Rw Q[a].1).map W.int) (C := sameL w ((Rw Q[a].1).map W.int))
          (fun i env S' => ∃ N x6', env = [some (.lst rows), some (.int 0), some (.ref S.length), some (.ref (S.length + 1)), some (.int ((a + 1 : Nat) : Int)), some (.int (Q[a].1 : Int)), x6'] ∧ S' = S ++ [.dk false (kvsS d (Q ++ N)), .lst (queS (Q ++ N))] ∧ Bfs1 n d Q N (d Q[a].1) ∧ ∀ y : Nat, (y : Int) ∈ (Rw Q[a].1).take i → y ∈ (Q ++ N).map (·.1))
          (by simp [hw1, hw2]) ⟨[], x6, rfl, by simp, ⟨by simpa using b.nd, by simp⟩, by simp⟩
          (by
            rintro i hi env S' ⟨N, x6', rfl, rfl, b1, hd⟩
            simp only [List.length_map] at hi
            obtain ⟨u, hxu, hun, hdu⟩ := t.e Q[a].1 hhn ((Rw Q[a].1)[i]) (List.getElem_mem hi)
            have hQN : (Q ++ N).length ≤ n := nodup_map_le b1.nd (fun x hx => by
              rcases List.mem_append.mp hx with hx | hx
              · exact b.lt x hx
              · exact (b1.new x hx).1)
            obtain ⟨N', e, b3, hu3, hm3⟩ := spread_one (rows := rows) (S := S) (k := a + 1) t (u := u) (h := Q[a].1) (x6 := x6') hQN b1 (List.mem_map_of_mem (List.getElem_mem ha)) hun (fun hn => by
              have : ¬ d u ≤ d Q[a].1 := fun z => hn (by
                have := b.all ha u hun z
                simp only [List.map_append, List.mem_append]; exact .inl this)
              omega)
            refine ⟨sameL_of (hw2 _), _, _, _, rfl, .inl ?_, N', some (.int u), rfl, rfl, b3, fun y hy => ?_⟩
            · simp only [List.getElem_map, hxu, List.set_cons_succ, List.set_cons_zero]
              exact e
            · rw [List.take_succ_eq_append_getElem hi] at hy
              rcases List.mem_append.mp hy with hy | hy
              · exact hm3 y (hd y hy)
              · simp [hxu] at hy
                have : y = u := by omega
                subst this
                exact hu3)
          (by
            rintro env S' ⟨N, x6', rfl, rfl, b1, hd⟩
            exact sameL_of (hw2 _))
        simp only [List.length_map, List.take_length] at hd2
        have bn := b.next t ha b2 hd2
        refine ⟨_, env2, S2, n - (a + 1), by rw [hc, decide_eq_true ha], .inl ?_, by omega, Q ++ N, a + 1, _, x6', rfl, he2, hS2, bn⟩
        rw [sSeq_eq]
        have hp : sPar 5 4 (eBin opItem (eVar 3) (eVar 4)) (eBin opAdd (eVar 4) (eC (.int 1))) [some (.lst rows), some (.int 0), some (.ref S.length), some (.ref (S.length + 1)), some (.int ((a : Nat) : Int)), x5, x6] (S ++ [.dk false (kvsS d Q), .lst (queS Q)])
            = .nx [some (.lst rows), some (.int 0), some (.ref S.length), some (.ref (S.length + 1)), some (.int ((a + 1 : Nat) : Int)), some (.int (Q[a].1 : Int)), x6] (S ++ [.dk false (kvsS d Q), .lst (queS Q)]) := by
          simp [hget, opAdd]
        rw [hp, seq_nx, e2]
      · left
        have hal : a = Q.length := by have := b.le; omega
        refine ⟨_, by rw [hc, decide_eq_false ha], Q, x5, x6, _, rfl, rfl, hal ▸ b⟩)
  obtain ⟨Q, x5, x6, x4, rfl, rfl, b⟩ := hq
  have hall := b.fin t
  refine ⟨Q, ?_, ?_, hall⟩
  · apply runM_ret
    show b_spread [some (.lst rows), some (.int 0), none, none, none, none, none] S = _
    rw [b_spread, sSeq_eq, e0, seq_nx, sSeq_eq, e1, seq_nx]
    simp
  · have h2 := b.len
    have h3 := (List.nodup_range (n := n)).length_le_of_subset (l₂ := Q.map (·.1)) (fun x hx => hall x (List.mem_range.mp hx))
    simp at h3
    omega
end
end K50
end QP

set_option Elab.async false
set_option linter.all false
set_option maxRecDepth 100000
set_option maxHeartbeats 4000000
namespace QP
open PySem PySem.Spec PyProof.Rows L2
theorem sortI_mem {l : List Int} {x : Int} : x ∈ sortI l ↔ x ∈ l := (sortB_perm ltI l).mem_iff
namespace K50
structure Town (n : Nat) (ps : List (Int × Int)) (d : Nat → Nat) : Prop where
  ok : Ok n ps
  z : d 0 = 0
  e : ∀ a b : Nat, ((a : Int), (b : Int)) ∈ ps → d a ≤ d b + 1 ∧ d b ≤ d a + 1
  p : ∀ v, v < n → 0 < v → ∃ u : Nat, u < n ∧ d u + 1 = d v ∧ (u : Int) ∈ nb ps v
  lt : ∀ v, v < n → d v < n
theorem nb_sym {ps : List (Int × Int)} {u v : Nat} : (u : Int) ∈ nb ps v ↔ (v : Int) ∈ nb ps u := by
  rw [nb_mem, nb_mem]; exact Or.comm
section
variable {n : Nat} {ps : List (Int × Int)} {d : Nat → Nat} {S : Store}
theorem Town.net (t : Town n ps d) : Net n (nb ps) d := by
  refine ⟨t.ok.n1, t.ok.n40, t.z, fun v hv x hx => ?_, fun v hv h0 => ?_, t.lt⟩
  · rcases nb_mem.mp hx with h | h
    · obtain ⟨a1, a2, a3⟩ := t.ok.pr _ h
      obtain ⟨u, rfl⟩ := Int.eq_ofNat_of_zero_le (show 0 ≤ x by simp at a2; omega)
      exact ⟨u, rfl, by simp at a3; omega, (t.e v u h).2⟩
    · obtain ⟨a1, a2, a3⟩ := t.ok.pr _ h
      obtain ⟨u, rfl⟩ := Int.eq_ofNat_of_zero_le (show 0 ≤ x by simpa using a1)
      exact ⟨u, rfl, by simp at a2 a3; omega, (t.e u v h).1⟩
  · obtain ⟨u, h1, h2, h3⟩ := t.p v hv h0
    exact ⟨u, h1, h2, nb_sym.mp h3⟩
theorem Town.netS (t : Town n ps d) : Net n (fun v => sortI (nb ps v)) d := by
  have q := t.net
  refine ⟨q.n1, q.n40, q.z, fun v hv x hx => q.e v hv x (sortI_mem.mp hx), fun v hv h0 => ?_, q.lt⟩
  obtain ⟨u, h1, h2, h3⟩ := q.p v hv h0
  exact ⟨u, h1, h2, sortI_mem.mpr h3⟩
theorem Town.ne (t : Town n ps d) {v : Nat} (hv : v < n) (h0 : 0 < v) : nb ps v ≠ [] := by
  obtain ⟨u, h1, h2, h3⟩ := t.p v hv h0
  intro z
  rw [z] at h3
  simp at h3
theorem rowsP_rows (n : Nat) (ps : List (Int × Int)) (S : Store) : Rows S (rowsP n ps) (fun v => sortI (nb ps v)) n := ⟨by simp [rowsP], fun v hv => by simp [rowsP, seqW]⟩
theorem refs_rows {k : Nat} (h : ∀ v, v < n → S[k + v]? = some (.lst ((nb ps v).map W.int))) : Rows S (refsW k n) (nb ps) n := ⟨by simp [refsW], fun v hv => by
  simp only [refsW, List.length_map, List.length_range] at hv
  simp only [refsW, List.getElem_map, List.getElem_range, seqW, h v hv]⟩
def dI (n : Nat) (d : Nat → Nat) : List Int := (List.range n).map fun v => (d v : Int)
theorem far_came (t : Town n ps d) : ∃ Q T, (m_spread [.lst (rowsP n ps), .int 0] (S ++ rowsS n ps) = .ok (.ref (S.length + n)) (S ++ T)) ∧ (S ++ T)[S.length + n]? = some (.dk false (kvsS d Q)) ∧ Q.length = n ∧ ∀ v, v < n → v ∈ Q.map (·.1) := by
  obtain ⟨Q, e, h1, h2⟩ := spread_ok (S := S ++ rowsS n ps) t.netS (rowsP_rows n ps _)
  have hl : (S ++ rowsS n ps).length = S.length + n := by simp [rowsS_len]
  refine ⟨Q, rowsS n ps ++ [.dk false (kvsS d Q), .lst (queS Q)], ?_, ?_, h1, h2⟩
  · rw [e, hl, List.append_assoc]
  · rw [← List.append_assoc, ← hl, app_get0]
theorem far_ok (t : Town n ps d) : ∃ T, m_far [fr n ps] S = .ok (.tup ((dI n d).map W.int)) (S ++ T) := by
  obtain ⟨Q, T, e, h0, h1, h2⟩ := far_came (S := S) t
  have h40 := t.ok.n40
  refine ⟨T, runM_ret ?_⟩
  have hc : fLc [2] (iRg1 (eBin opItem (eVar 0) (eC (.int 0)))) (gN 2) tYesM (eBin opItem (eBin opItem (eVar 1) (eVar 2)) (eC (.int 0))) [some (fr n ps), some (.ref (S.length + n)), none] (S ++ T) = .ok ((dI n d).map W.int) (S ++ T) := by
    refine fLc_ok (S1 := S ++ T) (l := rngW 0 n) (C := fun _ => true) (rg1_ok (by simp [fr_0]) (by omega)) ?_ (by show _ ≤ 16777216; simp [dI]; omega)
    rw [comp_mapY (fun w => match w with
      | .int v => .int (d v.toNat)
      | _ => .non) rfl]
    · simp [rngW, dI]
    · intro w hw
      obtain ⟨v, hv, rfl⟩ := List.mem_map.mp hw
      obtain ⟨p, hp⟩ := kvs_some (d := d) (h2 v (List.mem_range.mp hv))
      refine ⟨_, rfl, ?_⟩
      have g : opItem (.ref (S.length + n)) (.int (0 + (v : Int))) (S ++ T) = .ok (.tup [.int (d v), p]) (S ++ T) := by
        rw [Int.zero_add]
        simp only [opItem, dGet, h0, keyW, Option.map_some, hp]
      simp only [wipeE, eBin_eq, List.set_cons_succ, List.set_cons_zero, eVar_s, eVar_0, bind_ok, g, eC_eq]
      simp [opItem, dGet, seqW, atI_0]
  show b_far [some (fr n ps), none, none] S = _
  simp only [b_far, sSeq_eq, sAsgN_eq, eFn_eq, aCons_eq, eVar_0, eVar_s, bind_ok, aNil_eq, List.length_cons, List.length_nil, if_true, beside_ok t.ok, eC_eq, e, ofR_ok, List.set_cons_succ, List.set_cons_zero, seq_nx, sRet_eq, eCall_eq, eV_eq, hc, bTuple_lst]
theorem whole_town_ok (t : Town n ps d) : ∃ T, m_need_whole_town [fr n ps] S = .ok .non (S ++ T) := by
  obtain ⟨Q, T, e, h0, h1, h2⟩ := far_came (S := S) t
  refine ⟨T, runM_nx (env := [some (fr n ps)]) ?_⟩
  have hl : bLen [.ref (S.length + n)] (S ++ T) = .ok (.int n) (S ++ T) := by
    simp only [bLen, lenW, h0]; simp [kvsS, h1]
  show b_need_whole_town [some (fr n ps)] S = _
  simp only [b_need_whole_town, sSeq_eq, sDrop_eq, eFn_eq, aCons_eq, eVar_0, eVar_s, bind_ok, aNil_eq, List.length_cons, List.length_nil, if_true, need_few_ok t.ok, ofR_ok, seq_nx, sIf_eq, tOf_eq, eBin_eq, eCall_eq, beside_ok t.ok, eC_eq, e, hl, fr_0, opLt, Int.lt_irrefl, decide_false, Bool.false_eq_true, if_false, sNext_eq]
theorem dI_ne (h : 1 ≤ n) : dI n d ≠ [] := by
  intro z
  have := congrArg List.length z
  simp [dI] at this
  omega
theorem most_ok (t : Town n ps d) : ∃ T, m_most_steps [fr n ps] S = .ok (.int (mx (dI n d) + 1)) (S ++ T) := by
  obtain ⟨T, e⟩ := whole_town_ok (S := S) t
  obtain ⟨T2, e2⟩ := far_ok (S := S ++ T) t
  refine ⟨T ++ T2, runM_ret ?_⟩
  show b_most_steps [some (fr n ps)] S = _
  simp only [b_most_steps, sSeq_eq, sDrop_eq, eFn_eq, aCons_eq, eVar_0, eVar_s, bind_ok, aNil_eq, List.length_cons, List.length_nil, if_true, e, ofR_ok, seq_nx, sRet_eq, eBin_eq, eCall_eq, e2, bMax_tup (dI_ne t.ok.n1), eC_eq, opAdd, List.append_assoc]
theorem distances_ok (t : Town n ps d) : ∃ T, m_distances [fr n ps] S = .ok (.tup ((dI n d).map W.int)) (S ++ T) := by
  obtain ⟨T, e⟩ := whole_town_ok (S := S) t
  obtain ⟨T2, e2⟩ := far_ok (S := S ++ T) t
  refine ⟨T ++ T2, runM_ret ?_⟩
  show b_distances [some (fr n ps)] S = _
  simp only [b_distances, sSeq_eq, sDrop_eq, eFn_eq, aCons_eq, eVar_0, eVar_s, bind_ok, aNil_eq, List.length_cons, List.length_nil, if_true, e, ofR_ok, seq_nx, sRet_eq, e2, List.append_assoc]
theorem mulT_ok (i : Int) (h1 : 1 ≤ n) (h40 : n ≤ 40) : opMulT (.tup [.int i]) (.int n) S = .ok (.tup ((List.replicate n i).map W.int)) S := by
  have fl : ∀ m : Nat, (List.replicate m [W.int i]).flatten = (List.replicate m i).map W.int := by
    intro m
    induction m with
    | zero => rfl
    | succ m ih => simp only [List.replicate_succ, List.flatten_cons, ih, List.map_cons, List.cons_append, List.nil_append]
  by_cases e : n = 1
  · subst e; rfl
  · have k1 : ¬ ([W.int i] = [] ∨ (n : Int) = 1) := by
      rintro (z | z)
      · cases z
      · omega
    have k2 : ¬ (n : Int) ≤ 0 := by omega
    have k3 : [W.int i] ≠ [] ∧ 2 ≤ (n : Int) ∧ (n : Int) ≤ 1000 ∧ [W.int i].length ≤ 1000 := ⟨List.cons_ne_nil _ _, by omega, by omega, by simp⟩
    have key : ∀ j : Int, ¬ ([W.int i] = [] ∨ j = 1) → ¬ j ≤ 0 → ([W.int i] ≠ [] ∧ 2 ≤ j ∧ j ≤ 1000 ∧ [W.int i].length ≤ 1000) → opMulT (.tup [.int i]) (.int j) S = .ok (.tup (List.replicate j.toNat [W.int i]).flatten) S := fun j k1 k2 k3 => by
      simp only [opMulT, if_neg k1, if_neg k2, opMul, if_pos k3]
    rw [key n k1 k2 k3, Int.toNat_natCast, fl]
theorem late_ok (t : Town n ps d) : ∃ T, m_late_numbers [fr n ps] S = .ok (.tup ((List.replicate n (1000000 : Int)).map W.int)) (S ++ T) := by
  obtain ⟨T, e⟩ := whole_town_ok (S := S) t
  refine ⟨T, runM_ret ?_⟩
  show b_late_numbers [some (fr n ps)] S = _
  simp only [b_late_numbers, sSeq_eq, sDrop_eq, eFn_eq, aCons_eq, eVar_0, eVar_s, bind_ok, aNil_eq, List.length_cons, List.length_nil, if_true, e, ofR_ok, seq_nx, sRet_eq, eBin_eq, eTup_eq, eC_eq, fr_0, (show 0 + 1 ≤ big from by decide), mulT_ok _ t.ok.n1 t.ok.n40]
end
end K50
end QP

set_option Elab.async false
set_option linter.all false
set_option maxRecDepth 100000
set_option maxHeartbeats 4000000
namespace QP
open PySem PySem.Spec PyProof.Rows L2
theorem slice1 {S : Store} {rows : List W} : opSlice (.lst rows) (some 1) none S = .ok (.lst (rows.drop 1)) S := by
  have h1 : HT.sIx rows.length 0 (some 1) = min 1 rows.length := by
    simp [HT.sIx]
    try omega
  have h2 : HT.sIx rows.length rows.length none = rows.length := by simp [HT.sIx]
  simp only [opSlice, lstW, cutW, h1, h2]
  congr 2
  cases rows with
  | nil => rfl
  | cons p ps =>
    have : min 1 (p :: ps).length = 1 := by simp
    rw [this]
    simp [List.take_of_length_le]
namespace K50
def hopL (n : Nat) (Rw : Nat → List Int) (x : List Int) : List Int := 0 :: (List.range (n - 1)).map fun v => 1 + mn ((Rw (v + 1)).map fun o => x.getD o.toNat 0)
theorem hopL_len {n : Nat} {Rw : Nat → List Int} {x : List Int} (h : 1 ≤ n) : (hopL n Rw x).length = n := by simp [hopL]; omega
section
variable {n : Nat} {Rw : Nat → List Int} {d : Nat → Nat} {S : Store} {rows : List W} {x : List Int}
theorem step_ok (t : Net n Rw d) (r : Rows S rows Rw n) (ne : ∀ v, v < n → 0 < v → Rw v ≠ []) (hb : ∀ v, v < n → (Rw v).length < big) (hx : x.length = n) : m_step [.lst rows, .tup (x.map W.int)] S = .ok (.tup ((hopL n Rw x).map W.int)) S := by
  have h1 := t.n1
  have h40 := t.n40
  apply runM_ret
  have inner : ∀ (w : W) (os : List Int), seqW S w = some (os.map W.int) → os.length < big → (∀ o ∈ os, ∃ u : Nat, o = u ∧ u < n) → fLc [3] (iSeq (eVar 2)) (gN 3) tYesM (eBin opItem (eVar 1) (eVar 3)) [some (.lst rows), some (.tup (x.map W.int)), some w, none] S = .ok ((os.map fun o => x.getD o.toNat 0).map W.int) S := by
    intro w os hw hl ho
    refine fLc_ok (S1 := S) (l := os.map W.int) (C := sameL w (os.map W.int)) (by simp [hw]) ?_ (by simp; omega)
    rw [comp_mapY (fun w => match w with
      | .int o => .int (x.getD o.toNat 0)
      | _ => .non) (sameL_of hw)]
    · simp
    · intro y hy
      obtain ⟨o, ho', rfl⟩ := List.mem_map.mp hy
      obtain ⟨u, rfl, hu⟩ := ho o ho'
      refine ⟨_, rfl, ?_⟩
      simp only [wipeE, eBin_eq, List.set_cons_succ, List.set_cons_zero, eVar_s, eVar_0, bind_ok]
      rw [item_seq (l := x.map W.int) rfl (by simp; omega)]
      simp [List.getD_eq_getElem?_getD, List.getElem?_eq_getElem (show u < x.length from by omega)]
  have outer : fLc [2] (iSeq (eSlice (eVar 0) (oSome (eC (.int 1))) oNone)) (gN 2) tYesM (eBin opAdd (eC (.int 1)) (eCall bMin (aCons (eV (fLc [3] (iSeq (eVar 2)) (gN 3) tYesM (eBin opItem (eVar 1) (eVar 3)))) aNil))) [some (.lst rows), some (.tup (x.map W.int)), none, none] S
      = .ok (((List.range (n - 1)).map fun v => 1 + mn ((Rw (v + 1)).map fun o => x.getD o.toNat 0)).map W.int) S := by
    refine fLc_ok (S1 := S) (l := rows.drop 1) (C := fun _ => true) (by simp [slice1, seqW]; rfl) ?_ (by show _ ≤ 16777216; simp; omega)
    rw [comp_mapY (fun w => match (seqW S w).bind allI with
      | some os => .int (1 + mn (os.map fun o => x.getD o.toNat 0))
      | none => .non) rfl]
    · congr 1
      apply List.ext_getElem
      · simp [r.len]
      · intro i i1 i2
        simp only [List.length_map, List.length_drop] at i1
        have := r.at_ (1 + i) (by omega)
        simp only [List.getElem_map, List.getElem_drop, List.getElem_range, this, Option.bind_some, allI_ints]
        rw [Nat.add_comm 1 i]
    · intro w hw
      obtain ⟨i, hi, rfl⟩ := List.getElem_of_mem hw
      simp only [List.length_drop] at hi
      have hi2 : 1 + i < n := by have := r.len; omega
      have hs := r.at_ (1 + i) (by have := r.len; omega)
      have hn := ne (1 + i) hi2 (by omega)
      refine ⟨_, rfl, ?_⟩
      have := inner (rows[1 + i]'(by have := r.len; omega)) (Rw (1 + i)) hs (hb _ hi2) (fun o ho => let ⟨u, a, b, _⟩ := t.e _ hi2 o ho; ⟨u, a, b⟩)
      simp only [List.getElem_drop, wipeE, eBin_eq, List.set_cons_succ, List.set_cons_zero, eC_eq, bind_ok, eCall_eq, aCons_eq, eV_eq, this, aNil_eq, hs, Option.bind_some, allI_ints]
      rw [bMin_lst (by simpa using hn)]
      simp only [bind_ok, opAdd]
  show b_step [some (.lst rows), some (.tup (x.map W.int)), none, none] S = _
  simp only [b_step, sRet_eq, eBin_eq, eTup_eq, aCons_eq, eC_eq, aNil_eq, bind_ok, List.length_cons, List.length_nil, (show 0 + 1 ≤ big from by decide), if_true, eCall_eq, eV_eq, outer, bTuple_lst]
  have hz : opAdd (.tup [.int 0]) (.tup (((List.range (n - 1)).map fun v => 1 + mn ((Rw (v + 1)).map fun o => x.getD o.toNat 0)).map W.int)) S = .ok (.tup ((hopL n Rw x).map W.int)) S := by
    simp only [opAdd]
    rw [if_pos (by have hbig : big = 16777216 := rfl; simp; omega)]
    rfl
  rw [hz]
  rfl
theorem hopped_ok (t : Net n Rw d) (r : Rows S rows Rw n) (ne : ∀ v, v < n → 0 < v → Rw v ≠ []) (hb : ∀ v, v < n → (Rw v).length < big) (hx : x.length = n) : m__law_hopped [.lst rows, .tup (x.map W.int)] S = .ok (.tup ((hopL n Rw x).map W.int)) S :=
  step_ok t r ne hb hx
end
end K50
end QP

set_option Elab.async false
set_option linter.all false
set_option maxRecDepth 100000
set_option maxHeartbeats 4000000
namespace QP
open PySem PySem.Spec PyProof.Rows L2
namespace K50
/-! ### the numbers come to rest -/
structure Net2 (n : Nat) (Rw : Nat → List Int) (d : Nat → Nat) : Prop extends Net n Rw d where
  e2 : ∀ v, v < n → ∀ u : Nat, (u : Int) ∈ Rw v → d v ≤ d u + 1
  pr : ∀ v, v < n → 0 < v → ∃ u : Nat, u < n ∧ d u + 1 = d v ∧ (u : Int) ∈ Rw v
theorem Net2.ne {n Rw d} (t : Net2 n Rw d) : ∀ v, v < n → 0 < v → Rw v ≠ [] := fun v hv h0 z => by
  obtain ⟨u, _, _, h⟩ := t.pr v hv h0
  rw [z] at h; simp at h
def it (n : Nat) (Rw : Nat → List Int) : Nat → List Int → List Int
  | 0, x => x
  | k + 1, x => hopL n Rw (it n Rw k x)
section
variable {n : Nat} {Rw Rw' : Nat → List Int} {d : Nat → Nat} {x : List Int}
theorem it_len (h : 1 ≤ n) (hx : x.length = n) : ∀ k, (it n Rw k x).length = n
  | 0 => hx
  | k + 1 => hopL_len h
theorem hop_0 : (hopL n Rw x).getD 0 0 = 0 := rfl
theorem hop_v {v : Nat} (hv : v < n) (h0 : 0 < v) : (hopL n Rw x).getD v 0 = 1 + mn ((Rw v).map fun o => x.getD o.toNat 0) := by
  obtain ⟨w, rfl⟩ : ∃ w, v = w + 1 := ⟨v - 1, by omega⟩
  have hw : w < n - 1 := by omega
  simp [hopL, List.getD_eq_getElem?_getD, hw]
theorem low (t : Net2 n Rw d) (hx : ∀ y ∈ x, 0 ≤ y) : ∀ k v, v < n → ((min k (d v) : Nat) : Int) ≤ (it n Rw k x).getD v 0
  | 0, v, hv => by
    simp only [it, Nat.zero_min]
    rw [List.getD_eq_getElem?_getD]
    cases h : x[v]? with
    | none => simp
    | some y => exact hx y (List.mem_of_getElem? h)
  | k + 1, v, hv => by
    rcases Nat.eq_zero_or_pos v with z | z
    · subst z
      rw [it, hop_0, t.z]; simp
    · rw [it, hop_v hv z]
      obtain ⟨o, ho, e⟩ := List.mem_map.mp (mn_mem (l := (Rw v).map fun o => (it n Rw k x).getD o.toNat 0) (by simpa using t.ne v hv z))
      rw [← e]
      obtain ⟨u, rfl, hu, _⟩ := t.e v hv o ho
      have h1 := t.e2 v hv u ho
      have h2 := low t hx k u hu
      simp only [Int.toNat_natCast]
      omega
theorem high (t : Net2 n Rw d) : ∀ k v, v < n → d v + 1 ≤ k → (it n Rw k x).getD v 0 ≤ d v
  | 0, v, hv, h => by omega
  | k + 1, v, hv, h => by
    rcases Nat.eq_zero_or_pos v with z | z
    · subst z
      rw [it, hop_0]; omega
    · rw [it, hop_v hv z]
      obtain ⟨u, hu, h1, h2⟩ := t.pr v hv z
      have h3 := high t k u hu (by omega)
      have h4 := mn_le (l := (Rw v).map fun o => (it n Rw k x).getD o.toNat 0) (List.mem_map.mpr ⟨_, h2, rfl⟩)
      simp only [Int.toNat_natCast] at h4
      omega
theorem ext_get {a b : List Int} (ha : a.length = n) (hb : b.length = n) (h : ∀ v, v < n → a.getD v 0 = b.getD v 0) : a = b := by
  apply List.ext_getElem
  · omega
  · intro i h1 h2
    have := h i (by omega)
    rwa [List.getD_eq_getElem?_getD, List.getD_eq_getElem?_getD, List.getElem?_eq_getElem h1, List.getElem?_eq_getElem h2] at this
theorem dI_len : (dI n d).length = n := by simp [dI]
theorem dI_get {v : Nat} (h : v < n) : (dI n d).getD v 0 = d v := by simp [dI, List.getD_eq_getElem?_getD, h]
/-- the greatest distance -/
def far_ (n : Nat) (d : Nat → Nat) : Nat := (mx (dI n d)).toNat
theorem far_le {v : Nat} (h : v < n) : d v ≤ far_ n d := by
  have : (d v : Int) ≤ mx (dI n d) := le_mx (List.mem_map.mpr ⟨v, List.mem_range.mpr h, rfl⟩)
  unfold far_; omega
theorem far_at (h : 1 ≤ n) : ∃ v, v < n ∧ d v = far_ n d := by
  obtain ⟨v, hv, e⟩ := List.mem_map.mp (mx_mem (dI_ne (d := d) h))
  exact ⟨v, List.mem_range.mp hv, by have e : (d v : Int) = mx (dI n d) := e; unfold far_; omega⟩
theorem far_mx (h : 1 ≤ n) : mx (dI n d) = (far_ n d : Int) := by
  obtain ⟨v, hv, e⟩ := List.mem_map.mp (mx_mem (dI_ne (d := d) h))
  have e : (d v : Int) = mx (dI n d) := e
  unfold far_; omega
theorem at_rest (t : Net2 n Rw d) (hx : ∀ y ∈ x, 0 ≤ y) (hl : x.length = n) {k : Nat} (hk : far_ n d + 1 ≤ k) : it n Rw k x = dI n d := by
  refine ext_get (it_len t.n1 hl k) dI_len fun v hv => ?_
  have h0 := far_le (d := d) hv
  have h1 := low t hx k v hv
  have h2 := high (x := x) t k v hv (by omega)
  rw [dI_get hv]
  omega
theorem hop_d (t : Net2 n Rw d) : hopL n Rw (dI n d) = dI n d := by
  have h : ∀ y ∈ List.replicate n (0 : Int), 0 ≤ y := fun y hy => by rw [List.eq_of_mem_replicate hy]; exact Int.le_refl _
  have h1 := at_rest t h (by simp) (Nat.le_refl _)
  have h2 := at_rest t h (by simp) (Nat.le_succ _)
  rw [it, h1] at h2
  exact h2
theorem it_stay (t : Net2 n Rw d) {k : Nat} (h : it n Rw k x = dI n d) : ∀ j, k ≤ j → it n Rw j x = dI n d := by
  intro j hj
  induction hj with
  | refl => exact h
  | step _ ih => rw [it, ih, hop_d t]
/-- the steps to rest -/
theorem first_rest (t : Net2 n Rw d) (hx : ∀ y ∈ x, 0 ≤ y) (hl : x.length = n) : ∃ k, k ≤ far_ n d + 1 ∧ it n Rw k x = dI n d ∧ ∀ j, j < k → it n Rw j x ≠ dI n d := by
  have key : ∀ m, it n Rw m x = dI n d → ∃ k, k ≤ m ∧ it n Rw k x = dI n d ∧ ∀ j, j < k → it n Rw j x ≠ dI n d := by
    intro m
    induction m using Nat.strongRecOn with
    | ind m ih =>
      intro h
      by_cases c : ∃ j, j < m ∧ it n Rw j x = dI n d
      · obtain ⟨j, hj, e⟩ := c
        obtain ⟨k, h1, h2, h3⟩ := ih j hj e
        exact ⟨k, by omega, h2, h3⟩
      · exact ⟨m, Nat.le_refl _, h, fun j hj e => c ⟨j, hj, e⟩⟩
  exact key _ (at_rest t hx hl (Nat.le_refl _))
theorem zero_high (t : Net2 n Rw d) : ∀ k v, v < n → (it n Rw k (List.replicate n 0)).getD v 0 ≤ (min k (d v) : Nat)
  | 0, v, hv => by simp [it, List.getD_eq_getElem?_getD, hv]
  | k + 1, v, hv => by
    rcases Nat.eq_zero_or_pos v with z | z
    · subst z
      rw [it, hop_0]; omega
    · rw [it, hop_v hv z]
      obtain ⟨u, hu, h1, h2⟩ := t.pr v hv z
      have h3 := zero_high t k u hu
      have h4 := mn_le (l := (Rw v).map fun o => (it n Rw k (List.replicate n 0)).getD o.toNat 0) (List.mem_map.mpr ⟨_, h2, rfl⟩)
      simp only [Int.toNat_natCast] at h4
      omega
theorem late_low (t : Net2 n Rw d) : ∀ k v, v < n → k ≤ d v → (1000000 + k : Int) ≤ (it n Rw k (List.replicate n 1000000)).getD v 0
  | 0, v, hv, h => by simp [it, List.getD_eq_getElem?_getD, hv]
  | k + 1, v, hv, h => by
    rcases Nat.eq_zero_or_pos v with z | z
    · subst z
      rw [t.z] at h; omega
    · rw [it, hop_v hv z]
      obtain ⟨o, ho, e⟩ := List.mem_map.mp (mn_mem (l := (Rw v).map fun o => (it n Rw k (List.replicate n 1000000)).getD o.toNat 0) (by simpa using t.ne v hv z))
      rw [← e]
      obtain ⟨u, rfl, hu, _⟩ := t.e v hv o ho
      have h1 := t.e2 v hv u ho
      have h2 := late_low t k u hu (by omega)
      simp only [Int.toNat_natCast]
      omega
/-- the numbers 0 rest behind the greatest distance, the late ones one step later -/
theorem zero_rest (t : Net2 n Rw d) {k : Nat} (h1 : it n Rw k (List.replicate n 0) = dI n d) (h2 : ∀ j, j < k → it n Rw j (List.replicate n 0) ≠ dI n d) : k = far_ n d := by
  obtain ⟨v, hv, e⟩ := far_at (d := d) t.n1
  have h3 := zero_high t k v hv
  rw [h1, dI_get hv] at h3
  have h4 : ¬ far_ n d < k := fun z => h2 _ z (ext_get (it_len t.n1 (by simp) _) dI_len fun u hu => by
    have a1 := zero_high t (far_ n d) u hu
    have a2 := low t (x := List.replicate n 0) (fun y hy => by rw [List.eq_of_mem_replicate hy]; exact Int.le_refl _) (far_ n d) u hu
    have a3 := far_le (d := d) hu
    rw [dI_get hu]
    omega)
  omega
theorem late_rest (t : Net2 n Rw d) {k : Nat} (h0 : k ≤ far_ n d + 1) (h1 : it n Rw k (List.replicate n 1000000) = dI n d) : k = far_ n d + 1 := by
  obtain ⟨v, hv, e⟩ := far_at (d := d) t.n1
  have h4 : ¬ k ≤ far_ n d := fun z => by
    have h3 := late_low t k v hv (by omega)
    rw [h1, dI_get hv] at h3
    have := t.lt v hv
    have := t.n40
    omega
  omega
/-- rows with the same friends step alike -/
theorem hop_same (t : Net2 n Rw d) (h : ∀ v, v < n → ∀ o, o ∈ Rw v ↔ o ∈ Rw' v) : hopL n Rw x = hopL n Rw' x := by
  unfold hopL
  congr 1
  apply List.map_congr_left
  intro v hv
  have hv := List.mem_range.mp hv
  congr 1
  refine mn_same (fun y => ?_) (by simpa using t.ne (v + 1) (by omega) (by omega))
  simp only [List.mem_map]
  exact ⟨fun ⟨o, h1, h2⟩ => ⟨o, (h _ (by omega) o).mp h1, h2⟩, fun ⟨o, h1, h2⟩ => ⟨o, (h _ (by omega) o).mpr h1, h2⟩⟩
theorem it_same (t : Net2 n Rw d) (h : ∀ v, v < n → ∀ o, o ∈ Rw v ↔ o ∈ Rw' v) : ∀ k, it n Rw k x = it n Rw' k x
  | 0 => rfl
  | k + 1 => by rw [it, it, it_same t h k, hop_same t h]
end
section
variable {n : Nat} {ps : List (Int × Int)} {d : Nat → Nat}
theorem Town.net2 (t : Town n ps d) : Net2 n (nb ps) d := by
  refine ⟨t.net, fun v hv u hu => ?_, fun v hv h0 => ?_⟩
  · rcases nb_mem.mp hu with h | h
    · exact (t.e v u h).1
    · exact (t.e u v h).2
  · obtain ⟨u, h1, h2, h3⟩ := t.p v hv h0
    exact ⟨u, h1, h2, h3⟩
theorem Town.net2S (t : Town n ps d) : Net2 n (fun v => sortI (nb ps v)) d := by
  refine ⟨t.netS, fun v hv u hu => t.net2.e2 v hv u (sortI_mem.mp hu), fun v hv h0 => ?_⟩
  obtain ⟨u, h1, h2, h3⟩ := t.p v hv h0
  exact ⟨u, h1, h2, sortI_mem.mpr h3⟩
theorem Town.itS (t : Town n ps d) (k : Nat) (x : List Int) : it n (fun v => sortI (nb ps v)) k x = it n (nb ps) k x := (it_same t.net2 (fun v _ o => sortI_mem.symm) k).symm
theorem nb_big (t : Ok n ps) (v : Nat) : (nb ps v).length < big := by
  have := nb_len ps v
  have := t.len
  show _ < 16777216
  omega
theorem nbS_big (t : Ok n ps) (v : Nat) : (sortI (nb ps v)).length < big := by
  rw [(sortB_perm ltI _).length_eq]; exact nb_big t v
end
end K50
end QP

set_option Elab.async false
set_option linter.all false
set_option maxRecDepth 100000
set_option maxHeartbeats 4000000
namespace QP
open PySem PySem.Spec PyProof.Rows L2
namespace K50
structure Num (n : Nat) (x : List Int) : Prop where
  len : x.length = n
  rng : ∀ y ∈ x, 0 ≤ y ∧ y ≤ 1000000
theorem Num.nn {n : Nat} {x : List Int} (h : Num n x) : ∀ y ∈ x, 0 ≤ y := fun y hy => (h.rng y hy).1
abbrev tw (x : List Int) : W := .tup (x.map W.int)
section
variable {n : Nat} {ps : List (Int × Int)} {d : Nat → Nat} {x : List Int} {S : Store}
theorem wholes_ok (h : Num n x) (h40 : n ≤ 40) : m_are_wholes [tw x, .int n, .int 0, .int 1000000] S = .ok (.bl true) S := by
  apply runM_ret
  have hl := h.len
  have hc : fLc [4] (iSeq (eVar 0)) (gN 4) tYesM (eFn 3 m_is_whole (aCons (eVar 4) (aCons (eVar 2) (aCons (eVar 3) aNil)))) [some (tw x), some (.int n), some (.int 0), some (.int 1000000), none] S = .ok ((x.map fun _ => true).map W.bl) S := by
    refine fLc_ok (S1 := S) (l := x.map W.int) (C := fun _ => true) (by simp [seqW]; rfl) ?_ (by show _ ≤ 16777216; simp; omega)
    rw [comp_mapY (fun w => .bl true) rfl]
    · simp
    · intro w hw
      obtain ⟨y, hy, rfl⟩ := List.mem_map.mp hw
      obtain ⟨a, b⟩ := h.rng y hy
      refine ⟨_, rfl, ?_⟩
      have : m_is_whole [.int y, .int 0, .int 1000000] S = .ok (.bl true) S := by rw [is_whole_ok, decide_eq_true a, decide_eq_true b]; rfl
      simp only [wipeE, eFn_eq, aCons_eq, List.set_cons_succ, List.set_cons_zero, eVar_s, eVar_0, bind_ok, aNil_eq, List.length_cons, List.length_nil, if_true, this]
  have ht : m_is_tuple_of [tw x, .int n, .int n] S = .ok (.bl true) S := by
    rw [is_tuple_ok]; simp [hl]
  show b_are_wholes [some (tw x), some (.int n), some (.int 0), some (.int 1000000), none] S = _
  simp only [b_are_wholes, sRet_eq, eAnd_eq, eFn_eq, aCons_eq, eVar_s, eVar_0, bind_ok, aNil_eq, List.length_cons, List.length_nil, if_true, ht, truW, eCall_eq, eV_eq, hc, bAll_ok]
  simp
theorem need_numbers_ok (t : Town n ps d) (h : Num n x) : ∃ T, m_need_numbers [fr n ps, tw x] S = .ok .non (S ++ T) := by
  obtain ⟨T, e⟩ := whole_town_ok (S := S) t
  refine ⟨T, runM_nx (env := [some (fr n ps), some (tw x)]) ?_⟩
  show b_need_numbers [some (fr n ps), some (tw x)] S = _
  simp only [b_need_numbers, sSeq_eq, sDrop_eq, eFn_eq, aCons_eq, eVar_0, eVar_s, bind_ok, aNil_eq, List.length_cons, List.length_nil, if_true, e, ofR_ok, seq_nx, sIf_eq, tNotM_eq, tTru_eq, eBin_eq, eC_eq, fr_0, wholes_ok h t.ok.n40, truW, Bool.not_true, Bool.false_eq_true, if_false, sNext_eq]
theorem need_whole_ok (s : Int) (h0 : 0 ≤ s) (h1 : s ≤ 1000000000000000000) : m_need_whole [.int s, .int 0, .int 1000000000000000000] S = .ok .non S := by
  refine runM_nx (env := [some (.int s), some (.int 0), some (.int 1000000000000000000)]) ?_
  have : m_is_whole [.int s, .int 0, .int 1000000000000000000] S = .ok (.bl true) S := by rw [is_whole_ok, decide_eq_true h0, decide_eq_true h1]; rfl
  show b_need_whole [some (.int s), some (.int 0), some (.int 1000000000000000000)] S = _
  simp only [b_need_whole, sIf_eq, tNotM_eq, tTru_eq, eFn_eq, aCons_eq, eVar_0, eVar_s, bind_ok, aNil_eq, List.length_cons, List.length_nil, if_true, this, truW, Bool.not_true, ofR_ok, Bool.false_eq_true, if_false, sNext_eq]
theorem stepP_ok (t : Town n ps d) (hx : x.length = n) : m_step [.lst (rowsP n ps), tw x] S = .ok (tw (hopL n (nb ps) x)) S := by
  rw [step_ok t.netS (rowsP_rows n ps S) t.net2S.ne (fun v _ => nbS_big t.ok v) hx]
  rw [← hop_same t.net2 (fun v _ o => sortI_mem.symm)]
theorem stepped_ok (t : Town n ps d) (h : Num n x) : ∃ T, m_stepped [fr n ps, tw x] S = .ok (tw (hopL n (nb ps) x)) (S ++ T) := by
  obtain ⟨T, e⟩ := need_numbers_ok (S := S) t h
  refine ⟨T ++ rowsS n ps, runM_ret ?_⟩
  show b_stepped [some (fr n ps), some (tw x)] S = _
  simp only [b_stepped, sSeq_eq, sDrop_eq, eFn_eq, aCons_eq, eVar_0, eVar_s, bind_ok, aNil_eq, List.length_cons, List.length_nil, if_true, e, ofR_ok, seq_nx, sRet_eq, beside_ok t.ok, stepP_ok t h.len, List.append_assoc]
theorem ne_ok (a b : List Int) : opNe (tw a) (tw b) S = .ok (.bl (!decide (a = b))) S := by
  simp only [opNe, eqW_tup]
theorem rest_in_ok (t : Town n ps d) (h : Num n x) {k : Nat} (hk : k ≤ 1000) (h1 : it n (nb ps) k x = dI n d) (h2 : ∀ j, j < k → it n (nb ps) j x ≠ dI n d) : ∃ T, m_rest_in [fr n ps, tw x] S = .ok (.int k) (S ++ T) := by
  obtain ⟨T, e⟩ := far_ok (S := S ++ rowsS n ps) t
  obtain ⟨env', S', e1, j, rfl, rfl, hjk⟩ := while_inv (c := tOf (eBin opNe (eVar 1) (eVar 3))) (body := sPar 1 4 (eFn 2 m_step (aCons (eVar 2) (aCons (eVar 1) aNil))) (eBin opAdd (eVar 4) (eC (.int 1))))
    (fun m env S' => ∃ j : Nat, j ≤ k ∧ m = k - j ∧ env = [some (fr n ps), some (tw (it n (nb ps) j x)), some (.lst (rowsP n ps)), some (tw (dI n d)), some (.int j)] ∧ S' = S ++ rowsS n ps ++ T)
    (fun env S' => ∃ j : Nat, env = [some (fr n ps), some (tw (it n (nb ps) j x)), some (.lst (rowsP n ps)), some (tw (dI n d)), some (.int j)] ∧ S' = S ++ rowsS n ps ++ T ∧ j = k)
    4000 k [some (fr n ps), some (tw x), some (.lst (rowsP n ps)), some (tw (dI n d)), some (.int 0)] (S ++ rowsS n ps ++ T) (by omega) ⟨0, Nat.zero_le _, rfl, rfl, rfl⟩
    (by
      rintro m env S' ⟨j, hj, rfl, rfl, rfl⟩
      have hc : tOf (eBin opNe (eVar 1) (eVar 3)) [some (fr n ps), some (tw (it n (nb ps) j x)), some (.lst (rowsP n ps)), some (tw (dI n d)), some (.int j)] (S ++ rowsS n ps ++ T) = .ok (!decide (it n (nb ps) j x = dI n d)) (S ++ rowsS n ps ++ T) := by
        simp only [tOf_eq, eBin_eq, eVar_s, eVar_0, bind_ok, ne_ok]
      by_cases c : j = k
      · left
        refine ⟨_, by rw [hc, c, decide_eq_true h1]; rfl, j, rfl, rfl, c⟩
      · right
        refine ⟨_, _, _, k - (j + 1), by rw [hc, decide_eq_false (h2 j (by omega))]; rfl, .inl ?_, by omega, j + 1, by omega, rfl, rfl, rfl⟩
        simp only [sPar_eq, eFn_eq, aCons_eq, eVar_s, eVar_0, bind_ok, aNil_eq, List.length_cons, List.length_nil, if_true, stepP_ok t (it_len t.ok.n1 h.len j), ofR_ok, eBin_eq, eC_eq, opAdd, List.set_cons_succ, List.set_cons_zero, it]
        rfl)
  refine ⟨rowsS n ps ++ T, runM_ret ?_⟩
  subst hjk
  show b_rest_in [some (fr n ps), some (tw x), none, none, none] S = _
  simp only [b_rest_in, sSeq_eq, sPar3_eq, eFn_eq, aCons_eq, eVar_0, eVar_s, bind_ok, aNil_eq, List.length_cons, List.length_nil, if_true, beside_ok t.ok, e, ofR_ok, eC_eq, List.set_cons_succ, List.set_cons_zero, seq_nx, e1, sRet_eq]
  simp only [List.append_assoc]
theorem steps_ok (t : Town n ps d) (h : Num n x) {k : Nat} (hk : k ≤ 1000) (h1 : it n (nb ps) k x = dI n d) (h2 : ∀ j, j < k → it n (nb ps) j x ≠ dI n d) : ∃ T, m_steps_to_rest [fr n ps, tw x] S = .ok (.int k) (S ++ T) := by
  obtain ⟨T, e⟩ := need_numbers_ok (S := S) t h
  obtain ⟨T2, e2⟩ := rest_in_ok (S := S ++ T) t h hk h1 h2
  refine ⟨T ++ T2, runM_ret ?_⟩
  show b_steps_to_rest [some (fr n ps), some (tw x)] S = _
  simp only [b_steps_to_rest, sSeq_eq, sDrop_eq, eFn_eq, aCons_eq, eVar_0, eVar_s, bind_ok, aNil_eq, List.length_cons, List.length_nil, if_true, e, ofR_ok, seq_nx, sRet_eq, e2, List.append_assoc]
theorem behind_ok (t : Town n ps d) (h : Num n x) {k : Nat} (hk : k ≤ 1000) (h1 : it n (nb ps) k x = dI n d) (h2 : ∀ j, j < k → it n (nb ps) j x ≠ dI n d) (s : Nat) (hs : (s : Int) ≤ 1000000000000000000) :
    ∃ T, m_behind_steps [fr n ps, tw x, .int s] S = .ok (tw (it n (nb ps) s x)) (S ++ T) := by
  obtain ⟨T0, e0⟩ := need_numbers_ok (S := S) t h
  obtain ⟨T, e⟩ := far_ok (S := S ++ T0 ++ rowsS n ps) t
  obtain ⟨env', S', e1, j, rfl, rfl, hjk⟩ := while_inv (c := tAndM (tOf (eBin opGt (eVar 2) (eC (.int 0)))) (tOf (eBin opNe (eVar 1) (eVar 4)))) (body := sPar 1 2 (eFn 2 m_step (aCons (eVar 3) (aCons (eVar 1) aNil))) (eBin opSub (eVar 2) (eC (.int 1))))
    (fun m env S' => ∃ j : Nat, j ≤ k ∧ j ≤ s ∧ m = k - j ∧ env = [some (fr n ps), some (tw (it n (nb ps) j x)), some (.int ((s : Int) - j)), some (.lst (rowsP n ps)), some (tw (dI n d))] ∧ S' = S ++ T0 ++ rowsS n ps ++ T)
    (fun env S' => ∃ j : Nat, env = [some (fr n ps), some (tw (it n (nb ps) j x)), some (.int ((s : Int) - j)), some (.lst (rowsP n ps)), some (tw (dI n d))] ∧ S' = S ++ T0 ++ rowsS n ps ++ T ∧ it n (nb ps) j x = it n (nb ps) s x)
    4000 k [some (fr n ps), some (tw x), some (.int s), some (.lst (rowsP n ps)), some (tw (dI n d))] (S ++ T0 ++ rowsS n ps ++ T) (by omega) ⟨0, Nat.zero_le _, Nat.zero_le _, rfl, by simp [it], rfl⟩
    (by
      rintro m env S' ⟨j, hj, hjs, rfl, rfl, rfl⟩
      have hc : tAndM (tOf (eBin opGt (eVar 2) (eC (.int 0)))) (tOf (eBin opNe (eVar 1) (eVar 4))) [some (fr n ps), some (tw (it n (nb ps) j x)), some (.int ((s : Int) - j)), some (.lst (rowsP n ps)), some (tw (dI n d))] (S ++ T0 ++ rowsS n ps ++ T) = .ok (decide (j < s) && !decide (it n (nb ps) j x = dI n d)) (S ++ T0 ++ rowsS n ps ++ T) := by
        simp only [tAndM_eq, tOf_eq, eBin_eq, eVar_s, eVar_0, bind_ok, ne_ok, eC_eq, opGt]
        by_cases c : j < s
        · rw [decide_eq_true (show (0 : Int) < (s : Int) - j by omega), decide_eq_true c, if_pos rfl]; simp
        · rw [decide_eq_false (show ¬ (0 : Int) < (s : Int) - j by omega), decide_eq_false c, if_neg (by decide)]; simp
      by_cases c : j < s ∧ j < k
      · right
        refine ⟨_, _, _, k - (j + 1), by rw [hc, decide_eq_false (h2 j c.2), decide_eq_true c.1]; rfl, .inl ?_, by omega, j + 1, by omega, by omega, rfl, rfl, rfl⟩
        simp only [sPar_eq, eFn_eq, aCons_eq, eVar_s, eVar_0, bind_ok, aNil_eq, List.length_cons, List.length_nil, if_true, stepP_ok t (it_len t.ok.n1 h.len j), ofR_ok, eBin_eq, eC_eq, opSub, List.set_cons_succ, List.set_cons_zero, it]
        rw [show (s : Int) - j - 1 = (s : Int) - ((j + 1 : Nat) : Int) from by omega]
      · left
        by_cases c2 : j < s
        · have hjk : j = k := by omega
          subst hjk
          exact ⟨_, by rw [hc, decide_eq_true h1, Bool.not_true, Bool.and_false], j, rfl, rfl, by rw [h1, it_stay t.net2 h1 s hjs]⟩
        · have hjs2 : j = s := by omega
          subst hjs2
          exact ⟨_, by rw [hc, decide_eq_false c2, Bool.false_and], j, rfl, rfl, rfl⟩)
  refine ⟨T0 ++ (rowsS n ps ++ T), runM_ret ?_⟩
  show b_behind_steps [some (fr n ps), some (tw x), some (.int s), none, none] S = _
  rw [← hjk]
  simp only [b_behind_steps, sSeq_eq, sDrop_eq, sPar_eq, eFn_eq, aCons_eq, eVar_0, eVar_s, bind_ok, aNil_eq, List.length_cons, List.length_nil, if_true, e0, ofR_ok, seq_nx, eC_eq, need_whole_ok _ (Int.natCast_nonneg s) hs, beside_ok t.ok, e, List.set_cons_succ, List.set_cons_zero, e1, sRet_eq]
  simp only [List.append_assoc]
end
end K50
end QP

set_option Elab.async false
set_option linter.all false
set_option maxRecDepth 100000
set_option maxHeartbeats 4000000
namespace QP
open PySem PySem.Spec PyProof.Rows L2
namespace K50
section
variable {n : Nat} {Rw : Nat → List Int} {d : Nat → Nat} {S : Store} {rows : List W}
/-! ### the law's own distances, level by level -/
def kvF (d : Nat → Nat) (F : List Nat) : List (Key × W) := F.map fun (v : Nat) => (.inl (v : Int), .int (d v))
def inF (F : List Nat) : List W := F.map fun (v : Nat) => .int v
theorem kvF_none {F : List Nat} {h : Nat} (hn : h ∉ F) : valW (kvF d F) (.inl (h : Int)) = none := by
  induction F with
  | nil => rfl
  | cons x Q ih =>
    simp only [List.mem_cons, not_or] at hn
    simp only [kvF, List.map_cons, valW]
    rw [if_neg (by intro z; have := Sum.inl.inj z; exact hn.1 (by omega))]
    exact ih hn.2
theorem kvF_some {F : List Nat} {h : Nat} (hn : h ∈ F) : valW (kvF d F) (.inl (h : Int)) = some (.int (d h)) := by
  induction F with
  | nil => simp at hn
  | cons x Q ih =>
    by_cases e : x = h
    · subst e
      simp [kvF, valW]
    · simp only [kvF, List.map_cons, valW]
      rw [if_neg (by intro z; have := Sum.inl.inj z; exact e (by omega))]
      exact ih ((List.mem_cons.mp hn).elim (fun z => (e z.symm).elim) id)
theorem kvF_snoc {F : List Nat} {u : Nat} (h : u ∉ F) : putW (kvF d F) (.inl (u : Int)) (.int (d u)) = kvF d (F ++ [u]) := by
  unfold putW
  rw [kvF_none h]
  simp [kvF]
/-- the store in a turn -/
abbrev stF (S : Store) (d : Nat → Nat) (F : List Nat) (Ls : Store) (N : List Nat) : Store := S ++ .dk false (kvF d (F ++ N)) :: (Ls ++ [.lst (inF N)])
theorem stF_later {F N : List Nat} {Ls : Store} : (stF S d F Ls N)[S.length + 1 + Ls.length]? = some (.lst (inF N)) := by
  rw [stF, Nat.add_assoc, getElem?_app_len, Nat.add_comm 1]
  simp
structure Lev (n : Nat) (d : Nat → Nat) (F N : List Nat) (i : Nat) : Prop where
  nd : (F ++ N).Nodup
  old : ∀ v ∈ F, v < n ∧ d v ≤ i
  new : ∀ v ∈ N, v < n ∧ d v = i + 1
abbrev envF (S : Store) (rows : List W) (now : W) (i q : Nat) (x6 x7 : Option W) : Env := [some (.lst rows), some (.int 0), some (.ref S.length), some now, some (.int i), some (.ref q), x6, x7]
theorem far_one (t : Net n Rw d) {F N : List Nat} {Ls : Store} {i u : Nat} {now : W} {x6 : Option W} (b : Lev n d F N i) (hu : u < n) (hdu : u ∉ F ++ N → d u = i + 1) :
    ∃ N', (sIf (tOf (eBin opNotInX (eVar 7) (eVar 2))) (sSeq (sPut (eVar 2) (eVar 7) (eBin opAdd (eVar 4) (eC (.int 1))))
    (sDrop (eMeth isRefL opAppend (eVar 5) (aCons (eVar 7) aNil)))) sNext) (envF S rows now i (S.length + 1 + Ls.length) x6 (some (.int u))) (stF S d F Ls N)
      = .nx (envF S rows now i (S.length + 1 + Ls.length) x6 (some (.int u))) (stF S d F Ls N') ∧ Lev n d F N' i ∧ u ∈ F ++ N' ∧ ∀ y ∈ F ++ N, y ∈ F ++ N' := by
  have hg : dGet (stF S d F Ls N) (.ref S.length) (.int u) = some (valW (kvF d (F ++ N)) (.inl (u : Int))) := by
    simp only [dGet, stF, app_get0, keyW, Option.map_some]
  by_cases hm : u ∈ F ++ N
  · refine ⟨N, ?_, b, hm, fun y hy => hy⟩
    simp [opNotInX, hg, kvF_some hm]
  · have hlen : (F ++ N).length ≤ n := nodup_le b.nd (fun v hv => by
      rcases List.mem_append.mp hv with h | h
      · exact (b.old v h).1
      · exact (b.new v h).1)
    have h40 := t.n40
    have hd := hdu hm
    refine ⟨N ++ [u], ?_, ⟨?_, b.old, ?_⟩, by simp, fun y hy => by rw [← List.append_assoc]; exact List.mem_append_left _ hy⟩
    · have hlk : (kvF d (F ++ N)).length < big := by
        rw [kvF, List.length_map]; exact whole_le (n := 40) (by omega) (by omega)
      have hlq : (inF N).length < big := by
        rw [inF, List.length_map]; simp at hlen; exact whole_le (n := 40) (by omega) (by omega)
      have c : tOf (eBin opNotInX (eVar 7) (eVar 2)) (envF S rows now i (S.length + 1 + Ls.length) x6 (some (.int u))) (stF S d F Ls N) = .ok true (stF S d F Ls N) := by
        simp only [tOf_eq, eBin_eq, eVar_s, eVar_0, bind_ok, opNotInX, hg, kvF_none hm]
        rfl
      have hput : stSet (.ref S.length) (.int u) (.int ((i : Int) + 1)) (stF S d F Ls N) = some (S ++ .dk false (kvF d (F ++ (N ++ [u]))) :: (Ls ++ [.lst (inF N)])) := by
        simp only [stSet, stF, app_get0, keyW, if_pos hlk]
        rw [app_set0, show ((i : Int) + 1) = ((d u : Nat) : Int) from by rw [hd]; simp, kvF_snoc hm, List.append_assoc]
      have pt : sPut (eVar 2) (eVar 7) (eBin opAdd (eVar 4) (eC (.int 1))) (envF S rows now i (S.length + 1 + Ls.length) x6 (some (.int u))) (stF S d F Ls N) = .nx (envF S rows now i (S.length + 1 + Ls.length) x6 (some (.int u))) (S ++ .dk false (kvF d (F ++ (N ++ [u]))) :: (Ls ++ [.lst (inF N)])) := by
        simp only [sPut_eq, eBin_eq, eVar_s, eVar_0, bind_ok, eC_eq, opAdd, ofR_ok, hput]
      have hget : (S ++ O.dk false (kvF d (F ++ (N ++ [u]))) :: (Ls ++ [O.lst (inF N)]))[S.length + 1 + Ls.length]? = some (.lst (inF N)) := by
        rw [Nat.add_assoc, getElem?_app_len, Nat.add_comm 1]
        simp
      have happ := sAppend_ok (mo := eVar 5) (me := eVar 7) (env := envF S rows now i (S.length + 1 + Ls.length) x6 (some (.int u))) (S := S ++ .dk false (kvF d (F ++ (N ++ [u]))) :: (Ls ++ [.lst (inF N)])) (k := S.length + 1 + Ls.length) (l := inF N) (w := .int u) rfl hget rfl hlq
      have hset : (S ++ O.dk false (kvF d (F ++ (N ++ [u]))) :: (Ls ++ [O.lst (inF N)])).set (S.length + 1 + Ls.length) (O.lst (inF N ++ [W.int u])) = stF S d F Ls (N ++ [u]) := by
        rw [Nat.add_assoc, set_app_len, Nat.add_comm 1]
        simp [stF, inF]
      rw [hset] at happ
      rw [sIf_eq, c, ofR_ok, if_pos rfl, sSeq_eq, pt, seq_nx, happ]
    · rw [← List.append_assoc]
      refine List.nodup_append.mpr ⟨b.nd, by simp, fun a ha c hc => ?_⟩
      simp at hc
      subst hc
      exact fun z => hm (z ▸ ha)
    · intro x hx
      rcases List.mem_append.mp hx with hx | hx
      · exact b.new x hx
      · simp at hx; subst hx; exact ⟨hu, hd⟩
theorem inF_mem {F : List Nat} {i : Nat} (h : i < (inF F).length) : ∃ h2 : i < F.length, (inF F)[i] = .int (F[i] : Int) := ⟨by simpa [inF] using h, by simp [inF]⟩
/-- one turn -/
theorem far_turn (t : Net n Rw d) (r : Rows S rows Rw n) {F Nw : List Nat} {Ls : Store} {i : Nat} {now : W} {x5 x6 x7 : Option W} (b : Lev n d F [] i) (hall : ∀ v, v < n → d v ≤ i → v ∈ F) (hN : ∀ v, v < n → d v = i → v ∈ Nw) (hN2 : ∀ v ∈ Nw, v < n ∧ d v = i)
    (hnow : ∀ kvs T, seqW (S ++ .dk false kvs :: (Ls ++ T)) now = some (inF Nw)) :
    ∃ N x6' x7', (sSeq (sAsg (eA (fLst aNil)) (gN 5))
    (sSeq (sFor (iSeq (eVar 3)) (gN 6) (sFor (iSeq (eBin opItem (eVar 0) (eVar 6))) (gN 7) (sIf (tOf (eBin opNotInX (eVar 7) (eVar 2))) (sSeq (sPut (eVar 2) (eVar 7) (eBin opAdd (eVar 4) (eC (.int 1))))
    (sDrop (eMeth isRefL opAppend (eVar 5) (aCons (eVar 7) aNil)))) sNext)))
    (sAsg (eVar 5) (gN 3)))) [some (.lst rows), some (.int 0), some (.ref S.length), some now, some (.int i), x5, x6, x7] (S ++ .dk false (kvF d F) :: Ls)
      = .nx (envF S rows (.ref (S.length + 1 + Ls.length)) i (S.length + 1 + Ls.length) x6' x7') (stF S d F Ls N) ∧ Lev n d F N i ∧ (∀ v, v < n → d v ≤ i + 1 → v ∈ F ++ N) := by
  have hmk : sAsg (eA (fLst aNil)) (gN 5) [some (.lst rows), some (.int 0), some (.ref S.length), some now, some (.int i), x5, x6, x7] (S ++ .dk false (kvF d F) :: Ls) = .nx (envF S rows now i (S.length + 1 + Ls.length) x6 x7) (stF S d F Ls []) := by
    simp [big, stF, inF, envF]
    omega
  obtain ⟨env', S', e1, N, x6', x7', rfl, rfl, b1, hd1⟩ := sFor_inv (mi := iSeq (eVar 3)) (g := gN 6) (body := sFor (iSeq (eBin opItem (eVar 0) (eVar 6))) (gN 7) (sIf (tOf (eBin opNotInX (eVar 7) (eVar 2))) (sSeq (sPut (eVar 2) (eVar 7) (eBin opAdd (eVar 4) (eC (.int 1))))
    (sDrop (eMeth isRefL opAppend (eVar 5) (aCons (eVar 7) aNil)))) sNext)) (env := envF S rows now i (S.length + 1 + Ls.length) x6 x7) (S := stF S d F Ls []) (S1 := stF S d F Ls []) (l := inF Nw) (C := sameL now (inF Nw))
    (fun a env S' => ∃ N x6 x7, env = envF S rows now i (S.length + 1 + Ls.length) x6 x7 ∧ S' = stF S d F Ls N ∧ Lev n d F N i ∧ ∀ h ∈ Nw.take a, ∀ y : Nat, (y : Int) ∈ Rw h → y ∈ F ++ N)
    (by simp only [iSeq_eq, eVar_s, eVar_0, bind_ok, stF, hnow]) ⟨[], x6, x7, rfl, rfl, b, by simp⟩
    (by
      rintro a ha env S' ⟨N, x6, x7, rfl, rfl, b1, hd⟩
      obtain ⟨ha2, hae⟩ := inF_mem ha
      have hin := hN2 _ (List.getElem_mem ha2)
      obtain ⟨w, hw1, hw2⟩ := r.item hin.1
      obtain ⟨env2, S2, e2, N2, x7', rfl, rfl, b2, hd2, hm2⟩ := sFor_inv (mi := iSeq (eBin opItem (eVar 0) (eVar 6))) (g := gN 7) (body := sIf (tOf (eBin opNotInX (eVar 7) (eVar 2))) (sSeq (sPut (eVar 2) (eVar 7) (eBin opAdd (eVar 4) (eC (.int 1))))
        (sDrop (eMeth isRefL opAppend (eVar 5) (aCons (eVar 7) aNil)))) sNext) (env := envF S rows now i (S.length + 1 + Ls.length) (some (.int (Nw[a] : Int))) x7) (S := stF S d F Ls N) (S1 := stF S d F Ls N) (l := (Rw Nw[a]).map W.int) (C := sameL w ((Rw Nw[a]).map W.int))
        (fun j env S' => ∃ N' x7, env = envF S rows now i (S.length + 1 + Ls.length) (some (.int (Nw[a] : Int))) x7 ∧ S' = stF S d F Ls N' ∧ Lev n d F N' i ∧ (∀ y : Nat, (y : Int) ∈ (Rw Nw[a]).take j → y ∈ F ++ N') ∧ ∀ y ∈ F ++ N, y ∈ F ++ N')
        (by simp only [iSeq_eq, eBin_eq, eVar_s, eVar_0, bind_ok, hw1, stF, hw2]) ⟨N, x7, rfl, rfl, b1, by simp, fun y hy => hy⟩
        (by
          rintro j hj env S' ⟨N', x7, rfl, rfl, b3, hd3, hm3⟩
          simp only [List.length_map] at hj
          obtain ⟨u, hxu, hun, hdu⟩ := t.e _ hin.1 ((Rw Nw[a])[j]) (List.getElem_mem hj)
          obtain ⟨N'', e, b4, hu4, hm4⟩ := far_one (S := S) (rows := rows) (Ls := Ls) (now := now) (x6 := some (.int (Nw[a] : Int))) t b3 hun (fun hn => by
            have : ¬ d u ≤ i := fun z => hn (List.mem_append_left _ (hall u hun z))
            have := hin.2
            omega)
          refine ⟨sameL_of (hw2 _), _, _, _, rfl, .inl ?_, N'', some (.int u), rfl, rfl, b4, fun y hy => ?_, fun y hy => hm4 y (hm3 y hy)⟩
          · simp only [List.getElem_map, hxu, List.set_cons_succ, List.set_cons_zero]
            exact e
          · rw [List.take_succ_eq_append_getElem hj] at hy
            rcases List.mem_append.mp hy with hy | hy
            · exact hm4 y (hd3 y hy)
            · simp [hxu] at hy
              have : y = u := by omega
              subst this
              exact hu4)
        (by
          rintro env S' ⟨N', x7, rfl, rfl, _⟩
          exact sameL_of (hw2 _))
      simp only [List.length_map, List.take_length] at hd2
      refine ⟨sameL_of (hnow _ _), _, envF S rows now i (S.length + 1 + Ls.length) (some (.int (Nw[a] : Int))) x7', stF S d F Ls N2, rfl, .inl ?_, N2, some (.int (Nw[a] : Int)), x7', rfl, rfl, b2, fun h hh y hy => ?_⟩
      · rw [hae]
        simp only [List.set_cons_succ, List.set_cons_zero]
        exact e2
      · rw [List.take_succ_eq_append_getElem ha2] at hh
        rcases List.mem_append.mp hh with hh | hh
        · exact hm2 y (hd h hh y hy)
        · simp at hh
          subst hh
          exact hd2 y hy)
    (by
      rintro env S' ⟨N, x6, x7, rfl, rfl, _⟩
      exact sameL_of (hnow _ _))
  have hl : (inF Nw).length = Nw.length := by simp [inF]
  rw [hl, List.take_length] at hd1
  refine ⟨N, x6', x7', ?_, b1, fun v hv hdv => ?_⟩
  · rw [sSeq_eq, hmk, seq_nx, sSeq_eq, e1, seq_nx]
    simp only [sAsgN_eq, eVar_s, eVar_0, ofR_ok, List.set_cons_succ, List.set_cons_zero]
  · by_cases c : d v ≤ i
    · exact List.mem_append_left _ (hall v hv c)
    · have v0 : 0 < v := by
        rcases Nat.eq_zero_or_pos v with z | z
        · subst z; rw [t.z] at c; omega
        · exact z
      obtain ⟨u, hu, hud, hum⟩ := t.p v hv v0
      exact hd1 u (hN u hu (by omega)) v hum
theorem law_far_ok (t : Net n Rw d) (r : Rows S rows Rw n) : ∃ F T, m__law_far [.lst rows, .int 0] S = .ok (.ref S.length) (S ++ .dk false (kvF d F) :: T) ∧ ∀ v, v < n → v ∈ F := by
  have h1 := t.n1
  have h40 := t.n40
  have e0 : sPar 2 3 (eDisp [((eVar 1), (eC (.int 0)))]) (eV (fLst (aCons (eVar 1) aNil))) [some (.lst rows), some (.int 0), none, none, none, none, none, none] S = .nx [some (.lst rows), some (.int 0), some (.ref S.length), some (.lst (inF [0])), none, none, none, none] (S ++ .dk false (kvF d [0]) :: []) := by
    have hd : eDisp [((eVar 1), (eC (.int 0)))] [some (.lst rows), some (.int 0), none, none, none, none, none, none] S = .ok (.ref S.length) (S ++ [.dk false (kvF d [0])]) := by
      simp only [eDisp, pairsM, eVar_s, eVar_0, bind_ok, eC_eq, keyPs, keyW]
      rw [app_get0]
      simp only [List.length_cons, List.length_nil]
      rw [if_pos (by decide), app_set0]
      simp [mergeW, putW, valW, kvF, t.z]
    simp [hd, big, inF]
  have hrg : ∀ env : Env, env[0]? = some (some (.lst rows)) → iRg1 (eCall bLen (aCons (eVar 0) aNil)) env (S ++ .dk false (kvF d [0]) :: []) = .ok (rngW 0 n, fun _ => true) (S ++ .dk false (kvF d [0]) :: []) := fun env h => rg1_ok (by
    simp only [eCall_eq, aCons_eq, eVar_eq h, bind_ok, aNil_eq, bLen, lenW, r.len]) (by omega)
  obtain ⟨env', S', e1, F, Ls, now, Nw, x4, x5, x6, x7, rfl, rfl, b, hall, _⟩ := sFor_inv (mi := iRg1 (eCall bLen (aCons (eVar 0) aNil))) (g := gN 4) (body := sSeq (sAsg (eA (fLst aNil)) (gN 5))
    (sSeq (sFor (iSeq (eVar 3)) (gN 6) (sFor (iSeq (eBin opItem (eVar 0) (eVar 6))) (gN 7) (sIf (tOf (eBin opNotInX (eVar 7) (eVar 2))) (sSeq (sPut (eVar 2) (eVar 7) (eBin opAdd (eVar 4) (eC (.int 1))))
    (sDrop (eMeth isRefL opAppend (eVar 5) (aCons (eVar 7) aNil)))) sNext)))
    (sAsg (eVar 5) (gN 3)))) (env := [some (.lst rows), some (.int 0), some (.ref S.length), some (.lst (inF [0])), none, none, none, none])
    (fun i env S' => ∃ F Ls now Nw x4 x5 x6 x7, env = [some (.lst rows), some (.int 0), some (.ref S.length), some now, x4, x5, x6, x7] ∧ S' = S ++ .dk false (kvF d F) :: Ls ∧ Lev n d F [] i ∧ (∀ v, v < n → d v ≤ i → v ∈ F) ∧
      (∀ v, v < n → d v = i → v ∈ Nw) ∧ (∀ v ∈ Nw, v < n ∧ d v = i) ∧ ∀ kvs T, seqW (S ++ .dk false kvs :: (Ls ++ T)) now = some (inF Nw))
    (hrg _ rfl)
    ⟨[0], [], .lst (inF [0]), [0], none, none, none, none, rfl, rfl, ⟨by simp, by intro v hv; simp at hv; subst hv; exact ⟨h1, by rw [t.z]; exact Nat.le_refl _⟩, by simp⟩, fun v hv hd => by
      rcases Nat.eq_zero_or_pos v with z | z
      · subst z; simp
      · obtain ⟨u, _, hu, _⟩ := t.p v hv z; omega, fun v hv hd => by
      rcases Nat.eq_zero_or_pos v with z | z
      · subst z; simp
      · obtain ⟨u, _, hu, _⟩ := t.p v hv z; omega, fun v hv => by simp at hv; subst hv; exact ⟨h1, t.z⟩, fun _ _ => rfl⟩
    (by
      rintro i hi env S' ⟨F, Ls, now, Nw, x4, x5, x6, x7, rfl, rfl, b, hall, hN, hN2, hnow⟩
      obtain ⟨N, x6', x7', e, b2, hall2⟩ := far_turn (x5 := x5) (x6 := x6) (x7 := x7) t r b hall hN hN2 hnow
      refine ⟨rfl, _, envF S rows (.ref (S.length + 1 + Ls.length)) i (S.length + 1 + Ls.length) x6' x7', stF S d F Ls N, rfl, .inl ?_, F ++ N, Ls ++ [.lst (inF N)], .ref (S.length + 1 + Ls.length), N, some (.int i), some (.ref (S.length + 1 + Ls.length)), x6', x7', rfl, rfl, ⟨by simpa using b2.nd, fun v hv => ?_, by simp⟩, hall2, fun v hv hd => ?_, b2.new, fun kvs T => ?_⟩
      · rw [rngW_get]
        simp only [List.set_cons_succ, List.set_cons_zero, Int.zero_add]
        exact e
      · rcases List.mem_append.mp hv with h | h
        · have := b2.old v h; omega
        · have := b2.new v h; omega
      · rcases List.mem_append.mp (hall2 v hv (by omega)) with h | h
        · have := b2.old v h; omega
        · exact h
      · simp only [seqW]
        rw [Nat.add_assoc, getElem?_app_len, Nat.add_comm 1]
        simp)
    (fun _ _ _ => rfl)
  refine ⟨F, Ls, runM_ret ?_, fun v hv => hall v hv (by rw [rngW_len]; have := t.lt v hv; omega)⟩
  show b__law_far [some (.lst rows), some (.int 0), none, none, none, none, none, none] S = _
  rw [b__law_far, sSeq_eq, e0, seq_nx, sSeq_eq, e1, seq_nx]
  simp
end
end K50
end QP

set_option Elab.async false
set_option linter.all false
set_option maxRecDepth 100000
set_option maxHeartbeats 4000000
namespace QP
open PySem PySem.Spec PyProof.Rows L2
theorem plain_tw {k : Nat} (x : List Int) : plain (k + 2) (.tup (x.map W.int)) = true := by
  simp [plain]
theorem pow18 {S : Store} : opPow (.int 10) (.int 18) S = .ok (.int 1000000000000000000) S := rfl
theorem pow6 {S : Store} : opPow (.int 10) (.int 6) S = .ok (.int 1000000) S := rfl
namespace K50
def lr0 : SX := (sPar 9 10 (eVar 8) (eC (.int 0)))
def lr1 : SX := (sFor (iRg1 (eBin opAdd (eBin opItem (eVar 1) (eC (.int 0))) (eC (.int 2)))) (gN 11) (sIf (tOf (eBin opNe (eVar 9) (eVar 4))) (sPar 9 10 (eFn 2 m__law_hopped (aCons (eVar 2) (aCons (eVar 9) aNil))) (eBin opAdd (eVar 10) (eC (.int 1)))) sNext))
def lr2 : SX := (sIf (tOrM (tOf (eBin opNe (eVar 9) (eVar 4))) (tNotM (tTru (eFn 2 (m__law_like 6) (aCons (eFn 2 m_steps_to_rest (aCons (eVar 1) (aCons (eVar 8) aNil))) (aCons (eVar 10) aNil)))))) (sRet (eC (.bl false))) sNext)
def lr3 : SX := (sIf (tOrM (tAndM (tOf (eBin opEq (eVar 8) (eVar 5))) (tOf (eBin opNe (eVar 10) (eBin opAdd (eCall bMax (aCons (eVar 4) aNil)) (eC (.int 1)))))) (tOrM (tAndM (tOf (eBin opEq (eCall bMax (aCons (eVar 8) aNil)) (eC (.int 0)))) (tOf (eBin opNe (eVar 10) (eCall bMax (aCons (eVar 4) aNil))))) (tOf (eBin opGt (eVar 10) (eBin opAdd (eCall bMax (aCons (eVar 4) aNil)) (eC (.int 1))))))) (sRet (eC (.bl false))) sNext)
def lr4 : SX := (sAsg (eFn 2 m__law_roll (aCons (eVar 0) (aCons (eBin opAdd (eVar 10) (eC (.int 3))) aNil))) (gN 12))
def lr5 : SX := (sAsg (eVar 8) (gN 13))
def lr6 : SX := (sFor (iRg1 (eVar 12)) (gN 11) (sAsg (eFn 2 m__law_hopped (aCons (eVar 2) (aCons (eVar 13) aNil))) (gN 13)))
def lr7 : SX := (sAsg (eV (fLst (aCons (eFn 2 m_stepped (aCons (eVar 1) (aCons (eVar 8) aNil))) (aCons (eFn 3 m_behind_steps (aCons (eVar 1) (aCons (eVar 8) (aCons (eVar 12) aNil)))) (aCons (eFn 3 m_behind_steps (aCons (eVar 1) (aCons (eVar 8) (aCons (eBin opPow (eC (.int 10)) (eC (.int 18))) aNil)))) (aCons (eFn 3 m_behind_steps (aCons (eVar 1) (aCons (eVar 8) (aCons (eC (.int 0)) aNil)))) aNil)))))) (gN 14))
def lr8 : SX := (sIf (tNotM (tTru (eFn 2 (m__law_like 6) (aCons (eVar 14) (aCons (eV (fLst (aCons (eFn 2 m__law_hopped (aCons (eVar 2) (aCons (eVar 8) aNil))) (aCons (eVar 13) (aCons (eVar 4) (aCons (eVar 8) aNil)))))) aNil))))) (sRet (eC (.bl false))) sNext)
def lrB : SX := sSeq lr0 (sSeq lr1 (sSeq lr2 (sSeq lr3 (sSeq lr4 (sSeq lr5 (sSeq lr6 (sSeq lr7 lr8)))))))
abbrev envR (rows q due late most start x8 x9 x10 x11 x12 x13 x14 x15 x16 : Option W) (n : Nat) (ps : List (Int × Int)) : Env := [some (.ref 0), some (fr n ps), rows, q, due, late, most, start, x8, x9, x10, x11, x12, x13, x14, x15, x16]
section
variable {n : Nat} {ps : List (Int × Int)} {d : Nat → Nat} {S : Store} {x : List Int} {k : Nat}
def Hold (k n : Nat) (ps : List (Int × Int)) (S : Store) : Prop := 0 < k ∧ ∀ v, v < n → S[k + v]? = some (.lst ((nb ps v).map W.int))
theorem Hold.nxt {S S' : Store} (h : Hold k n ps S) (x : Nxt S S') : Hold k n ps S' := ⟨h.1, fun v hv => by
  have h1 := h.2 v hv
  rw [x.same _ (by have := h.1; omega) (List.getElem?_eq_some_iff.mp h1).1]; exact h1⟩
theorem Hold.rows {S : Store} (h : Hold k n ps S) : Rows S (refsW k n) (nb ps) n := refs_rows h.2
theorem hopR_ok (t : Town n ps d) (h : Hold k n ps S) (hx : x.length = n) : m__law_hopped [.lst (refsW k n), tw x] S = .ok (tw (hopL n (nb ps) x)) S :=
  hopped_ok t.net h.rows t.net2.ne (fun v _ => nb_big t.ok v) hx
theorem behind_far (t : Town n ps d) (h : Num n x) (s : Int) (h0 : (far_ n d : Int) + 1 ≤ s) (hs : s ≤ 1000000000000000000) : ∃ T, m_behind_steps [fr n ps, tw x, .int s] S = .ok (tw (dI n d)) (S ++ T) := by
  obtain ⟨s', rfl⟩ := Int.eq_ofNat_of_zero_le (show 0 ≤ s by omega)
  obtain ⟨k, h1, h2, h3⟩ := first_rest t.net2 h.nn h.len
  have hf : far_ n d < 1000 := by
    obtain ⟨v, hv, e⟩ := far_at (d := d) t.ok.n1
    have := t.lt v hv
    have := t.ok.n40
    omega
  obtain ⟨T, e⟩ := behind_ok (S := S) t h (k := k) (by omega) h2 h3 s' hs
  refine ⟨T, ?_⟩
  rw [e, it_stay t.net2 h2 s' (by omega)]
theorem far_lt (t : Town n ps d) : far_ n d < n := by
  obtain ⟨v, hv, e⟩ := far_at (d := d) t.ok.n1
  have := t.lt v hv
  omega
theorem fr_pos {S : Store} : opItem (fr n ps) (.int 0) S = .ok (.int n) S := fr_0
set_option maxHeartbeats 8000000 in
theorem lrB_ok (t : Town n ps d) (hc : CupAt S) (hh : Hold k n ps S) (hx : Num n x) (most start : W) (q : Option W) (x9 x10 x11 x12 x13 x14 x15 x16 : Option W) :
    ∃ y9 y10 y11 y12 y13 y14 S', lrB (envR (some (.lst (refsW k n))) q (some (tw (dI n d))) (some (tw (List.replicate n 1000000))) (some most) (some start) (some (tw x)) x9 x10 x11 x12 x13 x14 x15 x16 n ps) S
      = .nx (envR (some (.lst (refsW k n))) q (some (tw (dI n d))) (some (tw (List.replicate n 1000000))) (some most) (some start) (some (tw x)) y9 y10 y11 y12 y13 y14 x15 x16 n ps) S' ∧ Nxt S S' := by
  obtain ⟨r, hr1, hr2, hr3⟩ := first_rest t.net2 hx.nn hx.len
  have h1 := t.ok.n1
  have h40 := t.ok.n40
  have hf := far_lt t
  -- the numbers step to rest
  obtain ⟨env', S1, e1, y11, rfl, rfl⟩ := sFor_inv (mi := iRg1 (eBin opAdd (eBin opItem (eVar 1) (eC (.int 0))) (eC (.int 2)))) (g := gN 11) (body := sIf (tOf (eBin opNe (eVar 9) (eVar 4))) (sPar 9 10 (eFn 2 m__law_hopped (aCons (eVar 2) (aCons (eVar 9) aNil))) (eBin opAdd (eVar 10) (eC (.int 1)))) sNext)
    (env := envR (some (.lst (refsW k n))) q (some (tw (dI n d))) (some (tw (List.replicate n 1000000))) (some most) (some start) (some (tw x)) (some (tw x)) (some (.int 0)) x11 x12 x13 x14 x15 x16 n ps) (S := S) (S1 := S) (l := rngW 0 (n + 2)) (C := fun _ => true)
    (fun i env S' => ∃ y11, env = envR (some (.lst (refsW k n))) q (some (tw (dI n d))) (some (tw (List.replicate n 1000000))) (some most) (some start) (some (tw x)) (some (tw (it n (nb ps) (min i r) x))) (some (.int ((min i r : Nat) : Int))) y11 x12 x13 x14 x15 x16 n ps ∧ S' = S)
    (rg1_ok (by simp only [eBin_eq, eVar_s, eVar_0, bind_ok, eC_eq, fr_0, opAdd]; rfl) (by omega)) ⟨x11, by simp [it], rfl⟩
    (by
      rintro i hi env S' ⟨y11, rfl, rfl⟩
      refine ⟨rfl, _, envR (some (.lst (refsW k n))) q (some (tw (dI n d))) (some (tw (List.replicate n 1000000))) (some most) (some start) (some (tw x)) (some (tw (it n (nb ps) (min (i + 1) r) x))) (some (.int ((min (i + 1) r : Nat) : Int))) (some (.int i)) x12 x13 x14 x15 x16 n ps, S', rfl, .inl ?_, _, rfl, rfl⟩
      rw [rngW_get, Int.zero_add]
      simp only [List.set_cons_succ, List.set_cons_zero, sIf_eq, tOf_eq, eBin_eq, eVar_s, eVar_0, bind_ok, ne_ok, ofR_ok]
      by_cases c : i < r
      · rw [decide_eq_false (by rw [Nat.min_eq_left (by omega)]; exact hr3 i c), Nat.min_eq_left (show i ≤ r by omega), Nat.min_eq_left (show i + 1 ≤ r by omega)]
        simp only [Bool.not_false, if_true, sPar_eq, eFn_eq, aCons_eq, eVar_s, eVar_0, bind_ok, aNil_eq, List.length_cons, List.length_nil, hopR_ok t hh (it_len h1 hx.len i), ofR_ok, eBin_eq, eC_eq, opAdd, List.set_cons_succ, List.set_cons_zero, it]
        rfl
      · rw [Nat.min_eq_right (show r ≤ i by omega), Nat.min_eq_right (show r ≤ i + 1 by omega), decide_eq_true hr2]
        simp)
    (fun _ _ _ => rfl)
  rw [rngW_len, Nat.min_eq_right (show r ≤ n + 2 by omega), hr2] at e1
  -- the program counts them alike
  obtain ⟨T1, s1⟩ := steps_ok (S := S1) t hx (k := r) (by omega) hr2 hr3
  have n1 := Nxt.app hc T1
  -- the cup
  obtain ⟨s, S2, s2, s20, s21, n2, _⟩ := roll_ok n1.cup (m := (r : Int) + 3) (by omega) (by omega)
  obtain ⟨s, rfl⟩ := Int.eq_ofNat_of_zero_le s20
  have hh2 := (hh.nxt n1).nxt n2
  -- some steps
  obtain ⟨env', S3, e3, z11, rfl, rfl⟩ := sFor_inv (mi := iRg1 (eVar 12)) (g := gN 11) (body := sAsg (eFn 2 m__law_hopped (aCons (eVar 2) (aCons (eVar 13) aNil))) (gN 13))
    (env := envR (some (.lst (refsW k n))) q (some (tw (dI n d))) (some (tw (List.replicate n 1000000))) (some most) (some start) (some (tw x)) (some (tw (dI n d))) (some (.int r)) y11 (some (.int s)) (some (tw x)) x14 x15 x16 n ps) (S := S2) (S1 := S2) (l := rngW 0 s) (C := fun _ => true)
    (fun i env S' => ∃ y11, env = envR (some (.lst (refsW k n))) q (some (tw (dI n d))) (some (tw (List.replicate n 1000000))) (some most) (some start) (some (tw x)) (some (tw (dI n d))) (some (.int r)) y11 (some (.int s)) (some (tw (it n (nb ps) i x))) x14 x15 x16 n ps ∧ S' = S2)
    (rg1_ok (by simp only [eVar_s, eVar_0]) (by omega)) ⟨y11, rfl, rfl⟩
    (by
      rintro i hi env S' ⟨y11, rfl, rfl⟩
      refine ⟨rfl, _, envR (some (.lst (refsW k n))) q (some (tw (dI n d))) (some (tw (List.replicate n 1000000))) (some most) (some start) (some (tw x)) (some (tw (dI n d))) (some (.int r)) (some (.int i)) (some (.int s)) (some (tw (it n (nb ps) (i + 1) x))) x14 x15 x16 n ps, S', rfl, .inl ?_, _, rfl, rfl⟩
      rw [rngW_get, Int.zero_add]
      simp only [List.set_cons_succ, List.set_cons_zero, sAsgN_eq, eFn_eq, aCons_eq, eVar_s, eVar_0, bind_ok, aNil_eq, List.length_cons, List.length_nil, if_true, hopR_ok t hh2 (it_len h1 hx.len i), ofR_ok, it])
    (fun _ _ _ => rfl)
  rw [rngW_len] at e3
  -- what the program tells
  obtain ⟨T4, s4⟩ := stepped_ok (S := S3) t hx
  obtain ⟨T5, s5⟩ := behind_ok (S := S3 ++ T4) t hx (k := r) (by omega) hr2 hr3 s (by omega)
  obtain ⟨T6, s6⟩ := behind_far (S := S3 ++ T4 ++ T5) t hx 1000000000000000000 (by omega) (Int.le_refl _)
  obtain ⟨T7, s7⟩ := behind_ok (S := S3 ++ T4 ++ T5 ++ T6) t hx (k := r) (by omega) hr2 hr3 0 (by omega)
  have n3 : Nxt S3 (S3 ++ T4 ++ T5 ++ T6 ++ T7) := by
    rw [List.append_assoc, List.append_assoc, List.append_assoc]; exact Nxt.app n2.cup _
  have hh3 := hh2.nxt n3
  have lk1 : gLike 6 [.int r, .int r] (S1 ++ T1) = .ok (.bl true) (S1 ++ T1) := like_refl 6 _ _ rfl
  have lk2 : gLike 6 [.lst [tw (hopL n (nb ps) x), tw (it n (nb ps) s x), tw (dI n d), tw x], .lst [tw (hopL n (nb ps) x), tw (it n (nb ps) s x), tw (dI n d), tw x]] (S3 ++ T4 ++ T5 ++ T6 ++ T7) = .ok (.bl true) (S3 ++ T4 ++ T5 ++ T6 ++ T7) :=
    like_refl 6 _ _ (by
      show ([tw (hopL n (nb ps) x), tw (it n (nb ps) s x), tw (dI n d), tw x].all (plain 5)) = true
      simp only [List.all_cons, List.all_nil, plain_tw, Bool.and_self])
  have eL : ∀ (a b : List Int) (S : Store), opEq (tw a) (tw b) S = .ok (.bl (decide (a = b))) S := fun a b S => by simp only [opEq, eqW_tup]
  have eI : ∀ (a b : Int) (S : Store), opEq (.int a) (.int b) S = .ok (.bl (a == b)) S := fun a b S => rfl
  have nI : ∀ (a b : Int) (S : Store), opNe (.int a) (.int b) S = .ok (.bl (!(a == b))) S := fun a b S => rfl
  have xne : x ≠ [] := by intro z; have := hx.len; rw [z] at this; simp at this; omega
  have c1 : (decide (x = List.replicate n 1000000) && !((r : Int) == (far_ n d : Int) + 1)) = false := by
    by_cases c : x = List.replicate n 1000000
    · rw [c] at hr2
      have := late_rest t.net2 hr1 hr2
      have e : ((r : Int) == (far_ n d : Int) + 1) = true := by simp; omega
      rw [e]; simp
    · simp [c]
  have c2 : ((mx x == 0) && !((r : Int) == (far_ n d : Int))) = false := by
    by_cases c : mx x = 0
    · have hz : x = List.replicate n 0 := by
        refine List.eq_replicate_iff.mpr ⟨hx.len, fun y hy => ?_⟩
        have := le_mx hy
        have := (hx.rng y hy).1
        omega
      rw [hz] at hr2 hr3
      have := zero_rest t.net2 hr2 hr3
      rw [this]; simp
    · simp [c]
  have c3 : decide ((far_ n d : Int) + 1 < r) = false := decide_eq_false (by omega)
  have hb2 : (0 + 1 + 1 + 1 + 1 : Nat) ≤ big := by decide
  have p1 : lr2 (envR (some (.lst (refsW k n))) q (some (tw (dI n d))) (some (tw (List.replicate n 1000000))) (some most) (some start) (some (tw x)) (some (tw (dI n d))) (some (.int r)) y11 x12 x13 x14 x15 x16 n ps) S1
      = .nx (envR (some (.lst (refsW k n))) q (some (tw (dI n d))) (some (tw (List.replicate n 1000000))) (some most) (some start) (some (tw x)) (some (tw (dI n d))) (some (.int r)) y11 x12 x13 x14 x15 x16 n ps) (S1 ++ T1) := by
    simp only [lr2, sIf_eq, tOrM_eq, tOf_eq, eBin_eq, eVar_s, eVar_0, bind_ok, ne_ok, decide_true, Bool.not_true, Bool.false_eq_true, if_false, tNotM_eq, tTru_eq, eFn_eq, aCons_eq, aNil_eq, List.length_cons, List.length_nil, if_true, s1, lk1, truW, ofR_ok, sNext_eq]
  have p2 : lr3 (envR (some (.lst (refsW k n))) q (some (tw (dI n d))) (some (tw (List.replicate n 1000000))) (some most) (some start) (some (tw x)) (some (tw (dI n d))) (some (.int r)) y11 x12 x13 x14 x15 x16 n ps) (S1 ++ T1)
      = .nx (envR (some (.lst (refsW k n))) q (some (tw (dI n d))) (some (tw (List.replicate n 1000000))) (some most) (some start) (some (tw x)) (some (tw (dI n d))) (some (.int r)) y11 x12 x13 x14 x15 x16 n ps) (S1 ++ T1) := by
    have a1 : tAndM (tOf (eBin opEq (eVar 8) (eVar 5))) (tOf (eBin opNe (eVar 10) (eBin opAdd (eCall bMax (aCons (eVar 4) aNil)) (eC (.int 1))))) (envR (some (.lst (refsW k n))) q (some (tw (dI n d))) (some (tw (List.replicate n 1000000))) (some most) (some start) (some (tw x)) (some (tw (dI n d))) (some (.int r)) y11 x12 x13 x14 x15 x16 n ps) (S1 ++ T1) = .ok false (S1 ++ T1) := by
      simp only [tAndM_eq, tOf_eq, eBin_eq, eVar_s, eVar_0, bind_ok, eL, eCall_eq, aCons_eq, aNil_eq, bMax_tup (dI_ne h1), eC_eq, opAdd, nI, far_mx h1]
      by_cases c : x = List.replicate n 1000000
      · rw [decide_eq_true c] at c1 ⊢
        rw [if_pos rfl]
        simpa using c1
      · rw [decide_eq_false c, if_neg (by decide)]
    have a2 : tAndM (tOf (eBin opEq (eCall bMax (aCons (eVar 8) aNil)) (eC (.int 0)))) (tOf (eBin opNe (eVar 10) (eCall bMax (aCons (eVar 4) aNil)))) (envR (some (.lst (refsW k n))) q (some (tw (dI n d))) (some (tw (List.replicate n 1000000))) (some most) (some start) (some (tw x)) (some (tw (dI n d))) (some (.int r)) y11 x12 x13 x14 x15 x16 n ps) (S1 ++ T1) = .ok false (S1 ++ T1) := by
      simp only [tAndM_eq, tOf_eq, eBin_eq, eVar_s, eVar_0, bind_ok, eI, eCall_eq, aCons_eq, aNil_eq, bMax_tup (dI_ne h1), bMax_tup xne, eC_eq, nI, far_mx h1]
      by_cases c : mx x = 0
      · rw [show (mx x == 0) = true from by simp [c]] at c2 ⊢
        rw [if_pos rfl]
        simpa using c2
      · rw [show (mx x == 0) = false from by simp [c], if_neg (by decide)]
    have a3 : tOf (eBin opGt (eVar 10) (eBin opAdd (eCall bMax (aCons (eVar 4) aNil)) (eC (.int 1)))) (envR (some (.lst (refsW k n))) q (some (tw (dI n d))) (some (tw (List.replicate n 1000000))) (some most) (some start) (some (tw x)) (some (tw (dI n d))) (some (.int r)) y11 x12 x13 x14 x15 x16 n ps) (S1 ++ T1) = .ok false (S1 ++ T1) := by
      simp only [tOf_eq, eBin_eq, eVar_s, eVar_0, bind_ok, eCall_eq, aCons_eq, aNil_eq, bMax_tup (dI_ne h1), eC_eq, opAdd, opGt, far_mx h1, c3]
    simp only [lr3, sIf_eq, tOrM_eq, a1, a2, a3, bind_ok, ofR_ok, Bool.false_eq_true, if_false, sNext_eq]
  have p7 : lr7 (envR (some (.lst (refsW k n))) q (some (tw (dI n d))) (some (tw (List.replicate n 1000000))) (some most) (some start) (some (tw x)) (some (tw (dI n d))) (some (.int r)) z11 (some (.int s)) (some (tw (it n (nb ps) s x))) x14 x15 x16 n ps) S3
      = .nx (envR (some (.lst (refsW k n))) q (some (tw (dI n d))) (some (tw (List.replicate n 1000000))) (some most) (some start) (some (tw x)) (some (tw (dI n d))) (some (.int r)) z11 (some (.int s)) (some (tw (it n (nb ps) s x))) (some (.lst [tw (hopL n (nb ps) x), tw (it n (nb ps) s x), tw (dI n d), tw x])) x15 x16 n ps) (S3 ++ T4 ++ T5 ++ T6 ++ T7) := by
    have s7' : m_behind_steps [fr n ps, tw x, .int 0] (S3 ++ T4 ++ T5 ++ T6) = .ok (tw x) (S3 ++ T4 ++ T5 ++ T6 ++ T7) := s7
    simp only [lr7, sAsgN_eq, eV_eq, fLst_eq, aCons_eq, eFn_eq, eVar_s, eVar_0, bind_ok, aNil_eq, List.length_cons, List.length_nil, if_true, s4, s5, eBin_eq, eC_eq, pow18, s6, s7', hb2, ofR_ok, List.set_cons_succ, List.set_cons_zero]
  have p8 : lr8 (envR (some (.lst (refsW k n))) q (some (tw (dI n d))) (some (tw (List.replicate n 1000000))) (some most) (some start) (some (tw x)) (some (tw (dI n d))) (some (.int r)) z11 (some (.int s)) (some (tw (it n (nb ps) s x))) (some (.lst [tw (hopL n (nb ps) x), tw (it n (nb ps) s x), tw (dI n d), tw x])) x15 x16 n ps) (S3 ++ T4 ++ T5 ++ T6 ++ T7)
      = .nx (envR (some (.lst (refsW k n))) q (some (tw (dI n d))) (some (tw (List.replicate n 1000000))) (some most) (some start) (some (tw x)) (some (tw (dI n d))) (some (.int r)) z11 (some (.int s)) (some (tw (it n (nb ps) s x))) (some (.lst [tw (hopL n (nb ps) x), tw (it n (nb ps) s x), tw (dI n d), tw x])) x15 x16 n ps) (S3 ++ T4 ++ T5 ++ T6 ++ T7) := by
    simp only [lr8, sIf_eq, tNotM_eq, tTru_eq, eFn_eq, aCons_eq, eVar_s, eVar_0, bind_ok, aNil_eq, eV_eq, fLst_eq, List.length_cons, List.length_nil, if_true, hopR_ok t hh3 hx.len, hb2, lk2, truW, Bool.not_true, ofR_ok, Bool.false_eq_true, if_false, sNext_eq]
  refine ⟨some (tw (dI n d)), some (.int r), z11, some (.int s), some (tw (it n (nb ps) s x)), some (.lst [tw (hopL n (nb ps) x), tw (it n (nb ps) s x), tw (dI n d), tw x]), S3 ++ T4 ++ T5 ++ T6 ++ T7, ?_, (n1.trans n2).trans n3⟩
  have p0 : lr0 (envR (some (.lst (refsW k n))) q (some (tw (dI n d))) (some (tw (List.replicate n 1000000))) (some most) (some start) (some (tw x)) x9 x10 x11 x12 x13 x14 x15 x16 n ps) S1
      = .nx (envR (some (.lst (refsW k n))) q (some (tw (dI n d))) (some (tw (List.replicate n 1000000))) (some most) (some start) (some (tw x)) (some (tw x)) (some (.int 0)) x11 x12 x13 x14 x15 x16 n ps) S1 := by
    simp only [lr0, sPar_eq, eVar_s, eVar_0, ofR_ok, eC_eq, List.set_cons_succ, List.set_cons_zero]
  have p4 : lr4 (envR (some (.lst (refsW k n))) q (some (tw (dI n d))) (some (tw (List.replicate n 1000000))) (some most) (some start) (some (tw x)) (some (tw (dI n d))) (some (.int r)) y11 x12 x13 x14 x15 x16 n ps) (S1 ++ T1)
      = .nx (envR (some (.lst (refsW k n))) q (some (tw (dI n d))) (some (tw (List.replicate n 1000000))) (some most) (some start) (some (tw x)) (some (tw (dI n d))) (some (.int r)) y11 (some (.int s)) x13 x14 x15 x16 n ps) S3 := by
    simp only [lr4, sAsgN_eq, eFn_eq, aCons_eq, eVar_s, eVar_0, bind_ok, aNil_eq, eBin_eq, eC_eq, opAdd, List.length_cons, List.length_nil, if_true, s2, ofR_ok, List.set_cons_succ, List.set_cons_zero]
  have p5 : ∀ S', lr5 (envR (some (.lst (refsW k n))) q (some (tw (dI n d))) (some (tw (List.replicate n 1000000))) (some most) (some start) (some (tw x)) (some (tw (dI n d))) (some (.int r)) y11 (some (.int s)) x13 x14 x15 x16 n ps) S'
      = .nx (envR (some (.lst (refsW k n))) q (some (tw (dI n d))) (some (tw (List.replicate n 1000000))) (some most) (some start) (some (tw x)) (some (tw (dI n d))) (some (.int r)) y11 (some (.int s)) (some (tw x)) x14 x15 x16 n ps) S' := fun S' => by
    simp only [lr5, sAsgN_eq, eVar_s, eVar_0, ofR_ok, List.set_cons_succ, List.set_cons_zero]
  have e1' : lr1 _ _ = _ := e1
  have e3' : lr6 _ _ = _ := e3
  rw [lrB, sSeq_eq, p0, seq_nx, sSeq_eq, e1', seq_nx, sSeq_eq, p1, seq_nx, sSeq_eq, p2, seq_nx, sSeq_eq, p4, seq_nx, sSeq_eq, p5, seq_nx, sSeq_eq, e3', seq_nx, sSeq_eq, p7, seq_nx, p8]
end
end K50
end QP

set_option Elab.async false
set_option linter.all false
set_option maxRecDepth 100000
set_option maxHeartbeats 4000000
namespace QP
open PySem PySem.Spec PyProof.Rows L2
theorem whole_int {S : Store} (v lo hi : Int) : gWhole [.int v, .int lo, .int hi] S = .ok (.bl (decide (lo ≤ v) && decide (v ≤ hi))) S := by
  apply runM_ret
  have eI : opEq (.int 2) (.int 2) S = .ok (.bl true) S := rfl
  by_cases h : lo ≤ v <;> simp [bgWhole, eI, truW, opLe, h]
theorem ints_of {ys : List W} {P : Int → Prop} (h : ∀ y ∈ ys, ∃ r, y = .int r ∧ P r) : ∃ x : List Int, ys = x.map W.int ∧ ∀ r ∈ x, P r := by
  induction ys with
  | nil => exact ⟨[], rfl, by simp⟩
  | cons y ys ih =>
    obtain ⟨r, rfl, hr⟩ := h y (by simp)
    obtain ⟨x, rfl, hx⟩ := ih fun z hz => h z (by simp [hz])
    exact ⟨r :: x, rfl, fun a ha => (List.mem_cons.mp ha).elim (fun e => e ▸ hr) (hx a)⟩
namespace K50
section
variable {n : Nat} {ps : List (Int × Int)} {d : Nat → Nat} {S : Store} {x : List Int} {k : Nat}
theorem num_rep (h : n ≤ 40) {i : Int} (h0 : 0 ≤ i) (h1 : i ≤ 1000000) : Num n (List.replicate n i) := ⟨by simp, fun y hy => by rw [List.eq_of_mem_replicate hy]; exact ⟨h0, h1⟩⟩
theorem num_d (t : Town n ps d) : Num n (dI n d) := ⟨dI_len, fun y hy => by
  obtain ⟨v, hv, rfl⟩ := List.mem_map.mp hy
  have := t.lt v (List.mem_range.mp hv)
  have := t.ok.n40
  omega⟩
theorem law_right_ok (t : Town n ps d) (hc : CupAt S) : ∃ S', m__law_right [.ref 0, fr n ps] S = .ok (.bl true) S' ∧ Nxt S S' := by
  have h1 := t.ok.n1
  have h40 := t.ok.n40
  have hS := hc.pos
  -- rows, distances
  have hold1 : Hold S.length n ps (S ++ rowsS n ps) := ⟨hS, fun v hv => by rw [getElem?_app_len, rowsS_get hv]⟩
  obtain ⟨F, T2, e2, hF⟩ := law_far_ok (S := S ++ rowsS n ps) t.net hold1.rows
  have e3 : fLc [15] (iRg1 (eBin opItem (eVar 1) (eC (.int 0)))) (gN 15) tYesM (eBin opItem (eVar 3) (eVar 15)) (envR (some (.lst (refsW S.length n))) (some (.ref (S ++ rowsS n ps).length)) none none none none none none none none none none none none none n ps) (S ++ rowsS n ps ++ .dk false (kvF d F) :: T2)
      = .ok ((dI n d).map W.int) (S ++ rowsS n ps ++ .dk false (kvF d F) :: T2) := by
    refine fLc_ok (S1 := S ++ rowsS n ps ++ .dk false (kvF d F) :: T2) (l := rngW 0 n) (C := fun _ => true) (rg1_ok (by simp only [eBin_eq, eVar_s, eVar_0, bind_ok, eC_eq, fr_0]) (by omega)) ?_ (by show _ ≤ 16777216; simp [dI]; omega)
    rw [comp_mapY (fun w => match w with
      | .int v => .int (d v.toNat)
      | _ => .non) rfl]
    · simp [rngW, dI]
    · intro w hw
      obtain ⟨v, hv, rfl⟩ := List.mem_map.mp hw
      refine ⟨_, rfl, ?_⟩
      have g : opItem (.ref (S ++ rowsS n ps).length) (.int (0 + (v : Int))) (S ++ rowsS n ps ++ .dk false (kvF d F) :: T2) = .ok (.int (d v)) (S ++ rowsS n ps ++ .dk false (kvF d F) :: T2) := by
        rw [Int.zero_add]
        simp only [opItem, dGet, app_get0, keyW, Option.map_some, kvF_some (hF v (List.mem_range.mp hv))]
      simp only [wipeE, eBin_eq, List.set_cons_succ, List.set_cons_zero, eVar_s, eVar_0, bind_ok, g]
      simp
  obtain ⟨S2, hS2⟩ : ∃ S2, S2 = S ++ rowsS n ps ++ .dk false (kvF d F) :: T2 := ⟨_, rfl⟩
  rw [← hS2] at e2 e3
  have n2 : Nxt S S2 := by rw [hS2, List.append_assoc]; exact Nxt.app hc _
  have hold2 : Hold S.length n ps S2 := by
    rw [hS2]
    exact ⟨hS, fun v hv => by rw [List.getElem?_append_left (by simp [rowsS_len]; exact hv)]; exact hold1.2 v hv⟩
  -- what the program tells
  obtain ⟨T3, e4⟩ := late_ok (S := S2) t
  obtain ⟨T4, e5⟩ := distances_ok (S := S2 ++ T3) t
  obtain ⟨T5, e6⟩ := most_ok (S := S2 ++ T3 ++ T4) t
  obtain ⟨S5, hS5⟩ : ∃ S5, S5 = S2 ++ T3 ++ T4 ++ T5 := ⟨_, rfl⟩
  rw [← hS5] at e6
  have n5 : Nxt S2 S5 := by rw [hS5, List.append_assoc, List.append_assoc]; exact Nxt.app n2.cup _
  have lk : gLike 6 [.lst [tw (dI n d), .int (mx (dI n d) + 1)], .lst [tw (dI n d), .int (mx (dI n d) + 1)]] S5 = .ok (.bl true) S5 := like_refl 6 _ _ (by
    show ([tw (dI n d), .int (mx (dI n d) + 1)].all (plain 5)) = true
    simp only [List.all_cons, List.all_nil, plain_tw, Bool.true_and, Bool.and_true]; rfl)
  have e7 : fLc [16] (iSeq (eVar 5)) (gN 16) (tNotM (tTru (eFn 3 m__law_whole (aCons (eVar 16) (aCons (eC (.int 0)) (aCons (eBin opPow (eC (.int 10)) (eC (.int 6))) aNil)))))) (eC (.int 1)) (envR (some (.lst (refsW S.length n))) (some (.ref (S ++ rowsS n ps).length)) (some (tw (dI n d))) (some (tw (List.replicate n 1000000))) none none none none none none none none none none none n ps) S5 = .ok [] S5 := by
    refine fLc_ok (S1 := S5) (l := (List.replicate n (1000000 : Int)).map W.int) (C := fun _ => true) (by simp only [iSeq_eq, eVar_s, eVar_0, bind_ok, seqW]; rfl) ?_ (by decide)
    rw [comp_map (fun _ => false) (fun w => .non) rfl]
    · simp
    · intro w hw
      obtain ⟨i, hi, rfl⟩ := List.mem_map.mp hw
      have hi := List.eq_of_mem_replicate hi
      subst hi
      refine ⟨_, rfl, ?_, fun z => by cases z⟩
      have : gWhole [.int 1000000, .int 0, .int 1000000] S5 = .ok (.bl true) S5 := by rw [whole_int]; rfl
      simp only [wipeE, tNotM_eq, tTru_eq, eFn_eq, aCons_eq, List.set_cons_succ, List.set_cons_zero, eVar_s, eVar_0, bind_ok, eC_eq, eBin_eq, pow6, aNil_eq, List.length_cons, List.length_nil, if_true, this, truW, Bool.not_true]
  -- draws
  obtain ⟨w, S6, e8, hw, n6, _⟩ := some_ok (l := [.int 1, .int 5, .int 50, .int 1000000]) n5.cup (by simp) (by simp)
  obtain ⟨m, rfl, hm0, hm1⟩ : ∃ m : Int, w = .int m ∧ 1 ≤ m ∧ m ≤ 1000000 := by
    simp at hw
    rcases hw with rfl | rfl | rfl | rfl <;> exact ⟨_, rfl, by omega, by omega⟩
  obtain ⟨ys, S7, e9, n7, hl, hq⟩ := comp_inv (C := fun _ => true) (g := gN 15) (e := eFn 2 m__law_roll (aCons (eVar 0) (aCons (eBin opAdd (eVar 6) (eC (.int 1))) aNil))) (env := wipeE (envR (some (.lst (refsW S.length n))) (some (.ref (S ++ rowsS n ps).length)) (some (tw (dI n d))) (some (tw (List.replicate n 1000000))) (some (.int m)) none none none none none none none none none none n ps) [15])
    (fun _ S' => Nxt S6 S') (fun _ y => ∃ r, y = .int r ∧ 0 ≤ r ∧ r ≤ 1000000) (rngW 0 n) 0 S6 (Nxt.refl n6.cup)
    (fun i hi S' hn => by
      obtain ⟨r, S'', e, r0, r1, n', _⟩ := roll_ok hn.cup (m := m + 1) (by omega) (by omega)
      refine ⟨rfl, _, .int r, S'', rfl, ?_, ⟨r, rfl, r0, by omega⟩, hn.trans n'⟩
      simp only [wipeE, List.set_cons_succ, List.set_cons_zero, eFn_eq, aCons_eq, eVar_s, eVar_0, bind_ok, eBin_eq, eC_eq, opAdd, aNil_eq, List.length_cons, List.length_nil, if_true, e])
    (fun _ _ => rfl)
  have n7 : Nxt S6 S7 := n7
  have e9' := fLc_ok (own := [15]) (mi := iRg1 (eBin opItem (eVar 1) (eC (.int 0)))) (S := S6) (rg1_ok (n := n) (by simp only [eBin_eq, eVar_s, eVar_0, bind_ok, eC_eq, fr_0]) (by omega)) e9 (by rw [hl, rngW_len]; show _ ≤ 16777216; omega)
  obtain ⟨x, rfl, hx⟩ := ints_of (P := fun r => 0 ≤ r ∧ r ≤ 1000000) (fun y hy => by
    obtain ⟨i, hi, rfl⟩ := List.getElem_of_mem hy
    exact hq i hi)
  rw [rngW_len] at hl
  have hxn : Num n x := ⟨by simpa using hl, hx⟩
  have hold7 : Hold S.length n ps S7 := ((hold2.nxt n5).nxt n6).nxt n7
  have zr := num_rep (n := n) h40 (i := 0) (by omega) (by omega)
  have lr := num_rep (n := n) h40 (i := 1000000) (by omega) (by omega)
  obtain ⟨env', S8, e10, x8, x9, x10, x11, x12, x13, x14, rfl, n8⟩ := sFor_inv (mi := iSeq (eTup (aCons (eVar 7) (aCons (eBin opMulT (eTup (aCons (eC (.int 0)) aNil)) (eBin opItem (eVar 1) (eC (.int 0)))) (aCons (eVar 5) (aCons (eVar 4) (aCons (eBin opMulT (eTup (aCons (eC (.int 1000000)) aNil)) (eBin opItem (eVar 1) (eC (.int 0)))) aNil))))))) (g := gN 8) (body := lrB)
    (env := envR (some (.lst (refsW S.length n))) (some (.ref (S ++ rowsS n ps).length)) (some (tw (dI n d))) (some (tw (List.replicate n 1000000))) (some (.int m)) (some (tw x)) none none none none none none none none none n ps) (S := S7) (S1 := S7)
    (l := [tw x, tw (List.replicate n 0), tw (List.replicate n 1000000), tw (dI n d), tw (List.replicate n 1000000)]) (C := fun _ => true)
    (fun i env S' => ∃ x8 x9 x10 x11 x12 x13 x14, env = envR (some (.lst (refsW S.length n))) (some (.ref (S ++ rowsS n ps).length)) (some (tw (dI n d))) (some (tw (List.replicate n 1000000))) (some (.int m)) (some (tw x)) x8 x9 x10 x11 x12 x13 x14 none none n ps ∧ Nxt S7 S')
    (by simp only [iSeq_eq, eTup_eq, aCons_eq, eVar_s, eVar_0, bind_ok, eBin_eq, eC_eq, aNil_eq, List.length_cons, List.length_nil, (show 0 + 1 ≤ big from by decide), if_true, fr_0, mulT_ok _ h1 h40, (show 0 + 1 + 1 + 1 + 1 + 1 ≤ big from by decide), seqW]; rfl)
    ⟨none, none, none, none, none, none, none, rfl, Nxt.refl n7.cup⟩
    (by
      rintro i hi env S' ⟨x8, x9, x10, x11, x12, x13, x14, rfl, hn⟩
      have hz : ∃ z, [tw x, tw (List.replicate n 0), tw (List.replicate n 1000000), tw (dI n d), tw (List.replicate n 1000000)][i] = tw z ∧ Num n z := by
        have := List.getElem_mem hi
        simp only [List.mem_cons, List.not_mem_nil, or_false] at this
        rcases this with h | h | h | h | h
        · exact ⟨_, h, hxn⟩
        · exact ⟨_, h, zr⟩
        · exact ⟨_, h, lr⟩
        · exact ⟨_, h, num_d t⟩
        · exact ⟨_, h, lr⟩
      obtain ⟨z, hz1, hz2⟩ := hz
      obtain ⟨y9, y10, y11, y12, y13, y14, S'', e, n'⟩ := lrB_ok t hn.cup (hold7.nxt hn) hz2 (.int m) (tw x) (some (.ref (S ++ rowsS n ps).length)) x9 x10 x11 x12 x13 x14 none none
      refine ⟨rfl, _, envR (some (.lst (refsW S.length n))) (some (.ref (S ++ rowsS n ps).length)) (some (tw (dI n d))) (some (tw (List.replicate n 1000000))) (some (.int m)) (some (tw x)) (some (tw z)) y9 y10 y11 y12 y13 y14 none none n ps, S'', rfl, .inl ?_, _, _, _, _, _, _, _, rfl, hn.trans n'⟩
      rw [hz1]
      simp only [List.set_cons_succ, List.set_cons_zero]
      exact e)
    (fun _ _ _ => rfl)
  refine ⟨S8, runM_ret ?_, (((n2.trans n5).trans n6).trans n7).trans n8⟩
  have e10' := e10
  simp only [lrB, lr0, lr1, lr2, lr3, lr4, lr5, lr6, lr7, lr8] at e10'
  show b__law_right [some (.ref 0), some (fr n ps), none, none, none, none, none, none, none, none, none, none, none, none, none, none, none] S = _
  have el : opNe (.lst []) (.lst []) S5 = .ok (.bl false) S5 := rfl
  have nI : ∀ (a b : Int) (S : Store), opNe (.int a) (.int b) S = .ok (.bl (!(a == b))) S := fun a b S => rfl
  have hlate : bLen [tw (List.replicate n 1000000)] S5 = .ok (.int n) S5 := by simp [bLen, lenW]
  simp only [b__law_right, sSeq_eq, sAsgN_eq, eFn_eq, aCons_eq, eVar_s, eVar_0, bind_ok, aNil_eq, List.length_cons, List.length_nil, if_true, law_beside_ok t.ok, ofR_ok, List.set_cons_succ, List.set_cons_zero, seq_nx, eC_eq, e2, eCall_eq, eV_eq, e3, bTuple_lst, e4,
    sIf_eq, tNotM_eq, tTru_eq, fLst_eq, e5, e6, (show 0 + 1 + 1 ≤ big from by decide), bMax_tup (dI_ne h1), eBin_eq, opAdd, lk, truW, Bool.not_true, Bool.false_eq_true, if_false, sNext_eq, tOrM_eq, tOf_eq, sort_tup, nI, beq_self_eq_true, hlate, fr_0, e7, (show 0 ≤ big from by decide), el,
    (show 0 + 1 + 1 + 1 + 1 ≤ big from by decide), e8, e9', e10', sRet_eq]
end
end K50
end QP

set_option Elab.async false
set_option linter.all false
set_option maxRecDepth 100000
set_option maxHeartbeats 4000000
namespace QP
open PySem PySem.Spec PyProof.Rows L2
theorem Nxt.setq {S S' : Store} {q : Nat} {o : O} (h : Nxt S S') (hc : CupAt S) (hq : S.length ≤ q) : Nxt S (S'.set q o) := by
  have hp := hc.pos
  refine ⟨?_, by simp; exact h.len, fun i h1 h2 => by rw [List.getElem?_set_ne (by omega)]; exact h.same i h1 h2⟩
  obtain ⟨a, b, e⟩ := h.cup
  exact ⟨a, b, by rw [List.getElem?_set_ne (by omega)]; exact e⟩
namespace K50
theorem lexP_B (p q : Int × Int) : lexP p q = SrtO.lexB p q := by
  unfold lexP SrtO.lexB
  simp only [HT.lexLt]
  by_cases h : p.1 = q.1 <;> simp [h]
  intro h2; omega
theorem asc_of {ps : List (Int × Int)} (h : SrtO.Srtd SrtO.lexB ps) (nd : ps.Nodup) : ascP ps = true := by
  induction ps with
  | nil => rfl
  | cons x r ih =>
    cases r with
    | nil => rfl
    | cons y r =>
      have ih' := ih (List.pairwise_cons.mp h).2 (List.nodup_cons.mp nd).2
      have h1 : SrtO.lexB y x = false := (List.pairwise_cons.mp h).1 y (by simp)
      have h2 : x ≠ y := fun z => (List.nodup_cons.mp nd).1 (by rw [z]; simp)
      have h3 : lexP x y = true := by
        rw [lexP_B, SrtO.lexB_iff]
        have h4 : ¬ SrtO.lexB y x = true := by rw [h1]; decide
        rw [SrtO.lexB_iff] at h4
        have h5 : ¬ (x.1 = y.1 ∧ x.2 = y.2) := fun z => h2 (Prod.ext z.1 z.2)
        omega
      have e : ascP (x :: y :: r) = (lexP x y && ascP (y :: r)) := by simp [ascP]
      rw [e, h3, ih']; rfl
/-! ### drawn friends -/
def kvT (P : List (Nat × Nat)) : List (List Key × W) := P.map fun p => ([.inl (p.1 : Int), .inl (p.2 : Int)], .bl true)
theorem kvT_val {P : List (Nat × Nat)} {a b : Nat} : valW (kvT P) [.inl (a : Int), .inl (b : Int)] = if (a, b) ∈ P then some (.bl true) else none := by
  induction P with
  | nil => rfl
  | cons p P ih =>
    simp only [kvT, List.map_cons, valW]
    by_cases h : p = (a, b)
    · subst h; simp
    · rw [if_neg]
      · show valW (kvT P) _ = _
        rw [ih]
        simp [h, Ne.symm h]
      · intro z
        simp at z
        exact h (by obtain ⟨x, y⟩ := p; simp at z ⊢; omega)
theorem kvT_set {P : List (Nat × Nat)} {k : List Key} : setW (kvT P) k (.bl true) = kvT P := by
  induction P with
  | nil => rfl
  | cons p P ih =>
    simp only [kvT, List.map_cons, setW]
    have : setW (List.map (fun p : Nat × Nat => (([.inl (p.1 : Int), .inl (p.2 : Int)] : List Key), W.bl true)) P) k (.bl true) = _ := ih
    rw [this]
    by_cases h : ([.inl (p.1 : Int), .inl (p.2 : Int)] : List Key) = k
    · rw [if_pos h]; rfl
    · rw [if_neg h]; rfl
def addP (P : List (Nat × Nat)) (p : Nat × Nat) : List (Nat × Nat) := if p ∈ P then P else P ++ [p]
theorem kvT_put {P : List (Nat × Nat)} {a b : Nat} : putW (kvT P) [.inl (a : Int), .inl (b : Int)] (.bl true) = kvT (addP P (a, b)) := by
  unfold putW addP
  rw [kvT_val]
  by_cases h : (a, b) ∈ P
  · rw [if_pos h, if_pos h]; exact kvT_set
  · rw [if_neg h, if_neg h]; simp [kvT]
theorem addP_mem {P : List (Nat × Nat)} {p q : Nat × Nat} : q ∈ addP P p ↔ q ∈ P ∨ q = p := by
  unfold addP
  by_cases h : p ∈ P
  · rw [if_pos h]
    exact ⟨.inl, fun z => z.elim id fun e => e ▸ h⟩
  · rw [if_neg h]; simp
theorem addP_nd {P : List (Nat × Nat)} {p : Nat × Nat} (h : P.Nodup) : (addP P p).Nodup := by
  unfold addP
  by_cases c : p ∈ P
  · rw [if_pos c]; exact h
  · rw [if_neg c]
    exact List.nodup_append.mpr ⟨h, by simp, fun a ha b hb => by simp at hb; subst hb; exact fun z => c (z ▸ ha)⟩
theorem addP_len {P : List (Nat × Nat)} {p : Nat × Nat} : (addP P p).length ≤ P.length + 1 := by
  unfold addP; split <;> simp
/-- drawn so far: the houses below m hang together, m itself is being linked -/
structure Drawn (n m : Nat) (P : List (Nat × Nat)) : Prop where
  nd : P.Nodup
  pr : ∀ p ∈ P, p.1 < p.2 ∧ p.2 < n
  link : ∀ v, v < m → 0 < v → ∃ u, u < v ∧ (u, v) ∈ P
  len : P.length ≤ 300 + m
theorem Drawn.add {n m : Nat} {P : List (Nat × Nat)} (h : Drawn n m P) {a b : Nat} (h1 : a < b) (h2 : b < n) (h3 : P.length < 300) : Drawn n m (addP P (a, b)) := ⟨addP_nd h.nd, fun p hp => (addP_mem.mp hp).elim (h.pr p) fun e => by subst e; exact ⟨h1, h2⟩, fun v hv h0 => by
  obtain ⟨u, a1, a2⟩ := h.link v hv h0
  exact ⟨u, a1, addP_mem.mpr (.inl a2)⟩, by have := addP_len (P := P) (p := (a, b)); omega⟩
theorem Drawn.next {n m : Nat} {P : List (Nat × Nat)} (h : Drawn n m P) {a : Nat} (h1 : a < m) (h2 : m < n) : Drawn n (m + 1) (addP P (a, m)) := ⟨addP_nd h.nd, fun p hp => (addP_mem.mp hp).elim (h.pr p) fun e => by subst e; exact ⟨h1, h2⟩, fun v hv h0 => by
  by_cases e : v = m
  · subst e; exact ⟨a, h1, addP_mem.mpr (.inr rfl)⟩
  · obtain ⟨u, a1, a2⟩ := h.link v (by omega) h0
    exact ⟨u, a1, addP_mem.mpr (.inl a2)⟩, by have := addP_len (P := P) (p := (a, m)); have := h.len; omega⟩
def pI (P : List (Nat × Nat)) : List (Int × Int) := P.map fun p => ((p.1 : Int), (p.2 : Int))
theorem pI_mem {P : List (Nat × Nat)} {a b : Nat} : ((a : Int), (b : Int)) ∈ pI P ↔ (a, b) ∈ P := by
  simp only [pI, List.mem_map]
  constructor
  · rintro ⟨⟨x, y⟩, h1, h2⟩
    simp at h2
    obtain ⟨e1, e2⟩ := h2
    have e1 : x = a := by omega
    have e2 : y = b := by omega
    subst e1 e2; exact h1
  · exact fun h => ⟨_, h, rfl⟩
theorem sortP_mem {l : List (Int × Int)} {x : Int × Int} : x ∈ sortP l ↔ x ∈ l := (sortB_perm SrtO.lexB l).mem_iff
theorem pI_nd {P : List (Nat × Nat)} (h : P.Nodup) : (pI P).Nodup := by
  unfold pI
  rw [List.nodup_iff_pairwise_ne, List.pairwise_map]
  exact h.imp fun {a b} hab => fun z => hab (by
    obtain ⟨a1, a2⟩ := a
    obtain ⟨b1, b2⟩ := b
    simp at z ⊢
    omega)
theorem drawn_ok {n : Nat} {P : List (Nat × Nat)} (h1 : 1 ≤ n) (h40 : n ≤ 40) (h : Drawn n n P) : Ok n (sortP (pI P)) := by
  refine ⟨h1, h40, fun p hp => ?_, asc_of (sortB_srtd swoP _) ((sortB_perm SrtO.lexB (pI P)).nodup_iff.mpr (pI_nd h.nd)), ?_⟩
  · have := sortP_mem.mp hp
    obtain ⟨q, hq, rfl⟩ := List.mem_map.mp this
    have := h.pr q hq
    simp only
    omega
  · rw [(sortB_perm SrtO.lexB _).length_eq]
    have := h.len
    simp [pI]; omega
/-- a least number -/
theorem least {p : Nat → Prop} (h : ∃ k, p k) : ∃ k, p k ∧ ∀ j, j < k → ¬ p j := by
  obtain ⟨k, hk⟩ := h
  induction k using Nat.strongRecOn with
  | ind k ih =>
    by_cases c : ∃ j, j < k ∧ p j
    · obtain ⟨j, hj, pj⟩ := c
      exact ih j hj pj
    · exact ⟨k, hk, fun j hj pj => c ⟨j, hj, pj⟩⟩
/-- a walk of k steps from house 0 -/
def Wk (ps : List (Int × Int)) : Nat → Nat → Prop
  | 0, v => v = 0
  | k + 1, v => ∃ u : Nat, (u : Int) ∈ nb ps v ∧ Wk ps k u
theorem town_of {n : Nat} {ps : List (Int × Int)} (h : Ok n ps) (hl : ∀ v, v < n → 0 < v → ∃ u, u < v ∧ (u : Int) ∈ nb ps v) : ∃ d, Town n ps d := by
  have ex : ∀ v, v < n → ∃ k, Wk ps k v := by
    intro v
    induction v using Nat.strongRecOn with
    | ind v ih =>
      intro hv
      rcases Nat.eq_zero_or_pos v with z | z
      · exact ⟨0, z⟩
      · obtain ⟨u, h1, h2⟩ := hl v hv z
        obtain ⟨k, hk⟩ := ih u h1 (by omega)
        exact ⟨k + 1, u, h2, hk⟩
  have ch : ∀ v, ∃ k, v < n → Wk ps k v ∧ ∀ j, j < k → ¬ Wk ps j v := fun v => by
    by_cases hv : v < n
    · obtain ⟨k, h1, h2⟩ := least (ex v hv)
      exact ⟨k, fun _ => ⟨h1, h2⟩⟩
    · exact ⟨0, fun z => absurd z hv⟩
  obtain ⟨d, hd⟩ := Classical.axiomOfChoice ch
  have le : ∀ v k, v < n → Wk ps k v → d v ≤ k := fun v k hv hk => Nat.le_of_not_lt fun z => (hd v hv).2 k z hk
  have nlt : ∀ u v : Nat, (u : Int) ∈ nb ps v → u < n := fun u v hu => by
    rcases nb_mem.mp hu with z | z
    · have := h.pr _ z; simp at this; omega
    · have := h.pr _ z; simp at this; omega
  have n1 := h.n1
  have edge : ∀ u v : Nat, u < n → v < n → (u : Int) ∈ nb ps v → d v ≤ d u + 1 := fun u v hu hv hm => le v _ hv ⟨u, hm, (hd u hu).1⟩
  have dv : ∀ v, v < n → d v ≤ v := by
    intro v
    induction v using Nat.strongRecOn with
    | ind v ih =>
      intro hv
      rcases Nat.eq_zero_or_pos v with z | z
      · subst z; exact le 0 0 hv rfl
      · obtain ⟨u, h1, h2⟩ := hl v hv z
        have := ih u h1 (by omega)
        have := edge u v (by omega) hv h2
        omega
  refine ⟨d, h, Nat.le_zero.mp (le 0 0 (by omega) rfl), fun a b hab => ?_, fun v hv h0 => ?_, fun v hv => Nat.lt_of_le_of_lt (dv v hv) hv⟩
  · have hp := h.pr _ hab
    simp at hp
    exact ⟨edge b a (by omega) (by omega) (nb_mem.mpr (.inl hab)), edge a b (by omega) (by omega) (nb_mem.mpr (.inr hab))⟩
  · have hw := (hd v hv).1
    cases e : d v with
    | zero => rw [e] at hw; exact absurd hw (by show v ≠ 0; omega)
    | succ k =>
      rw [e] at hw
      obtain ⟨u, h1, h2⟩ := hw
      have hu := nlt u v h1
      have a1 := le u k hu h2
      have a2 := edge u v hu hv h1
      exact ⟨u, hu, by omega, h1⟩
theorem drawn_town {n : Nat} {P : List (Nat × Nat)} (h1 : 1 ≤ n) (h40 : n ≤ 40) (h : Drawn n n P) : ∃ d, Town n (sortP (pI P)) d :=
  town_of (drawn_ok h1 h40 h) fun v hv h0 => by
    obtain ⟨u, a1, a2⟩ := h.link v hv h0
    exact ⟨u, a1, nb_mem.mpr (.inr (sortP_mem.mpr (pI_mem.mpr a2)))⟩
end K50
end QP

set_option Elab.async false
set_option linter.all false
set_option maxRecDepth 100000
set_option maxHeartbeats 4000000
namespace QP
open PySem PySem.Spec PyProof.Rows L2
namespace K50
section
variable {S0 S : Store} {q n : Nat} {P : List (Nat × Nat)}
structure St (S0 : Store) (q : Nat) (P : List (Nat × Nat)) (S : Store) : Prop where
  c0 : CupAt S0
  q0 : S0.length ≤ q
  nx : Nxt S0 S
  at_ : S[q]? = some (.dt false (kvT P))
theorem St.roll (h : St S0 q P S) {S' : Store} (x : Nxt S S') : St S0 q P S' := ⟨h.c0, h.q0, h.nx.trans x, by
  have := h.c0.pos
  have := h.q0
  rw [x.same q (by omega) (List.getElem?_eq_some_iff.mp h.at_).1]; exact h.at_⟩
theorem St.put (h : St S0 q P S) (a b : Nat) (hl : P.length < 1000) : ∃ S', stSet (.ref q) (.tup [.int a, .int b]) (.bl true) S = some S' ∧ St S0 q (addP P (a, b)) S' := by
  refine ⟨S.set q (.dt false (kvT (addP P (a, b)))), ?_, h.c0, h.q0, h.nx.setq h.c0 h.q0, List.getElem?_set_self (List.getElem?_eq_some_iff.mp h.at_).1⟩
  have hlen : (kvT P).length < big := by rw [kvT, List.length_map]; exact whole_le (n := 1000) (by omega) (by omega)
  simp only [stSet, h.at_, keyT, keysW, keyW, if_pos hlen]
  rw [kvT_put]
theorem St.len (h : St S0 q P S) : bLen [.ref q] S = .ok (.int P.length) S := by
  simp only [bLen, lenW, h.at_]; simp [kvT]
theorem keysP_kvT : keysP (kvT P) = some (pI P) := by
  induction P with
  | nil => rfl
  | cons p P ih =>
    have ih' : keysP (List.map (fun p : Nat × Nat => (([.inl (p.1 : Int), .inl (p.2 : Int)] : List Key), W.bl true)) P) = some (pI P) := ih
    simp only [kvT, List.map_cons, keysP, keyP, ih', pI]
theorem law_friends_ok (hc : CupAt S) (most : Nat) (hm0 : 1 ≤ most) (hm : most ≤ 40) : ∃ n ps d S', m__law_friends [.ref 0, .int most, .bl true] S = .ok (fr n ps) S' ∧ Nxt S S' ∧ Town n ps d := by
  obtain ⟨r, S1, e1, r0, r1, n1, _⟩ := roll_ok hc (m := (most : Int)) (by omega) (by omega)
  obtain ⟨r, rfl⟩ := Int.eq_ofNat_of_zero_le r0
  have n1' : Nxt S (S1 ++ [.dt false []]) := n1.trans (Nxt.app n1.cup _)
  obtain ⟨w, S2, e2, hw, n2, _⟩ := some_ok (S := S1 ++ [.dt false []]) (l := [.int 2, .int 4, .int 12]) n1'.cup (by simp) (by simp)
  obtain ⟨m, rfl, hm0', hm1'⟩ : ∃ m : Int, w = .int m ∧ 1 ≤ m ∧ m ≤ 12 := by
    simp at hw
    rcases hw with rfl | rfl | rfl <;> exact ⟨_, rfl, by omega, by omega⟩
  obtain ⟨q, hq⟩ : ∃ q, q = S1.length := ⟨_, rfl⟩
  have st0 : St S q [] (S1 ++ [.dt false []]) := ⟨hc, by rw [hq]; exact n1.len, n1', by rw [hq, app_get0]; rfl⟩
  have st2 := st0.roll n2
  obtain ⟨nn, hnn⟩ : ∃ nn : Nat, nn = 1 + r := ⟨_, rfl⟩
  have hnat : ((1 : Int) + (r : Int)) = (nn : Int) := by rw [hnn]; simp
  have hn40 : nn ≤ 40 := by omega
  have hn1 : 1 ≤ nn := by omega
  obtain ⟨env', S3, e3, x6, x7, P, rfl, st3, dr⟩ := sFor_inv (mi := iRg2 (eC (.int 1)) (eVar 3)) (g := gN 6) (body := sSeq (sIf (tTru (eVar 2)) (sPut (eVar 4) (eTup (aCons (eFn 2 m__law_roll (aCons (eVar 0) (aCons (eVar 6) aNil))) (aCons (eVar 6) aNil))) (eC (.bl true))) sNext)
    (sFor (iRg1 (eVar 6)) (gN 7) (sIf (tAndM (tOf (eBin opEq (eFn 2 m__law_roll (aCons (eVar 0) (aCons (eVar 5) aNil))) (eC (.int 0)))) (tOf (eBin opLt (eCall bLen (aCons (eVar 4) aNil)) (eC (.int 300))))) (sPut (eVar 4) (eTup (aCons (eVar 7) (aCons (eVar 6) aNil))) (eC (.bl true))) sNext)))
    (env := [some (.ref 0), some (.int most), some (.bl true), some (.int (nn : Int)), some (.ref q), some (.int m), none, none]) (S := S2) (S1 := S2) (l := rngW 1 (nn - 1)) (C := fun _ => true)
    (fun i env S' => ∃ x6 x7 P, env = [some (.ref 0), some (.int most), some (.bl true), some (.int (nn : Int)), some (.ref q), some (.int m), x6, x7] ∧ St S q P S' ∧ Drawn nn (i + 1) P)
    (by
      rw [rg2_j (i := 1) (j := (nn : Int)) (by simp only [eC_eq]) (by simp only [eVar_s, eVar_0]) ⟨by decide, by decide, (rg_cond nn (by omega)).1, (rg_cond nn (by omega)).2⟩, show ((nn : Int) - 1).toNat = nn - 1 from by omega])
    ⟨none, none, [], rfl, st2, by simp, by simp, fun v hv h0 => by omega, by simp⟩
    (by
      rintro i hi env S' ⟨x6, x7, P, rfl, st, dr⟩
      rw [rngW_len] at hi
      rw [rngW_get]
      have hoth : ((1 : Int) + (i : Int)) = ((i + 1 : Nat) : Int) := by omega
      rw [hoth]
      -- the link
      obtain ⟨u, S4, e4, u0, u1, n4, _⟩ := roll_ok st.nx.cup (m := ((i + 1 : Nat) : Int)) (by omega) (by omega)
      obtain ⟨u, rfl⟩ := Int.eq_ofNat_of_zero_le u0
      have hPl : P.length < 1000 := by have := dr.len; omega
      obtain ⟨S5, e5, st5⟩ := (st.roll n4).put u (i + 1) hPl
      have dr5 := dr.next (a := u) (by omega) (by omega)
      have lk : sIf (tTru (eVar 2)) (sPut (eVar 4) (eTup (aCons (eFn 2 m__law_roll (aCons (eVar 0) (aCons (eVar 6) aNil))) (aCons (eVar 6) aNil))) (eC (.bl true))) sNext [some (.ref 0), some (.int most), some (.bl true), some (.int (nn : Int)), some (.ref q), some (.int m), some (.int ((i + 1 : Nat) : Int)), x7] S'
          = .nx [some (.ref 0), some (.int most), some (.bl true), some (.int (nn : Int)), some (.ref q), some (.int m), some (.int ((i + 1 : Nat) : Int)), x7] S5 := by
        simp only [sIf_eq, tTru_eq, eVar_s, eVar_0, bind_ok, truW, ofR_ok, if_true, sPut_eq, eC_eq, eTup_eq, aCons_eq, eFn_eq, aNil_eq, List.length_cons, List.length_nil, e4, (show 0 + 1 + 1 ≤ big from by decide), e5]
      -- the others
      obtain ⟨env6, S6, e6, x7', P', rfl, st6, dr6⟩ := sFor_inv (mi := iRg1 (eVar 6)) (g := gN 7) (body := sIf (tAndM (tOf (eBin opEq (eFn 2 m__law_roll (aCons (eVar 0) (aCons (eVar 5) aNil))) (eC (.int 0)))) (tOf (eBin opLt (eCall bLen (aCons (eVar 4) aNil)) (eC (.int 300))))) (sPut (eVar 4) (eTup (aCons (eVar 7) (aCons (eVar 6) aNil))) (eC (.bl true))) sNext)
        (env := [some (.ref 0), some (.int most), some (.bl true), some (.int (nn : Int)), some (.ref q), some (.int m), some (.int ((i + 1 : Nat) : Int)), x7]) (S := S5) (S1 := S5) (l := rngW 0 (i + 1)) (C := fun _ => true)
        (fun j env S' => ∃ x7 P, env = [some (.ref 0), some (.int most), some (.bl true), some (.int (nn : Int)), some (.ref q), some (.int m), some (.int ((i + 1 : Nat) : Int)), x7] ∧ St S q P S' ∧ Drawn nn (i + 1 + 1) P)
        (rg1_ok (by simp only [eVar_s, eVar_0]) (by omega)) ⟨x7, _, rfl, st5, dr5⟩
        (by
          rintro j hj env S' ⟨x7, P, rfl, st, dr⟩
          rw [rngW_len] at hj
          rw [rngW_get, Int.zero_add]
          obtain ⟨z, S4, e4, z0, z1, n4, _⟩ := roll_ok st.nx.cup (m := m) (by omega) (by omega)
          have st' := st.roll n4
          have eI : opEq (.int z) (.int 0) S4 = .ok (.bl (z == 0)) S4 := rfl
          have hPl : P.length < 1000 := by have := dr.len; omega
          obtain ⟨S5, e5, st5⟩ := st'.put j (i + 1) hPl
          have cond : tAndM (tOf (eBin opEq (eFn 2 m__law_roll (aCons (eVar 0) (aCons (eVar 5) aNil))) (eC (.int 0)))) (tOf (eBin opLt (eCall bLen (aCons (eVar 4) aNil)) (eC (.int 300)))) [some (.ref 0), some (.int most), some (.bl true), some (.int (nn : Int)), some (.ref q), some (.int m), some (.int ((i + 1 : Nat) : Int)), some (.int j)] S'
              = .ok ((z == 0) && decide (P.length < 300)) S4 := by
            simp only [tAndM_eq, tOf_eq, eBin_eq, eFn_eq, aCons_eq, eVar_s, eVar_0, bind_ok, aNil_eq, List.length_cons, List.length_nil, if_true, e4, eC_eq, eI, eCall_eq, st'.len, opLt]
            have hl3 : decide ((P.length : Int) < 300) = decide (P.length < 300) := by
              by_cases c : P.length < 300
              · rw [decide_eq_true c, decide_eq_true (by omega)]
              · rw [decide_eq_false c, decide_eq_false (by omega)]
            by_cases c : (z == 0) = true
            · rw [if_pos c, c, hl3]; rfl
            · have c' : (z == 0) = false := by simpa using c
              rw [if_neg c, c']; rfl
          by_cases c : (z == 0) && decide (P.length < 300)
          · refine ⟨rfl, _, [some (.ref 0), some (.int most), some (.bl true), some (.int (nn : Int)), some (.ref q), some (.int m), some (.int ((i + 1 : Nat) : Int)), some (.int j)], S5, rfl, .inl ?_, some (.int j), _, rfl, st5, dr.add (by omega) (by omega) (by simp at c; exact c.2)⟩
            simp only [List.set_cons_succ, List.set_cons_zero, sIf_eq, cond, c, ofR_ok, if_true, sPut_eq, eC_eq, eTup_eq, aCons_eq, eVar_s, eVar_0, bind_ok, aNil_eq, List.length_cons, List.length_nil, (show 0 + 1 + 1 ≤ big from by decide), e5]
          · have c' : ((z == 0) && decide (P.length < 300)) = false := by simpa using c
            refine ⟨rfl, _, [some (.ref 0), some (.int most), some (.bl true), some (.int (nn : Int)), some (.ref q), some (.int m), some (.int ((i + 1 : Nat) : Int)), some (.int j)], S4, rfl, .inl ?_, some (.int j), _, rfl, st', dr⟩
            simp only [List.set_cons_succ, List.set_cons_zero, sIf_eq, cond, c', ofR_ok, Bool.false_eq_true, if_false, sNext_eq])
        (fun _ _ _ => rfl)
      refine ⟨rfl, _, [some (.ref 0), some (.int most), some (.bl true), some (.int (nn : Int)), some (.ref q), some (.int m), some (.int ((i + 1 : Nat) : Int)), x7'], S6, rfl, .inl ?_, _, x7', P', rfl, st6, dr6⟩
      simp only [List.set_cons_succ, List.set_cons_zero]
      rw [sSeq_eq, lk, seq_nx, e6])
    (fun _ _ _ => rfl)
  rw [rngW_len, show nn - 1 + 1 = nn from by omega] at dr
  obtain ⟨d, t⟩ := drawn_town hn1 hn40 dr
  refine ⟨nn, _, d, S3, runM_ret ?_, st3.nx, t⟩
  have hs : bSorted [.ref q] S3 = .ok ((sortP (pI P)).map pairW) S3 := by
    simp only [bSorted, st3.at_, keysP_kvT]
  have p1 : sPar 3 4 (eBin opAdd (eC (.int 1)) (eFn 2 m__law_roll (aCons (eVar 0) (aCons (eVar 1) aNil)))) eNewT [some (.ref 0), some (.int most), some (.bl true), none, none, none, none, none] S
      = .nx [some (.ref 0), some (.int most), some (.bl true), some (.int (nn : Int)), some (.ref q), none, none, none] (S1 ++ [.dt false []]) := by
    simp only [sPar_eq, eBin_eq, eC_eq, bind_ok, eFn_eq, aCons_eq, eVar_0, eVar_s, aNil_eq, List.length_cons, List.length_nil, if_true, e1, opAdd, ofR_ok, eNewT_eq, List.set_cons_succ, List.set_cons_zero, hnat, hq]
  show b__law_friends [some (.ref 0), some (.int most), some (.bl true), none, none, none, none, none] S = _
  rw [b__law_friends, sSeq_eq, p1, seq_nx]
  simp only [sSeq_eq, sAsgN_eq, eFn_eq, aCons_eq, eVar_0, eVar_s, bind_ok, eV_eq, fLst_eq, eC_eq, aNil_eq, List.length_cons, List.length_nil, (show 0 + 1 + 1 + 1 ≤ big from by decide), if_true, e2, ofR_ok, List.set_cons_succ, List.set_cons_zero, seq_nx, e3, sRet_eq, eTup_eq, eCall_eq, fCall_eq, hs, bTuple_lst, (show 0 + 1 + 1 ≤ big from by decide)]
  rfl
end
end K50
end QP

set_option Elab.async false
set_option linter.all false
set_option maxRecDepth 100000
set_option maxHeartbeats 4000000
namespace QP
open PySem PySem.Spec PyProof.Rows L2
namespace K50
/-! ### towns that are written down -/
def dOf (l : List Nat) (v : Nat) : Nat := l.getD v 0
def townB (n : Nat) (ps : List (Int × Int)) (l : List Nat) : Bool :=
  decide (1 ≤ n) && decide (n ≤ 40) && (ps.all fun p => decide (0 ≤ p.1) && decide (p.1 < p.2) && decide (p.2 < n)) && ascP ps && decide (ps.length ≤ 400) && (dOf l 0 == 0) &&
  (ps.all fun p => decide (dOf l p.1.toNat ≤ dOf l p.2.toNat + 1) && decide (dOf l p.2.toNat ≤ dOf l p.1.toNat + 1)) &&
  ((List.range n).all fun v => (v == 0) || (nb ps v).any fun u => decide (0 ≤ u) && decide (u < n) && (dOf l u.toNat + 1 == dOf l v)) && ((List.range n).all fun v => decide (dOf l v < n))
theorem town_dec {n : Nat} {ps : List (Int × Int)} {l : List Nat} (h : townB n ps l = true) : Town n ps (dOf l) := by
  simp only [townB, Bool.and_eq_true, decide_eq_true_eq, List.all_eq_true, beq_iff_eq, Bool.or_eq_true, List.any_eq_true, List.mem_range] at h
  obtain ⟨⟨⟨⟨⟨⟨⟨⟨h1, h2⟩, h3⟩, h4⟩, h5⟩, h6⟩, h7⟩, h8⟩, h9⟩ := h
  refine ⟨⟨h1, h2, fun p hp => ?_, h4, h5⟩, h6, fun a b hab => ?_, fun v hv h0 => ?_, h9⟩
  · have := h3 p hp; exact ⟨this.1.1, this.1.2, this.2⟩
  · have := h7 _ hab
    simpa using this
  · rcases h8 v hv with z | ⟨u, hu, ⟨z1, z2⟩, z3⟩
    · omega
    · obtain ⟨u, rfl⟩ := Int.eq_ofNat_of_zero_le z1
      exact ⟨u, by omega, by simpa using z3, hu⟩
def pathP (n : Nat) : List (Int × Int) := (List.range (n - 1)).map fun (v : Nat) => ((v : Int), (v : Int) + 1)
def starP (n : Nat) : List (Int × Int) := (List.range (n - 1)).map fun (v : Nat) => (0, (v : Int) + 1)
def ringP (n : Nat) : List (Int × Int) := sortP (pathP n ++ [(0, (n : Int) - 1)])
def rowM (a : Nat) : List Int := (List.range a).map (fun (v : Nat) => (v : Int) + 1) ++ [0] ++ (List.range (39 - a)).map fun (v : Nat) => ((a + v : Nat) : Int) + 1
def midP (a : Nat) : List (Int × Int) := sortP ((List.zip (rowM a) ((rowM a).drop 1)).map fun p => (if p.2 < p.1 then p.2 else p.1, if p.2 > p.1 then p.2 else p.1))
def midD (a : Nat) : List Nat := (List.range 40).map fun v => if v = 0 then 0 else if v ≤ a then a - v + 1 else v - a
def path4 : List Nat := [0, 1, 2, 3]
theorem t_path40 : Town 40 (pathP 40) (dOf (List.range 40)) := town_dec (by decide +kernel)
theorem t_path4 : Town 4 (pathP 4) (dOf (List.range 4)) := town_dec (by decide +kernel)
theorem t_star40 : Town 40 (starP 40) (dOf (0 :: List.replicate 39 1)) := town_dec (by decide +kernel)
theorem t_star4 : Town 4 (starP 4) (dOf [0, 1, 1, 1]) := town_dec (by decide +kernel)
theorem t_ring40 : Town 40 (ringP 40) (dOf ((List.range 40).map fun v => min v (40 - v))) := town_dec (by decide +kernel)
theorem t_one : Town 1 [] (dOf []) := town_dec (by decide +kernel)
theorem mid_all : ((List.range 40).all fun a => townB 40 (midP a) (midD a) && (mx (dI 40 (dOf (midD a))) == if (39 - (a : Int)) > a then 39 - (a : Int) else a)) = true := by decide +kernel
theorem t_mid (a : Nat) (h : a < 40) : Town 40 (midP a) (dOf (midD a)) ∧ mx (dI 40 (dOf (midD a))) = if (39 - (a : Int)) > a then 39 - (a : Int) else a := by
  have := List.all_eq_true.mp mid_all a (List.mem_range.mpr h)
  rw [Bool.and_eq_true, beq_iff_eq] at this
  exact ⟨town_dec this.1, this.2⟩
variable {S : Store}
theorem path_ok (n : Nat) (h1 : 1 ≤ n) (h40 : n ≤ 40) : m__law_path [.int n] S = .ok (fr n (pathP n)) S := by
  apply runM_ret
  have hc : fLc [1] (iRg1 (eBin opSub (eVar 0) (eC (.int 1)))) (gN 1) tYesM (eTup (aCons (eVar 1) (aCons (eBin opAdd (eVar 1) (eC (.int 1))) aNil))) [some (.int n), none] S = .ok ((pathP n).map pairW) S := by
    refine fLc_ok (S1 := S) (l := rngW 0 (n - 1)) (C := fun _ => true) (rg1_ok (by simp only [eBin_eq, eVar_0, bind_ok, eC_eq, opSub]; rw [show (n : Int) - 1 = ((n - 1 : Nat) : Int) from by omega]) (by omega)) ?_ (by show _ ≤ 16777216; simp [pathP]; omega)
    rw [comp_mapY (fun w => match w with
      | .int v => .tup [.int v, .int (v + 1)]
      | _ => .non) rfl]
    · simp [rngW, pathP, pairW]
    · intro w hw
      obtain ⟨v, hv, rfl⟩ := List.mem_map.mp hw
      refine ⟨_, rfl, ?_⟩
      simp only [wipeE, eTup_eq, aCons_eq, List.set_cons_succ, List.set_cons_zero, eVar_s, eVar_0, bind_ok, eBin_eq, eC_eq, opAdd, aNil_eq, List.length_cons, List.length_nil, (show 0 + 1 + 1 ≤ big from by decide), if_true]
  show b__law_path [some (.int n), none] S = _
  simp only [b__law_path, sRet_eq, eTup_eq, aCons_eq, eVar_0, bind_ok, eCall_eq, eV_eq, hc, aNil_eq, bTuple_lst, List.length_cons, List.length_nil, (show 0 + 1 + 1 ≤ big from by decide), if_true, ofR_ok, fr]
theorem star_ok (n : Nat) (h1 : 1 ≤ n) (h40 : n ≤ 40) : m__law_star [.int n] S = .ok (fr n (starP n)) S := by
  apply runM_ret
  have hc : fLc [1] (iRg2 (eC (.int 1)) (eVar 0)) (gN 1) tYesM (eTup (aCons (eC (.int 0)) (aCons (eVar 1) aNil))) [some (.int n), none] S = .ok ((starP n).map pairW) S := by
    refine fLc_ok (S1 := S) (l := rngW 1 (n - 1)) (C := fun _ => true) (by
      rw [rg2_j (i := 1) (j := (n : Int)) (by simp only [eC_eq]) (by simp only [eVar_s, eVar_0]) ⟨by decide, by decide, (rg_cond n (by omega)).1, (rg_cond n (by omega)).2⟩, show ((n : Int) - 1).toNat = n - 1 from by omega]) ?_ (by show _ ≤ 16777216; simp [starP]; omega)
    rw [comp_mapY (fun w => match w with
      | .int v => .tup [.int 0, .int v]
      | _ => .non) rfl]
    · simp [rngW, starP, pairW, Int.add_comm]
    · intro w hw
      obtain ⟨v, hv, rfl⟩ := List.mem_map.mp hw
      refine ⟨_, rfl, ?_⟩
      simp only [wipeE, eTup_eq, aCons_eq, List.set_cons_succ, List.set_cons_zero, eVar_s, eVar_0, bind_ok, eC_eq, aNil_eq, List.length_cons, List.length_nil, (show 0 + 1 + 1 ≤ big from by decide), if_true]
  show b__law_star [some (.int n), none] S = _
  simp only [b__law_star, sRet_eq, eTup_eq, aCons_eq, eVar_0, bind_ok, eCall_eq, eV_eq, hc, aNil_eq, bTuple_lst, List.length_cons, List.length_nil, (show 0 + 1 + 1 ≤ big from by decide), if_true, ofR_ok, fr]
theorem sorted_pairs (l : List (Int × Int)) (h : l ≠ []) : bSorted [.lst (l.map pairW)] S = .ok ((sortP l).map pairW) S := by
  cases l with
  | nil => exact absurd rfl h
  | cons p l =>
    have h1 : allI ((p :: l).map pairW) = none := rfl
    simp only [bSorted, h1, allP_pairs]
theorem ring_ok (n : Nat) (h1 : 1 ≤ n) (h40 : n ≤ 40) : m__law_ring [.int n] S = .ok (fr n (ringP n)) S := by
  apply runM_ret
  have hc : fLc [1] (iRg1 (eBin opSub (eVar 0) (eC (.int 1)))) (gN 1) tYesM (eTup (aCons (eVar 1) (aCons (eBin opAdd (eVar 1) (eC (.int 1))) aNil))) [some (.int n), none] S = .ok ((pathP n).map pairW) S := by
    refine fLc_ok (S1 := S) (l := rngW 0 (n - 1)) (C := fun _ => true) (rg1_ok (by simp only [eBin_eq, eVar_0, bind_ok, eC_eq, opSub]; rw [show (n : Int) - 1 = ((n - 1 : Nat) : Int) from by omega]) (by omega)) ?_ (by show _ ≤ 16777216; simp [pathP]; omega)
    rw [comp_mapY (fun w => match w with
      | .int v => .tup [.int v, .int (v + 1)]
      | _ => .non) rfl]
    · simp [rngW, pathP, pairW]
    · intro w hw
      obtain ⟨v, hv, rfl⟩ := List.mem_map.mp hw
      refine ⟨_, rfl, ?_⟩
      simp only [wipeE, eTup_eq, aCons_eq, List.set_cons_succ, List.set_cons_zero, eVar_s, eVar_0, bind_ok, eBin_eq, eC_eq, opAdd, aNil_eq, List.length_cons, List.length_nil, (show 0 + 1 + 1 ≤ big from by decide), if_true]
  have hcat : opCat (.lst ((pathP n).map pairW)) (.lst [.tup [.int 0, .int ((n : Int) - 1)]]) S = .ok ((pathP n ++ [(0, (n : Int) - 1)]).map pairW) S := by
    simp only [opCat, lstW]
    rw [if_pos (by show _ ≤ 16777216; simp [pathP]; omega)]
    simp [pairW]
  show b__law_ring [some (.int n), none] S = _
  simp only [b__law_ring, sRet_eq, eTup_eq, aCons_eq, eVar_0, bind_ok, eCall_eq, fCall_eq, fBin_eq, eV_eq, hc, aNil_eq, fLst_eq, eBin_eq, eC_eq, opSub, List.length_cons, List.length_nil, (show 0 + 1 + 1 ≤ big from by decide), (show 0 + 1 ≤ big from by decide), if_true, hcat, sorted_pairs _ (List.append_ne_nil_of_right_ne_nil _ (List.cons_ne_nil _ _)), bTuple_lst, ofR_ok, fr, ringP]
end K50
end QP

set_option Elab.async false
set_option linter.all false
set_option maxRecDepth 100000
set_option maxHeartbeats 4000000
namespace QP
open PySem PySem.Spec PyProof.Rows L2
theorem cut_mid {l : List W} {a : Nat} (h : a + 1 ≤ l.length) : cutW l (some 1) (some ((a : Int) + 1)) = (l.drop 1).take a := by
  have h1 : HT.sIx l.length 0 (some 1) = 1 := by simp [HT.sIx]; omega
  have h2 : HT.sIx l.length l.length (some ((a : Int) + 1)) = a + 1 := by
    simp [HT.sIx]
    rw [if_neg (by omega)]; omega
  simp only [cutW, h1, h2]
  congr 1
theorem cut_end {l : List W} {a : Nat} (h : a + 1 ≤ l.length) : cutW l (some ((a : Int) + 1)) none = l.drop (a + 1) := by
  have h1 : HT.sIx l.length 0 (some ((a : Int) + 1)) = a + 1 := by
    simp [HT.sIx]
    rw [if_neg (by omega)]; omega
  have h2 : HT.sIx l.length l.length none = l.length := by simp [HT.sIx]
  simp only [cutW, h1, h2]
  rw [List.take_of_length_le (by simp)]
namespace K50
variable {S : Store}
theorem far_dist {n : Nat} {ps : List (Int × Int)} {l : List Nat} (t : Town n ps (dOf l)) : ∃ T, m_most_steps [fr n ps] S = .ok (.int (mx (dI n (dOf l)) + 1)) (S ++ T) := most_ok t
theorem order_40 : ([W.int 0] ++ rngW 1 39) = (List.range 40).map fun (v : Nat) => W.int v := by rfl
theorem rest_path0 : it 40 (nb (pathP 40)) 39 (List.replicate 40 0) = dI 40 (dOf (List.range 40)) ∧ ∀ j, j < 39 → it 40 (nb (pathP 40)) j (List.replicate 40 0) ≠ dI 40 (dOf (List.range 40)) := by
  obtain ⟨k, h1, h2, h3⟩ := first_rest t_path40.net2 (x := List.replicate 40 0) (num_rep (by decide) (by decide) (by decide)).nn (by simp)
  have e := zero_rest t_path40.net2 h2 h3
  have e2 : far_ 40 (dOf (List.range 40)) = 39 := by decide +kernel
  rw [e2] at e
  subst e
  exact ⟨h2, h3⟩
theorem rest_path1 : it 40 (nb (pathP 40)) 40 (List.replicate 40 1000000) = dI 40 (dOf (List.range 40)) ∧ ∀ j, j < 40 → it 40 (nb (pathP 40)) j (List.replicate 40 1000000) ≠ dI 40 (dOf (List.range 40)) := by
  obtain ⟨k, h1, h2, h3⟩ := first_rest t_path40.net2 (x := List.replicate 40 1000000) (num_rep (by decide) (by decide) (by decide)).nn (by simp)
  have e := late_rest t_path40.net2 h1 h2
  have e2 : far_ 40 (dOf (List.range 40)) = 39 := by decide +kernel
  rw [e2] at e
  subst e
  exact ⟨h2, h3⟩
theorem one_fr : fr 1 [] = .tup [.int 1, .tup []] := rfl
/-- the path with house 0 at the place a -/
theorem rowM_ok (a : Nat) (h : a < 40) : ((((List.range 40).map fun (v : Nat) => W.int v).drop 1).take a ++ [W.int 0]) ++ ((List.range 40).map fun (v : Nat) => W.int v).drop (a + 1) = (rowM a).map W.int := by
  have : ∀ a, a < 40 → ((((List.range 40).drop 1).take a ++ [0]) ++ (List.range 40).drop (a + 1)).map (fun (v : Nat) => (v : Int)) = rowM a := by
    intro a ha
    have key : ((List.range 40).all fun a => decide (((((List.range 40).drop 1).take a ++ [0]) ++ (List.range 40).drop (a + 1)).map (fun (v : Nat) => (v : Int)) = rowM a)) = true := by decide +kernel
    exact of_decide_eq_true (List.all_eq_true.mp key a (List.mem_range.mpr ha))
  rw [← this a h]
  simp only [List.map_append, List.map_take, List.map_drop, List.map_map]
  rfl
theorem rowM_len (a : Nat) (h : a < 40) : (rowM a).length = 40 := by simp [rowM]; omega
theorem mid_ok (a : Nat) (h : a < 40) (x1 x2 x3 x5 x6 : Option W) : fLc [7, 8] (iZp (eVar 4) (eSlice (eVar 4) (oSome (eC (.int 1))) oNone)) (gT (gsCons (gN 7) (gsCons (gN 8) gsNil))) tYesM (eTup (aCons (eCall bMin (aCons (eVar 7) (aCons (eVar 8) aNil))) (aCons (eCall bMax (aCons (eVar 7) (aCons (eVar 8) aNil))) aNil)))
    [some (.ref 0), x1, x2, x3, some (.lst ((rowM a).map W.int)), x5, x6, none, none] S
    = .ok (((List.zip (rowM a) ((rowM a).drop 1)).map fun p => (if p.2 < p.1 then p.2 else p.1, if p.2 > p.1 then p.2 else p.1)).map pairW) S := by
  refine fLc_ok (S1 := S) (l := zipW ((rowM a).map W.int) (((rowM a).drop 1).map W.int)) (C := fun S => sameL (.lst ((rowM a).map W.int)) ((rowM a).map W.int) S && sameL (.lst (((rowM a).drop 1).map W.int)) (((rowM a).drop 1).map W.int) S) (by simp [iZp, slice1, lstW]) ?_ (by show _ ≤ 16777216; simp [rowM_len a h])
  rw [comp_mapY (fun w => match w with
    | .tup [.int i, .int j] => .tup [.int (if j < i then j else i), .int (if j > i then j else i)]
    | _ => .non) rfl]
  · congr 1
    simp only [zipW, List.zipWith_map, List.zip, List.map_zipWith]
    rfl
  · intro w hw
    simp only [zipW, List.zipWith_map] at hw
    obtain ⟨i, hi, rfl⟩ := List.getElem_of_mem hw
    simp only [List.getElem_zipWith]
    refine ⟨_, by simp only [gT_eq, gsCons_eq, gN_eq, gsNil_eq]; rfl, ?_⟩
    simp only [wipeE, List.set_cons_succ, List.set_cons_zero, eTup_eq, aCons_eq, eCall_eq, eVar_s, eVar_0, bind_ok, aNil_eq, bMin, bMax, List.length_cons, List.length_nil, (show 0 + 1 + 1 ≤ big from by decide), if_true]
theorem ne_zip (a : Nat) (h : a < 40) : ((List.zip (rowM a) ((rowM a).drop 1)).map fun p => (if p.2 < p.1 then p.2 else p.1, if p.2 > p.1 then p.2 else p.1)) ≠ [] := by
  intro z
  have := congrArg List.length z
  simp [rowM_len a h] at this
set_option maxHeartbeats 8000000 in
theorem great_ok (hc : CupAt S) : ∃ S', m__law_great_right [.ref 0] S = .ok (.bl true) S' := by
  obtain ⟨a, S1, e1, a0, a1, n1, _⟩ := roll_ok hc (m := 40) (by decide) (by decide)
  obtain ⟨a, rfl⟩ := Int.eq_ofNat_of_zero_le a0
  have ha : a < 40 := by omega
  obtain ⟨tm, dm⟩ := t_mid a ha
  have p40 : ∀ S, m__law_path [.int 40] S = .ok (fr 40 (pathP 40)) S := fun S => path_ok 40 (by decide) (by decide)
  have s40 : ∀ S, m__law_star [.int 40] S = .ok (fr 40 (starP 40)) S := fun S => star_ok 40 (by decide) (by decide)
  have r40 : ∀ S, m__law_ring [.int 40] S = .ok (fr 40 (ringP 40)) S := fun S => ring_ok 40 (by decide) (by decide)
  have hrg : ∀ (env : Env) (S : Store), fRange (eC (.int 1)) (eC (.int 40)) env S = .ok (rngW 1 39) S := fun env S => rfl
  have hl40 : ((List.range 40).map fun (v : Nat) => W.int v).length = 40 := by simp
  have hord : ∀ S : Store, opCat (.lst [.int 0]) (.lst (rngW 1 39)) S = .ok ((List.range 40).map fun (v : Nat) => W.int v) S := fun S => rfl
  have hadd : ∀ S : Store, opAdd (.int (a : Int)) (.int 1) S = .ok (.int ((a : Int) + 1)) S := fun S => rfl
  have hcat1 : ∀ S : Store, opCat (.lst ((((List.range 40).map fun (v : Nat) => W.int v).drop 1).take a)) (.lst [.int 0]) S = .ok ((((List.range 40).map fun (v : Nat) => W.int v).drop 1).take a ++ [W.int 0]) S := fun S => by
    simp only [opCat, lstW]; rw [if_pos (by show _ ≤ 16777216; simp; omega)]
  have hcat2 : ∀ S : Store, opCat (.lst ((((List.range 40).map fun (v : Nat) => W.int v).drop 1).take a ++ [W.int 0])) (.lst (((List.range 40).map fun (v : Nat) => W.int v).drop (a + 1))) S = .ok ((rowM a).map W.int) S := fun S => by
    simp only [opCat, lstW]; rw [if_pos (by show _ ≤ 16777216; simp; omega), rowM_ok a ha]
  obtain ⟨T2, e2⟩ := far_dist (S := S1) t_path40
  obtain ⟨T3, e3⟩ := far_dist (S := S1 ++ T2) tm
  obtain ⟨T4, e4⟩ := far_dist (S := S1 ++ T2 ++ T3) t_ring40
  obtain ⟨T5, e5⟩ := far_dist (S := S1 ++ T2 ++ T3 ++ T4) t_star40
  obtain ⟨T6, e6⟩ := far_dist (S := S1 ++ T2 ++ T3 ++ T4 ++ T5) t_one
  obtain ⟨T7, e7⟩ := steps_ok (S := S1 ++ T2 ++ T3 ++ T4 ++ T5 ++ T6) t_path40 (x := List.replicate 40 0) (num_rep (by decide) (by decide) (by decide)) (k := 39) (by decide) rest_path0.1 rest_path0.2
  obtain ⟨T8, e8⟩ := steps_ok (S := S1 ++ T2 ++ T3 ++ T4 ++ T5 ++ T6 ++ T7) t_path40 (x := List.replicate 40 1000000) (num_rep (by decide) (by decide) (by decide)) (k := 40) (by decide) rest_path1.1 rest_path1.2
  have v2 : mx (dI 40 (dOf (List.range 40))) + 1 = 40 := by decide +kernel
  have v4 : mx (dI 40 (dOf ((List.range 40).map fun v => min v (40 - v)))) + 1 = 21 := by decide +kernel
  have v5 : mx (dI 40 (dOf (0 :: List.replicate 39 1))) + 1 = 2 := by decide +kernel
  have v6 : mx (dI 1 (dOf [])) + 1 = 1 := by decide +kernel
  rw [v2] at e2
  rw [dm] at e3
  rw [v4] at e4
  rw [v5] at e5
  rw [v6, one_fr] at e6
  have e7 : m_steps_to_rest [fr 40 (pathP 40), tw (List.replicate 40 0)] (S1 ++ T2 ++ T3 ++ T4 ++ T5 ++ T6) = .ok (.int 39) (S1 ++ T2 ++ T3 ++ T4 ++ T5 ++ T6 ++ T7) := e7
  have e8 : m_steps_to_rest [fr 40 (pathP 40), tw (List.replicate 40 1000000)] (S1 ++ T2 ++ T3 ++ T4 ++ T5 ++ T6 ++ T7) = .ok (.int 40) (S1 ++ T2 ++ T3 ++ T4 ++ T5 ++ T6 ++ T7 ++ T8) := e8
  obtain ⟨S8, hS8⟩ : ∃ S8, S8 = S1 ++ T2 ++ T3 ++ T4 ++ T5 ++ T6 ++ T7 ++ T8 := ⟨_, rfl⟩
  rw [← hS8] at e8
  have n8 : Nxt S1 S8 := by
    rw [hS8, List.append_assoc, List.append_assoc, List.append_assoc, List.append_assoc, List.append_assoc, List.append_assoc]; exact Nxt.app n1.cup _
  have hmul : ∀ (i : Int) (S : Store), opMulT (.tup [.int i]) (.int 40) S = .ok (tw (List.replicate 40 i)) S := fun i S => mulT_ok (n := 40) i (by decide) (by decide)
  have lk : ∀ b : Int, gLike 6 [.lst [.int 40, .int b, .int 21, .int 2, .int 1, .int 39, .int 40], .lst [.int 40, .int b, .int 21, .int 2, .int 1, .int 39, .int 40]] S8 = .ok (.bl true) S8 := fun b => like_refl 6 _ _ rfl
  have hmax : ∀ S : Store, bMax [.int (a : Int), .int (39 - (a : Int))] S = .ok (.int (if 39 - (a : Int) > a then 39 - (a : Int) else a)) S := fun S => rfl
  obtain ⟨S9, e9, n9⟩ := law_right_ok tm n8.cup
  obtain ⟨n, ps, d, S10, e10, n10, t⟩ := law_friends_ok n9.cup 40 (by decide) (by decide)
  have e10 : m__law_friends [.ref 0, .int 40, .bl true] S9 = .ok (fr n ps) S10 := e10
  obtain ⟨S11, e11, n11⟩ := law_right_ok t n10.cup
  have hfr : W.tup [W.int 40, W.tup (List.map pairW (midP a))] = fr 40 (midP a) := rfl
  refine ⟨S11, runM_ret ?_⟩
  show b__law_great_right [some (.ref 0), none, none, none, none, none, none, none, none] S = _
  simp only [b__law_great_right, sSeq_eq, sPar_eq, eFn_eq, aCons_eq, eC_eq, eVar_s, eVar_0, bind_ok, aNil_eq, List.length_cons, List.length_nil, if_true, p40, e1, ofR_ok, List.set_cons_succ, List.set_cons_zero, seq_nx, sAsgN_eq, eV_eq, fBin_eq, fLst_eq, (show 0 + 1 ≤ big from by decide), hrg, hord,
    fSlice_eq, oSome_eq, oNone_eq, eBin_eq, hadd, lstW, cut_mid (show a + 1 ≤ ((List.range 40).map fun (v : Nat) => W.int v).length by rw [hl40]; omega), cut_end (show a + 1 ≤ ((List.range 40).map fun (v : Nat) => W.int v).length by rw [hl40]; omega), hcat1, hcat2,
    eTup_eq, eCall_eq, fCall_eq, mid_ok a ha, sorted_pairs _ (ne_zip a ha), bTuple_lst, (show 0 + 1 + 1 ≤ big from by decide)]
  have hmid : sortP ((List.zip (rowM a) ((rowM a).drop 1)).map fun p => (if p.2 < p.1 then p.2 else p.1, if p.2 > p.1 then p.2 else p.1)) = midP a := rfl
  simp only [sSeq_eq, hmid, hfr, e2, e3, r40, e4, s40, e5, (show 0 ≤ big from by decide), (show 0 + 1 + 1 ≤ big from by decide), if_true, bind_ok, e6, hmul, e7, e8, (show 0 + 1 + 1 + 1 + 1 + 1 + 1 + 1 ≤ big from by decide), ofR_ok, List.set_cons_succ, List.set_cons_zero, seq_nx, sIf_eq, tNotM_eq, tTru_eq, eFn_eq, aCons_eq, eC_eq, eVar_s, eVar_0, aNil_eq, List.length_cons, List.length_nil, eV_eq, fLst_eq, eBin_eq, opSub, eCall_eq, hmax, opAdd, lk,
    truW, Bool.not_true, Bool.false_eq_true, if_false, sNext_eq, sRet_eq, eAnd_eq, e9, e10, e11]
end K50
end QP

set_option Elab.async false
set_option linter.all false
set_option maxRecDepth 100000
set_option maxHeartbeats 4000000
namespace QP
open PySem PySem.Spec PyProof.Rows L2
namespace K50
variable {S : Store}
def restB (n : Nat) (ps : List (Int × Int)) (l : List Nat) (x : List Int) (k : Nat) : Bool :=
  decide (x.length = n) && (x.all fun y => decide (0 ≤ y) && decide (y ≤ 1000000)) && decide (k ≤ 1000) && decide (it n (nb ps) k x = dI n (dOf l)) && (List.range k).all fun j => !decide (it n (nb ps) j x = dI n (dOf l))
structure RestD (n : Nat) (ps : List (Int × Int)) (l : List Nat) (x : List Int) (k : Nat) : Prop where
  num : Num n x
  k1 : k ≤ 1000
  at_ : it n (nb ps) k x = dI n (dOf l)
  no : ∀ j, j < k → it n (nb ps) j x ≠ dI n (dOf l)
theorem rest_dec {n : Nat} {ps : List (Int × Int)} {l : List Nat} {x : List Int} {k : Nat} (h : restB n ps l x k = true) : RestD n ps l x k := by
  simp only [restB, Bool.and_eq_true, decide_eq_true_eq, List.all_eq_true, List.mem_range, Bool.not_eq_true', decide_eq_false_iff_not] at h
  obtain ⟨⟨⟨⟨h1, h2⟩, h3⟩, h4⟩, h5⟩ := h
  exact ⟨⟨h1, h2⟩, h3, h4, h5⟩
theorem written_ok : ∃ S', m__law_written_right [] S = .ok (.bl true) S' := by
  have p4 : ∀ S, m__law_path [.int 4] S = .ok (fr 4 (pathP 4)) S := fun S => path_ok 4 (by decide) (by decide)
  have s4 : ∀ S, m__law_star [.int 4] S = .ok (fr 4 (starP 4)) S := fun S => star_ok 4 (by decide) (by decide)
  have r0 : RestD 4 (pathP 4) (List.range 4) [0, 0, 0, 0] 3 := rest_dec (by decide +kernel)
  have r9 : RestD 4 (pathP 4) (List.range 4) [9, 9, 9, 9] 4 := rest_dec (by decide +kernel)
  have r3 : RestD 4 (pathP 4) (List.range 4) [3, 2, 1, 0] 4 := rest_dec (by decide +kernel)
  have s0 : RestD 4 (starP 4) [0, 1, 1, 1] [0, 1, 1, 1] 0 := rest_dec (by decide +kernel)
  have s7 : RestD 4 (starP 4) [0, 1, 1, 1] [7, 7, 7, 7] 2 := rest_dec (by decide +kernel)
  have o5 : RestD 1 [] [] [5] 1 := rest_dec (by decide +kernel)
  have o0 : RestD 1 [] [] [0] 0 := rest_dec (by decide +kernel)
  obtain ⟨T1, e1⟩ := distances_ok (S := S) t_path4
  obtain ⟨T2, e2⟩ := stepped_ok (S := S ++ T1) t_path4 r0.num
  obtain ⟨T3, e3⟩ := behind_ok (S := S ++ T1 ++ T2) t_path4 r9.num r9.k1 r9.at_ r9.no 3 (by decide)
  obtain ⟨T4, e4⟩ := steps_ok (S := S ++ T1 ++ T2 ++ T3) t_path4 r0.num r0.k1 r0.at_ r0.no
  obtain ⟨T5, e5⟩ := steps_ok (S := S ++ T1 ++ T2 ++ T3 ++ T4) t_path4 r9.num r9.k1 r9.at_ r9.no
  obtain ⟨S5, h5⟩ : ∃ S5, S5 = S ++ T1 ++ T2 ++ T3 ++ T4 ++ T5 := ⟨_, rfl⟩
  rw [← h5] at e5
  obtain ⟨T6, e6⟩ := most_ok (S := S5) t_path4
  obtain ⟨T7, e7⟩ := steps_ok (S := S5 ++ T6) t_star4 s0.num s0.k1 s0.at_ s0.no
  obtain ⟨T8, e8⟩ := most_ok (S := S5 ++ T6 ++ T7) t_one
  obtain ⟨T9, e9⟩ := behind_far (S := S5 ++ T6 ++ T7 ++ T8) t_star4 s7.num 1000000000000000000 (by
    have : far_ 4 (dOf [0, 1, 1, 1]) = 1 := by decide +kernel
    rw [this]; decide) (Int.le_refl _)
  obtain ⟨T10, e10⟩ := stepped_ok (S := S5 ++ T6 ++ T7 ++ T8 ++ T9) t_one o5.num
  obtain ⟨S10, h10⟩ : ∃ S10, S10 = S5 ++ T6 ++ T7 ++ T8 ++ T9 ++ T10 := ⟨_, rfl⟩
  rw [← h10] at e10
  obtain ⟨T11, e11⟩ := steps_ok (S := S10) t_one o5.num o5.k1 o5.at_ o5.no
  obtain ⟨T12, e12⟩ := steps_ok (S := S10 ++ T11) t_one o0.num o0.k1 o0.at_ o0.no
  obtain ⟨T13, e13⟩ := steps_ok (S := S10 ++ T11 ++ T12) t_path4 r3.num r3.k1 r3.at_ r3.no
  rw [show dI 4 (dOf (List.range 4)) = [0, 1, 2, 3] from by decide +kernel] at e1
  rw [show hopL 4 (nb (pathP 4)) [0, 0, 0, 0] = [0, 1, 1, 1] from by decide +kernel] at e2
  rw [show it 4 (nb (pathP 4)) 3 [9, 9, 9, 9] = [0, 1, 2, 12] from by decide +kernel] at e3
  rw [show mx (dI 4 (dOf (List.range 4))) + 1 = 4 from by decide +kernel] at e6
  rw [show mx (dI 1 (dOf [])) + 1 = 1 from by decide +kernel, one_fr] at e8
  rw [show dI 4 (dOf [0, 1, 1, 1]) = [0, 1, 1, 1] from by decide +kernel] at e9
  rw [show hopL 1 (nb []) [5] = [0] from by decide +kernel, one_fr] at e10
  rw [one_fr] at e11 e12
  have e3 : m_behind_steps [fr 4 (pathP 4), tw [9, 9, 9, 9], .int 3] (S ++ T1 ++ T2) = .ok (tw [0, 1, 2, 12]) (S ++ T1 ++ T2 ++ T3) := e3
  have c1 : ∀ (a b : List W) (S : Store), a.length + b.length ≤ 100 → opCat (.lst a) (.lst b) S = .ok (a ++ b) S := fun a b S h => by
    simp only [opCat, lstW]; rw [if_pos (by show _ ≤ 16777216; omega)]
  simp only [tw, List.map_cons, List.map_nil] at e1 e2 e3 e4 e5 e7 e9 e10 e11 e12 e13
  obtain ⟨S13, h13⟩ : ∃ S13, S13 = S10 ++ T11 ++ T12 ++ T13 := ⟨_, rfl⟩
  rw [← h13] at e13
  have b1 : (0 + 1 ≤ big) := by decide
  have b0 : (0 ≤ big) := by decide
  have b2 : (0 + 1 + 1 ≤ big) := by decide
  have b3 : (0 + 1 + 1 + 1 ≤ big) := by decide
  have b4 : (0 + 1 + 1 + 1 + 1 ≤ big) := by decide
  have b5 : (0 + 1 + 1 + 1 + 1 + 1 ≤ big) := by decide
  have b13 : (0 + 1 + 1 + 1 + 1 + 1 + 1 + 1 + 1 + 1 + 1 + 1 + 1 + 1 ≤ big) := by decide
  have lk : ∀ l : List W, l.all (plain 5) = true → gLike 6 [.lst l, .lst l] S13 = .ok (.bl true) S13 := fun l h => like_refl 6 _ _ h
  refine ⟨S13, runM_ret ?_⟩
  show b__law_written_right [none, none, none] S = _
  simp only [b__law_written_right, sSeq_eq, sPar_eq, eFn_eq, aCons_eq, eC_eq, eVar_s, eVar_0, bind_ok, aNil_eq, List.length_cons, List.length_nil, if_true, p4, s4, ofR_ok, List.set_cons_succ, List.set_cons_zero, seq_nx, sAsgN_eq, eV_eq, fLst_eq, e1, eTup_eq, b4, e2, e3, e4, e5, b5, fBin_eq, e6, e7, b2]
  rw [c1 _ _ _ (by decide)]
  simp only [sSeq_eq, eFn_eq, aCons_eq, eC_eq, eVar_s, eVar_0, bind_ok, aNil_eq, List.length_cons, List.length_nil, if_true, ofR_ok, List.set_cons_succ, List.set_cons_zero, seq_nx, sAsgN_eq, eV_eq, fLst_eq, eTup_eq, b4, b0, b1, b2, b3, fBin_eq, eBin_eq, pow18, e8, e9, e10, List.cons_append, List.nil_append]
  rw [c1 _ _ _ (by decide)]
  simp only [sSeq_eq, eFn_eq, aCons_eq, eC_eq, eVar_s, eVar_0, bind_ok, aNil_eq, List.length_cons, List.length_nil, if_true, ofR_ok, List.set_cons_succ, List.set_cons_zero, seq_nx, sAsgN_eq, eV_eq, fLst_eq, eTup_eq, b4, b0, b1, b2, b3, fBin_eq, e11, e12, e13, List.cons_append, List.nil_append]
  rw [c1 _ _ _ (by decide)]
  simp only [sSeq_eq, eFn_eq, aCons_eq, eC_eq, eVar_s, eVar_0, bind_ok, aNil_eq, List.length_cons, List.length_nil, if_true, ofR_ok, List.set_cons_succ, List.set_cons_zero, seq_nx, sAsgN_eq, eV_eq, fLst_eq, eTup_eq, b4, b0, b1, b2, b3, b13, List.cons_append, List.nil_append, sRet_eq]
  have key := lk [.tup [.int 0, .int 1, .int 2, .int 3], .tup [.int 0, .int 1, .int 1, .int 1], .tup [.int 0, .int 1, .int 2, .int 12], .int 3, .int 4, .int 4, .int 0, .int 1, .tup [.int 0, .int 1, .int 1, .int 1], .tup [.int 0], .int 1, .int 0, .int 4] rfl
  exact congrArg (fun r => Z.ofR r fun w S1 => Z.ret w S1) key
theorem law_true : ∀ ns : List Int, ns.length ≤ 63 → ∃ S, m_law [.scr ns] [] = .ok (.bl true) S := by
  intro ns h63
  obtain ⟨a, b, e1⟩ := cup_ok ns h63
  have hc : CupAt [O.lst [.int a, .int b]] := ⟨a, b, rfl⟩
  obtain ⟨env', S2, e2, x2, rfl, n2⟩ := sFor_inv (mi := iRg1 (eC (.int 6))) (g := gN 2) (body := sIf (tNotM (tTru (eFn 2 m__law_right (aCons (eVar 1) (aCons (eFn 3 m__law_friends (aCons (eVar 1) (aCons (eC (.int 9)) (aCons (eC (.bl true)) aNil)))) aNil))))) (sRet (eC (.bl false))) sNext)
    (env := [some (.scr ns), some (.ref 0), none]) (S := [O.lst [.int a, .int b]]) (S1 := [O.lst [.int a, .int b]]) (l := rngW 0 6) (C := fun _ => true)
    (fun i env S' => ∃ x2, env = [some (.scr ns), some (.ref 0), x2] ∧ Nxt [O.lst [.int a, .int b]] S')
    (rg1_ok (n := 6) rfl (by decide)) ⟨none, rfl, Nxt.refl hc⟩
    (by
      rintro i hi env S' ⟨x2, rfl, n⟩
      obtain ⟨m, ps, d, S3, e3, n3, t⟩ := law_friends_ok n.cup 9 (by decide) (by decide)
      have e3 : m__law_friends [.ref 0, .int 9, .bl true] S' = .ok (fr m ps) S3 := e3
      obtain ⟨S4, e4, n4⟩ := law_right_ok t n3.cup
      refine ⟨rfl, _, [some (.scr ns), some (.ref 0), some (rngW 0 6)[i]], S4, rfl, .inl ?_, _, rfl, (n.trans n3).trans n4⟩
      simp only [List.set_cons_succ, List.set_cons_zero, sIf_eq, tNotM_eq, tTru_eq, eFn_eq, aCons_eq, eC_eq, eVar_s, eVar_0, bind_ok, aNil_eq, List.length_cons, List.length_nil, if_true, e3, e4, truW, Bool.not_true, ofR_ok, Bool.false_eq_true, if_false, sNext_eq])
    (fun _ _ _ => rfl)
  obtain ⟨S3, e3⟩ := great_ok n2.cup
  obtain ⟨S4, e4⟩ := written_ok (S := S3)
  refine ⟨S4, runM_ret ?_⟩
  show b_law [some (.scr ns), none, none] [] = _
  simp only [b_law, sSeq_eq, sAsgN_eq, eFn_eq, aCons_eq, eVar_s, eVar_0, bind_ok, aNil_eq, List.length_cons, List.length_nil, if_true, e1, ofR_ok, List.set_cons_succ, List.set_cons_zero, seq_nx, e2, sRet_eq, eAnd_eq, e3, truW, e4]
end K50
end QP

/-! The end. -/
namespace QP
open PySem PySem.Spec PyProof.Rows L2
namespace K50
def faOf (l : List (String × Addr)) (n : String) : Addr := (l.lookup n).getD 0
def spLaw (K : PySem.W.Frag) : Sp := fun vs H Q _ => ∃ (a : Addr) (ns : List Int), vs = [.ref a] ∧ SqL K H a (ns.map V.int) ∧ ns.length ≤ 63 ∧ ∀ H', Q (.bl true) H'
theorem sp_imp {G : GP} (m : List W → Store → R W) (law : ∀ ns : List Int, ns.length ≤ 63 → ∃ S, m [.scr ns] [] = .ok (.bl true) S) : ∀ vs H Q E, spLaw G.K vs H Q E → spM G 1 m vs H Q E := by
  rintro vs H Q E ⟨a, ns, rfl, hS, h63, q⟩
  obtain ⟨S, hl⟩ := law ns h63
  refine ⟨[], [], [], [.scr ns], ⟨rfl, List.nodup_nil, fun a h => (List.not_mem_nil h).elim, fun n a o h => by simp at h, fun b h => (List.not_mem_nil h).elim⟩, .cons (.scr ?_) .nil, rfl, ?_⟩
  · rcases hS with h | h
    · exact .inl ⟨List.not_mem_nil, List.not_mem_nil, h⟩
    · exact .inr h
  · rw [hl]
    intro A' H' b _ _ r
    cases r
    exact q H'
theorem all_mk {l : PySem.W.OpenLaw} {w : World} {K : PySem.W.Frag} {h : Heap} {mg : Str → Option Value} {fa : Addr} (X : K.In h) (G : h.Ns mainGlobals mg) (hfa : mg "law" = some (.ref fa))
    {f1 : Addr} {od1 an1 : Option Addr} {sl1 : Array (Option Value)} {oc1 kV1 dc1 pm1 cd1 ct1 : Value}
    {f2 : Addr} {od2 an2 : Option Addr} {sl2 : Array (Option Value)} {oc2 kV2 dc2 pm2 cd2 ct2 : Value}
    {f3 : Addr} {od3 an3 : Option Addr} {sl3 : Array (Option Value)} {oc3 kV3 dc3 pm3 cd3 ct3 : Value}
    {f4 : Addr} {od4 an4 : Option Addr} {sl4 : Array (Option Value)} {oc4 kV4 dc4 pm4 cd4 ct4 : Value}
    {f5 : Addr} {od5 an5 : Option Addr} {sl5 : Array (Option Value)} {oc5 kV5 dc5 pm5 cd5 ct5 : Value}
    {f6 : Addr} {od6 an6 : Option Addr} {sl6 : Array (Option Value)} {oc6 kV6 dc6 pm6 cd6 ct6 : Value}
    {f7 : Addr} {od7 an7 : Option Addr} {sl7 : Array (Option Value)} {oc7 kV7 dc7 pm7 cd7 ct7 : Value}
    {f8 : Addr} {od8 an8 : Option Addr} {sl8 : Array (Option Value)} {oc8 kV8 dc8 pm8 cd8 ct8 : Value}
    {f9 : Addr} {od9 an9 : Option Addr} {sl9 : Array (Option Value)} {oc9 kV9 dc9 pm9 cd9 ct9 : Value}
    {f10 : Addr} {od10 an10 : Option Addr} {sl10 : Array (Option Value)} {oc10 kV10 dc10 pm10 cd10 ct10 : Value}
    {f11 : Addr} {od11 an11 : Option Addr} {sl11 : Array (Option Value)} {oc11 kV11 dc11 pm11 cd11 ct11 : Value}
    {f12 : Addr} {od12 an12 : Option Addr} {sl12 : Array (Option Value)} {oc12 kV12 dc12 pm12 cd12 ct12 : Value}
    {f13 : Addr} {od13 an13 : Option Addr} {sl13 : Array (Option Value)} {oc13 kV13 dc13 pm13 cd13 ct13 : Value}
    {f14 : Addr} {od14 an14 : Option Addr} {sl14 : Array (Option Value)} {oc14 kV14 dc14 pm14 cd14 ct14 : Value}
    {f15 : Addr} {od15 an15 : Option Addr} {sl15 : Array (Option Value)} {oc15 kV15 dc15 pm15 cd15 ct15 : Value}
    {f16 : Addr} {od16 an16 : Option Addr} {sl16 : Array (Option Value)} {oc16 kV16 dc16 pm16 cd16 ct16 : Value}
    {f17 : Addr} {od17 an17 : Option Addr} {sl17 : Array (Option Value)} {oc17 kV17 dc17 pm17 cd17 ct17 : Value}
    {f18 : Addr} {od18 an18 : Option Addr} {sl18 : Array (Option Value)} {oc18 kV18 dc18 pm18 cd18 ct18 : Value}
    {f19 : Addr} {od19 an19 : Option Addr} {sl19 : Array (Option Value)} {oc19 kV19 dc19 pm19 cd19 ct19 : Value}
    {f20 : Addr} {od20 an20 : Option Addr} {sl20 : Array (Option Value)} {oc20 kV20 dc20 pm20 cd20 ct20 : Value}
    {f21 : Addr} {od21 an21 : Option Addr} {sl21 : Array (Option Value)} {oc21 kV21 dc21 pm21 cd21 ct21 : Value}
    {f22 : Addr} {od22 an22 : Option Addr} {sl22 : Array (Option Value)} {oc22 kV22 dc22 pm22 cd22 ct22 : Value}
    {f23 : Addr} {od23 an23 : Option Addr} {sl23 : Array (Option Value)} {oc23 kV23 dc23 pm23 cd23 ct23 : Value}
    {f24 : Addr} {od24 an24 : Option Addr} {sl24 : Array (Option Value)} {oc24 kV24 dc24 pm24 cd24 ct24 : Value}
    {f25 : Addr} {od25 an25 : Option Addr} {sl25 : Array (Option Value)} {oc25 kV25 dc25 pm25 cd25 ct25 : Value}
    {f26 : Addr} {od26 an26 : Option Addr} {sl26 : Array (Option Value)} {oc26 kV26 dc26 pm26 cd26 ct26 : Value}
    {f27 : Addr} {od27 an27 : Option Addr} {sl27 : Array (Option Value)} {oc27 kV27 dc27 pm27 cd27 ct27 : Value}
    {f28 : Addr} {od28 an28 : Option Addr} {sl28 : Array (Option Value)} {oc28 kV28 dc28 pm28 cd28 ct28 : Value}
    {f29 : Addr} {od29 an29 : Option Addr} {sl29 : Array (Option Value)} {oc29 kV29 dc29 pm29 cd29 ct29 : Value}
    {f30 : Addr} {od30 an30 : Option Addr} {sl30 : Array (Option Value)} {oc30 kV30 dc30 pm30 cd30 ct30 : Value}
    {f31 : Addr} {od31 an31 : Option Addr} {sl31 : Array (Option Value)} {oc31 kV31 dc31 pm31 cd31 ct31 : Value}
    {f32 : Addr} {od32 an32 : Option Addr} {sl32 : Array (Option Value)} {oc32 kV32 dc32 pm32 cd32 ct32 : Value}
    {f33 : Addr} {od33 an33 : Option Addr} {sl33 : Array (Option Value)} {oc33 kV33 dc33 pm33 cd33 ct33 : Value}
    {f34 : Addr} {od34 an34 : Option Addr} {sl34 : Array (Option Value)} {oc34 kV34 dc34 pm34 cd34 ct34 : Value}
    {f35 : Addr} {od35 an35 : Option Addr} {sl35 : Array (Option Value)} {oc35 kV35 dc35 pm35 cd35 ct35 : Value}
    {f36 : Addr} {od36 an36 : Option Addr} {sl36 : Array (Option Value)} {oc36 kV36 dc36 pm36 cd36 ct36 : Value}
    {f37 : Addr} {od37 an37 : Option Addr} {sl37 : Array (Option Value)} {oc37 kV37 dc37 pm37 cd37 ct37 : Value}
    {f38 : Addr} {od38 an38 : Option Addr} {sl38 : Array (Option Value)} {oc38 kV38 dc38 pm38 cd38 ct38 : Value}
    {f39 : Addr} {od39 an39 : Option Addr} {sl39 : Array (Option Value)} {oc39 kV39 dc39 pm39 cd39 ct39 : Value}
    {t_HOUSES_friends : Tok}
    {t_HOUSES_recolours : Tok}
    {t_NUMBER : Tok}
    {t_PAIRS : Tok}
    {t_STEPS : Tok}
    (a1 : PySem.W.nsIn K mainGlobals "_law_cup" = some (some (.ref f1))) (l1 : K.lookup f1 = some ⟨oc1, od1, .func (PySem.W.fnOf "_law_cup" "_law_cup" (defArgs s__law_cup) (defBody s__law_cup) (defScope s__law_cup) .none kV1 dc1 pm1 an1 cd1 ct1), sl1⟩) (c1 : PySem.W.codeIn K cd1 "_law_cup" = true) (k1 : PySem.W.keepIn K (.ref f1) = true)
    (a2 : PySem.W.nsIn K mainGlobals "_law_path" = some (some (.ref f2))) (l2 : K.lookup f2 = some ⟨oc2, od2, .func (PySem.W.fnOf "_law_path" "_law_path" (defArgs s__law_path) (defBody s__law_path) (defScope s__law_path) .none kV2 dc2 pm2 an2 cd2 ct2), sl2⟩) (c2 : PySem.W.codeIn K cd2 "_law_path" = true) (k2 : PySem.W.keepIn K (.ref f2) = true)
    (a3 : PySem.W.nsIn K mainGlobals "_law_roll" = some (some (.ref f3))) (l3 : K.lookup f3 = some ⟨oc3, od3, .func (PySem.W.fnOf "_law_roll" "_law_roll" (defArgs s__law_roll) (defBody s__law_roll) (defScope s__law_roll) .none kV3 dc3 pm3 an3 cd3 ct3), sl3⟩) (c3 : PySem.W.codeIn K cd3 "_law_roll" = true) (k3 : PySem.W.keepIn K (.ref f3) = true)
    (a4 : PySem.W.nsIn K mainGlobals "is_ascending" = some (some (.ref f4))) (l4 : K.lookup f4 = some ⟨oc4, od4, .func (PySem.W.fnOf "is_ascending" "is_ascending" (defArgs s_is_ascending) (defBody s_is_ascending) (defScope s_is_ascending) .none kV4 dc4 pm4 an4 cd4 ct4), sl4⟩) (c4 : PySem.W.codeIn K cd4 "is_ascending" = true) (k4 : PySem.W.keepIn K (.ref f4) = true)
    (a5 : PySem.W.nsIn K mainGlobals "is_tuple_of" = some (some (.ref f5))) (l5 : K.lookup f5 = some ⟨oc5, od5, .func (PySem.W.fnOf "is_tuple_of" "is_tuple_of" (defArgs s_is_tuple_of) (defBody s_is_tuple_of) (defScope s_is_tuple_of) .none kV5 dc5 pm5 an5 cd5 ct5), sl5⟩) (c5 : PySem.W.codeIn K cd5 "is_tuple_of" = true) (k5 : PySem.W.keepIn K (.ref f5) = true)
    (a6 : PySem.W.nsIn K mainGlobals "is_whole" = some (some (.ref f6))) (l6 : K.lookup f6 = some ⟨oc6, od6, .func (PySem.W.fnOf "is_whole" "is_whole" (defArgs s_is_whole) (defBody s_is_whole) (defScope s_is_whole) .none kV6 dc6 pm6 an6 cd6 ct6), sl6⟩) (c6 : PySem.W.codeIn K cd6 "is_whole" = true) (k6 : PySem.W.keepIn K (.ref f6) = true)
    (a7 : PySem.W.nsIn K mainGlobals "is_pair_of" = some (some (.ref f7))) (l7 : K.lookup f7 = some ⟨oc7, od7, .func (PySem.W.fnOf "is_pair_of" "is_pair_of" (defArgs s_is_pair_of) (defBody s_is_pair_of) (defScope s_is_pair_of) .none kV7 dc7 pm7 an7 cd7 ct7), sl7⟩) (c7 : PySem.W.codeIn K cd7 "is_pair_of" = true) (k7 : PySem.W.keepIn K (.ref f7) = true)
    (a8 : PySem.W.nsIn K mainGlobals "are_friends" = some (some (.ref f8))) (l8 : K.lookup f8 = some ⟨oc8, od8, .func (PySem.W.fnOf "are_friends" "are_friends" (defArgs s_are_friends) (defBody s_are_friends) (defScope s_are_friends) .none kV8 dc8 pm8 an8 cd8 ct8), sl8⟩) (c8 : PySem.W.codeIn K cd8 "are_friends" = true) (k8 : PySem.W.keepIn K (.ref f8) = true)
    (a9 : PySem.W.nsIn K mainGlobals "need_friends" = some (some (.ref f9))) (l9 : K.lookup f9 = some ⟨oc9, od9, .func (PySem.W.fnOf "need_friends" "need_friends" (defArgs s_need_friends) (defBody s_need_friends) (defScope s_need_friends) .none kV9 dc9 pm9 an9 cd9 ct9), sl9⟩) (c9 : PySem.W.codeIn K cd9 "need_friends" = true) (k9 : PySem.W.keepIn K (.ref f9) = true)
    (a10 : PySem.W.nsIn K mainGlobals "need_few" = some (some (.ref f10))) (l10 : K.lookup f10 = some ⟨oc10, od10, .func (PySem.W.fnOf "need_few" "need_few" (defArgs s_need_few) (defBody s_need_few) (defScope s_need_few) .none kV10 dc10 pm10 an10 cd10 ct10), sl10⟩) (c10 : PySem.W.codeIn K cd10 "need_few" = true) (k10 : PySem.W.keepIn K (.ref f10) = true)
    (a11 : PySem.W.nsIn K mainGlobals "spread" = some (some (.ref f11))) (l11 : K.lookup f11 = some ⟨oc11, od11, .func (PySem.W.fnOf "spread" "spread" (defArgs s_spread) (defBody s_spread) (defScope s_spread) .none kV11 dc11 pm11 an11 cd11 ct11), sl11⟩) (c11 : PySem.W.codeIn K cd11 "spread" = true) (k11 : PySem.W.keepIn K (.ref f11) = true)
    (a12 : PySem.W.nsIn K mainGlobals "beside" = some (some (.ref f12))) (l12 : K.lookup f12 = some ⟨oc12, od12, .func (PySem.W.fnOf "beside" "beside" (defArgs s_beside) (defBody s_beside) (defScope s_beside) .none kV12 dc12 pm12 an12 cd12 ct12), sl12⟩) (c12 : PySem.W.codeIn K cd12 "beside" = true) (k12 : PySem.W.keepIn K (.ref f12) = true)
    (a13 : PySem.W.nsIn K mainGlobals "need_whole_town" = some (some (.ref f13))) (l13 : K.lookup f13 = some ⟨oc13, od13, .func (PySem.W.fnOf "need_whole_town" "need_whole_town" (defArgs s_need_whole_town) (defBody s_need_whole_town) (defScope s_need_whole_town) .none kV13 dc13 pm13 an13 cd13 ct13), sl13⟩) (c13 : PySem.W.codeIn K cd13 "need_whole_town" = true) (k13 : PySem.W.keepIn K (.ref f13) = true)
    (a14 : PySem.W.nsIn K mainGlobals "far" = some (some (.ref f14))) (l14 : K.lookup f14 = some ⟨oc14, od14, .func (PySem.W.fnOf "far" "far" (defArgs s_far) (defBody s_far) (defScope s_far) .none kV14 dc14 pm14 an14 cd14 ct14), sl14⟩) (c14 : PySem.W.codeIn K cd14 "far" = true) (k14 : PySem.W.keepIn K (.ref f14) = true)
    (a15 : PySem.W.nsIn K mainGlobals "most_steps" = some (some (.ref f15))) (l15 : K.lookup f15 = some ⟨oc15, od15, .func (PySem.W.fnOf "most_steps" "most_steps" (defArgs s_most_steps) (defBody s_most_steps) (defScope s_most_steps) .none kV15 dc15 pm15 an15 cd15 ct15), sl15⟩) (c15 : PySem.W.codeIn K cd15 "most_steps" = true) (k15 : PySem.W.keepIn K (.ref f15) = true)
    (a16 : PySem.W.nsIn K mainGlobals "are_wholes" = some (some (.ref f16))) (l16 : K.lookup f16 = some ⟨oc16, od16, .func (PySem.W.fnOf "are_wholes" "are_wholes" (defArgs s_are_wholes) (defBody s_are_wholes) (defScope s_are_wholes) .none kV16 dc16 pm16 an16 cd16 ct16), sl16⟩) (c16 : PySem.W.codeIn K cd16 "are_wholes" = true) (k16 : PySem.W.keepIn K (.ref f16) = true)
    (a17 : PySem.W.nsIn K mainGlobals "need_numbers" = some (some (.ref f17))) (l17 : K.lookup f17 = some ⟨oc17, od17, .func (PySem.W.fnOf "need_numbers" "need_numbers" (defArgs s_need_numbers) (defBody s_need_numbers) (defScope s_need_numbers) .none kV17 dc17 pm17 an17 cd17 ct17), sl17⟩) (c17 : PySem.W.codeIn K cd17 "need_numbers" = true) (k17 : PySem.W.keepIn K (.ref f17) = true)
    (a18 : PySem.W.nsIn K mainGlobals "step" = some (some (.ref f18))) (l18 : K.lookup f18 = some ⟨oc18, od18, .func (PySem.W.fnOf "step" "step" (defArgs s_step) (defBody s_step) (defScope s_step) .none kV18 dc18 pm18 an18 cd18 ct18), sl18⟩) (c18 : PySem.W.codeIn K cd18 "step" = true) (k18 : PySem.W.keepIn K (.ref f18) = true)
    (a19 : PySem.W.nsIn K mainGlobals "rest_in" = some (some (.ref f19))) (l19 : K.lookup f19 = some ⟨oc19, od19, .func (PySem.W.fnOf "rest_in" "rest_in" (defArgs s_rest_in) (defBody s_rest_in) (defScope s_rest_in) .none kV19 dc19 pm19 an19 cd19 ct19), sl19⟩) (c19 : PySem.W.codeIn K cd19 "rest_in" = true) (k19 : PySem.W.keepIn K (.ref f19) = true)
    (a20 : PySem.W.nsIn K mainGlobals "steps_to_rest" = some (some (.ref f20))) (l20 : K.lookup f20 = some ⟨oc20, od20, .func (PySem.W.fnOf "steps_to_rest" "steps_to_rest" (defArgs s_steps_to_rest) (defBody s_steps_to_rest) (defScope s_steps_to_rest) .none kV20 dc20 pm20 an20 cd20 ct20), sl20⟩) (c20 : PySem.W.codeIn K cd20 "steps_to_rest" = true) (k20 : PySem.W.keepIn K (.ref f20) = true)
    (a21 : PySem.W.nsIn K mainGlobals "_law_sort" = some (some (.ref f21))) (l21 : K.lookup f21 = some ⟨oc21, od21, .func (PySem.W.fnOf "_law_sort" "_law_sort" (defArgs s__law_sort) (defBody s__law_sort) (defScope s__law_sort) .none kV21 dc21 pm21 an21 cd21 ct21), sl21⟩) (c21 : PySem.W.codeIn K cd21 "_law_sort" = true) (k21 : PySem.W.keepIn K (.ref f21) = true)
    (a22 : PySem.W.nsIn K mainGlobals "_law_like" = some (some (.ref f22))) (l22 : K.lookup f22 = some ⟨oc22, od22, .func (PySem.W.fnOf "_law_like" "_law_like" (defArgs s__law_like) (defBody s__law_like) (defScope s__law_like) .none kV22 dc22 pm22 an22 cd22 ct22), sl22⟩) (c22 : PySem.W.codeIn K cd22 "_law_like" = true) (k22 : PySem.W.keepIn K (.ref f22) = true)
    (a23 : PySem.W.nsIn K mainGlobals "_law_beside" = some (some (.ref f23))) (l23 : K.lookup f23 = some ⟨oc23, od23, .func (PySem.W.fnOf "_law_beside" "_law_beside" (defArgs s__law_beside) (defBody s__law_beside) (defScope s__law_beside) .none kV23 dc23 pm23 an23 cd23 ct23), sl23⟩) (c23 : PySem.W.codeIn K cd23 "_law_beside" = true) (k23 : PySem.W.keepIn K (.ref f23) = true)
    (a24 : PySem.W.nsIn K mainGlobals "_law_far" = some (some (.ref f24))) (l24 : K.lookup f24 = some ⟨oc24, od24, .func (PySem.W.fnOf "_law_far" "_law_far" (defArgs s__law_far) (defBody s__law_far) (defScope s__law_far) .none kV24 dc24 pm24 an24 cd24 ct24), sl24⟩) (c24 : PySem.W.codeIn K cd24 "_law_far" = true) (k24 : PySem.W.keepIn K (.ref f24) = true)
    (a25 : PySem.W.nsIn K mainGlobals "late_numbers" = some (some (.ref f25))) (l25 : K.lookup f25 = some ⟨oc25, od25, .func (PySem.W.fnOf "late_numbers" "late_numbers" (defArgs s_late_numbers) (defBody s_late_numbers) (defScope s_late_numbers) .none kV25 dc25 pm25 an25 cd25 ct25), sl25⟩) (c25 : PySem.W.codeIn K cd25 "late_numbers" = true) (k25 : PySem.W.keepIn K (.ref f25) = true)
    (a26 : PySem.W.nsIn K mainGlobals "_law_some" = some (some (.ref f26))) (l26 : K.lookup f26 = some ⟨oc26, od26, .func (PySem.W.fnOf "_law_some" "_law_some" (defArgs s__law_some) (defBody s__law_some) (defScope s__law_some) .none kV26 dc26 pm26 an26 cd26 ct26), sl26⟩) (c26 : PySem.W.codeIn K cd26 "_law_some" = true) (k26 : PySem.W.keepIn K (.ref f26) = true)
    (a27 : PySem.W.nsIn K mainGlobals "_law_hopped" = some (some (.ref f27))) (l27 : K.lookup f27 = some ⟨oc27, od27, .func (PySem.W.fnOf "_law_hopped" "_law_hopped" (defArgs s__law_hopped) (defBody s__law_hopped) (defScope s__law_hopped) .none kV27 dc27 pm27 an27 cd27 ct27), sl27⟩) (c27 : PySem.W.codeIn K cd27 "_law_hopped" = true) (k27 : PySem.W.keepIn K (.ref f27) = true)
    (a28 : PySem.W.nsIn K mainGlobals "stepped" = some (some (.ref f28))) (l28 : K.lookup f28 = some ⟨oc28, od28, .func (PySem.W.fnOf "stepped" "stepped" (defArgs s_stepped) (defBody s_stepped) (defScope s_stepped) .none kV28 dc28 pm28 an28 cd28 ct28), sl28⟩) (c28 : PySem.W.codeIn K cd28 "stepped" = true) (k28 : PySem.W.keepIn K (.ref f28) = true)
    (a29 : PySem.W.nsIn K mainGlobals "need_whole" = some (some (.ref f29))) (l29 : K.lookup f29 = some ⟨oc29, od29, .func (PySem.W.fnOf "need_whole" "need_whole" (defArgs s_need_whole) (defBody s_need_whole) (defScope s_need_whole) .none kV29 dc29 pm29 an29 cd29 ct29), sl29⟩) (c29 : PySem.W.codeIn K cd29 "need_whole" = true) (k29 : PySem.W.keepIn K (.ref f29) = true)
    (a30 : PySem.W.nsIn K mainGlobals "behind_steps" = some (some (.ref f30))) (l30 : K.lookup f30 = some ⟨oc30, od30, .func (PySem.W.fnOf "behind_steps" "behind_steps" (defArgs s_behind_steps) (defBody s_behind_steps) (defScope s_behind_steps) .none kV30 dc30 pm30 an30 cd30 ct30), sl30⟩) (c30 : PySem.W.codeIn K cd30 "behind_steps" = true) (k30 : PySem.W.keepIn K (.ref f30) = true)
    (a31 : PySem.W.nsIn K mainGlobals "distances" = some (some (.ref f31))) (l31 : K.lookup f31 = some ⟨oc31, od31, .func (PySem.W.fnOf "distances" "distances" (defArgs s_distances) (defBody s_distances) (defScope s_distances) .none kV31 dc31 pm31 an31 cd31 ct31), sl31⟩) (c31 : PySem.W.codeIn K cd31 "distances" = true) (k31 : PySem.W.keepIn K (.ref f31) = true)
    (a32 : PySem.W.nsIn K mainGlobals "_law_whole" = some (some (.ref f32))) (l32 : K.lookup f32 = some ⟨oc32, od32, .func (PySem.W.fnOf "_law_whole" "_law_whole" (defArgs s__law_whole) (defBody s__law_whole) (defScope s__law_whole) .none kV32 dc32 pm32 an32 cd32 ct32), sl32⟩) (c32 : PySem.W.codeIn K cd32 "_law_whole" = true) (k32 : PySem.W.keepIn K (.ref f32) = true)
    (a33 : PySem.W.nsIn K mainGlobals "_law_right" = some (some (.ref f33))) (l33 : K.lookup f33 = some ⟨oc33, od33, .func (PySem.W.fnOf "_law_right" "_law_right" (defArgs s__law_right) (defBody s__law_right) (defScope s__law_right) .none kV33 dc33 pm33 an33 cd33 ct33), sl33⟩) (c33 : PySem.W.codeIn K cd33 "_law_right" = true) (k33 : PySem.W.keepIn K (.ref f33) = true)
    (a34 : PySem.W.nsIn K mainGlobals "_law_ring" = some (some (.ref f34))) (l34 : K.lookup f34 = some ⟨oc34, od34, .func (PySem.W.fnOf "_law_ring" "_law_ring" (defArgs s__law_ring) (defBody s__law_ring) (defScope s__law_ring) .none kV34 dc34 pm34 an34 cd34 ct34), sl34⟩) (c34 : PySem.W.codeIn K cd34 "_law_ring" = true) (k34 : PySem.W.keepIn K (.ref f34) = true)
    (a35 : PySem.W.nsIn K mainGlobals "_law_star" = some (some (.ref f35))) (l35 : K.lookup f35 = some ⟨oc35, od35, .func (PySem.W.fnOf "_law_star" "_law_star" (defArgs s__law_star) (defBody s__law_star) (defScope s__law_star) .none kV35 dc35 pm35 an35 cd35 ct35), sl35⟩) (c35 : PySem.W.codeIn K cd35 "_law_star" = true) (k35 : PySem.W.keepIn K (.ref f35) = true)
    (a36 : PySem.W.nsIn K mainGlobals "_law_friends" = some (some (.ref f36))) (l36 : K.lookup f36 = some ⟨oc36, od36, .func (PySem.W.fnOf "_law_friends" "_law_friends" (defArgs s__law_friends) (defBody s__law_friends) (defScope s__law_friends) .none kV36 dc36 pm36 an36 cd36 ct36), sl36⟩) (c36 : PySem.W.codeIn K cd36 "_law_friends" = true) (k36 : PySem.W.keepIn K (.ref f36) = true)
    (a37 : PySem.W.nsIn K mainGlobals "_law_great_right" = some (some (.ref f37))) (l37 : K.lookup f37 = some ⟨oc37, od37, .func (PySem.W.fnOf "_law_great_right" "_law_great_right" (defArgs s__law_great_right) (defBody s__law_great_right) (defScope s__law_great_right) .none kV37 dc37 pm37 an37 cd37 ct37), sl37⟩) (c37 : PySem.W.codeIn K cd37 "_law_great_right" = true) (k37 : PySem.W.keepIn K (.ref f37) = true)
    (a38 : PySem.W.nsIn K mainGlobals "_law_written_right" = some (some (.ref f38))) (l38 : K.lookup f38 = some ⟨oc38, od38, .func (PySem.W.fnOf "_law_written_right" "_law_written_right" (defArgs s__law_written_right) (defBody s__law_written_right) (defScope s__law_written_right) .none kV38 dc38 pm38 an38 cd38 ct38), sl38⟩) (c38 : PySem.W.codeIn K cd38 "_law_written_right" = true) (k38 : PySem.W.keepIn K (.ref f38) = true)
    (a39 : PySem.W.nsIn K mainGlobals "law" = some (some (.ref f39))) (l39 : K.lookup f39 = some ⟨oc39, od39, .func (PySem.W.fnOf "law" "law" (defArgs s_law) (defBody s_law) (defScope s_law) .none kV39 dc39 pm39 an39 cd39 ct39), sl39⟩) (c39 : PySem.W.codeIn K cd39 "law" = true) (k39 : PySem.W.keepIn K (.ref f39) = true)
    (y_HOUSES_friends : PySem.W.nsIn K mainGlobals "HOUSES_friends" = some (some (.int 60 t_HOUSES_friends)))
    (y_HOUSES_recolours : PySem.W.nsIn K mainGlobals "HOUSES_recolours" = some (some (.int 40 t_HOUSES_recolours)))
    (y_NUMBER : PySem.W.nsIn K mainGlobals "NUMBER" = some (some (.int 1000000 t_NUMBER)))
    (y_PAIRS : PySem.W.nsIn K mainGlobals "PAIRS" = some (some (.int 400 t_PAIRS)))
    (y_STEPS : PySem.W.nsIn K mainGlobals "STEPS" = some (some (.int 1000000000000000000 t_STEPS)))
    (z_abs : PySem.W.nsIn K mainGlobals "abs" = some none)
    (z_all : PySem.W.nsIn K mainGlobals "all" = some none)
    (z_bool : PySem.W.nsIn K mainGlobals "bool" = some none)
    (z_int : PySem.W.nsIn K mainGlobals "int" = some none)
    (z_isinstance : PySem.W.nsIn K mainGlobals "isinstance" = some none)
    (z_len : PySem.W.nsIn K mainGlobals "len" = some none)
    (z_list : PySem.W.nsIn K mainGlobals "list" = some none)
    (z_max : PySem.W.nsIn K mainGlobals "max" = some none)
    (z_min : PySem.W.nsIn K mainGlobals "min" = some none)
    (z_range : PySem.W.nsIn K mainGlobals "range" = some none)
    (z_sorted : PySem.W.nsIn K mainGlobals "sorted" = some none)
    (z_str : PySem.W.nsIn K mainGlobals "str" = some none)
    (z_tuple : PySem.W.nsIn K mainGlobals "tuple" = some none)
    (z_zip : PySem.W.nsIn K mainGlobals "zip" = some none)
    (law : ∀ ns : List Int, ns.length ≤ 63 → ∃ S, m_law [.scr ns] [] = .ok (.bl true) S) :
    ∃ fd : FuncData, (∀ (s : Shared) (v : Value), BindsTo s fd ⟨[v], []⟩ [("script", v)]) ∧ ∀ base : Heap, K.In base → base.Ns mainGlobals mg → FnOk l.prog w K mg base (L2.CX l.prog w) 11 fa fd ["script"] (spLaw K) := by
  have e := hfa.symm.trans (PySem.W.mg_of X G a39)
  cases e
  let GG : GP := ⟨faOf [("_law_cup", f1), ("_law_path", f2), ("_law_roll", f3), ("is_ascending", f4), ("is_tuple_of", f5), ("is_whole", f6), ("is_pair_of", f7), ("are_friends", f8), ("need_friends", f9), ("need_few", f10), ("spread", f11), ("beside", f12), ("need_whole_town", f13), ("far", f14), ("most_steps", f15), ("are_wholes", f16), ("need_numbers", f17), ("step", f18), ("rest_in", f19), ("steps_to_rest", f20), ("_law_sort", f21), ("_law_like", f22), ("_law_beside", f23), ("_law_far", f24), ("late_numbers", f25), ("_law_some", f26), ("_law_hopped", f27), ("stepped", f28), ("need_whole", f29), ("behind_steps", f30), ("distances", f31), ("_law_whole", f32), ("_law_right", f33), ("_law_ring", f34), ("_law_star", f35), ("_law_friends", f36), ("_law_great_right", f37), ("_law_written_right", f38), ("law", fa)], fun _ => 0, K⟩
  let ff : String → FuncData := fun n => if n = "_law_cup" then PySem.W.fnOf "_law_cup" "_law_cup" (defArgs s__law_cup) (defBody s__law_cup) (defScope s__law_cup) .none kV1 dc1 pm1 an1 cd1 ct1 else if n = "_law_path" then PySem.W.fnOf "_law_path" "_law_path" (defArgs s__law_path) (defBody s__law_path) (defScope s__law_path) .none kV2 dc2 pm2 an2 cd2 ct2 else if n = "_law_roll" then PySem.W.fnOf "_law_roll" "_law_roll" (defArgs s__law_roll) (defBody s__law_roll) (defScope s__law_roll) .none kV3 dc3 pm3 an3 cd3 ct3 else if n = "is_ascending" then PySem.W.fnOf "is_ascending" "is_ascending" (defArgs s_is_ascending) (defBody s_is_ascending) (defScope s_is_ascending) .none kV4 dc4 pm4 an4 cd4 ct4 else if n = "is_tuple_of" then PySem.W.fnOf "is_tuple_of" "is_tuple_of" (defArgs s_is_tuple_of) (defBody s_is_tuple_of) (defScope s_is_tuple_of) .none kV5 dc5 pm5 an5 cd5 ct5 else if n = "is_whole" then PySem.W.fnOf "is_whole" "is_whole" (defArgs s_is_whole) (defBody s_is_whole) (defScope s_is_whole) .none kV6 dc6 pm6 an6 cd6 ct6 else if n = "is_pair_of" then PySem.W.fnOf "is_pair_of" "is_pair_of" (defArgs s_is_pair_of) (defBody s_is_pair_of) (defScope s_is_pair_of) .none kV7 dc7 pm7 an7 cd7 ct7 else if n = "are_friends" then PySem.W.fnOf "are_friends" "are_friends" (defArgs s_are_friends) (defBody s_are_friends) (defScope s_are_friends) .none kV8 dc8 pm8 an8 cd8 ct8 else if n = "need_friends" then PySem.W.fnOf "need_friends" "need_friends" (defArgs s_need_friends) (defBody s_need_friends) (defScope s_need_friends) .none kV9 dc9 pm9 an9 cd9 ct9 else if n = "need_few" then PySem.W.fnOf "need_few" "need_few" (defArgs s_need_few) (defBody s_need_few) (defScope s_need_few) .none kV10 dc10 pm10 an10 cd10 ct10 else if n = "spread" then PySem.W.fnOf "spread" "spread" (defArgs s_spread) (defBody s_spread) (defScope s_spread) .none kV11 dc11 pm11 an11 cd11 ct11 else if n = "beside" then PySem.W.fnOf "beside" "beside" (defArgs s_beside) (defBody s_beside) (defScope s_beside) .none kV12 dc12 pm12 an12 cd12 ct12 else if n = "need_whole_town" then PySem.W.fnOf "need_whole_town" "need_whole_town" (defArgs s_need_whole_town) (defBody s_need_whole_town) (defScope s_need_whole_town) .none kV13 dc13 pm13 an13 cd13 ct13 else if n = "far" then PySem.W.fnOf "far" "far" (defArgs s_far) (defBody s_far) (defScope s_far) .none kV14 dc14 pm14 an14 cd14 ct14 else if n = "most_steps" then PySem.W.fnOf "most_steps" "most_steps" (defArgs s_most_steps) (defBody s_most_steps) (defScope s_most_steps) .none kV15 dc15 pm15 an15 cd15 ct15 else if n = "are_wholes" then PySem.W.fnOf "are_wholes" "are_wholes" (defArgs s_are_wholes) (defBody s_are_wholes) (defScope s_are_wholes) .none kV16 dc16 pm16 an16 cd16 ct16 else if n = "need_numbers" then PySem.W.fnOf "need_numbers" "need_numbers" (defArgs s_need_numbers) (defBody s_need_numbers) (defScope s_need_numbers) .none kV17 dc17 pm17 an17 cd17 ct17 else if n = "step" then PySem.W.fnOf "step" "step" (defArgs s_step) (defBody s_step) (defScope s_step) .none kV18 dc18 pm18 an18 cd18 ct18 else if n = "rest_in" then PySem.W.fnOf "rest_in" "rest_in" (defArgs s_rest_in) (defBody s_rest_in) (defScope s_rest_in) .none kV19 dc19 pm19 an19 cd19 ct19 else if n = "steps_to_rest" then PySem.W.fnOf "steps_to_rest" "steps_to_rest" (defArgs s_steps_to_rest) (defBody s_steps_to_rest) (defScope s_steps_to_rest) .none kV20 dc20 pm20 an20 cd20 ct20 else if n = "_law_sort" then PySem.W.fnOf "_law_sort" "_law_sort" (defArgs s__law_sort) (defBody s__law_sort) (defScope s__law_sort) .none kV21 dc21 pm21 an21 cd21 ct21 else if n = "_law_like" then PySem.W.fnOf "_law_like" "_law_like" (defArgs s__law_like) (defBody s__law_like) (defScope s__law_like) .none kV22 dc22 pm22 an22 cd22 ct22 else if n = "_law_beside" then PySem.W.fnOf "_law_beside" "_law_beside" (defArgs s__law_beside) (defBody s__law_beside) (defScope s__law_beside) .none kV23 dc23 pm23 an23 cd23 ct23 else if n = "_law_far" then PySem.W.fnOf "_law_far" "_law_far" (defArgs s__law_far) (defBody s__law_far) (defScope s__law_far) .none kV24 dc24 pm24 an24 cd24 ct24 else if n = "late_numbers" then PySem.W.fnOf "late_numbers" "late_numbers" (defArgs s_late_numbers) (defBody s_late_numbers) (defScope s_late_numbers) .none kV25 dc25 pm25 an25 cd25 ct25 else if n = "_law_some" then PySem.W.fnOf "_law_some" "_law_some" (defArgs s__law_some) (defBody s__law_some) (defScope s__law_some) .none kV26 dc26 pm26 an26 cd26 ct26 else if n = "_law_hopped" then PySem.W.fnOf "_law_hopped" "_law_hopped" (defArgs s__law_hopped) (defBody s__law_hopped) (defScope s__law_hopped) .none kV27 dc27 pm27 an27 cd27 ct27 else if n = "stepped" then PySem.W.fnOf "stepped" "stepped" (defArgs s_stepped) (defBody s_stepped) (defScope s_stepped) .none kV28 dc28 pm28 an28 cd28 ct28 else if n = "need_whole" then PySem.W.fnOf "need_whole" "need_whole" (defArgs s_need_whole) (defBody s_need_whole) (defScope s_need_whole) .none kV29 dc29 pm29 an29 cd29 ct29 else if n = "behind_steps" then PySem.W.fnOf "behind_steps" "behind_steps" (defArgs s_behind_steps) (defBody s_behind_steps) (defScope s_behind_steps) .none kV30 dc30 pm30 an30 cd30 ct30 else if n = "distances" then PySem.W.fnOf "distances" "distances" (defArgs s_distances) (defBody s_distances) (defScope s_distances) .none kV31 dc31 pm31 an31 cd31 ct31 else if n = "_law_whole" then PySem.W.fnOf "_law_whole" "_law_whole" (defArgs s__law_whole) (defBody s__law_whole) (defScope s__law_whole) .none kV32 dc32 pm32 an32 cd32 ct32 else if n = "_law_right" then PySem.W.fnOf "_law_right" "_law_right" (defArgs s__law_right) (defBody s__law_right) (defScope s__law_right) .none kV33 dc33 pm33 an33 cd33 ct33 else if n = "_law_ring" then PySem.W.fnOf "_law_ring" "_law_ring" (defArgs s__law_ring) (defBody s__law_ring) (defScope s__law_ring) .none kV34 dc34 pm34 an34 cd34 ct34 else if n = "_law_star" then PySem.W.fnOf "_law_star" "_law_star" (defArgs s__law_star) (defBody s__law_star) (defScope s__law_star) .none kV35 dc35 pm35 an35 cd35 ct35 else if n = "_law_friends" then PySem.W.fnOf "_law_friends" "_law_friends" (defArgs s__law_friends) (defBody s__law_friends) (defScope s__law_friends) .none kV36 dc36 pm36 an36 cd36 ct36 else if n = "_law_great_right" then PySem.W.fnOf "_law_great_right" "_law_great_right" (defArgs s__law_great_right) (defBody s__law_great_right) (defScope s__law_great_right) .none kV37 dc37 pm37 an37 cd37 ct37 else if n = "_law_written_right" then PySem.W.fnOf "_law_written_right" "_law_written_right" (defArgs s__law_written_right) (defBody s__law_written_right) (defScope s__law_written_right) .none kV38 dc38 pm38 an38 cd38 ct38 else if n = "law" then PySem.W.fnOf "law" "law" (defArgs s_law) (defBody s_law) (defScope s_law) .none kV39 dc39 pm39 an39 cd39 ct39 else PySem.W.fnOf "" "" (defArgs s_law) (defBody s_law) (defScope s_law) .none kV39 dc39 pm39 an39 cd39 ct39
  have T : Top K mg GG ff := {
    gk := rfl
    F__law_cup := fun_mk (st := s__law_cup) l1 c1 k1
    M__law_cup := PySem.W.mg_of X G a1
    F__law_path := fun_mk (st := s__law_path) l2 c2 k2
    M__law_path := PySem.W.mg_of X G a2
    F__law_roll := fun_mk (st := s__law_roll) l3 c3 k3
    M__law_roll := PySem.W.mg_of X G a3
    F_is_ascending := fun_mk (st := s_is_ascending) l4 c4 k4
    M_is_ascending := PySem.W.mg_of X G a4
    F_is_tuple_of := fun_mk (st := s_is_tuple_of) l5 c5 k5
    M_is_tuple_of := PySem.W.mg_of X G a5
    F_is_whole := fun_mk (st := s_is_whole) l6 c6 k6
    M_is_whole := PySem.W.mg_of X G a6
    F_is_pair_of := fun_mk (st := s_is_pair_of) l7 c7 k7
    M_is_pair_of := PySem.W.mg_of X G a7
    F_are_friends := fun_mk (st := s_are_friends) l8 c8 k8
    M_are_friends := PySem.W.mg_of X G a8
    F_need_friends := fun_mk (st := s_need_friends) l9 c9 k9
    M_need_friends := PySem.W.mg_of X G a9
    F_need_few := fun_mk (st := s_need_few) l10 c10 k10
    M_need_few := PySem.W.mg_of X G a10
    F_spread := fun_mk (st := s_spread) l11 c11 k11
    M_spread := PySem.W.mg_of X G a11
    F_beside := fun_mk (st := s_beside) l12 c12 k12
    M_beside := PySem.W.mg_of X G a12
    F_need_whole_town := fun_mk (st := s_need_whole_town) l13 c13 k13
    M_need_whole_town := PySem.W.mg_of X G a13
    F_far := fun_mk (st := s_far) l14 c14 k14
    M_far := PySem.W.mg_of X G a14
    F_most_steps := fun_mk (st := s_most_steps) l15 c15 k15
    M_most_steps := PySem.W.mg_of X G a15
    F_are_wholes := fun_mk (st := s_are_wholes) l16 c16 k16
    M_are_wholes := PySem.W.mg_of X G a16
    F_need_numbers := fun_mk (st := s_need_numbers) l17 c17 k17
    M_need_numbers := PySem.W.mg_of X G a17
    F_step := fun_mk (st := s_step) l18 c18 k18
    M_step := PySem.W.mg_of X G a18
    F_rest_in := fun_mk (st := s_rest_in) l19 c19 k19
    M_rest_in := PySem.W.mg_of X G a19
    F_steps_to_rest := fun_mk (st := s_steps_to_rest) l20 c20 k20
    M_steps_to_rest := PySem.W.mg_of X G a20
    F__law_sort := fun_mk (st := s__law_sort) l21 c21 k21
    M__law_sort := PySem.W.mg_of X G a21
    F__law_like := fun_mk (st := s__law_like) l22 c22 k22
    M__law_like := PySem.W.mg_of X G a22
    F__law_beside := fun_mk (st := s__law_beside) l23 c23 k23
    M__law_beside := PySem.W.mg_of X G a23
    F__law_far := fun_mk (st := s__law_far) l24 c24 k24
    M__law_far := PySem.W.mg_of X G a24
    F_late_numbers := fun_mk (st := s_late_numbers) l25 c25 k25
    M_late_numbers := PySem.W.mg_of X G a25
    F__law_some := fun_mk (st := s__law_some) l26 c26 k26
    M__law_some := PySem.W.mg_of X G a26
    F__law_hopped := fun_mk (st := s__law_hopped) l27 c27 k27
    M__law_hopped := PySem.W.mg_of X G a27
    F_stepped := fun_mk (st := s_stepped) l28 c28 k28
    M_stepped := PySem.W.mg_of X G a28
    F_need_whole := fun_mk (st := s_need_whole) l29 c29 k29
    M_need_whole := PySem.W.mg_of X G a29
    F_behind_steps := fun_mk (st := s_behind_steps) l30 c30 k30
    M_behind_steps := PySem.W.mg_of X G a30
    F_distances := fun_mk (st := s_distances) l31 c31 k31
    M_distances := PySem.W.mg_of X G a31
    F__law_whole := fun_mk (st := s__law_whole) l32 c32 k32
    M__law_whole := PySem.W.mg_of X G a32
    F__law_right := fun_mk (st := s__law_right) l33 c33 k33
    M__law_right := PySem.W.mg_of X G a33
    F__law_ring := fun_mk (st := s__law_ring) l34 c34 k34
    M__law_ring := PySem.W.mg_of X G a34
    F__law_star := fun_mk (st := s__law_star) l35 c35 k35
    M__law_star := PySem.W.mg_of X G a35
    F__law_friends := fun_mk (st := s__law_friends) l36 c36 k36
    M__law_friends := PySem.W.mg_of X G a36
    F__law_great_right := fun_mk (st := s__law_great_right) l37 c37 k37
    M__law_great_right := PySem.W.mg_of X G a37
    F__law_written_right := fun_mk (st := s__law_written_right) l38 c38 k38
    M__law_written_right := PySem.W.mg_of X G a38
    F_law := fun_mk (st := s_law) l39 c39 k39
    M_law := PySem.W.mg_of X G a39
    c_HOUSES_friends := ⟨_, PySem.W.mg_of X G y_HOUSES_friends⟩
    c_HOUSES_recolours := ⟨_, PySem.W.mg_of X G y_HOUSES_recolours⟩
    c_NUMBER := ⟨_, PySem.W.mg_of X G y_NUMBER⟩
    c_PAIRS := ⟨_, PySem.W.mg_of X G y_PAIRS⟩
    c_STEPS := ⟨_, PySem.W.mg_of X G y_STEPS⟩
    z_abs := PySem.W.mg_none_of X G z_abs
    z_all := PySem.W.mg_none_of X G z_all
    z_bool := PySem.W.mg_none_of X G z_bool
    z_int := PySem.W.mg_none_of X G z_int
    z_isinstance := PySem.W.mg_none_of X G z_isinstance
    z_len := PySem.W.mg_none_of X G z_len
    z_list := PySem.W.mg_none_of X G z_list
    z_max := PySem.W.mg_none_of X G z_max
    z_min := PySem.W.mg_none_of X G z_min
    z_range := PySem.W.mg_none_of X G z_range
    z_sorted := PySem.W.mg_none_of X G z_sorted
    z_str := PySem.W.mg_none_of X G z_str
    z_tuple := PySem.W.mg_none_of X G z_tuple
    z_zip := PySem.W.mg_none_of X G z_zip }
  exact ⟨ff "law", fun s v => .of_eq rfl, fun base _ _ => (ok_law T).imp (sp_imp (G := GG) m_law law)⟩
theorem walk {l : PySem.W.OpenLaw} {q : Program} {loose : List Str} {XP : (Str → Option Value) → Heap → Prop} {YP : World → Heap → Prop} {d : DefRec} {K : Params → PySem.W.Frag} (hn : l.most = some 63) (hdf : d.params.defaults = [])
    (hY : ∀ (w : World) (h : Heap), YP w h → (K w.params).In h)
    (F : ∀ (w : World) (mg : Str → Option Value) (fa : Addr) (h : Heap), (K w.params).In h → h.Ns mainGlobals mg → mg d.name = some (.ref fa) →
      ∃ fd : FuncData, (∀ (s : Shared) (u : Value), BindsTo s fd ⟨[u], []⟩ [("script", u)]) ∧ ∀ base : Heap, (K w.params).In base → base.Ns mainGlobals mg → FnOk l.prog w (K w.params) mg base (L2.CX l.prog w) 11 fa fd ["script"] (spLaw (K w.params))) :
    PySem.W.WalkO q loose XP YP l.row.toRowW d [] (fun f vs => PySem.call f vs) :=
  L2.walk_of (n := 63) (k := 11) (x := "script") (CX := fun w => L2.CX l.prog w) (sp := fun w => spLaw (K w.params)) hn (by decide) hdf ⟨rfl, by decide, by decide⟩ hY F (fun _ _ a ns hl _ hS => ⟨a, ns, rfl, hS, hl, fun _ => rfl⟩) fun _ _ _ _ _ z => by
    obtain ⟨_, _, _, _, _, _, _, _, _, _, _, _, z⟩ := z
    exact z.elim
end K50
end QP
open PySem PySem.W PyProof.Rows
set_option maxRecDepth 100000 in
set_option maxHeartbeats 0 in
theorem PySem.Challenge.cw_messengers_k50_whole_hop_numbers_holds : PySem.Challenge.rw_messengers_k50_whole_hop_numbers.Holds := by
  w_on; o_law; k_head; (case hw => w_witness2)
  k_fill
  refine QP.K50.walk (l := PySem.Challenge.rw_messengers_k50_whole_hop_numbers) rfl rfl (fun w h Y => PySem.W.kIn_of Y) ?F
  case F =>
    intro w mg fa h KX G hmg
    refine' QP.K50.all_mk KX G hmg ?a1 ?l1 ?c1 ?k1 ?a2 ?l2 ?c2 ?k2 ?a3 ?l3 ?c3 ?k3 ?a4 ?l4 ?c4 ?k4 ?a5 ?l5 ?c5 ?k5 ?a6 ?l6 ?c6 ?k6 ?a7 ?l7 ?c7 ?k7 ?a8 ?l8 ?c8 ?k8 ?a9 ?l9 ?c9 ?k9 ?a10 ?l10 ?c10 ?k10 ?a11 ?l11 ?c11 ?k11 ?a12 ?l12 ?c12 ?k12 ?a13 ?l13 ?c13 ?k13 ?a14 ?l14 ?c14 ?k14 ?a15 ?l15 ?c15 ?k15 ?a16 ?l16 ?c16 ?k16 ?a17 ?l17 ?c17 ?k17 ?a18 ?l18 ?c18 ?k18 ?a19 ?l19 ?c19 ?k19 ?a20 ?l20 ?c20 ?k20 ?a21 ?l21 ?c21 ?k21 ?a22 ?l22 ?c22 ?k22 ?a23 ?l23 ?c23 ?k23 ?a24 ?l24 ?c24 ?k24 ?a25 ?l25 ?c25 ?k25 ?a26 ?l26 ?c26 ?k26 ?a27 ?l27 ?c27 ?k27 ?a28 ?l28 ?c28 ?k28 ?a29 ?l29 ?c29 ?k29 ?a30 ?l30 ?c30 ?k30 ?a31 ?l31 ?c31 ?k31 ?a32 ?l32 ?c32 ?k32 ?a33 ?l33 ?c33 ?k33 ?a34 ?l34 ?c34 ?k34 ?a35 ?l35 ?c35 ?k35 ?a36 ?l36 ?c36 ?k36 ?a37 ?l37 ?c37 ?k37 ?a38 ?l38 ?c38 ?k38 ?a39 ?l39 ?c39 ?k39 ?y_HOUSES_friends ?y_HOUSES_recolours ?y_NUMBER ?y_PAIRS ?y_STEPS ?z_abs ?z_all ?z_bool ?z_int ?z_isinstance ?z_len ?z_list ?z_max ?z_min ?z_range ?z_sorted ?z_str ?z_tuple ?z_zip QP.K50.law_true
    (case a1 => k_is)
    (case l1 => k_is)
    (case c1 => k_is)
    (case k1 => k_is)
    (case a2 => k_is)
    (case l2 => k_is)
    (case c2 => k_is)
    (case k2 => k_is)
    (case a3 => k_is)
    (case l3 => k_is)
    (case c3 => k_is)
    (case k3 => k_is)
    (case a4 => k_is)
    (case l4 => k_is)
    (case c4 => k_is)
    (case k4 => k_is)
    (case a5 => k_is)
    (case l5 => k_is)
    (case c5 => k_is)
    (case k5 => k_is)
    (case a6 => k_is)
    (case l6 => k_is)
    (case c6 => k_is)
    (case k6 => k_is)
    (case a7 => k_is)
    (case l7 => k_is)
    (case c7 => k_is)
    (case k7 => k_is)
    (case a8 => k_is)
    (case l8 => k_is)
    (case c8 => k_is)
    (case k8 => k_is)
    (case a9 => k_is)
    (case l9 => k_is)
    (case c9 => k_is)
    (case k9 => k_is)
    (case a10 => k_is)
    (case l10 => k_is)
    (case c10 => k_is)
    (case k10 => k_is)
    (case a11 => k_is)
    (case l11 => k_is)
    (case c11 => k_is)
    (case k11 => k_is)
    (case a12 => k_is)
    (case l12 => k_is)
    (case c12 => k_is)
    (case k12 => k_is)
    (case a13 => k_is)
    (case l13 => k_is)
    (case c13 => k_is)
    (case k13 => k_is)
    (case a14 => k_is)
    (case l14 => k_is)
    (case c14 => k_is)
    (case k14 => k_is)
    (case a15 => k_is)
    (case l15 => k_is)
    (case c15 => k_is)
    (case k15 => k_is)
    (case a16 => k_is)
    (case l16 => k_is)
    (case c16 => k_is)
    (case k16 => k_is)
    (case a17 => k_is)
    (case l17 => k_is)
    (case c17 => k_is)
    (case k17 => k_is)
    (case a18 => k_is)
    (case l18 => k_is)
    (case c18 => k_is)
    (case k18 => k_is)
    (case a19 => k_is)
    (case l19 => k_is)
    (case c19 => k_is)
    (case k19 => k_is)
    (case a20 => k_is)
    (case l20 => k_is)
    (case c20 => k_is)
    (case k20 => k_is)
    (case a21 => k_is)
    (case l21 => k_is)
    (case c21 => k_is)
    (case k21 => k_is)
    (case a22 => k_is)
    (case l22 => k_is)
    (case c22 => k_is)
    (case k22 => k_is)
    (case a23 => k_is)
    (case l23 => k_is)
    (case c23 => k_is)
    (case k23 => k_is)
    (case a24 => k_is)
    (case l24 => k_is)
    (case c24 => k_is)
    (case k24 => k_is)
    (case a25 => k_is)
    (case l25 => k_is)
    (case c25 => k_is)
    (case k25 => k_is)
    (case a26 => k_is)
    (case l26 => k_is)
    (case c26 => k_is)
    (case k26 => k_is)
    (case a27 => k_is)
    (case l27 => k_is)
    (case c27 => k_is)
    (case k27 => k_is)
    (case a28 => k_is)
    (case l28 => k_is)
    (case c28 => k_is)
    (case k28 => k_is)
    (case a29 => k_is)
    (case l29 => k_is)
    (case c29 => k_is)
    (case k29 => k_is)
    (case a30 => k_is)
    (case l30 => k_is)
    (case c30 => k_is)
    (case k30 => k_is)
    (case a31 => k_is)
    (case l31 => k_is)
    (case c31 => k_is)
    (case k31 => k_is)
    (case a32 => k_is)
    (case l32 => k_is)
    (case c32 => k_is)
    (case k32 => k_is)
    (case a33 => k_is)
    (case l33 => k_is)
    (case c33 => k_is)
    (case k33 => k_is)
    (case a34 => k_is)
    (case l34 => k_is)
    (case c34 => k_is)
    (case k34 => k_is)
    (case a35 => k_is)
    (case l35 => k_is)
    (case c35 => k_is)
    (case k35 => k_is)
    (case a36 => k_is)
    (case l36 => k_is)
    (case c36 => k_is)
    (case k36 => k_is)
    (case a37 => k_is)
    (case l37 => k_is)
    (case c37 => k_is)
    (case k37 => k_is)
    (case a38 => k_is)
    (case l38 => k_is)
    (case c38 => k_is)
    (case k38 => k_is)
    (case a39 => k_is)
    (case l39 => k_is)
    (case c39 => k_is)
    (case k39 => k_is)
    (case y_HOUSES_friends => k_is)
    (case y_HOUSES_recolours => k_is)
    (case y_NUMBER => k_is)
    (case y_PAIRS => k_is)
    (case y_STEPS => k_is)
    (case z_abs => k_is)
    (case z_all => k_is)
    (case z_bool => k_is)
    (case z_int => k_is)
    (case z_isinstance => k_is)
    (case z_len => k_is)
    (case z_list => k_is)
    (case z_max => k_is)
    (case z_min => k_is)
    (case z_range => k_is)
    (case z_sorted => k_is)
    (case z_str => k_is)
    (case z_tuple => k_is)
    (case z_zip => k_is)
#print axioms PySem.Challenge.cw_messengers_k50_whole_hop_numbers_holds

