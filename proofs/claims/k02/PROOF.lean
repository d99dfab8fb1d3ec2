import PyProof.Rows.All
import HandS.ForMost
import HandS.ForExc
import HandS.IsInst
import HandS.Flow
import HandS.TupAny
import HandS.Wide
import HandS.Deep
import HandS.TupMul
import HandS.Text
import HandS.Conv
import HandS.TupLen
import HandS.ListItems
import HandS.StrMore
import HandS.Zip
import HandS.Style
import HandS.Comp
import HandS.ExcOwn
import HandS.EndBits
import HandS.Words
import PyProof.TableCode
import PySem.Challenge.RW_aheadofholes_k02_holes_and_names_of_tree
set_option Elab.async false
set_option linter.all false
set_option maxRecDepth 100000
set_option maxHeartbeats 4000000
/-! G1: values without the heap, the store of changing things, what a run gives; how they lie in the heap. -/
namespace G
open PySem L2

/-- the built-in types by name -/
inductive Ty where
  | non | bl | int | str | tup | lst | dct | set
  deriving DecidableEq
def Ty.nm : Ty → String
  | .non => "NoneType" | .bl => "bool" | .int => "int" | .str => "str" | .tup => "tuple" | .lst => "list" | .dct => "dict" | .set => "set"

/-- values: what never changes is data; what changes is a place in the store -/
inductive D where
  | non | bl (b : Bool) | int (i : Int) | str (s : Str) | tup (xs : List D) | loc (n : Nat) | rol (xs : List D) | fn (x : Str) | ty (t : Ty)
  deriving Inhabited
/-- what stands at a place -/
inductive Cell where
  | lst (xs : List D) | dct (kvs : List (D × D)) | obj (c : Str) (fs : List (Str × D)) | lck (c : Cell)
  deriving Inhabited
abbrev Store := List Cell
/-- the slots of a frame -/
abbrev Sig := List (Option D)
structure Exn where
  cls : Str
  fs : List (Str × D)
/-- what a run gives -/
inductive R (α : Type) where
  | fail | ok (a : α) (st : Store) | exc (e : Exn) (st : Store)
def R.bind {α β : Type} : R α → (α → Store → R β) → R β
  | .fail, _ => .fail
  | .ok a st, k => k a st
  | .exc e st, _ => .exc e st
@[simp] theorem R.bind_ok {α β : Type} (a : α) (st : Store) (k : α → Store → R β) : (R.ok a st).bind k = k a st := rfl
@[simp] theorem R.bind_fail {α β : Type} (k : α → Store → R β) : (R.fail : R α).bind k = .fail := rfl
@[simp] theorem R.bind_exc {α β : Type} (e : Exn) (st : Store) (k : α → Store → R β) : (R.exc e st : R α).bind k = .exc e st := rfl

/-! ### how values lie in the heap -/
/-- a list that is read alone: no place of ours, or a written one -/
def RoL (K : PySem.W.Frag) (ρ : List Addr) (H : Hp) (a : Addr) (vs : List V) : Prop :=
  (Rd H a (.lst vs) ∧ a ∉ ρ) ∨ (SqL K (fun _ => none) a vs)
theorem RoL.sq {K : PySem.W.Frag} {ρ : List Addr} {H : Hp} {a : Addr} {vs : List V} (h : RoL K ρ H a vs) : SqL K H a vs := by
  rcases h with ⟨h, _⟩ | h
  · exact .inl h
  · rcases h with (h | ⟨_, h⟩) | h
    · cases h
    · cases h
    · exact .inr h
section
variable (K : PySem.W.Frag) (mg : Str → Option Value)
mutual
inductive Rep (ρ : List Addr) (H : Hp) : D → V → Prop where
  | non : Rep ρ H .non .non
  | bl (b : Bool) : Rep ρ H (.bl b) (.bl b)
  | int (i : Int) : Rep ρ H (.int i) (.int i)
  | str (s : Str) : Rep ρ H (.str s) (.str s)
  | ty (t : Ty) : Rep ρ H (.ty t) (.ty t.nm)
  | tup {a : Addr} {ds : List D} {vs : List V} : H a = some (.tup vs) → Reps ρ H ds vs → Rep ρ H (.tup ds) (.ref a)
  | rol {a : Addr} {ds : List D} {vs : List V} : RoL K ρ H a vs → Reps ρ H ds vs → Rep ρ H (.rol ds) (.ref a)
  | loc {n : Nat} {a : Addr} : ρ[n]? = some a → Rep ρ H (.loc n) (.ref a)
  | fn {x : Str} {a : Addr} : mg x = some (.ref a) → Rep ρ H (.fn x) (.ref a)
inductive Reps (ρ : List Addr) (H : Hp) : List D → List V → Prop where
  | nil : Reps ρ H [] []
  | cons {d : D} {v : V} {ds : List D} {vs : List V} : Rep ρ H d v → Reps ρ H ds vs → Reps ρ H (d :: ds) (v :: vs)
end
/-- a key of a dict: an int, a text, a tuple of these -/
def keyD : D → Option Key
  | .int i => some (.inl i)
  | .str s => some (.inr s)
  | _ => none
def keysD : List D → Option (List Key)
  | [] => some []
  | d :: ds => match keyD d, keysD ds with
    | some k, some ks => some (k :: ks)
    | _, _ => none
def CellR (ρ : List Addr) (H : Hp) : Cell → HO → Prop
  | .lst xs, o => ∃ vs, o = .lst vs ∧ Reps K mg ρ H xs vs
  | .dct kvs, o => (∃ ps : List (Key × V), o = .dK ps ∧ Paired (fun (p : D × D) (q : Key × V) => keyD p.1 = some q.1 ∧ Rep K mg ρ H p.2 q.2) kvs ps) ∨
      (∃ ps : List (List Key × V), o = .dT ps ∧ Paired (fun (p : D × D) (q : List Key × V) => (∃ ds, p.1 = .tup ds ∧ keysD ds = some q.1) ∧ Rep K mg ρ H p.2 q.2) kvs ps)
  | .obj c fs, o => ∃ C dx vs, o = .ins C dx vs ∧ mg c = some (.ref C) ∧ Paired (fun (p : Str × D) (q : Str × V) => p.1 = q.1 ∧ Rep K mg ρ H p.2 q.2) fs vs
  | .lck c, o => ∃ ob u, o = .frz ob u ∧ CellR ρ H c u
structure SR (ρ : List Addr) (st : Store) (H : Hp) : Prop where
  len : ρ.length = st.length
  nd : ρ.Nodup
  at' : ∀ (n : Nat) (c : Cell), st[n]? = some c → ∃ a o, ρ[n]? = some a ∧ H a = some o ∧ CellR K mg ρ H c o
structure EnvR (ρ : List Addr) (H : Hp) (σd : Sig) (σ : St) : Prop where
  len : σd.length = σ.length
  at' : ∀ (i : Nat) (d : D), σd[i]? = some (some d) → ∃ v, σ[i]? = some (some v) ∧ Rep K mg ρ H d v
end
/-- a step of the heap: places are added, what is no place stays -/
structure Stp (ρ : List Addr) (H : Hp) (ρ' : List Addr) (H' : Hp) : Prop where
  pre : ∃ l, ρ' = ρ ++ l ∧ ∀ a ∈ l, H a = none
  keep : ∀ a o, H a = some o → a ∉ ρ → H' a = some o
  there : ∀ a, H a ≠ none → H' a ≠ none

section
variable {K : PySem.W.Frag} {mg : Str → Option Value} {ρ ρ1 ρ' ρ2 : List Addr} {H H1 H' H2 : Hp} {st st' : Store}
theorem Stp.refl : Stp ρ H ρ H := ⟨⟨[], by simp, by simp⟩, fun _ _ h _ => h, fun _ h => h⟩
theorem Stp.trans (a : Stp ρ H ρ1 H1) (b : Stp ρ1 H1 ρ2 H2) : Stp ρ H ρ2 H2 := by
  obtain ⟨l1, e1, f1⟩ := a.pre
  obtain ⟨l2, e2, f2⟩ := b.pre
  refine ⟨⟨l1 ++ l2, by rw [e2, e1, List.append_assoc], fun x hx => ?_⟩, fun x o hx hn => ?_, fun x hx => b.there x (a.there x hx)⟩
  · rcases List.mem_append.mp hx with hx | hx
    · exact f1 x hx
    · cases q : H x with
      | none => rfl
      | some o => exact absurd (f2 x hx) (a.there x (by rw [q]; simp))
  · refine b.keep x o (a.keep x o hx hn) ?_
    rw [e1]
    intro hm
    rcases List.mem_append.mp hm with hm | hm
    · exact hn hm
    · rw [f1 x hm] at hx; cases hx
theorem Stp.get (a : Stp ρ H ρ' H') {n : Nat} {x : Addr} (h : ρ[n]? = some x) : ρ'[n]? = some x := by
  obtain ⟨l, e, _⟩ := a.pre
  have hn : n < ρ.length := (List.getElem?_eq_some_iff.mp h).1
  rw [e, List.getElem?_append_left hn]
  exact h
theorem Stp.out (a : Stp ρ H ρ' H') {x : Addr} {o : HO} (hx : H x = some o) (hn : x ∉ ρ) : x ∉ ρ' := by
  obtain ⟨l, e, f⟩ := a.pre
  rw [e]
  intro hm
  rcases List.mem_append.mp hm with hm | hm
  · exact hn hm
  · rw [f x hm] at hx; cases hx
/-- no place holds a tuple -/
theorem CellR.notTup : ∀ {c : Cell} {o : HO}, CellR K mg ρ H c o → ∀ vs, o ≠ .tup vs ∧ ∀ ob, o ≠ .frz ob (.tup vs)
  | .lst _, _, h, vs => by obtain ⟨_, rfl, _⟩ := h; exact ⟨(fun z => nomatch z), (fun _ z => nomatch z)⟩
  | .dct _, _, h, vs => by
    rcases h with ⟨_, rfl, _⟩ | ⟨_, rfl, _⟩
    · exact ⟨(fun z => nomatch z), (fun _ z => nomatch z)⟩
    · exact ⟨(fun z => nomatch z), (fun _ z => nomatch z)⟩
  | .obj _ _, _, h, vs => by obtain ⟨_, _, _, rfl, _⟩ := h; exact ⟨(fun z => nomatch z), (fun _ z => nomatch z)⟩
  | .lck c, _, h, vs => by
    obtain ⟨ob, u, rfl, h⟩ := h
    refine ⟨(fun z => nomatch z), fun ob2 z => ?_⟩
    cases z
    exact (CellR.notTup (c := c) h vs).1 rfl
theorem SR.mem (S : SR K mg ρ st H) {a : Addr} (h : a ∈ ρ) : ∃ (n : Nat) (c : Cell) (o : HO), ρ[n]? = some a ∧ st[n]? = some c ∧ H a = some o ∧ CellR K mg ρ H c o := by
  obtain ⟨n, hn⟩ := List.getElem?_of_mem h
  have hl : n < st.length := by rw [← S.len]; exact (List.getElem?_eq_some_iff.mp hn).1
  obtain ⟨a', o, e1, e2, e3⟩ := S.at' n st[n] (by simp [hl])
  rw [hn] at e1; cases e1
  exact ⟨n, st[n], o, hn, by simp [hl], e2, e3⟩
theorem SR.tupOut (S : SR K mg ρ st H) {a : Addr} {vs : List V} (h : Rd H a (.tup vs)) : a ∉ ρ := fun hm => by
  obtain ⟨n, c, o, _, _, e, hc⟩ := S.mem hm
  rcases h with h | ⟨ob, h⟩
  · rw [h] at e; cases e; exact (hc.notTup vs).1 rfl
  · rw [h] at e; cases e; exact (hc.notTup vs).2 ob rfl
theorem Rd.stp (a : Stp ρ H ρ' H') {x : Addr} {u : HO} (h : Rd H x u) (hn : x ∉ ρ) : Rd H' x u := by
  rcases h with h | ⟨ob, h⟩
  · exact .inl (a.keep _ _ h hn)
  · exact .inr ⟨ob, a.keep _ _ h hn⟩
theorem SqT.stp (S : SR K mg ρ st H) (a : Stp ρ H ρ' H') {x : Addr} {vs : List V} (h : SqT K H x vs) : SqT K H' x vs := by
  rcases h with h | h
  · exact .inl (Rd.stp a h (S.tupOut h))
  · exact .inr h
theorem Rd.outs (a : Stp ρ H ρ' H') {x : Addr} {u : HO} (h : Rd H x u) (hn : x ∉ ρ) : x ∉ ρ' := by
  rcases h with h | ⟨ob, h⟩
  · exact a.out h hn
  · exact a.out h hn
theorem RoL.stp (a : Stp ρ H ρ' H') {x : Addr} {vs : List V} (h : RoL K ρ H x vs) : RoL K ρ' H' x vs := by
  rcases h with ⟨h, n⟩ | h
  · exact .inl ⟨Rd.stp a h n, Rd.outs a h n⟩
  · exact .inr h
mutual
theorem Rep.stp (S : SR K mg ρ st H) (a : Stp ρ H ρ' H') : ∀ {d : D} {v : V}, Rep K mg ρ H d v → Rep K mg ρ' H' d v
  | _, _, .non => .non
  | _, _, .bl b => .bl b
  | _, _, .int i => .int i
  | _, _, .str s => .str s
  | _, _, .ty t => .ty t
  | _, _, .tup h r => .tup (a.keep _ _ h (S.tupOut (.inl h))) (Reps.stp S a r)
  | _, _, .rol h r => .rol (RoL.stp a h) (Reps.stp S a r)
  | _, _, .loc h => .loc (a.get h)
  | _, _, .fn h => .fn h
theorem Reps.stp (S : SR K mg ρ st H) (a : Stp ρ H ρ' H') : ∀ {ds : List D} {vs : List V}, Reps K mg ρ H ds vs → Reps K mg ρ' H' ds vs
  | _, _, .nil => .nil
  | _, _, .cons h r => .cons (Rep.stp S a h) (Reps.stp S a r)
end
theorem Paired.mapR {α β : Type} {F F' : α → β → Prop} : ∀ {l₁ : List α} {l₂ : List β}, Paired F l₁ l₂ → (∀ x y, F x y → F' x y) → Paired F' l₁ l₂
  | _, _, .nil, _ => .nil
  | _, _, .cons r t, f => .cons (f _ _ r) (Paired.mapR t f)
theorem CellR.stp (S : SR K mg ρ st H) (a : Stp ρ H ρ' H') : ∀ {c : Cell} {o : HO}, CellR K mg ρ H c o → CellR K mg ρ' H' c o
  | .lst _, _, h => by obtain ⟨vs, e, r⟩ := h; exact ⟨vs, e, Reps.stp S a r⟩
  | .dct _, _, h => by
    rcases h with ⟨ps, e, r⟩ | ⟨ps, e, r⟩
    · exact .inl ⟨ps, e, Paired.mapR r fun _ _ q => ⟨q.1, Rep.stp S a q.2⟩⟩
    · exact .inr ⟨ps, e, Paired.mapR r fun _ _ q => ⟨q.1, Rep.stp S a q.2⟩⟩
  | .obj _ _, _, h => by
    obtain ⟨C, dx, vs, e, m, r⟩ := h
    exact ⟨C, dx, vs, e, m, Paired.mapR r fun _ _ q => ⟨q.1, Rep.stp S a q.2⟩⟩
  | .lck c, _, h => by
    obtain ⟨ob, u, e, h⟩ := h
    exact ⟨ob, u, e, CellR.stp S a (c := c) h⟩
theorem EnvR.stp (S : SR K mg ρ st H) (a : Stp ρ H ρ' H') {σd : Sig} {σ : L2.St} (E : EnvR K mg ρ H σd σ) : EnvR K mg ρ' H' σd σ :=
  ⟨E.len, fun i d h => let ⟨v, e, r⟩ := E.at' i d h; ⟨v, e, Rep.stp S a r⟩⟩
/-- places unlike -/
theorem SR.inj (S : SR K mg ρ st H) {m n : Nat} {a : Addr} (h : ρ[m]? = some a) (h' : ρ[n]? = some a) : m = n := by
  have h1 := List.getElem?_eq_some_iff.mp h
  have h2 := List.getElem?_eq_some_iff.mp h'
  exact (List.getElem_inj S.nd).mp (h1.2.trans h2.2.symm)
/-- a new place: what lies there is told over the grown heap -/
theorem SR.new (S : SR K mg ρ st H) {a : Addr} {o : HO} {c : Cell} (ha : H a = none) (hc : CellR K mg (ρ ++ [a]) (upd H a o) c o) :
    SR K mg (ρ ++ [a]) (st ++ [c]) (upd H a o) ∧ Stp ρ H (ρ ++ [a]) (upd H a o) := by
  have hna : a ∉ ρ := fun hm => by
    obtain ⟨_, _, o', _, _, e, _⟩ := S.mem hm
    rw [ha] at e; cases e
  have stp : Stp ρ H (ρ ++ [a]) (upd H a o) := by
    refine ⟨⟨[a], rfl, fun x hx => by simp at hx; rw [hx]; exact ha⟩, fun x u hx _ => ?_, fun x hx => ?_⟩
    · rw [upd_ne (ne_of_none hx ha)]; exact hx
    · by_cases e : x = a
      · rw [e, upd_same]; simp
      · rw [upd_ne e]; exact hx
  refine ⟨⟨by simp [S.len], ?_, fun n c' h => ?_⟩, stp⟩
  · rw [List.nodup_append]
    exact ⟨S.nd, by simp, fun x hx y hy => by simp at hy; rintro rfl; exact hna (hy ▸ hx)⟩
  · by_cases hn : n < st.length
    · rw [List.getElem?_append_left hn] at h
      obtain ⟨b, u, e1, e2, e3⟩ := S.at' n c' h
      refine ⟨b, u, stp.get e1, ?_, CellR.stp S stp e3⟩
      rw [upd_ne (ne_of_none e2 ha)]; exact e2
    · have hn' : n = st.length := by
        have := (List.getElem?_eq_some_iff.mp h).1
        simp at this; omega
      subst hn'
      simp at h
      subst h
      exact ⟨a, o, by rw [← S.len]; simp, upd_same, hc⟩
/-- what lies at a place is changed -/
theorem SR.put (S : SR K mg ρ st H) {n : Nat} {a : Addr} {c c' : Cell} {o : HO} (hn : ρ[n]? = some a) (h0 : st[n]? = some c) (hc : CellR K mg ρ (upd H a o) c' o) :
    SR K mg ρ (st.set n c') (upd H a o) ∧ Stp ρ H ρ (upd H a o) := by
  have stp : Stp ρ H ρ (upd H a o) := by
    refine ⟨⟨[], by simp, by simp⟩, fun x u hx hn' => ?_, fun x hx => ?_⟩
    · rw [upd_ne (fun e => hn' (by rw [e]; exact List.mem_of_getElem? hn))]; exact hx
    · by_cases e : x = a
      · rw [e, upd_same]; simp
      · rw [upd_ne e]; exact hx
  refine ⟨⟨by simp [S.len], S.nd, fun m c2 h => ?_⟩, stp⟩
  by_cases hm : m = n
  · subst hm
    have hl : m < st.length := (List.getElem?_eq_some_iff.mp h0).1
    rw [List.getElem?_set_self hl] at h
    cases h
    exact ⟨a, o, hn, upd_same, hc⟩
  · rw [List.getElem?_set_ne (fun e => hm e.symm)] at h
    obtain ⟨b, u, e1, e2, e3⟩ := S.at' m c2 h
    refine ⟨b, u, e1, ?_, CellR.stp S stp e3⟩
    rw [upd_ne (fun e => hm (S.inj (by rw [← e]; exact e1) hn))]
    exact e2
end
end G

/-! G2: what is wanted behind a run, and the hand layer's judgements with runs in the place of readings. -/
namespace G
open PySem L2

abbrev ME := Sig → Store → R D
abbrev MT := Sig → Store → R Bool
abbrev MA := Sig → Store → R (List D)
abbrev MO := Sig → Store → R (Option Int)
/-- where a statement leads -/
inductive Fl where
  | nx (σ : Sig) | bk (σ : Sig) | ct (σ : Sig) | rt (d : D)
abbrev MS := Sig → Store → R Fl
abbrev MG := D → Sig → Store → R Sig

section
variable (K : PySem.W.Frag) (mg : Str → Option Value)
/-- an exception as it lies: its class, its own dict -/
def ExcR (ρ : List Addr) (H : Hp) (e : Exn) (cls : Value) (dd : Option Addr) : Prop :=
  ∃ C, mg e.cls = some (.ref C) ∧ cls = .ref C ∧ ((e.fs = [] ∧ dd = none) ∨ ∃ d vs, dd = some d ∧ H d = some (.xd vs) ∧ Paired (fun (p : Str × D) (q : Str × V) => p.1 = q.1 ∧ Rep K mg ρ H p.2 q.2) e.fs vs)
/-- what is wanted of a value and a store -/
def Cont {α β : Type} (Rl : List Addr → Hp → α → β → Prop) (ρ : List Addr) (H : Hp) (d : α) (st' : Store) (Q : β → Hp → Prop) : Prop :=
  ∀ v H' ρ', Stp ρ H ρ' H' → SR K mg ρ' st' H' → Rl ρ' H' d v → Q v H'
def ContX (W : WX) (σ : L2.St) (ρ : List Addr) (H : Hp) (e : Exn) (st' : Store) : Prop :=
  ∀ cls dd H' ρ', Stp ρ H ρ' H' → SR K mg ρ' st' H' → ExcR K mg ρ' H' e cls dd → W cls dd σ H'
def Post {α β : Type} (Rl : List Addr → Hp → α → β → Prop) (W : WX) (σ : L2.St) (ρ : List Addr) (H : Hp) (r : R α) (Q : β → Hp → Prop) : Prop :=
  match r with
  | .fail => False
  | .ok d st' => Cont K mg Rl ρ H d st' Q
  | .exc e st' => ContX K mg W σ ρ H e st'
end
section
variable {K : PySem.W.Frag} {mg : Str → Option Value} {W : WX} {σ : L2.St} {ρ ρ1 : List Addr} {H H1 : Hp} {st st' : Store}
theorem Cont.mono {α β : Type} {Rl : List Addr → Hp → α → β → Prop} {d : α} {Q Q' : β → Hp → Prop} (h : Cont K mg Rl ρ H d st' Q) (q : ∀ v H', Q v H' → Q' v H') : Cont K mg Rl ρ H d st' Q' :=
  fun v H' ρ' a b c => q v H' (h v H' ρ' a b c)
theorem Cont.stp {α β : Type} {Rl : List Addr → Hp → α → β → Prop} {d : α} {Q : β → Hp → Prop} (h : Cont K mg Rl ρ H d st' Q) (a : Stp ρ H ρ1 H1) : Cont K mg Rl ρ1 H1 d st' Q :=
  fun v H' ρ' b c e => h v H' ρ' (a.trans b) c e
theorem ContX.stp {e : Exn} (h : ContX K mg W σ ρ H e st') (a : Stp ρ H ρ1 H1) : ContX K mg W σ ρ1 H1 e st' :=
  fun cls dd H' ρ' b c x => h cls dd H' ρ' (a.trans b) c x
theorem Post.mono {α β : Type} {Rl : List Addr → Hp → α → β → Prop} {r : R α} {Q Q' : β → Hp → Prop} (h : Post K mg Rl W σ ρ H r Q) (q : ∀ v H', Q v H' → Q' v H') : Post K mg Rl W σ ρ H r Q' := by
  cases r with
  | fail => exact h
  | ok d s => exact Cont.mono h q
  | exc e s => exact h
theorem Post.stp {α β : Type} {Rl : List Addr → Hp → α → β → Prop} {r : R α} {Q : β → Hp → Prop} (h : Post K mg Rl W σ ρ H r Q) (a : Stp ρ H ρ1 H1) : Post K mg Rl W σ ρ1 H1 r Q := by
  cases r with
  | fail => exact h
  | ok d s => exact Cont.stp h a
  | exc e s => exact ContX.stp h a
/-- the first of two runs -/
theorem Post.bnd {α β γ δ : Type} {Rl : List Addr → Hp → α → β → Prop} {Rm : List Addr → Hp → γ → δ → Prop} {r : R α} {k : α → Store → R γ} {Q : δ → Hp → Prop} (h : Post K mg Rm W σ ρ H (r.bind k) Q) :
    Post K mg Rl W σ ρ H r fun v H1 => ∃ d st1 ρ1, r = .ok d st1 ∧ Stp ρ H ρ1 H1 ∧ SR K mg ρ1 st1 H1 ∧ Rl ρ1 H1 d v ∧ Post K mg Rm W σ ρ1 H1 (k d st1) Q := by
  cases r with
  | fail => exact h
  | exc e s => exact h
  | ok d s => exact fun v H1 ρ1 a b c => ⟨d, s, ρ1, rfl, a, b, c, Post.stp h a⟩
end

/-! ### runs as readings -/
section
variable (X : Cx) (W : WX)
def tR {α β : Type} (Rl : List Addr → Hp → α → β → Prop) (m : Sig → Store → R α) : L2.St → Hp → (β → Hp → Prop) → Prop := fun σ H Q =>
  ∃ ρ st σd, SR X.K X.mg ρ st H ∧ EnvR X.K X.mg ρ H σd σ ∧ Post X.K X.mg Rl W σ ρ H (m σd st) Q
abbrev tM (m : ME) : TE := tR X W (Rep X.K X.mg) m
abbrev tMT (m : MT) : TT := tR X W (fun _ _ a b => a = b) m
abbrev tMA (m : MA) : TA := tR X W (Reps X.K X.mg) m
abbrev tMO (m : MO) : TO := tR X W (fun _ _ a b => a = b) m
def tMS (m : MS) : TS := fun D σ H => ∃ ρ st σd, SR X.K X.mg ρ st H ∧ EnvR X.K X.mg ρ H σd σ ∧ match m σd st with
  | .fail => False
  | .exc e st' => ContX X.K X.mg W σ ρ H e st'
  | .ok (.nx σd') st' => ∀ σ' H' ρ', Stp ρ H ρ' H' → SR X.K X.mg ρ' st' H' → EnvR X.K X.mg ρ' H' σd' σ' → D.nx σ' H'
  | .ok (.bk σd') st' => ∀ σ' H' ρ', Stp ρ H ρ' H' → SR X.K X.mg ρ' st' H' → EnvR X.K X.mg ρ' H' σd' σ' → D.bk σ' H'
  | .ok (.ct σd') st' => ∀ σ' H' ρ', Stp ρ H ρ' H' → SR X.K X.mg ρ' st' H' → EnvR X.K X.mg ρ' H' σd' σ' → D.ct σ' H'
  | .ok (.rt d) st' => Cont X.K X.mg (Rep X.K X.mg) ρ H d st' D.rt
abbrev GE (e : Expr) (m : ME) : Prop := PE X e (tM X W m)
abbrev GT (e : Expr) (m : MT) : Prop := PT X e (tMT X W m)
abbrev GW (e : Expr) (m : MT) : Prop := PW X e (tMT X W m)
abbrev GA (es : List Expr) (m : MA) : Prop := PA X es (tMA X W m)
abbrev GO (e : Option Expr) (m : MO) : Prop := PO X e (tMO X W m)
abbrev GS (s : Stmt) (m : MS) : Prop := PS X s (tMS X W m)
abbrev GSs (s : List Stmt) (m : MS) : Prop := PSs X s (tMS X W m)
end
section
variable {X : Cx} {W : WX} {e : Expr} {es : List Expr} {st : Stmt} {sts : List Stmt}
theorem PE.imp {t t' : TE} (h : PE X e t) (i : ∀ σ H Q, t' σ H Q → t σ H Q) : PE X e t' := ⟨fun pins s σ H Q I q => h.run pins s σ H Q I (i σ H Q q)⟩
theorem PT.imp {t t' : TT} (h : PT X e t) (i : ∀ σ H Q, t' σ H Q → t σ H Q) : PT X e t' := ⟨fun pins s σ H Q I q => h.run pins s σ H Q I (i σ H Q q)⟩
theorem PW.imp {t t' : TT} (h : PW X e t) (i : ∀ σ H Q, t' σ H Q → t σ H Q) : PW X e t' := ⟨fun wh pins s σ H Q I q => h.run wh pins s σ H Q I (i σ H Q q)⟩
theorem PA.imp {t t' : TA} (h : PA X es t) (i : ∀ σ H Q, t' σ H Q → t σ H Q) : PA X es t' := ⟨fun p pins s σ H Q I q => h.run p pins s σ H Q I (i σ H Q q)⟩
theorem PS.imp {t t' : TS} (h : PS X st t) (i : ∀ D σ H, t' D σ H → t D σ H) : PS X st t' := ⟨fun pins s σ H D I q => h.run pins s σ H D I (i D σ H q)⟩
theorem PSs.imp {t t' : TS} (h : PSs X sts t) (i : ∀ D σ H, t' D σ H → t D σ H) : PSs X sts t' := ⟨fun pins s σ H D I q => h.run pins s σ H D I (i D σ H q)⟩
theorem PO.imp {o : Option Expr} {t t' : TO} (h : PO X o t) (i : ∀ σ H Q, t' σ H Q → t σ H Q) : PO X o t' := ⟨fun pins s σ H Q I q => h.run pins s σ H Q I (i σ H Q q)⟩
theorem tR.nofail {α β : Type} {Rl : List Addr → Hp → α → β → Prop} {σ : L2.St} {H : Hp} {Q : β → Hp → Prop} (h : tR X W Rl (fun _ _ => .fail) σ H Q) : False := let ⟨_, _, _, _, _, q⟩ := h; q
theorem ge_fail : GE X W e fun _ _ => .fail := ⟨fun _ _ _ _ _ _ h => h.nofail.elim⟩
theorem gt_fail : GT X W e fun _ _ => .fail := ⟨fun _ _ _ _ _ _ h => h.nofail.elim⟩
theorem gw_fail : GW X W e fun _ _ => .fail := ⟨fun _ _ _ _ _ _ _ h => h.nofail.elim⟩
theorem ga_fail : GA X W es fun _ _ => .fail := ⟨fun _ _ _ _ _ _ _ h => h.nofail.elim⟩
theorem go_fail {o : Option Expr} : GO X W o fun _ _ => .fail := ⟨fun _ _ _ _ _ _ h => h.nofail.elim⟩
theorem gs_fail : GS X W st fun _ _ => .fail := ⟨fun _ _ _ _ _ _ h => let ⟨_, _, _, _, _, q⟩ := h; q.elim⟩
theorem gss_fail : GSs X W sts fun _ _ => .fail := ⟨fun _ _ _ _ _ _ h => let ⟨_, _, _, _, _, q⟩ := h; q.elim⟩
/-- the pattern of all that follows: a run's first part, then what comes behind -/
theorem tR.bnd {α β γ δ : Type} {Rl : List Addr → Hp → α → β → Prop} {Rm : List Addr → Hp → γ → δ → Prop} {m : Sig → Store → R α} {k : α → Store → R γ} {σ : L2.St} {H : Hp} {ρ : List Addr} {st : Store} {σd : Sig} {Q : δ → Hp → Prop} {Q1 : β → Hp → Prop}
    (S : SR X.K X.mg ρ st H) (E : EnvR X.K X.mg ρ H σd σ) (P : Post X.K X.mg Rm W σ ρ H ((m σd st).bind k) Q)
    (h : ∀ v H1 d st1 ρ1, m σd st = .ok d st1 → Stp ρ H ρ1 H1 → SR X.K X.mg ρ1 st1 H1 → EnvR X.K X.mg ρ1 H1 σd σ → Rl ρ1 H1 d v → Post X.K X.mg Rm W σ ρ1 H1 (k d st1) Q → Q1 v H1) :
    tR X W Rl m σ H Q1 := ⟨ρ, st, σd, S, E, (P.bnd (Rl := Rl)).mono fun v H1 ⟨d, st1, ρ1, e, a, b, c, p⟩ => h v H1 d st1 ρ1 e a b (E.stp S a) c p⟩
end

/-! ### operations by values -/
/-- what an operation gives: a value and a store, or nothing -/
abbrev Op1 := D → Store → Option (D × Store)
abbrev Op2 := D → D → Store → Option (D × Store)
abbrev OpN := List D → Store → Option (D × Store)
def lift {α : Type} : Option (α × Store) → R α
  | some (d, st) => .ok d st
  | none => .fail
section
variable (X : Cx)
def rG1 (g : Op1) : V → Hp → VK → Prop := fun x H Q => ∃ ρ st dx d st', SR X.K X.mg ρ st H ∧ Rep X.K X.mg ρ H dx x ∧ g dx st = some (d, st') ∧ Cont X.K X.mg (Rep X.K X.mg) ρ H d st' Q
def rG2 (g : Op2) : R2 := fun x y H Q => ∃ ρ st dx dy d st', SR X.K X.mg ρ st H ∧ Rep X.K X.mg ρ H dx x ∧ Rep X.K X.mg ρ H dy y ∧ g dx dy st = some (d, st') ∧ Cont X.K X.mg (Rep X.K X.mg) ρ H d st' Q
def rGN (g : OpN) : List V → Hp → VK → Prop := fun xs H Q => ∃ ρ st ds d st', SR X.K X.mg ρ st H ∧ Reps X.K X.mg ρ H ds xs ∧ g ds st = some (d, st') ∧ Cont X.K X.mg (Rep X.K X.mg) ρ H d st' Q
def rGM (g : D → OpN) : V → List V → Hp → VK → Prop := fun x xs H Q => ∃ ρ st dx ds d st', SR X.K X.mg ρ st H ∧ Rep X.K X.mg ρ H dx x ∧ Reps X.K X.mg ρ H ds xs ∧ g dx ds st = some (d, st') ∧ Cont X.K X.mg (Rep X.K X.mg) ρ H d st' Q
end
section
variable {X : Cx}
theorem OpR.imp {f : Value → Value → Sem Value} {r r' : R2} (h : OpR X f r) (i : ∀ x y H Q, r' x y H Q → r x y H Q) : OpR X f r' := fun pins s σ H x y v u Q I rx ry q => h pins s σ H x y v u Q I rx ry (i x y H Q q)
theorem UnR.imp {f : Value → Sem Value} {r r' : V → Hp → VK → Prop} (h : UnR X f r) (i : ∀ x H Q, r' x H Q → r x H Q) : UnR X f r' := fun pins s σ H x v Q I rx q => h pins s σ H x v Q I rx (i x H Q q)
theorem CallR.imp {f : Value} {r r' : List V → Hp → VK → Prop} (h : CallR X f r) (i : ∀ xs H Q, r' xs H Q → r xs H Q) : CallR X f r' := fun pins s σ H xs us Q I rx q => h pins s σ H xs us Q I rx (i xs H Q q)
theorem MtR.imp {id : String} {r r' : V → List V → Hp → VK → Prop} (h : MtR X id r) (i : ∀ x xs H Q, r' x xs H Q → r x xs H Q) : MtR X id r' := fun pins s σ H x xs v us Q I r1 r2 q => h pins s σ H x xs v us Q I r1 r2 (i x xs H Q q)
theorem IxR.imp {r r' : R2} (h : IxR X r) (i : ∀ x y H Q, r' x y H Q → r x y H Q) : IxR X r' := fun a b pins s σ H x y v u Q I rx ry q => h a b pins s σ H x y v u Q I rx ry (i x y H Q q)
end

/-! ### expressions -/
section
variable {X : Cx} {W : WX} {a b c : Expr} {es : List Expr} {pos : Pos} {ma mb mc : ME} {mt mu : MT}
def mC (d : D) : ME := fun _ st => .ok d st
def mVar (i : Nat) : ME := fun σ st => match σ[i]? with
  | some (some d) => .ok d st
  | _ => .fail
theorem ge_const {v : V} {d : D} {e : Expr} (h : PE X e (tC v)) (r : ∀ ρ H, Rep X.K X.mg ρ H d v) : GE X W e (mC d) :=
  PE.imp h fun σ H Q ⟨ρ, st, σd, S, E, P⟩ => P v H ρ Stp.refl S (r ρ H)
theorem ge_var {i : Nat} {x : Str} (h : PE X (.Name x pos) (tVar i)) : GE X W (.Name x pos) (mVar i) :=
  PE.imp h fun σ H Q ⟨ρ, st, σd, S, E, P⟩ => by
    unfold mVar at P
    split at P
    · rename_i d hd
      obtain ⟨v, e, r⟩ := E.at' i d hd
      exact ⟨v, e, P v H ρ Stp.refl S r⟩
    · exact P.elim
def mBin (g : Op2) (ma mb : ME) : ME := fun σ st => (ma σ st).bind fun x st1 => (mb σ st1).bind fun y st2 => lift (g x y st2)
def mUn (g : Op1) (ma : ME) : ME := fun σ st => (ma σ st).bind fun x st1 => lift (g x st1)
theorem Post.lift {σ : L2.St} {ρ : List Addr} {H : Hp} {o : Option (D × Store)} {Q : VK} (P : Post X.K X.mg (Rep X.K X.mg) W σ ρ H (G.lift o) Q) : ∃ d st', o = some (d, st') ∧ Cont X.K X.mg (Rep X.K X.mg) ρ H d st' Q := by
  cases o with
  | none => exact P.elim
  | some p => exact ⟨p.1, p.2, rfl, P⟩
theorem ge_bin2 {g : Op2} (ha : GE X W a ma) (hb : GE X W b mb) {e : Expr} (h : PE X e (tOp (rG2 X g) (tM X W ma) (tM X W mb))) : GE X W e (mBin g ma mb) :=
  PE.imp h fun σ H Q ⟨ρ, st, σd, S, E, P⟩ => tR.bnd S E P fun x H1 dx st1 ρ1 _ _ S1 E1 R1 P1 => tR.bnd S1 E1 P1 fun y H2 dy st2 ρ2 _ a2 S2 E2 R2 P2 => by
    obtain ⟨d, st', e, q⟩ := P2.lift
    exact ⟨ρ2, st2, dx, dy, d, st', S2, R1.stp S1 a2, R2, e, q⟩
theorem ge_bin {op : Operator} {g : Op2} (ho : OpR X (binaryOp op) (rG2 X g)) (ha : GE X W a ma) (hb : GE X W b mb) : GE X W (.BinOp a op b pos) (mBin g ma mb) := ge_bin2 ha hb (pe_op ho ha hb)
theorem ge_cmp {op : CmpOp} {g : Op2} (ho : OpR X (compareOp op) (rG2 X g)) (ha : GE X W a ma) (hb : GE X W b mb) (hm : behindInMarks op b = false) : GE X W (.Compare a [op] [b] pos) (mBin g ma mb) := ge_bin2 ha hb (pe_cmpR ho ha hb hm)
theorem ge_un {op : UnaryOp} {g : Op1} (ho : UnR X (unaryOp op) (rG1 X g)) (ha : GE X W a ma) : GE X W (.UnaryOp op a pos) (mUn g ma) :=
  PE.imp (pe_un ho ha) fun σ H Q ⟨ρ, st, σd, S, E, P⟩ => tR.bnd S E P fun x H1 dx st1 ρ1 _ _ S1 E1 R1 P1 => by
    obtain ⟨d, st', e, q⟩ := P1.lift
    exact ⟨ρ1, st1, dx, d, st', S1, R1, e, q⟩
/-- a value that has to be a truth, as a test -/
def mBl (m : ME) : MT := fun σ st => (m σ st).bind fun d st1 => match d with
  | .bl b => .ok b st1
  | _ => .fail
theorem tM_bl {σ : L2.St} {H : Hp} {Q : Bool → Hp → Prop} (h : tMT X W (mBl ma) σ H Q) : tM X W ma σ H fun x H' => ∃ k, x = .bl k ∧ Q k H' := by
  obtain ⟨ρ, st, σd, S, E, P⟩ := h
  refine tR.bnd S E P fun x H1 dx st1 ρ1 _ _ S1 E1 R1 P1 => ?_
  cases dx <;> first
    | exact P1.elim
    | (cases R1
       exact ⟨_, rfl, P1 _ H1 ρ1 Stp.refl S1 rfl⟩)
theorem tOp_bl {g : Op2} {σ : L2.St} {H : Hp} {Q : Bool → Hp → Prop} (h : tMT X W (mBl (mBin g ma mb)) σ H Q) : tTest (tOp (rG2 X g) (tM X W ma) (tM X W mb)) σ H Q := by
  obtain ⟨ρ, st, σd, S, E, P⟩ := tM_bl h
  exact tR.bnd S E P fun x H1 dx st1 ρ1 _ _ S1 E1 R1 P1 => tR.bnd S1 E1 P1 fun y H2 dy st2 ρ2 _ a2 S2 E2 R2 P2 => by
    obtain ⟨d, st', e, q⟩ := P2.lift
    exact ⟨ρ2, st2, dx, dy, d, st', S2, R1.stp S1 a2, R2, e, q⟩
theorem gt_cmp {op : CmpOp} {g : Op2} (ho : OpR X (compareOp op) (rG2 X g)) (ha : GE X W a ma) (hb : GE X W b mb) (hm : behindInMarks op b = false) : GT X W (.Compare a [op] [b] pos) (mBl (mBin g ma mb)) :=
  PT.imp (pt_cmpR ho ha hb hm) fun _ _ _ h => tOp_bl h
end
end G

/-! G3: truth, tests, displays, argument lists, calls of built-ins by values. -/
namespace G
open PySem L2

/-! ### lists and tuples as they are read -/
def lstD (d : D) (st : Store) : Option (List D) := match d with
  | .rol xs => some xs
  | .loc n => match st[n]? with
    | some (.lst xs) => some xs
    | _ => none
  | _ => none
def tupD (d : D) : Option (List D) := match d with
  | .tup xs => some xs
  | _ => none
section
variable {K : PySem.W.Frag} {mg : Str → Option Value} {ρ : List Addr} {H : Hp} {st : Store} {d : D} {v : V} {xs : List D}
theorem Reps.length : ∀ {xs : List D} {vs : List V}, Reps K mg ρ H xs vs → xs.length = vs.length
  | _, _, .nil => rfl
  | _, _, .cons _ r => congrArg (· + 1) (Reps.length r)
theorem Reps.get : ∀ {xs : List D} {vs : List V} {i : Nat} {d : D}, Reps K mg ρ H xs vs → xs[i]? = some d → ∃ v, vs[i]? = some v ∧ Rep K mg ρ H d v
  | _, _, _, _, .nil, e => by simp at e
  | _, _, 0, _, .cons h _, e => by simp at e; subst e; exact ⟨_, rfl, h⟩
  | _, _, i + 1, _, .cons _ r, e => by
    obtain ⟨v, h1, h2⟩ := Reps.get (i := i) r (by simpa using e)
    exact ⟨v, by simpa using h1, h2⟩
theorem Reps.append : ∀ {xs ys : List D} {vs ws : List V}, Reps K mg ρ H xs vs → Reps K mg ρ H ys ws → Reps K mg ρ H (xs ++ ys) (vs ++ ws)
  | _, _, _, _, .nil, s => s
  | _, _, _, _, .cons h r, s => .cons h (Reps.append r s)
theorem Reps.take : ∀ {xs : List D} {vs : List V} (n : Nat), Reps K mg ρ H xs vs → Reps K mg ρ H (xs.take n) (vs.take n)
  | _, _, 0, _ => by simp only [List.take_zero]; exact .nil
  | _, _, _ + 1, .nil => .nil
  | _, _, n + 1, .cons h r => .cons h (Reps.take n r)
theorem Reps.drop : ∀ {xs : List D} {vs : List V} (n : Nat), Reps K mg ρ H xs vs → Reps K mg ρ H (xs.drop n) (vs.drop n)
  | _, _, 0, r => r
  | _, _, _ + 1, .nil => .nil
  | _, _, n + 1, .cons _ r => Reps.drop n r
theorem Reps.set {d : D} {v : V} (h : Rep K mg ρ H d v) : ∀ {xs : List D} {vs : List V} (n : Nat), Reps K mg ρ H xs vs → Reps K mg ρ H (xs.set n d) (vs.set n v)
  | _, _, _, .nil => .nil
  | _, _, 0, .cons _ r => .cons h r
  | _, _, n + 1, .cons q r => .cons q (Reps.set h n r)
theorem Reps.reverse {xs : List D} {vs : List V} (h : Reps K mg ρ H xs vs) : Reps K mg ρ H xs.reverse vs.reverse := by
  induction xs generalizing vs with
  | nil => cases h; exact .nil
  | cons x r ih =>
    cases h with
    | cons h1 h2 =>
      rw [List.reverse_cons, List.reverse_cons]
      exact (ih h2).append (.cons h1 .nil)
theorem Reps.erase : ∀ {xs : List D} {vs : List V} (n : Nat), Reps K mg ρ H xs vs → Reps K mg ρ H (xs.eraseIdx n) (vs.eraseIdx n)
  | _, _, _, .nil => .nil
  | _, _, 0, .cons _ r => r
  | _, _, n + 1, .cons q r => .cons q (Reps.erase n r)
theorem Reps.dropLast {xs : List D} {vs : List V} (h : Reps K mg ρ H xs vs) : Reps K mg ρ H xs.dropLast vs.dropLast := by
  rw [List.dropLast_eq_take, List.dropLast_eq_take, h.length]
  exact h.take _
theorem lst_sq (S : SR K mg ρ st H) (r : Rep K mg ρ H d v) (e : lstD d st = some xs) : ∃ a vs, v = .ref a ∧ SqL K H a vs ∧ Reps K mg ρ H xs vs := by
  unfold lstD at e
  split at e
  · cases e
    cases r with
    | rol h q => exact ⟨_, _, rfl, h.sq, q⟩
  · rename_i n
    split at e
    · rename_i ys hy
      cases e
      cases r with
      | loc h =>
        obtain ⟨a, o, h1, h2, vs, rfl, q⟩ := S.at' n _ hy
        rw [h] at h1; cases h1
        exact ⟨_, vs, rfl, .inl (.inl h2), q⟩
    · cases e
  · cases e
/-- a list that may be changed -/
theorem loc_lst {n : Nat} (S : SR K mg ρ st H) (r : Rep K mg ρ H (.loc n) v) (e : st[n]? = some (.lst xs)) : ∃ a vs, v = .ref a ∧ ρ[n]? = some a ∧ H a = some (.lst vs) ∧ Reps K mg ρ H xs vs := by
  cases r with
  | loc h =>
    obtain ⟨a, o, h1, h2, vs, rfl, q⟩ := S.at' n _ e
    rw [h] at h1; cases h1
    exact ⟨_, vs, rfl, h, h2, q⟩
theorem tup_sq (r : Rep K mg ρ H (.tup xs) v) : ∃ a vs, v = .ref a ∧ SqT K H a vs ∧ Reps K mg ρ H xs vs := by
  cases r with
  | tup h q => exact ⟨_, _, rfl, .inl (.inl h), q⟩
theorem tup_at (r : Rep K mg ρ H (.tup xs) v) : ∃ a vs, v = .ref a ∧ H a = some (.tup vs) ∧ Reps K mg ρ H xs vs := by
  cases r with
  | tup h q => exact ⟨_, _, rfl, h, q⟩
/-- a new list, a new tuple -/
theorem new_lst {Q : VK} {vs : List V} (S : SR K mg ρ st H) (q : Reps K mg ρ H xs vs) (h : Cont K mg (Rep K mg) ρ H (.loc st.length) (st ++ [.lst xs]) Q) : ∀ p, H p = none → Q (.ref p) (upd H p (.lst vs)) := fun p hp => by
  have stp : Stp ρ H (ρ ++ [p]) (upd H p (.lst vs)) := by
    refine ⟨⟨[p], rfl, fun x hx => by simp at hx; rw [hx]; exact hp⟩, fun x u hx _ => ?_, fun x hx => ?_⟩
    · rw [upd_ne (ne_of_none hx hp)]; exact hx
    · by_cases e : x = p
      · rw [e, upd_same]; simp
      · rw [upd_ne e]; exact hx
  obtain ⟨S', s'⟩ := S.new (c := .lst xs) hp ⟨vs, rfl, Reps.stp S stp q⟩
  exact h _ _ _ s' S' (.loc (by rw [← S.len]; simp))
theorem stp_new {p : Addr} {o : HO} (hp : H p = none) : Stp ρ H ρ (upd H p o) := by
  refine ⟨⟨[], by simp, by simp⟩, fun x u hx _ => ?_, fun x hx => ?_⟩
  · rw [upd_ne (ne_of_none hx hp)]; exact hx
  · by_cases e : x = p
    · rw [e, upd_same]; simp
    · rw [upd_ne e]; exact hx
theorem SR.add (S : SR K mg ρ st H) {p : Addr} {o : HO} (hp : H p = none) : SR K mg ρ st (upd H p o) :=
  ⟨S.len, S.nd, fun n c h => let ⟨a, u, e1, e2, e3⟩ := S.at' n c h; ⟨a, u, e1, by rw [upd_ne (ne_of_none e2 hp)]; exact e2, CellR.stp S (stp_new hp) e3⟩⟩
theorem new_tup {Q : VK} {vs : List V} (S : SR K mg ρ st H) (q : Reps K mg ρ H xs vs) (h : Cont K mg (Rep K mg) ρ H (.tup xs) st Q) : ∀ p, H p = none → Q (.ref p) (upd H p (.tup vs)) := fun p hp =>
  h _ _ _ (stp_new hp) (S.add hp) (.tup upd_same (Reps.stp S (stp_new hp) q))
end

/-! ### truth -/
def truD (d : D) (st : Store) : Option Bool := match d with
  | .non => some false
  | .bl b => some b
  | .int i => some (i != 0)
  | .str s => if s.length ≤ sizeLine then some (s.length != 0) else none
  | .tup xs => some (!xs.isEmpty)
  | d => (lstD d st).map fun xs => !xs.isEmpty
theorem tru_of {K : PySem.W.Frag} {mg : Str → Option Value} {ρ : List Addr} {H : Hp} {st : Store} {d : D} {v : V} {b : Bool} (S : SR K mg ρ st H) (r : Rep K mg ρ H d v) (e : truD d st = some b) : TruV K v H b := by
  have emp : ∀ {xs : List D} {vs : List V}, Reps K mg ρ H xs vs → (!xs.isEmpty) = !vs.isEmpty := fun q => by
    cases q <;> rfl
  unfold truD at e
  split at e
  · cases r; cases e; rfl
  · cases r; cases e; rfl
  · cases r; cases e; rfl
  · rename_i s
    split at e
    · cases r; cases e
      refine ⟨by assumption, ?_⟩
      cases hs : s.length with
      | zero => rfl
      | succ n => simp; omega
    · cases e
  · cases e
    obtain ⟨a, vs, rfl, h, q⟩ := tup_sq r
    exact .inr (.inl ⟨vs, h, emp q⟩)
  · cases e2 : lstD d st with
    | none => rw [e2] at e; cases e
    | some xs =>
      rw [e2] at e
      cases e
      obtain ⟨a, vs, rfl, h, q⟩ := lst_sq S r e2
      exact .inl ⟨vs, h, emp q⟩
section
variable {X : Cx} {W : WX} {a b c : Expr} {es : List Expr} {pos : Pos} {ma mb mc : ME} {mt mu : MT}
def mTru (m : ME) : MT := fun σ st => (m σ st).bind fun d st1 => match truD d st1 with
  | some b => .ok b st1
  | none => .fail
/-- a value's truth, known: what stands behind -/
theorem mTru_of {σ : L2.St} {H : Hp} {Q : Bool → Hp → Prop} (h : tMT X W (mTru ma) σ H Q) : tM X W ma σ H fun x H' => ∃ k, TruV X.K x H' k ∧ Q k H' := by
  obtain ⟨ρ, st, σd, S, E, P⟩ := h
  refine tR.bnd S E P fun x H1 dx st1 ρ1 _ _ S1 E1 R1 P1 => ?_
  split at P1
  · rename_i k e
    exact ⟨k, tru_of S1 R1 e, P1 _ H1 ρ1 Stp.refl S1 rfl⟩
  · exact P1.elim
theorem gt_truth (ha : GE X W a ma) (he : ∀ whole, isTrue a X.env whole = (do let v ← whole; standAt a.pos; holding [v] (truthy v))) : GT X W a (mTru ma) :=
  PT.imp (pt_truth ha he) fun _ _ _ h => mTru_of h
def tNt (m : MT) : MT := fun σ st => (m σ st).bind fun k st1 => .ok (!k) st1
theorem gt_not (ha : GT X W a mt) : GT X W (.UnaryOp .Not a pos) (tNt mt) :=
  PT.imp (pt_not ha) fun σ H Q ⟨ρ, st, σd, S, E, P⟩ => tR.bnd S E P fun x H1 dx st1 ρ1 _ _ S1 E1 R1 P1 => by
    cases R1
    exact P1 _ H1 ρ1 Stp.refl S1 rfl
def tAn (m n : MT) : MT := fun σ st => (m σ st).bind fun k st1 => if k = true then n σ st1 else .ok false st1
def tOo (m n : MT) : MT := fun σ st => (m σ st).bind fun k st1 => if k = true then .ok true st1 else n σ st1
theorem gw_and (ha : GT X W a mt) (hb : GW X W (.BoolOp .And (b :: es) pos) mu) : GW X W (.BoolOp .And (a :: b :: es) pos) (tAn mt mu) :=
  PW.imp (pw_and ha hb) fun σ H Q ⟨ρ, st, σd, S, E, P⟩ => tR.bnd S E P fun x H1 dx st1 ρ1 _ _ S1 E1 R1 P1 => by
    cases R1
    cases x with
    | true => exact ⟨ρ1, st1, σd, S1, E1, P1⟩
    | false => exact P1 _ H1 ρ1 Stp.refl S1 rfl
theorem gw_or (ha : GT X W a mt) (hb : GW X W (.BoolOp .Or (b :: es) pos) mu) : GW X W (.BoolOp .Or (a :: b :: es) pos) (tOo mt mu) :=
  PW.imp (pw_or ha hb) fun σ H Q ⟨ρ, st, σd, S, E, P⟩ => tR.bnd S E P fun x H1 dx st1 ρ1 _ _ S1 E1 R1 P1 => by
    cases R1
    cases x with
    | true => exact P1 _ H1 ρ1 Stp.refl S1 rfl
    | false => exact ⟨ρ1, st1, σd, S1, E1, P1⟩
theorem gw_and1 (ha : GT X W a mt) : GW X W (.BoolOp .And [a] pos) mt := pw_and1 ha
theorem gw_or1 (ha : GT X W a mt) : GW X W (.BoolOp .Or [a] pos) mt := pw_or1 ha
/-- and, or, not as values, by truth -/
def mAn (m n : ME) : ME := fun σ st => (m σ st).bind fun d st1 => match truD d st1 with
  | some true => n σ st1
  | some false => .ok d st1
  | none => .fail
def mOo (m n : ME) : ME := fun σ st => (m σ st).bind fun d st1 => match truD d st1 with
  | some true => .ok d st1
  | some false => n σ st1
  | none => .fail
def mNt (m : ME) : ME := fun σ st => (m σ st).bind fun d st1 => match truD d st1 with
  | some k => .ok (.bl (!k)) st1
  | none => .fail
theorem ge_one {op : BoolOp} (ha : GE X W a ma) : GE X W (.BoolOp op [a] pos) ma := pe_one ha
theorem ge_and (ha : GE X W a ma) (hb : GE X W (.BoolOp .And (b :: es) pos) mb) : GE X W (.BoolOp .And (a :: b :: es) pos) (mAn ma mb) :=
  PE.imp (pe_andT ha hb) fun σ H Q ⟨ρ, st, σd, S, E, P⟩ => tR.bnd S E P fun x H1 dx st1 ρ1 _ _ S1 E1 R1 P1 => by
    split at P1
    · rename_i e
      exact ⟨true, tru_of S1 R1 e, ρ1, st1, σd, S1, E1, P1⟩
    · rename_i e
      exact ⟨false, tru_of S1 R1 e, P1 _ H1 ρ1 Stp.refl S1 R1⟩
    · exact P1.elim
theorem ge_or (ha : GE X W a ma) (hb : GE X W (.BoolOp .Or (b :: es) pos) mb) : GE X W (.BoolOp .Or (a :: b :: es) pos) (mOo ma mb) :=
  PE.imp (pe_orT ha hb) fun σ H Q ⟨ρ, st, σd, S, E, P⟩ => tR.bnd S E P fun x H1 dx st1 ρ1 _ _ S1 E1 R1 P1 => by
    split at P1
    · rename_i e
      exact ⟨true, tru_of S1 R1 e, P1 _ H1 ρ1 Stp.refl S1 R1⟩
    · rename_i e
      exact ⟨false, tru_of S1 R1 e, ρ1, st1, σd, S1, E1, P1⟩
    · exact P1.elim
theorem ge_not (ha : GE X W a ma) : GE X W (.UnaryOp .Not a pos) (mNt ma) :=
  PE.imp (pe_notT ha) fun σ H Q ⟨ρ, st, σd, S, E, P⟩ => tR.bnd S E P fun x H1 dx st1 ρ1 _ _ S1 E1 R1 P1 => by
    split at P1
    · rename_i k e
      exact ⟨k, tru_of S1 R1 e, P1 _ H1 ρ1 Stp.refl S1 (.bl _)⟩
    · exact P1.elim
def mIf (t : MT) (m n : ME) : ME := fun σ st => (t σ st).bind fun k st1 => if k = true then m σ st1 else n σ st1
theorem ge_if (hc : GT X W c mt) (ha : GE X W a ma) (hb : GE X W b mb) : GE X W (.IfExp c a b pos) (mIf mt ma mb) :=
  PE.imp (pe_ifExp hc ha hb) fun σ H Q ⟨ρ, st, σd, S, E, P⟩ => tR.bnd S E P fun x H1 dx st1 ρ1 _ _ S1 E1 R1 P1 => by
    cases R1
    cases x with
    | true => exact ⟨ρ1, st1, σd, S1, E1, P1⟩
    | false => exact ⟨ρ1, st1, σd, S1, E1, P1⟩

/-! ### argument lists, displays -/
def aNil : MA := fun _ st => .ok [] st
def aCons (m : ME) (r : MA) : MA := fun σ st => (m σ st).bind fun d st1 => (r σ st1).bind fun ds st2 => .ok (d :: ds) st2
variable {ra : MA}
theorem ga_nil : GA X W [] aNil := PA.imp pa_nil fun σ H Q ⟨ρ, st, σd, S, E, P⟩ => P _ H ρ Stp.refl S .nil
theorem ga_cons (ha : GE X W a ma) (hr : GA X W es ra) (hs : starEach (a :: es) X.env = (false, eval a X.env) :: starEach es X.env) : GA X W (a :: es) (aCons ma ra) :=
  PA.imp (pa_cons ha hr hs) fun σ H Q ⟨ρ, st, σd, S, E, P⟩ => tR.bnd S E P fun x H1 dx st1 ρ1 _ _ S1 E1 R1 P1 => tR.bnd S1 E1 P1 fun xs H2 ds st2 ρ2 _ a2 S2 E2 R2 P2 =>
    P2 _ H2 ρ2 Stp.refl S2 (.cons (R1.stp S1 a2) R2)
def mTup (r : MA) : ME := fun σ st => (r σ st).bind fun ds st1 => if ds.length ≤ sizeLine then .ok (.tup ds) st1 else .fail
def mLst (r : MA) : ME := fun σ st => (r σ st).bind fun ds st1 => if ds.length ≤ sizeLine then .ok (.loc st1.length) (st1 ++ [.lst ds]) else .fail
theorem ge_tup {k : Nat} (hr : GA X W es ra) : GE X W (.Tuple es k pos) (mTup ra) :=
  PE.imp (pe_tup hr) fun σ H Q ⟨ρ, st, σd, S, E, P⟩ => tR.bnd S E P fun xs H1 ds st1 ρ1 _ _ S1 E1 R1 P1 => by
    split at P1
    · rename_i hl
      exact ⟨by rw [← R1.length]; exact hl, new_tup S1 R1 P1⟩
    · exact P1.elim
theorem ge_lst (hr : GA X W es ra) : GE X W (.List es pos) (mLst ra) :=
  PE.imp (pe_lst hr) fun σ H Q ⟨ρ, st, σd, S, E, P⟩ => tR.bnd S E P fun xs H1 ds st1 ρ1 _ _ S1 E1 R1 P1 => by
    split at P1
    · rename_i hl
      exact ⟨by rw [← R1.length]; exact hl, new_lst S1 R1 P1⟩
    · exact P1.elim

/-! ### calls of built-ins, of their methods, subscripts, slices -/
variable {x : Str} {p apos cpos : Pos} {e : Expr}
def mCB (g : OpN) (r : MA) : ME := fun σ st => (r σ st).bind fun ds st1 => lift (g ds st1)
theorem tCB_of {g : OpN} {σ : L2.St} {H : Hp} {Q : VK} (h : tM X W (mCB g ra) σ H Q) : tCB (rGN X g) (tMA X W ra) σ H Q := by
  obtain ⟨ρ, st, σd, S, E, P⟩ := h
  exact tR.bnd S E P fun xs H1 ds st1 ρ1 _ _ S1 E1 R1 P1 => by
    obtain ⟨d, st', e, q⟩ := P1.lift
    exact ⟨ρ1, st1, ds, d, st', S1, R1, e, q⟩
theorem ge_callB {id : String} {g : OpN} (hc : CallR X (.builtin id) (rGN X g)) (hg : Gl X x) (hm : X.mg x = none) (hv : bootBuiltins x = some (.builtin id)) (ha : GA X W (e :: es) ra) (hn : x ≠ "__name__") (hdb : (x == ("__debug__" : Str)) = false)
    (hs : starEach (e :: es) X.env = (false, eval e X.env) :: starEach es X.env) (hp : (backTo pos (starEach es X.env)).any (·.1) = false) : GE X W (.Call (.Name x p) (e :: es) [] pos) (mCB g ra) :=
  PE.imp (pe_callB hc hg hm hv ha hn hdb hs hp) fun _ _ _ h => tCB_of h
theorem ge_callTy {T : String} {g : OpN} (hc : CallR X (.type T) (rGN X g)) (hg : Gl X x) (hm : X.mg x = none) (hv : bootBuiltins x = some (.type T)) (ha : GA X W (e :: es) ra) (hn : x ≠ "__name__") (hdb : (x == ("__debug__" : Str)) = false)
    (hs : starEach (e :: es) X.env = (false, eval e X.env) :: starEach es X.env) (hp : (backTo pos (starEach es X.env)).any (·.1) = false) : GE X W (.Call (.Name x p) (e :: es) [] pos) (mCB g ra) :=
  PE.imp (pe_callTy hc hg hm hv ha hn hdb hs hp) fun _ _ _ h => tCB_of h
end
end G

/-! G4: operators by values. -/
namespace G
open PySem L2

section
variable {X : Cx} {K : PySem.W.Frag} {mg : Str → Option Value} {ρ : List Addr} {H : Hp} {st : Store} {Q : VK}
/-- nothing has changed -/
theorem Cont.here {d : D} {v : V} (q : Cont K mg (Rep K mg) ρ H d st Q) (S : SR K mg ρ st H) (r : Rep K mg ρ H d v) : Q v H := q v H ρ Stp.refl S r
def lstAt (st : Store) (n : Nat) : Option (List D) := match st[n]? with
  | some (.lst xs) => some xs
  | _ => none
theorem lstAt_eq {n : Nat} {xs : List D} (h : lstAt st n = some xs) : st[n]? = some (.lst xs) := by
  unfold lstAt at h
  split at h
  · rename_i e; cases h; exact e
  · cases h
def opAdd : Op2 := fun x y st => match x, y with
  | .int i, .int j => some (.int (i + j), st)
  | .str a, .str b => if a.length + b.length ≤ sizeLine then some (.str (a ++ b), st) else none
  | .tup xs, .tup ys => if xs.length + ys.length ≤ sizeLine then some (.tup (xs ++ ys), st) else none
  | .loc m, .loc n => match lstAt st m, lstAt st n with
    | some xs, some ys => if xs.length + ys.length ≤ sizeLine then some (.loc st.length, st ++ [.lst (xs ++ ys)]) else none
    | _, _ => none
  | _, _ => none
theorem opAdd_ok : OpR X (binaryOp .Add) (rG2 X opAdd) :=
  OpR.imp ((op_add.or op_add_str).or ((op_catA).or op_cat)) fun x y H Q ⟨ρ, st, dx, dy, d, st', S, r1, r2, e, q⟩ => by
    unfold opAdd at e
    split at e
    · cases e; cases r1; cases r2
      exact .inl (.inl ⟨_, _, rfl, rfl, q.here S (.int _)⟩)
    · split at e
      · rename_i hl
        cases e; cases r1; cases r2
        exact .inl (.inr ⟨_, _, rfl, rfl, hl, q.here S (.str _)⟩)
      · cases e
    · rename_i xs ys
      split at e
      · rename_i hl
        cases e
        obtain ⟨a, vs, rfl, h1, p1⟩ := tup_sq r1
        obtain ⟨b, ws, rfl, h2, p2⟩ := tup_sq r2
        refine .inr (.inl ⟨a, b, vs, ws, rfl, rfl, h1, h2, by rw [← p1.length, ← p2.length]; exact hl, fun hx => ?_, fun _ hy => ?_, fun _ _ => new_tup S (p1.append p2) q⟩)
        · subst hx
          cases p1
          exact q.here S (by simpa using r2)
        · subst hy
          cases p2
          exact q.here S (by simpa using r1)
      · cases e
    · rename_i m n
      split at e
      · rename_i xs ys e1 e2
        split at e
        · rename_i hl
          cases e
          obtain ⟨a, vs, rfl, _, h1, p1⟩ := loc_lst S r1 (lstAt_eq e1)
          obtain ⟨b, ws, rfl, _, h2, p2⟩ := loc_lst S r2 (lstAt_eq e2)
          exact .inr (.inr ⟨a, b, vs, ws, rfl, rfl, h1, h2, by rw [← p1.length, ← p2.length]; exact hl, new_lst S (p1.append p2) q⟩)
        · cases e
      · cases e
    · cases e
def opSub : Op2 := fun x y st => match x, y with
  | .int i, .int j => some (.int (i - j), st)
  | _, _ => none
theorem opSub_ok : OpR X (binaryOp .Sub) (rG2 X opSub) :=
  OpR.imp op_sub fun x y H Q ⟨ρ, st, dx, dy, d, st', S, r1, r2, e, q⟩ => by
    unfold opSub at e
    split at e
    · cases e; cases r1; cases r2
      exact ⟨_, _, rfl, rfl, q.here S (.int _)⟩
    · cases e
def opMod : Op2 := fun x y st => match x, y with
  | .int i, .int j => if 0 < j then some (.int (i % j), st) else none
  | _, _ => none
theorem opMod_ok : OpR X (binaryOp .Mod) (rG2 X opMod) :=
  OpR.imp op_mod fun x y H Q ⟨ρ, st, dx, dy, d, st', S, r1, r2, e, q⟩ => by
    unfold opMod at e
    split at e
    · split at e
      · cases e; cases r1; cases r2
        exact ⟨_, _, rfl, rfl, by assumption, q.here S (.int _)⟩
      · cases e
    · cases e
def opDiv : Op2 := fun x y st => match x, y with
  | .int i, .int j => if 0 < j ∧ j < 1073741824 then some (.int (i / j), st) else none
  | _, _ => none
theorem opDiv_ok : OpR X (binaryOp .FloorDiv) (rG2 X opDiv) :=
  OpR.imp op_fdiv fun x y H Q ⟨ρ, st, dx, dy, d, st', S, r1, r2, e, q⟩ => by
    unfold opDiv at e
    split at e
    · split at e
      · cases e; cases r1; cases r2
        exact ⟨_, _, rfl, rfl, by assumption, q.here S (.int _)⟩
      · cases e
    · cases e
def opPow : Op2 := fun x y st => match x, y with
  | .int i, .int j => if 0 ≤ j ∧ j ≤ 1000000 ∧ i.natAbs < 2 ^ 64 then some (.int (i ^ j.toNat), st) else none
  | _, _ => none
theorem opPow_ok : OpR X (binaryOp .Pow) (rG2 X opPow) :=
  OpR.imp op_pow fun x y H Q ⟨ρ, st, dx, dy, d, st', S, r1, r2, e, q⟩ => by
    unfold opPow at e
    split at e
    · split at e
      · cases e; cases r1; cases r2
        exact ⟨_, _, rfl, rfl, by assumption, q.here S (.int _)⟩
      · cases e
    · cases e
/-- a text so often -/
def strMul (z : Str) (k : Int) : Str := ⟨(List.replicate k.toNat z.cps.toList).flatten.toArray⟩
theorem foldl_app (l : List (Array Nat)) : ∀ acc : Array Nat, l.foldl (· ++ ·) acc = acc ++ (l.map Array.toList).flatten.toArray := by
  induction l with
  | nil => intro acc; simp
  | cons a r ih =>
    intro acc
    rw [List.foldl_cons, ih]
    apply Array.toList_inj.mp
    simp
theorem strMul_length (z : Str) (k : Int) : (strMul z k).length = k.toNat * z.length := by
  unfold strMul Str.length
  simp
theorem op_mulS : OpR X (binaryOp .Mult) (fun x y H Q => ∃ z k, x = .str z ∧ y = .int k ∧ -(2 ^ 63) ≤ k ∧ k < 2 ^ 63 ∧ z.length * k.toNat ≤ sizeLine ∧ Q (.str (strMul z k)) H) := by
  intro pins s σ H x y v u Q I rx ry h
  obtain ⟨z, k, rfl, rfl, h1, h2, hl, q⟩ := h
  obtain ⟨t, rfl⟩ := rx
  obtain ⟨t', rfl⟩ := ry
  have hb : ¬ k < 1 → (k == 1 || z.length == 0) = false → ¬ ((z.length : Int) > (2 ^ 63 - 1) / k) := fun hk _ hz => by
    have h3 : (z.length : Int) * k ≤ 2 ^ 63 - 1 := by
      have h4 : ((z.length * k.toNat : Nat) : Int) ≤ ((sizeLine : Nat) : Int) := Int.ofNat_le.mpr hl
      rw [Int.natCast_mul, Int.toNat_of_nonneg (by omega), sizeLine_eq] at h4
      omega
    exact absurd (Int.le_ediv_of_mul_le (by omega) h3) (by omega)
  refine P.mul_str (by rw [decide_eq_false (by omega), decide_eq_false (by omega)]; rfl) hb (fun _ _ => ?_) ?_
  · unfold Builtin.Str.tooLong
    exact decide_eq_false (by omega)
  · have fin : ∀ w : Str, w = strMul z k → w.length ≤ sizeLine → Made.post (.str w) (EP X pins σ Q) s := fun w e hw => by
      subst e
      exact ⟨hw, .str _, H, I.tok _, ⟨_, rfl⟩, q⟩
    split
    · rename_i hk
      refine fin _ ?_ (by decide)
      unfold strMul
      rw [Int.toNat_of_nonpos (by omega)]
      rfl
    · rename_i hk
      split
      · rename_i h3
        refine ⟨.str z, H, I, ⟨t, rfl⟩, ?_⟩
        have e : strMul z k = z := by
          unfold strMul
          rw [Bool.or_eq_true] at h3
          rcases h3 with h3 | h3
          · have h4 : k = 1 := by simpa using h3
            subst h4
            simp
          · have h4 : z.cps.toList = [] := by
              have h5 : z.cps.size = 0 := by simpa [Str.length] using h3
              simpa using h5
            rw [h4]
            obtain ⟨c⟩ := z
            simp at h4
            subst h4
            simp
        rw [e] at q
        exact q
      · refine fin _ ?_ ?_
        · rw [foldl_app]
          unfold strMul
          simp
        · rw [foldl_app]
          show (#[] ++ ((List.replicate k.toNat z.cps).map Array.toList).flatten.toArray).size ≤ sizeLine
          have := strMul_length z k
          unfold strMul Str.length at this
          simp at this ⊢
          rw [Nat.mul_comm]
          exact hl
/-- a product: of ints, of a text, a list, a tuple and an int -/
def opMul : Op2 := fun x y st => match x, y with
  | .int i, .int j => if ((-(2 ^ 64) < i ∧ i < 2 ^ 64) ∨ (-(2 ^ 64) < j ∧ j < 2 ^ 64)) ∨ i.natAbs.log2 + j.natAbs.log2 < 1000000 then some (.int (i * j), st) else none
  | .str z, .int k => if -(2 ^ 63) ≤ k ∧ k < 2 ^ 63 ∧ z.length * k.toNat ≤ sizeLine then some (.str (strMul z k), st) else none
  | .loc n, .int k => match lstAt st n with
    | some xs => if -(2 ^ 63) ≤ k ∧ k < 2 ^ 63 ∧ xs.length * k.toNat ≤ sizeLine then some (.loc st.length, st ++ [.lst (List.replicate k.toNat xs).flatten]) else none
    | none => none
  | .tup xs, .int k => if xs ≠ [] ∧ 2 ≤ k ∧ k ≤ 1000 ∧ xs.length ≤ 1000 then some (.tup (List.replicate k.toNat xs).flatten, st) else none
  | _, _ => none
theorem Reps.rep {xs : List D} {vs : List V} (h : Reps K mg ρ H xs vs) : ∀ k : Nat, Reps K mg ρ H (List.replicate k xs).flatten (List.replicate k vs).flatten
  | 0 => .nil
  | k + 1 => by
    rw [List.replicate_succ, List.replicate_succ, List.flatten_cons, List.flatten_cons]
    exact h.append (Reps.rep h k)
theorem opMul_ok : OpR X (binaryOp .Mult) (rG2 X opMul) :=
  OpR.imp ((op_mul.or op_mulW).or (op_mulS.or (op_rep.or op_repT))) fun x y H Q ⟨ρ, st, dx, dy, d, st', S, r1, r2, e, q⟩ => by
    unfold opMul at e
    split at e
    · split at e
      · rename_i h
        cases e; cases r1; cases r2
        rcases h with h | h
        · exact .inl (.inl ⟨_, _, rfl, rfl, h, q.here S (.int _)⟩)
        · exact .inl (.inr ⟨_, _, rfl, rfl, h, q.here S (.int _)⟩)
      · cases e
    · split at e
      · rename_i h
        cases e; cases r1; cases r2
        exact .inr (.inl ⟨_, _, rfl, rfl, h.1, h.2.1, h.2.2, q.here S (.str _)⟩)
      · cases e
    · split at e
      · rename_i e1
        split at e
        · rename_i h
          cases e; cases r2
          obtain ⟨a, vs, rfl, _, h1, p1⟩ := loc_lst S r1 (lstAt_eq e1)
          exact .inr (.inr (.inl ⟨a, _, vs, rfl, rfl, h1, h.1, h.2.1, by rw [← p1.length]; exact h.2.2, new_lst S (p1.rep _) q⟩))
        · cases e
      · cases e
    · split at e
      · rename_i h
        cases e; cases r2
        obtain ⟨a, vs, rfl, h1, p1⟩ := tup_sq r1
        refine .inr (.inr (.inr ⟨a, _, vs, rfl, rfl, h1, fun z => h.1 ?_, h.2.1, h.2.2.1, by rw [← p1.length]; exact h.2.2.2, new_tup S (p1.rep _) q⟩))
        subst z
        cases p1
        rfl
      · cases e
    · cases e
/-- whole numbers in order -/
def opCmpI (p : Int → Int → Bool) : Op2 := fun x y st => match x, y with
  | .int i, .int j => some (.bl (p i j), st)
  | _, _ => none
theorem opCmpI_of {op : CmpOp} {p : Int → Int → Bool} (h : OpR X (compareOp op) (rI0 fun i j => .bl (p i j))) : OpR X (compareOp op) (rG2 X (opCmpI p)) :=
  OpR.imp h fun x y H Q ⟨ρ, st, dx, dy, d, st', S, r1, r2, e, q⟩ => by
    unfold opCmpI at e
    split at e
    · cases e; cases r1; cases r2
      exact ⟨_, _, rfl, rfl, q.here S (.bl _)⟩
    · cases e
abbrev opLt : Op2 := opCmpI fun i j => decide (i < j)
abbrev opLe : Op2 := opCmpI fun i j => decide (i ≤ j)
abbrev opGt : Op2 := opCmpI fun i j => decide (j < i)
abbrev opGe : Op2 := opCmpI fun i j => decide (j ≤ i)
theorem opLt_ok : OpR X (compareOp .Lt) (rG2 X opLt) := opCmpI_of op_lt
theorem opLe_ok : OpR X (compareOp .LtE) (rG2 X opLe) := opCmpI_of op_le
theorem opGt_ok : OpR X (compareOp .Gt) (rG2 X opGt) := opCmpI_of op_gt
theorem opGe_ok : OpR X (compareOp .GtE) (rG2 X opGe) := opCmpI_of op_ge
/-- is None, is not None -/
def opIsN (neg : Bool) : Op2 := fun x y st => match x, y with
  | .non, .non => some (.bl (!neg), st)
  | .ty _, _ => none
  | .fn _, _ => none
  | _, .non => some (.bl neg, st)
  | _, _ => none
theorem opIsN_val {x y d : D} {neg : Bool} {st st' : Store} (e : opIsN neg x y st = some (d, st')) : y = .non ∧ st' = st ∧ ∃ b, d = .bl (b != neg) ∧ (b = true ↔ x = .non) := by
  unfold opIsN at e
  split at e
  · cases e; exact ⟨rfl, rfl, true, by cases neg <;> rfl, by simp⟩
  · cases e
  · cases e
  · rename_i h1 _ _
    cases e; exact ⟨rfl, rfl, false, by cases neg <;> rfl, by
      constructor
      · intro z; cases z
      · intro z; exact absurd z h1⟩
  · cases e
end
end G

/-! G5: values as data: ==, !=, in, not in, repr. -/
namespace G
open PySem L2

mutual
/-- a value as data; f tells what stands at a place -/
def pdW (f : Nat → Option PyData) : D → Option PyData
  | .non => some .none
  | .bl b => some (.bool b)
  | .int i => some (.int i)
  | .str s => some (.str s)
  | .tup xs => (pdsW f xs).map .tuple
  | .rol xs => (pdsW f xs).map .list
  | .loc n => f n
  | .fn _ => none
  | .ty _ => none
def pdsW (f : Nat → Option PyData) : List D → Option (List PyData)
  | [] => some []
  | d :: ds => match pdW f d, pdsW f ds with
    | some p, some ps => some (p :: ps)
    | _, _ => none
end
def pdS : Nat → Store → Nat → Option PyData
  | 0, _, _ => none
  | k + 1, st, n => match lstAt st n with
    | some xs => (pdsW (pdS k st) xs).map .list
    | none => none
def toP (st : Store) (d : D) : Option PyData := pdW (pdS 8 st) d
def toPs (st : Store) (ds : List D) : Option (List PyData) := pdsW (pdS 8 st) ds
section
variable {K : PySem.W.Frag} {mg : Str → Option Value} {ρ : List Addr} {H : Hp} {st : Store}
mutual
theorem pdW_dp (f : Nat → Option PyData) (hf : ∀ n v p, Rep K mg ρ H (.loc n) v → f n = some p → Dp K H v p) : ∀ (d : D) (v : V) (p : PyData), Rep K mg ρ H d v → pdW f d = some p → Dp K H v p
  | .non, _, _, r, e => by cases r; unfold pdW at e; cases e; exact .non
  | .bl b, _, _, r, e => by cases r; unfold pdW at e; cases e; exact .bl _
  | .int i, _, _, r, e => by cases r; unfold pdW at e; cases e; exact .int _
  | .str s, _, _, r, e => by cases r; unfold pdW at e; cases e; exact .str _
  | .tup xs, _, _, r, e => by
    unfold pdW at e
    cases e2 : pdsW f xs with
    | none => rw [e2] at e; cases e
    | some ps =>
      rw [e2] at e
      cases e
      cases r with
      | tup h q => exact .tup (.inl (.inl h)) (pdsW_dp f hf xs _ ps q e2)
  | .rol xs, _, _, r, e => by
    unfold pdW at e
    cases e2 : pdsW f xs with
    | none => rw [e2] at e; cases e
    | some ps =>
      rw [e2] at e
      cases e
      cases r with
      | rol h q => exact .lst h.sq (pdsW_dp f hf xs _ ps q e2)
  | .loc n, v, p, r, e => hf n v p r (by unfold pdW at e; exact e)
  | .fn _, _, _, _, e => by unfold pdW at e; cases e
  | .ty _, _, _, _, e => by unfold pdW at e; cases e
theorem pdsW_dp (f : Nat → Option PyData) (hf : ∀ n v p, Rep K mg ρ H (.loc n) v → f n = some p → Dp K H v p) : ∀ (ds : List D) (vs : List V) (ps : List PyData), Reps K mg ρ H ds vs → pdsW f ds = some ps → DpAll K H vs ps
  | [], _, _, r, e => by cases r; unfold pdsW at e; cases e; exact .nil
  | d :: ds, _, _, r, e => by
    unfold pdsW at e
    split at e
    · rename_i e1 e2
      cases e
      cases r with
      | cons r1 r2 => exact .cons (pdW_dp f hf d _ _ r1 e1) (pdsW_dp f hf ds _ _ r2 e2)
    · cases e
end
theorem pdS_dp (S : SR K mg ρ st H) : ∀ (k n : Nat) (v : V) (p : PyData), Rep K mg ρ H (.loc n) v → pdS k st n = some p → Dp K H v p
  | 0, _, _, _, _, e => by unfold pdS at e; cases e
  | k + 1, n, v, p, r, e => by
    unfold pdS at e
    split at e
    · rename_i xs hx
      cases e2 : pdsW (pdS k st) xs with
      | none => rw [e2] at e; cases e
      | some ps =>
        rw [e2] at e
        cases e
        obtain ⟨a, vs, rfl, _, h, q⟩ := loc_lst S r (lstAt_eq hx)
        exact .lst (.inl (.inl h)) (pdsW_dp _ (fun m w p' => pdS_dp S k m w p') xs vs ps q e2)
    · cases e
theorem toP_dp (S : SR K mg ρ st H) {d : D} {v : V} {p : PyData} (r : Rep K mg ρ H d v) (e : toP st d = some p) : Dp K H v p := pdW_dp _ (pdS_dp S 8) d v p r e
theorem toPs_dp (S : SR K mg ρ st H) {ds : List D} {vs : List V} {ps : List PyData} (r : Reps K mg ρ H ds vs) (e : toPs st ds = some ps) : DpAll K H vs ps := pdsW_dp _ (pdS_dp S 8) ds vs ps r e
end

/-! ### ==, != -/
def eqD (x y : D) (st : Store) : Option Bool := match toP st x, toP st y with
  | some p, some q => if SeqAt.shaped p && SeqAt.shaped q then some (PyData.eqv p q) else none
  | _, _ => none
def opEq (neg : Bool) : Op2 := fun x y st => match x, y with
  | .str a, .str b => some (.bl ((a == b) != neg), st)
  | x, y => (eqD x y st).map fun b => (.bl (b != neg), st)
theorem eqD_val {x y : D} {st : Store} {b : Bool} (e : eqD x y st = some b) : ∃ p q, toP st x = some p ∧ toP st y = some q ∧ SeqAt.shaped p = true ∧ SeqAt.shaped q = true ∧ b = PyData.eqv p q := by
  unfold eqD at e
  split at e
  · rename_i p q e1 e2
    split at e
    · rename_i h
      cases e
      rw [Bool.and_eq_true] at h
      exact ⟨p, q, e1, e2, h.1, h.2, rfl⟩
    · cases e
  · cases e
section
variable {X : Cx}
theorem opEq_ok (hu : X.A.units + 64 < cLine) : OpR X (compareOp .Eq) (rG2 X (opEq false)) :=
  OpR.imp ((op_eqD hu).or op_eq) fun x y H Q ⟨ρ, st, dx, dy, d, st', S, r1, r2, e, q⟩ => by
    unfold opEq at e
    split at e
    · rename_i a b
      cases r1; cases r2; cases e
      refine .inr ⟨rfl, ?_⟩
      have z := q.here S (.bl _)
      have ed : decide (V.str a = V.str b) = (a == b) := dec_str
      rw [ed]
      simpa using z
    · cases e1 : eqD dx dy st with
      | none => rw [e1] at e; cases e
      | some b =>
        rw [e1] at e
        cases e
        obtain ⟨p, p', h1, h2, h3, h4, rfl⟩ := eqD_val e1
        exact .inl ⟨p, p', toP_dp S r1 h1, toP_dp S r2 h2, h3, h4, by simpa using q.here S (.bl _)⟩
theorem opNe_ok (hu : X.A.units + 64 < cLine) : OpR X (compareOp .NotEq) (rG2 X (opEq true)) :=
  OpR.imp ((op_neD hu).or op_ne) fun x y H Q ⟨ρ, st, dx, dy, d, st', S, r1, r2, e, q⟩ => by
    unfold opEq at e
    split at e
    · rename_i a b
      cases r1; cases r2; cases e
      refine .inr ⟨rfl, ?_⟩
      have z := q.here S (.bl _)
      have ed : decide (V.str a = V.str b) = (a == b) := dec_str
      rw [ed]
      simpa using z
    · cases e1 : eqD dx dy st with
      | none => rw [e1] at e; cases e
      | some b =>
        rw [e1] at e
        cases e
        obtain ⟨p, p', h1, h2, h3, h4, rfl⟩ := eqD_val e1
        exact .inl ⟨p, p', toP_dp S r1 h1, toP_dp S r2 h2, h3, h4, by simpa using q.here S (.bl _)⟩
theorem opIsN_ok : OpR X (compareOp .Is) (rG2 X (opIsN false)) :=
  OpR.imp op_isN fun x y H Q ⟨ρ, st, dx, dy, d, st', S, r1, r2, e, q⟩ => by
    obtain ⟨rfl, rfl, b, rfl, hb⟩ := opIsN_val e
    cases r2
    have h := q.here S (.bl (b != false))
    refine ⟨rfl, ?_⟩
    have e2 : decide (x = .non) = (b != false) := by
      cases b with
      | true => obtain rfl := hb.mp rfl; cases r1; rfl
      | false =>
        refine decide_eq_false fun z => ?_
        subst z
        have : dx = .non := by cases r1; rfl
        exact absurd (hb.mpr this) (by simp)
    rw [e2]
    exact h
theorem opIsNot_ok : OpR X (compareOp .IsNot) (rG2 X (opIsN true)) :=
  OpR.imp op_notN fun x y H Q ⟨ρ, st, dx, dy, d, st', S, r1, r2, e, q⟩ => by
    obtain ⟨rfl, rfl, b, rfl, hb⟩ := opIsN_val e
    cases r2
    have h := q.here S (.bl (b != true))
    refine ⟨rfl, ?_⟩
    have e2 : (!decide (x = .non)) = (b != true) := by
      cases b with
      | true => obtain rfl := hb.mp rfl; cases r1; rfl
      | false =>
        rw [decide_eq_false]
        · rfl
        intro z
        subst z
        have : dx = .non := by cases r1; rfl
        exact absurd (hb.mpr this) (by simp)
    rw [e2]
    exact h
end
end G

/-! G6: dicts. -/
namespace G
open PySem L2

abbrev DK := Sum Key (List Key)
def kOf : D → Option DK
  | .tup ds => (keysD ds).map .inr
  | .int i => some (.inl (.inl i))
  | .str s => some (.inl (.inr s))
  | _ => none
theorem kOf_key {d : D} {k : Key} (h : keyD d = some k) : kOf d = some (.inl k) := by
  cases d <;> simp [keyD] at h <;> subst h <;> rfl
theorem kOf_tup {ds : List D} {ks : List Key} (h : keysD ds = some ks) : kOf (.tup ds) = some (.inr ks) := by
  show (keysD ds).map _ = _
  rw [h]; rfl
def dGet (kvs : List (D × D)) (k : D) : Option D := (kvs.find? fun kv => decide (kOf kv.1 = kOf k)).map (·.2)
def dPut (kvs : List (D × D)) (k v : D) : List (D × D) :=
  if (kvs.any fun kv => decide (kOf kv.1 = kOf k)) = true then kvs.map fun kv => if kOf kv.1 = kOf k then (kv.1, v) else kv else kvs ++ [(k, v)]
def dDrop (kvs : List (D × D)) (k : D) : List (D × D) := kvs.filter fun kv => decide (kOf kv.1 ≠ kOf k)
theorem set_same {α : Type} {l : List α} {n : Nat} {c : α} (h : l[n]? = some c) : l.set n c = l := by
  apply List.ext_getElem?
  intro i
  by_cases e : n = i
  · subst e
    rw [List.getElem?_set_self (List.getElem?_eq_some_iff.mp h).1, h]
  · rw [List.getElem?_set_ne e]
/-- one kind of keys -/
def sameKind : Option DK → Option DK → Bool
  | some (.inl _), some (.inl _) => true
  | some (.inr _), some (.inr _) => true
  | _, _ => false
def kindOk (kvs : List (D × D)) (k : D) : Bool := match kvs with
  | [] => (kOf k).isSome
  | kv :: _ => sameKind (kOf kv.1) (kOf k)
/-- a dict that may be read, that may be changed -/
def dctR (st : Store) (n : Nat) : Option (List (D × D)) := match st[n]? with
  | some (.dct kvs) => some kvs
  | some (.lck (.dct kvs)) => some kvs
  | _ => none
def dctW (st : Store) (n : Nat) : Option (List (D × D)) := match st[n]? with
  | some (.dct kvs) => some kvs
  | _ => none
theorem dctW_eq {st : Store} {n : Nat} {kvs : List (D × D)} (h : dctW st n = some kvs) : st[n]? = some (.dct kvs) := by
  unfold dctW at h
  split at h
  · rename_i e; cases h; exact e
  · cases h
section
variable {K : PySem.W.Frag} {mg : Str → Option Value} {ρ : List Addr} {H : Hp} {st : Store}
abbrev PK1 (K : PySem.W.Frag) (mg : Str → Option Value) (ρ : List Addr) (H : Hp) : List (D × D) → List (Key × V) → Prop := Paired fun p q => keyD p.1 = some q.1 ∧ Rep K mg ρ H p.2 q.2
abbrev PK2 (K : PySem.W.Frag) (mg : Str → Option Value) (ρ : List Addr) (H : Hp) : List (D × D) → List (List Key × V) → Prop := Paired fun p q => (∃ ds, p.1 = .tup ds ∧ keysD ds = some q.1) ∧ Rep K mg ρ H p.2 q.2
/-- both kinds of keys at once: κ into DK -/
structure Kd (κ : Type) [DecidableEq κ] where
  inj : κ → DK
  one : ∀ a b, inj a = inj b → a = b
def kd1 : Kd Key := ⟨.inl, fun _ _ h => Sum.inl.inj h⟩
def kd2 : Kd (List Key) := ⟨.inr, fun _ _ h => Sum.inr.inj h⟩
abbrev PKg {κ : Type} [DecidableEq κ] (c : Kd κ) (K : PySem.W.Frag) (mg : Str → Option Value) (ρ : List Addr) (H : Hp) : List (D × D) → List (κ × V) → Prop := Paired fun p q => kOf p.1 = some (c.inj q.1) ∧ Rep K mg ρ H p.2 q.2
theorem PK1.g {kvs : List (D × D)} {ps : List (Key × V)} (h : PK1 K mg ρ H kvs ps) : PKg kd1 K mg ρ H kvs ps := Paired.mapR h fun _ _ q => ⟨kOf_key q.1, q.2⟩
theorem PK2.g {kvs : List (D × D)} {ps : List (List Key × V)} (h : PK2 K mg ρ H kvs ps) : PKg kd2 K mg ρ H kvs ps := Paired.mapR h fun x _ q => ⟨by obtain ⟨ds, e, k⟩ := q.1; rw [e]; exact kOf_tup k, q.2⟩
section
variable {κ : Type} [DecidableEq κ] {c : Kd κ}
theorem key_dec {a b : κ} {x y : D} (hx : kOf x = some (c.inj a)) (hy : kOf y = some (c.inj b)) : decide (kOf x = kOf y) = decide (a = b) := by
  rw [hx, hy]
  by_cases h : a = b
  · subst h; simp
  · rw [decide_eq_false h]
    exact decide_eq_false fun z => h (c.one _ _ (Option.some.inj z))
theorem PKg.len {kvs : List (D × D)} {ps : List (κ × V)} (h : PKg c K mg ρ H kvs ps) : kvs.length = ps.length := Paired.length h
theorem PKg.get {k : D} {k' : κ} (hk : kOf k = some (c.inj k')) : ∀ {kvs : List (D × D)} {ps : List (κ × V)}, PKg c K mg ρ H kvs ps → match dGet kvs k with | none => valV ps k' = none | some d => ∃ w, valV ps k' = some w ∧ Rep K mg ρ H d w
  | _, _, .nil => by simp [dGet, valV]
  | _, _, .cons (a := p) (b := q) (l₁ := r) (l₂ := l) h t => by
    have ih := PKg.get hk t
    have e := key_dec (c := c) h.1 hk
    unfold dGet valV at ih ⊢
    rw [List.find?_cons, List.find?_cons, e]
    cases decide (q.1 = k') with
    | true => exact ⟨_, rfl, h.2⟩
    | false => exact ih
theorem PKg.any {k : D} {k' : κ} (hk : kOf k = some (c.inj k')) : ∀ {kvs : List (D × D)} {ps : List (κ × V)}, PKg c K mg ρ H kvs ps → (kvs.any fun kv => decide (kOf kv.1 = kOf k)) = ps.any fun kv => decide (kv.1 = k')
  | _, _, .nil => rfl
  | _, _, .cons h t => by
    rw [List.any_cons, List.any_cons, key_dec (c := c) h.1 hk, PKg.any hk t]
theorem PKg.repl {k : D} {k' : κ} (hk : kOf k = some (c.inj k')) {v : D} {w : V} (hv : Rep K mg ρ H v w) : ∀ {kvs : List (D × D)} {ps : List (κ × V)}, PKg c K mg ρ H kvs ps →
    PKg c K mg ρ H (kvs.map fun kv => if kOf kv.1 = kOf k then (kv.1, v) else kv) (ps.map fun kv => if kv.1 = k' then (kv.1, w) else kv)
  | _, _, .nil => .nil
  | _, _, .cons (a := p) (b := q) h t => by
    have e := key_dec (c := c) h.1 hk
    refine .cons ?_ (PKg.repl hk hv t)
    dsimp only
    by_cases z : q.1 = k'
    · rw [decide_eq_true z] at e
      rw [if_pos z, if_pos (of_decide_eq_true e)]
      exact ⟨h.1, hv⟩
    · rw [decide_eq_false z] at e
      rw [if_neg z, if_neg (of_decide_eq_false e)]
      exact h
theorem PKg.app {kvs kvs' : List (D × D)} {ps ps' : List (κ × V)} (h : PKg c K mg ρ H kvs ps) (h' : PKg c K mg ρ H kvs' ps') : PKg c K mg ρ H (kvs ++ kvs') (ps ++ ps') := by
  induction h with
  | nil => exact h'
  | cons a b ih => exact .cons a ih
theorem PKg.put {k : D} {k' : κ} (hk : kOf k = some (c.inj k')) {v : D} {w : V} (hv : Rep K mg ρ H v w) {kvs : List (D × D)} {ps : List (κ × V)} (h : PKg c K mg ρ H kvs ps) : PKg c K mg ρ H (dPut kvs k v) (putK ps k' w) := by
  unfold dPut putK
  rw [PKg.any hk h]
  split
  · exact PKg.repl hk hv h
  · exact PKg.app h (.cons ⟨hk, hv⟩ .nil)
theorem PKg.drop {k : D} {k' : κ} (hk : kOf k = some (c.inj k')) : ∀ {kvs : List (D × D)} {ps : List (κ × V)}, PKg c K mg ρ H kvs ps → PKg c K mg ρ H (dDrop kvs k) (dropK ps k')
  | _, _, .nil => .nil
  | _, _, .cons (a := p) (b := q) h t => by
    have e := key_dec (c := c) h.1 hk
    have ih := PKg.drop hk t
    unfold dDrop dropK at ih ⊢
    rw [List.filter_cons, List.filter_cons]
    by_cases z : q.1 = k'
    · rw [decide_eq_true z] at e
      rw [if_neg (by simpa using of_decide_eq_true e), if_neg (by simpa using z)]
      exact ih
    · rw [decide_eq_false z] at e
      rw [if_pos (by simpa using of_decide_eq_false e), if_pos (by simpa using z)]
      exact .cons h ih
end
theorem PKg.one {kvs : List (D × D)} {ps : List (Key × V)} (h : PKg kd1 K mg ρ H kvs ps) : PK1 K mg ρ H kvs ps := Paired.mapR h fun x y q => by
  obtain ⟨x1, x2⟩ := x
  obtain ⟨q1, q2⟩ := q
  refine ⟨?_, q2⟩
  dsimp only at q1
  cases x1 with
  | tup ds =>
    have q3 : (keysD ds).map Sum.inr = some (Sum.inl y.1 : DK) := q1
    cases e : keysD ds with
    | none => rw [e] at q3; cases q3
    | some ks => rw [e] at q3; cases q3
  | int i => exact congrArg some (Sum.inl.inj (Option.some.inj q1))
  | str i => exact congrArg some (Sum.inl.inj (Option.some.inj q1))
  | _ => exact (nomatch q1)
theorem PKg.two {kvs : List (D × D)} {ps : List (List Key × V)} (h : PKg kd2 K mg ρ H kvs ps) : PK2 K mg ρ H kvs ps := Paired.mapR h fun x y q => by
  obtain ⟨x1, x2⟩ := x
  obtain ⟨q1, q2⟩ := q
  refine ⟨?_, q2⟩
  dsimp only at q1
  cases x1 with
  | tup ds =>
    have q3 : (keysD ds).map Sum.inr = some (Sum.inr y.1 : DK) := q1
    cases e : keysD ds with
    | none => rw [e] at q3; cases q3
    | some ks =>
      rw [e] at q3
      exact ⟨ds, rfl, by rw [e]; exact congrArg some (Sum.inr.inj (Option.some.inj q3))⟩
  | int i => exact (nomatch (Option.some.inj q1 : (Sum.inl _ : DK) = Sum.inr _))
  | str i => exact (nomatch (Option.some.inj q1 : (Sum.inl _ : DK) = Sum.inr _))
  | _ => exact (nomatch q1)
/-- a key's value -/
theorem key_val {k : D} {k' : Key} {y : V} (r : Rep K mg ρ H k y) (h : kOf k = some (.inl k')) : y = kV k' := by
  cases r with
  | int i => cases h; rfl
  | str i => cases h; rfl
  | tup h1 h2 =>
    rename_i a ds vs
    have q3 : (keysD ds).map Sum.inr = some (Sum.inl k' : DK) := h
    cases e : keysD ds with
    | none => rw [e] at q3; cases q3
    | some ks => rw [e] at q3; cases q3
  | _ => exact (nomatch h)
theorem keys_val : ∀ {ds : List D} {ks : List Key} {vs : List V}, Reps K mg ρ H ds vs → keysD ds = some ks → vs = ks.map kV
  | [], _, _, .nil, e => by cases e; rfl
  | d :: ds, _, _, .cons h r, e => by
    unfold keysD at e
    split at e
    · rename_i k ks e1 e2
      cases e
      rw [key_val h (kOf_key e1), keys_val r e2]
      rfl
    · cases e
theorem keyt_val {k : D} {ks : List Key} {y : V} (r : Rep K mg ρ H k y) (h : kOf k = some (.inr ks)) : ∃ b, y = .ref b ∧ H b = some (.tup (ks.map kV)) := by
  cases r with
  | tup h1 h2 =>
    rename_i a ds vs
    have q3 : (keysD ds).map Sum.inr = some (Sum.inr ks : DK) := h
    cases e : keysD ds with
    | none => rw [e] at q3; cases q3
    | some ks' =>
      rw [e] at q3
      cases q3
      exact ⟨a, rfl, by rw [h1, keys_val h2 e]⟩
  | int i => exact (nomatch (Option.some.inj h : (Sum.inl _ : DK) = Sum.inr _))
  | str i => exact (nomatch (Option.some.inj h : (Sum.inl _ : DK) = Sum.inr _))
  | _ => exact (nomatch h)
end
section
variable {X : Cx} {pins : List (Addr × Obj)} {σ : L2.St} {H : Hp} {s : Shared} {ρ : List Addr} {st : Store}
/-- an empty dict is one of tuples' keys, too -/
theorem Inv.retype {a : Addr} (I : L2.Inv X pins σ H s) (h : H a = some (.dK [])) : L2.Inv X pins σ (upd H a (.dT [])) s := by
  obtain ⟨z, hd, vs, rel, o, es, ep, e1, e2, e3, e4⟩ := I.hok a _ h
  cases rel
  refine d_write (h' := s.heap) (t' := s.toks) I (by rw [h]; trivial) (Heap.SameBut.refl _ _) ⟨_, e1⟩ ?_
  have e5 : es.toList = [] := by
    cases hes : es.toList with
    | nil => rfl
    | cons a r => have q := e4.2.1; rw [hes] at q; cases q
  exact ⟨by simp, hd, [], .nil, o, es, ep, e1, e2, e3, by rw [e5]; rfl, .nil⟩
theorem Inv.retypeB {a : Addr} (I : L2.Inv X pins σ H s) (h : H a = some (.dT [])) : L2.Inv X pins σ (upd H a (.dK [])) s := by
  obtain ⟨z, hd, xs, rel, o, es, ep, e1, e2, e3, e4, e5⟩ := I.hok a _ h
  cases rel
  refine d_write (h' := s.heap) (t' := s.toks) I (by rw [h]; trivial) (Heap.SameBut.refl _ _) ⟨_, e1⟩ ?_
  have e6 : es = #[] := by
    have q : es.toList = [] := e4
    simpa using q
  subst e6
  exact ⟨by simp, hd, [], .nil, o, #[], ep, e1, e2, e3, by intro i z; simp at z, .nil, .nil⟩
/-- a dict's place seen as the hand layer's dict, at a key of its kind -/
structure DView (X : Cx) (pins : List (Addr × Obj)) (σ : L2.St) (ρ : List Addr) (st : Store) (s : Shared) (n : Nat) (a : Addr) (kvs : List (D × D)) (H H1 : Hp) (k : D) (y : V) : Prop where
  inv : L2.Inv X pins σ H1 s
  stp : Stp ρ H ρ H1
  sr : SR X.K X.mg ρ st H1
  pl : ρ[n]? = some a
  lay : (∃ ps k', Rd H1 a (.dK ps) ∧ PKg kd1 X.K X.mg ρ H1 kvs ps ∧ kOf k = some (kd1.inj k') ∧ y = kV k') ∨
    (∃ ps k' b, Rd H1 a (.dT ps) ∧ PKg kd2 X.K X.mg ρ H1 kvs ps ∧ kOf k = some (kd2.inj k') ∧ y = .ref b ∧ H1 b = some (.tup (k'.map kV)))
theorem dct_lay (S : SR X.K X.mg ρ st H) {n : Nat} {v : V} {kvs : List (D × D)} (r : Rep X.K X.mg ρ H (.loc n) v) (e : dctR st n = some kvs) :
    ∃ a, v = .ref a ∧ ρ[n]? = some a ∧ ((∃ ps, Rd H a (.dK ps) ∧ PK1 X.K X.mg ρ H kvs ps) ∨ (∃ ps, Rd H a (.dT ps) ∧ PK2 X.K X.mg ρ H kvs ps)) ∧ (dctW st n = some kvs → ∀ u, Rd H a u → (∃ ps, u = .dK ps) ∨ (∃ ps, u = .dT ps) → H a = some u) := by
  cases r with
  | loc h =>
    rename_i a
    refine ⟨a, rfl, h, ?_⟩
    unfold dctR at e
    split at e
    · rename_i kvs' hs
      cases e
      obtain ⟨b, o, h1, h2, h3⟩ := S.at' n _ hs
      rw [h] at h1; cases h1
      refine ⟨?_, fun _ u hu hk => ?_⟩
      · rcases h3 with ⟨ps, rfl, p⟩ | ⟨ps, rfl, p⟩
        · exact .inl ⟨ps, .inl h2, p⟩
        · exact .inr ⟨ps, .inl h2, p⟩
      · rcases hu with hu | ⟨ob, hu⟩
        · exact hu
        · rw [h2] at hu
          cases hu
          rcases h3 with ⟨ps, z, p⟩ | ⟨ps, z, p⟩
          · cases z
          · cases z
    · rename_i kvs' hs
      cases e
      obtain ⟨b, o, h1, h2, ob, u, rfl, h3⟩ := S.at' n _ hs
      rw [h] at h1; cases h1
      refine ⟨?_, fun hw => ?_⟩
      · rcases h3 with ⟨ps, rfl, p⟩ | ⟨ps, rfl, p⟩
        · exact .inl ⟨ps, .inr ⟨ob, h2⟩, p⟩
        · exact .inr ⟨ps, .inr ⟨ob, h2⟩, p⟩
      · unfold dctW at hw
        rw [hs] at hw
        cases hw
    · cases e
theorem dct_view (I : L2.Inv X pins σ H s) (S : SR X.K X.mg ρ st H) {n : Nat} {v y : V} {kvs : List (D × D)} {k : D} (r : Rep X.K X.mg ρ H (.loc n) v) (rk : Rep X.K X.mg ρ H k y) (e : dctW st n = some kvs) (hk : kindOk kvs k = true) :
    ∃ a H1, v = .ref a ∧ DView X pins σ ρ st s n a kvs H H1 k y ∧ (∀ u, Rd H1 a u → (∃ ps, u = .dK ps) ∨ (∃ ps, u = .dT ps) → H1 a = some u) := by
  have e' : dctR st n = some kvs := by
    unfold dctR
    rw [dctW_eq e]
  obtain ⟨a, rfl, hp, hl, hw0⟩ := dct_lay S r e'
  have hw := hw0 e
  clear hw0
  have pure : (∃ k', kOf k = some (.inl k')) → (∃ ps, Rd H a (.dK ps) ∧ PK1 X.K X.mg ρ H kvs ps) → ∃ a' H1, V.ref a = .ref a' ∧ DView X pins σ ρ st s n a' kvs H H1 k y ∧ (∀ u, Rd H1 a' u → (∃ ps, u = .dK ps) ∨ (∃ ps, u = .dT ps) → H1 a' = some u) := fun ⟨k', hk'⟩ ⟨ps, h1, h2⟩ =>
    ⟨a, H, rfl, ⟨I, Stp.refl, S, hp, .inl ⟨ps, k', h1, h2.g, hk', key_val rk hk'⟩⟩, hw⟩
  have tupl : (∃ k', kOf k = some (.inr k')) → (∃ ps, Rd H a (.dT ps) ∧ PK2 X.K X.mg ρ H kvs ps) → ∃ a' H1, V.ref a = .ref a' ∧ DView X pins σ ρ st s n a' kvs H H1 k y ∧ (∀ u, Rd H1 a' u → (∃ ps, u = .dK ps) ∨ (∃ ps, u = .dT ps) → H1 a' = some u) := fun ⟨k', hk'⟩ ⟨ps, h1, h2⟩ => by
    obtain ⟨b, e1, e2⟩ := keyt_val rk hk'
    exact ⟨a, H, rfl, ⟨I, Stp.refl, S, hp, .inr ⟨ps, k', b, h1, h2.g, hk', e1, e2⟩⟩, hw⟩
  cases kvs with
  | cons kv more =>
    cases ek : kOf k with
    | none =>
      have hk : sameKind (kOf kv.1) (kOf k) = true := hk
      rw [ek] at hk
      unfold sameKind at hk
      split at hk <;> simp_all
    | some dk =>
      rcases hl with ⟨ps, h1, h2⟩ | ⟨ps, h1, h2⟩
      · cases dk with
        | inl k' => exact pure ⟨k', ek⟩ ⟨ps, h1, h2⟩
        | inr k' =>
          exfalso
          have h3 := h2.g
          cases h3 with
          | cons q t =>
            have hk : sameKind (kOf kv.1) (kOf k) = true := hk
            rw [ek, q.1] at hk
            exact absurd hk (by simp [sameKind, kd1])
      · cases dk with
        | inr k' => exact tupl ⟨k', ek⟩ ⟨ps, h1, h2⟩
        | inl k' =>
          exfalso
          have h3 := h2.g
          cases h3 with
          | cons q t =>
            have hk : sameKind (kOf kv.1) (kOf k) = true := hk
            rw [ek, q.1] at hk
            exact absurd hk (by simp [sameKind, kd2])
  | nil =>
    cases ek : kOf k with
    | none => unfold kindOk at hk; rw [ek] at hk; cases hk
    | some dk =>
      rcases hl with ⟨ps, h1, h2⟩ | ⟨ps, h1, h2⟩
      · cases dk with
        | inl k' => exact pure ⟨k', ek⟩ ⟨ps, h1, h2⟩
        | inr k' =>
          cases h2
          have h0 := hw _ h1 (.inl ⟨_, rfl⟩)
          obtain ⟨S', s'⟩ := S.put (c := .dct []) (c' := .dct []) (o := .dT []) hp (dctW_eq e) (.inr ⟨[], rfl, .nil⟩)
          rw [set_same (dctW_eq e)] at S'
          obtain ⟨b, e1, e2⟩ := keyt_val rk ek
          have hb : b ≠ a := fun z => by subst z; rw [h0] at e2; cases e2
          refine ⟨a, upd H a (.dT []), rfl, ⟨Inv.retype I h0, s', S', hp, .inr ⟨[], k', b, .inl upd_same, .nil, ek, e1, by rw [upd_ne hb]; exact e2⟩⟩, fun u hu _ => ?_⟩
          rcases hu with hu | ⟨ob, hu⟩
          · exact hu
          · rw [upd_same] at hu; cases hu
      · cases dk with
        | inr k' => exact tupl ⟨k', ek⟩ ⟨ps, h1, h2⟩
        | inl k' =>
          cases h2
          have h0 := hw _ h1 (.inr ⟨_, rfl⟩)
          obtain ⟨S', s'⟩ := S.put (c := .dct []) (c' := .dct []) (o := .dK []) hp (dctW_eq e) (.inl ⟨[], rfl, .nil⟩)
          rw [set_same (dctW_eq e)] at S'
          refine ⟨a, upd H a (.dK []), rfl, ⟨Inv.retypeB I h0, s', S', hp, .inl ⟨[], k', .inl upd_same, .nil, ek, key_val rk ek⟩⟩, fun u hu _ => ?_⟩
          rcases hu with hu | ⟨ob, hu⟩
          · exact hu
          · rw [upd_same] at hu; cases hu
theorem Rep.stpK {d : D} {v : V} {ρ' : List Addr} {H' : Hp} (S : SR X.K X.mg ρ st H) (a : Stp ρ H ρ' H') (r : Rep X.K X.mg ρ H d v) : Rep X.K X.mg ρ' H' d v := r.stp S a
/-- what a look-up finds -/
theorem DView.get {n : Nat} {a : Addr} {kvs : List (D × D)} {H1 : Hp} {k : D} {y : V} (w : DView X pins σ ρ st s n a kvs H H1 k y) : ∃ r, DGet H1 a y r ∧ match dGet kvs k with | none => r = none | some d => ∃ u, r = some u ∧ Rep X.K X.mg ρ H1 d u := by
  rcases w.lay with ⟨ps, k', h1, h2, h3, rfl⟩ | ⟨ps, k', b, h1, h2, h3, rfl, h4⟩
  · exact ⟨_, .inl ⟨ps, k', h1, rfl, rfl⟩, h2.get h3⟩
  · exact ⟨_, .inr ⟨ps, k', b, h1, rfl, h4, rfl⟩, h2.get h3⟩
theorem DView.put {n : Nat} {a : Addr} {kvs : List (D × D)} {H1 : Hp} {k d : D} {y v : V} (w : DView X pins σ ρ st s n a kvs H H1 k y) (hw : ∀ u, Rd H1 a u → (∃ ps, u = .dK ps) ∨ (∃ ps, u = .dT ps) → H1 a = some u) (e : dctW st n = some kvs) (hl : kvs.length < sizeLine) (r : Rep X.K X.mg ρ H1 d v) :
    ∃ H2, DPut H1 a y v H2 ∧ SR X.K X.mg ρ (st.set n (.dct (dPut kvs k d))) H2 ∧ Stp ρ H1 ρ H2 := by
  have stp : ∀ o, Stp ρ H1 ρ (upd H1 a o) := fun o => by
    refine ⟨⟨[], by simp, by simp⟩, fun x u hx hn' => ?_, fun x hx => ?_⟩
    · rw [upd_ne (fun z => hn' (by rw [z]; exact List.mem_of_getElem? w.pl))]; exact hx
    · by_cases z : x = a
      · rw [z, upd_same]; simp
      · rw [upd_ne z]; exact hx
  rcases w.lay with ⟨ps, k', h1, h2, h3, rfl⟩ | ⟨ps, k', b, h1, h2, h3, rfl, h4⟩
  · have h0 := hw _ h1 (.inl ⟨_, rfl⟩)
    refine ⟨_, .inl ⟨ps, k', h0, rfl, by rw [← h2.len]; exact hl, rfl⟩, ?_⟩
    exact w.sr.put (o := .dK (putK ps k' v)) w.pl (dctW_eq e) (.inl ⟨_, rfl, PKg.one (Paired.mapR (h2.put h3 r) fun _ _ q => ⟨q.1, q.2.stp w.sr (stp _)⟩)⟩)
  · have h0 := hw _ h1 (.inr ⟨_, rfl⟩)
    refine ⟨_, .inr ⟨ps, k', b, h0, rfl, h4, by rw [← h2.len]; exact hl, rfl⟩, ?_⟩
    exact w.sr.put (o := .dT (putK ps k' v)) w.pl (dctW_eq e) (.inr ⟨_, rfl, PKg.two (Paired.mapR (h2.put h3 r) fun _ _ q => ⟨q.1, q.2.stp w.sr (stp _)⟩)⟩)
/-- a dict read at a key: where it may be changed, or where it is not empty -/
theorem dct_read (I : L2.Inv X pins σ H s) (S : SR X.K X.mg ρ st H) {n : Nat} {v y : V} {kvs : List (D × D)} {k : D} (r : Rep X.K X.mg ρ H (.loc n) v) (rk : Rep X.K X.mg ρ H k y) (e : dctW st n = some kvs) (hk : kindOk kvs k = true) :
    ∃ a H1 o, v = .ref a ∧ L2.Inv X pins σ H1 s ∧ Stp ρ H ρ H1 ∧ SR X.K X.mg ρ st H1 ∧ DGet H1 a y o ∧ match dGet kvs k with | none => o = none | some d => ∃ u, o = some u ∧ Rep X.K X.mg ρ H1 d u := by
  obtain ⟨a, H1, rfl, w, _⟩ := dct_view I S r rk e hk
  obtain ⟨o, h1, h2⟩ := w.get
  exact ⟨a, H1, o, rfl, w.inv, w.stp, w.sr, h1, h2⟩
end

/-! ### in, not in -/
def inStr (x y : Str) : Bool := !(Builtin.Str.occurrences y x 0 y.length 1).isEmpty
def inD (x y : D) (st : Store) : Option Bool := match y with
  | .str b => match x with
    | .str a => some (inStr a b)
    | _ => none
  | y => match (match y with | .loc n => dctW st n | _ => none) with
    | some kvs => if kindOk kvs x then some (dGet kvs x).isSome else none
    | none => match toP st x, toP st y with
      | some p, some (.list ps) => if SeqAt.shaped p && SeqAt.shaped (.list ps) then some (ps.any fun z => PyData.eqv z p) else none
      | some p, some (.tuple ps) => if SeqAt.shaped p && SeqAt.shaped (.tuple ps) then some (ps.any fun z => PyData.eqv z p) else none
      | _, _ => none
def opIn (neg : Bool) : Op2 := fun x y st => (inD x y st).map fun b => (.bl (b != neg), st)
section
variable {X : Cx}
/-- x in y, of three sorts -/
def rInG (X : Cx) (neg : Bool) : R2 := fun x y H Q => (∃ i j, x = .str i ∧ y = .str j ∧ Q (.bl (inStr i j != neg)) H) ∨
  (∃ p ps, Dp X.K H x p ∧ (Dp X.K H y (.list ps) ∨ Dp X.K H y (.tuple ps)) ∧ SeqAt.shaped p = true ∧ PyData.canLayAll0 ps = true ∧ Q (.bl ((ps.any fun z => PyData.eqv z p) != neg)) H) ∨
  (∃ ρ st n k kvs, SR X.K X.mg ρ st H ∧ Rep X.K X.mg ρ H (.loc n) y ∧ Rep X.K X.mg ρ H k x ∧ dctW st n = some kvs ∧ kindOk kvs k = true ∧ ∀ H1, Stp ρ H ρ H1 → SR X.K X.mg ρ st H1 → Q (.bl ((dGet kvs k).isSome != neg)) H1)
theorem canLay_tup {ps : List PyData} (h : SeqAt.shaped (.tuple ps) = true) : PyData.canLayAll0 ps = true := by
  rw [SeqAt.shaped.eq_def, Bool.and_eq_true] at h
  have := h.1
  simpa [PyData.canLay0] using this
theorem canLay_lst {ps : List PyData} (h : SeqAt.shaped (.list ps) = true) : PyData.canLayAll0 ps = true := by
  rw [SeqAt.shaped.eq_def, Bool.and_eq_true] at h
  have := h.1
  simpa [PyData.canLay0] using this
theorem rInG_of {neg : Bool} {x y : V} {H : Hp} {Q : VK} (h : rG2 X (opIn neg) x y H Q) : rInG X neg x y H Q := by
  obtain ⟨ρ, st, dx, dy, d, st', S, r1, r2, e, q⟩ := h
  unfold opIn at e
  cases e1 : inD dx dy st with
  | none => rw [e1] at e; cases e
  | some b =>
    rw [e1] at e
    cases e
    unfold inD at e1
    split at e1
    · split at e1
      · cases e1; cases r1; cases r2
        exact .inl ⟨_, _, rfl, rfl, q.here S (.bl _)⟩
      · cases e1
    · split at e1
      · rename_i kvs hd
        split at e1
        · rename_i hk
          cases e1
          split at hd
          · exact .inr (.inr ⟨ρ, st, _, dx, kvs, S, r2, r1, hd, hk, fun H1 a S1 => q _ _ _ a S1 (.bl _)⟩)
          · cases hd
        · cases e1
      · split at e1
        · rename_i p ps h1 h2
          split at e1
          · rename_i hs
            cases e1
            rw [Bool.and_eq_true] at hs
            exact .inr (.inl ⟨p, ps, toP_dp S r1 h1, .inl (toP_dp S r2 h2), hs.1, canLay_lst hs.2, q.here S (.bl _)⟩)
          · cases e1
        · rename_i p ps h1 h2
          split at e1
          · rename_i hs
            cases e1
            rw [Bool.and_eq_true] at hs
            exact .inr (.inl ⟨p, ps, toP_dp S r1 h1, .inr (toP_dp S r2 h2), hs.1, canLay_tup hs.2, q.here S (.bl _)⟩)
          · cases e1
        · cases e1
theorem opIn_ok (hu : X.A.units + 65 < cLine) : OpR X (compareOp .In) (rG2 X (opIn false)) := by
  intro pins s σ H x y v u Q I rx ry h
  rcases rInG_of h with ⟨i, j, rfl, rfl, q⟩ | ⟨p, ps, h1, h2, h3, h4, q⟩ | ⟨ρ, st, n, k, kvs, S, r2, r1, hd, hk, q⟩
  · exact op_in_str pins s σ H _ _ v u Q I rx ry ⟨i, j, rfl, rfl, by simpa [inStr] using q⟩
  · obtain ⟨as, q1⟩ := Dp.reads I p x v h1 rx
    rcases h2 with h2 | h2
    · obtain ⟨bs, q2⟩ := Dp.reads I _ y u h2 ry
      exact SeqAt.in_list_reads q2 q1 h4 (SeqAt.canLay_of_shaped h3) (PyProof.Rows.room_in_shaped h3 hu) ⟨.bl _, H, I, rfl, by simpa using q⟩
    · obtain ⟨bs, q2⟩ := Dp.reads I _ y u h2 ry
      exact SeqAt.in_tuple_reads q2 q1 h4 (SeqAt.canLay_of_shaped h3) (PyProof.Rows.room_in_shaped h3 hu) ⟨.bl _, H, I, rfl, by simpa using q⟩
  · obtain ⟨a, H1, o, rfl, I1, a1, S1, g, m⟩ := dct_read I S r2 r1 hd hk
    cases ry
    refine d_in (by omega) I1 g rx fun s' I' => ⟨.bl (dGet kvs k).isSome, H1, I', ?_, by simpa using q H1 a1 S1⟩
    split at m
    · rename_i e; rw [m, e]; rfl
    · rename_i e; obtain ⟨w, rfl, _⟩ := m; rw [e]; rfl
theorem opNotIn_ok (hu : X.A.units + 65 < cLine) : OpR X (compareOp .NotIn) (rG2 X (opIn true)) := by
  intro pins s σ H x y v u Q I rx ry h
  rcases rInG_of h with ⟨i, j, rfl, rfl, q⟩ | ⟨p, ps, h1, h2, h3, h4, q⟩ | ⟨ρ, st, n, k, kvs, S, r2, r1, hd, hk, q⟩
  · exact op_notIn_str pins s σ H _ _ v u Q I rx ry ⟨i, j, rfl, rfl, by simpa [inStr] using q⟩
  · obtain ⟨as, q1⟩ := Dp.reads I p x v h1 rx
    rcases h2 with h2 | h2
    · obtain ⟨bs, q2⟩ := Dp.reads I _ y u h2 ry
      exact SeqAt.notIn_list_reads q2 q1 h4 (SeqAt.canLay_of_shaped h3) (PyProof.Rows.room_in_shaped h3 hu) ⟨.bl _, H, I, rfl, by simpa using q⟩
    · obtain ⟨bs, q2⟩ := Dp.reads I _ y u h2 ry
      exact SeqAt.notIn_tuple_reads q2 q1 h4 (SeqAt.canLay_of_shaped h3) (PyProof.Rows.room_in_shaped h3 hu) ⟨.bl _, H, I, rfl, by simpa using q⟩
  · obtain ⟨a, H1, o, rfl, I1, a1, S1, g, m⟩ := dct_read I S r2 r1 hd hk
    cases ry
    refine d_notIn (by omega) I1 g rx fun s' I' => ⟨.bl (!(dGet kvs k).isSome), H1, I', ?_, by simpa using q H1 a1 S1⟩
    split at m
    · rename_i e; rw [m, e]; rfl
    · rename_i e; obtain ⟨w, rfl, _⟩ := m; rw [e]; rfl
end
end G

/-! G7: items and slices. -/
namespace G
open PySem L2 PySem.Spec PyProof.Rows

/-! ### backwards -/
/-- an end of a slice that goes backwards, counted from one on -/
def bEnd (n d : Nat) : Option Int → Nat
  | none => d
  | some v => if v < 0 then (v + n + 1).toNat else min (v.toNat + 1) n
def cutF {α : Type} (xs : List α) (lo hi : Option Int) : List α := (xs.drop (HT.sIx xs.length 0 lo)).take (HT.sIx xs.length xs.length hi - HT.sIx xs.length 0 lo)
def cutB {α : Type} (xs : List α) (lo hi : Option Int) : List α := ((xs.take (bEnd xs.length xs.length lo)).drop (bEnd xs.length 0 hi)).reverse
theorem back_step {α : Type} (xs : List α) (i : Nat) (hi : i ≤ xs.length) : ∀ k, k ≤ i → (List.range k).filterMap (fun (m : Nat) => xs[((i : Int) - 1 + (m : Int) * (-1)).toNat]?) = ((xs.take i).drop (i - k)).reverse
  | 0, _ => by
    rw [List.drop_of_length_le (by rw [List.length_take]; omega)]
    rfl
  | k + 1, hk => by
    rw [List.range_succ, List.filterMap_append, back_step xs i hi k (by omega)]
    have e : ((i : Int) - 1 + (k : Int) * (-1)).toNat = i - (k + 1) := by omega
    have hlt : i - (k + 1) < xs.length := by omega
    have e2 : (xs.take i).drop (i - (k + 1)) = xs[i - (k + 1)] :: (xs.take i).drop (i - k) := by
      have hl : i - (k + 1) < (xs.take i).length := by rw [List.length_take]; omega
      rw [List.drop_eq_getElem_cons hl, List.getElem_take]
      congr 2
      omega
    rw [e2, List.reverse_cons]
    congr 1
    simp only [List.filterMap_cons, List.filterMap_nil, e]
    rw [List.getElem?_eq_getElem hlt]
theorem cutB_length {α : Type} (xs : List α) (lo hi : Option Int) : (cutB xs lo hi).length ≤ xs.length := by
  unfold cutB
  rw [List.length_reverse, List.length_drop, List.length_take]
  omega
/-- items by numbers that fall -/
theorem pickB {α : Type} (xs : List α) (lo hi : Option Int) (a b : Int) (ha : a + 1 = (bEnd xs.length xs.length lo : Nat)) (hb : b + 1 = (bEnd xs.length 0 hi : Nat)) (hl : bEnd xs.length xs.length lo ≤ xs.length) (k : Nat) (hk : k = (if a > b then a - b else 0).toNat) :
    (List.range k).filterMap (fun (m : Nat) => xs[(a + (m : Int) * (-1)).toNat]?) = cutB xs lo hi := by
  unfold cutB
  generalize bEnd xs.length xs.length lo = p at *
  generalize bEnd xs.length 0 hi = q at *
  have e : a = (p : Int) - 1 := by omega
  subst e
  have hk2 : k = p - q := by
    split at hk <;> omega
  subst hk2
  rw [back_step xs p hl (p - q) (by omega)]
  by_cases h : q ≤ p
  · rw [show p - (p - q) = q by omega]
  · rw [show p - (p - q) = p by omega, List.drop_of_length_le (by rw [List.length_take]; omega), List.drop_of_length_le (by rw [List.length_take]; omega)]
theorem bEnd_ok {α : Type} (xs : List α) (lo : Option Int) : bEnd xs.length xs.length lo ≤ xs.length := by
  cases lo with
  | none => exact Nat.le_refl _
  | some v =>
    show (if v < 0 then (v + xs.length + 1).toNat else min (v.toNat + 1) xs.length) ≤ xs.length
    split <;> omega
theorem fm_congr {α β : Type} {f g : α → Option β} : ∀ {l : List α}, (∀ x, f x = g x) → l.filterMap f = l.filterMap g := fun h => by
  rw [show f = g from funext h]
theorem bEnd_clip (n d : Nat) (o : Option Int) (hd : (d : Int) = 0 ∨ d = n) (c : Int) (hc : c = match o with
    | none => (d : Int) - 1
    | some i => max (-1) (min (if i < 0 then i + n else i) ((n : Int) - 1))) : c + 1 = (bEnd n d o : Nat) := by
  subst hc
  cases o with
  | none =>
    show (d : Int) - 1 + 1 = (d : Int)
    omega
  | some i =>
    show max (-1) (min (if i < 0 then i + n else i) ((n : Int) - 1)) + 1 = ((if i < 0 then (i + n + 1).toNat else min (i.toNat + 1) n : Nat) : Int)
    split <;> omega
theorem range_back {α : Type} (xs : List α) (lo hi : Option Int) (a b : Int) (ha : a + 1 = (bEnd xs.length xs.length lo : Nat)) (hb : b + 1 = (bEnd xs.length 0 hi : Nat)) : (sliceRange a b (-1)).filterMap (fun i => xs[i]?) = cutB xs lo hi := by
  have h := pickB xs lo hi a b ha hb (bEnd_ok xs lo) _ rfl
  rw [← h]
  unfold sliceRange
  rw [List.filterMap_map]
  have e : (if (-1 : Int) > 0 then (if a < b then (b - a + -1 - 1) / -1 else 0) else (if a > b then (a - b - -1 - 1) / (- -1) else 0)) = (if a > b then a - b else 0) := by
    rw [if_neg (by omega)]
    split
    · rw [Int.neg_neg, Int.ediv_one]; omega
    · rfl
  rw [e]
  refine fm_congr fun m => ?_
  show xs[(a + -1 * (m : Int)).toNat]? = _
  rw [show a + -1 * (m : Int) = a + (m : Int) * (-1) by omega]
theorem slicePick_back (its : List Value) (lo hi : Option Int) : slicePick its.toArray lo hi (some (-1)) = (cutB its lo hi).toArray := by
  unfold slicePick
  congr 1
  rw [← range_back its lo hi (sliceBounds lo hi (some (-1)) its.toArray.size).1 (sliceBounds lo hi (some (-1)) its.toArray.size).2.1]
  · refine fm_congr fun m => ?_
    simp
  · refine bEnd_clip _ _ _ (.inr rfl) _ ?_
    unfold sliceBounds
    cases lo <;> simp
  · refine bEnd_clip _ _ _ (.inl rfl) _ ?_
    unfold sliceBounds
    cases hi <;> simp
theorem slicePick_fwd (its : List Value) (lo hi : Option Int) : slicePick its.toArray lo hi (some 1) = (cutF its lo hi).toArray := by
  have h := slicePick_cut its lo hi
  unfold cutF
  rw [← h]
  rfl
theorem strIdx_back (z : Str) (lo hi : Option Int) : ((Builtin.Str.strSliceIndices lo hi (-1) z.length).filterMap (z.cps[·]?)) = cutB z.cps.toList lo hi := by
  have e : z.length = z.cps.toList.length := by simp [Str.length]
  unfold Builtin.Str.strSliceIndices
  rw [e]
  dsimp only
  rw [← range_back z.cps.toList lo hi]
  · refine fm_congr fun m => ?_
    simp
  · refine bEnd_clip _ _ _ (.inr rfl) _ ?_
    cases lo <;> simp
  · refine bEnd_clip _ _ _ (.inl rfl) _ ?_
    cases hi <;> simp
theorem Vals.cutB {xs : List V} {us : List Value} (r : Vals xs us) (lo hi : Option Int) : Vals (G.cutB xs lo hi) (G.cutB us lo hi) := by
  unfold G.cutB
  rw [r.length]
  exact Vals.reverse (Vals.drop _ (Vals.take _ r))
theorem Reps.cutB {K : PySem.W.Frag} {mg : Str → Option Value} {ρ : List Addr} {H : Hp} {xs : List D} {vs : List V} (r : Reps K mg ρ H xs vs) (lo hi : Option Int) : Reps K mg ρ H (G.cutB xs lo hi) (G.cutB vs lo hi) := by
  unfold G.cutB
  rw [r.length]
  exact ((r.take _).drop _).reverse
theorem Reps.cutF {K : PySem.W.Frag} {mg : Str → Option Value} {ρ : List Addr} {H : Hp} {xs : List D} {vs : List V} (r : Reps K mg ρ H xs vs) (lo hi : Option Int) : Reps K mg ρ H (G.cutF xs lo hi) (cutV vs lo hi) := by
  unfold G.cutF cutV
  rw [r.length]
  exact (r.drop _).take _

/-! ### items by a place -/
section
variable {K : PySem.W.Frag} {mg : Str → Option Value} {ρ : List Addr} {H : Hp} {st : Store}
theorem Reps.at {xs : List D} {vs : List V} {i : Int} {d : D} (r : Reps K mg ρ H xs vs) (h : atI xs i = some d) : ∃ v, atI vs i = some v ∧ Rep K mg ρ H d v := by
  unfold atI at h ⊢
  rw [r.length] at h
  cases e : ixN vs.length i with
  | none => rw [e] at h; cases h
  | some j =>
    rw [e] at h
    exact r.get h
end
/-- what is read at a place, at a key -/
def opIx : Op2 := fun x y st => match x, y with
  | .tup xs, .int i => (atI xs i).map fun d => (d, st)
  | .str z, .int i => if z.length ≤ sizeLine then (atI z.cps.toList i).map fun c => (.str ⟨#[c]⟩, st) else none
  | x, y => match (match x with | .loc n => dctW st n | _ => none) with
    | some kvs => if kindOk kvs y then (dGet kvs y).map fun d => (d, st) else none
    | none => match lstD x st, y with
      | some xs, .int i => (atI xs i).map fun d => (d, st)
      | _, _ => none
section
variable {X : Cx}
/-- d[k], the key there -/
theorem ix_dct (hu : X.A.units + 1 < cLine) : IxR X (fun x y H Q => ∃ ρ st n k kvs d, SR X.K X.mg ρ st H ∧ Rep X.K X.mg ρ H (.loc n) x ∧ Rep X.K X.mg ρ H k y ∧ dctW st n = some kvs ∧ kindOk kvs k = true ∧ dGet kvs k = some d ∧ Cont X.K X.mg (Rep X.K X.mg) ρ H d st Q) := by
  intro value slice pins s σ H x y v u Q I rx ry h hs
  obtain ⟨ρ, st, n, k, kvs, d, S, r1, r2, hd, hk, hg, q⟩ := h
  obtain ⟨a, H1, o, rfl, I1, a1, S1, g, m⟩ := dct_read I S r1 r2 hd hk
  rw [hg] at m
  obtain ⟨w, rfl, rw'⟩ := m
  cases rx
  exact tail_any (dict_typeIs I1 g) (PySem.F.slot_dict_getitem.lookup) (d_getItem hu I1 g ry fun w' s' I' r' => ⟨w, H1, I', r', q _ _ _ a1 S1 rw'⟩) hs
theorem opIx_ok (hu : X.A.units + 1 < cLine) : IxR X (rG2 X opIx) :=
  IxR.imp (ix_seq.or (ix_dct hu)) fun x y H Q ⟨ρ, st, dx, dy, d, st', S, r1, r2, e, q⟩ => by
    unfold opIx at e
    split at e
    · rename_i xs i
      cases e1 : atI xs i with
      | none => rw [e1] at e; cases e
      | some d' =>
        rw [e1] at e
        cases e; cases r2
        obtain ⟨a, vs, rfl, h, p⟩ := tup_sq r1
        obtain ⟨v, h1, h2⟩ := p.at e1
        exact .inl (.inr (.inl ⟨a, vs, _, v, rfl, rfl, h, h1, q.here S h2⟩))
    · rename_i z i
      split at e
      · rename_i hz
        cases e1 : atI z.cps.toList i with
        | none => rw [e1] at e; cases e
        | some c =>
          rw [e1] at e
          cases e; cases r1; cases r2
          exact .inl (.inr (.inr ⟨_, _, c, rfl, rfl, hz, e1, q.here S (.str _)⟩))
      · cases e
    · split at e
      · rename_i kvs hd
        split at e
        · rename_i hk
          cases hg : dGet kvs dy with
          | none => rw [hg] at e; cases e
          | some d' =>
            rw [hg] at e
            cases e
            split at hd
            · exact .inr ⟨ρ, st, _, dy, kvs, d, S, r1, r2, hd, hk, hg, q⟩
            · cases hd
        · cases e
      · split at e
        · rename_i xs i hx _ _
          cases e1 : atI xs i with
          | none => rw [e1] at e; cases e
          | some d' =>
            rw [e1] at e
            cases e; cases r2
            obtain ⟨a, vs, rfl, h, p⟩ := lst_sq S r1 hx
            obtain ⟨v, h1, h2⟩ := p.at e1
            exact .inl (.inl ⟨a, vs, _, v, rfl, rfl, h, h1, q.here S h2⟩)
        · cases e
variable {W : WX} {a b : Expr} {pos : Pos} {ma mb : ME}
theorem ge_ix (hu : X.A.units + 1 < cLine) (ha : GE X W a ma) (hb : GE X W b mb) (hs : PlainIx b) : GE X W (.Subscript a b pos) (mBin opIx ma mb) := ge_bin2 ha hb (pe_ix (opIx_ok hu) ha hb hs)

/-! ### slices -/
def oNone : MO := fun _ st => .ok none st
def oSome (m : ME) : MO := fun σ st => (m σ st).bind fun d st1 => match d with
  | .int i => .ok (some i) st1
  | _ => .fail
theorem go_none : GO X W none oNone := PO.imp po_none fun σ H Q ⟨ρ, st, σd, S, E, P⟩ => P _ H ρ Stp.refl S rfl
theorem go_some (ha : GE X W a ma) : GO X W (some a) (oSome ma) := PO.imp (po_some ha) fun σ H Q ⟨ρ, st, σd, S, E, P⟩ => tR.bnd S E P fun x H1 dx st1 ρ1 _ _ S1 E1 R1 P1 => by
  split at P1
  · cases R1
    exact ⟨_, rfl, P1 _ H1 ρ1 Stp.refl S1 rfl⟩
  · exact P1.elim
/-- x[lo:hi] -/
def slD (x : D) (lo hi : Option Int) (st : Store) : Option (D × Store) := match x with
  | .tup xs => some (.tup (cutF xs lo hi), st)
  | .str z => if z.length ≤ sizeLine then some (.str (cutS z lo hi), st) else none
  | x => match lstD x st with
    | some xs => some (.loc st.length, st ++ [.lst (cutF xs lo hi)])
    | none => none
def mSl (m : ME) (l h : MO) : ME := fun σ st => (m σ st).bind fun x st1 => (l σ st1).bind fun lo st2 => (h σ st2).bind fun hi st3 => lift (slD x lo hi st3)
def rSlG (X : Cx) : V → Option Int → Option Int → Hp → VK → Prop := fun x lo hi H Q => ∃ ρ st dx d st', SR X.K X.mg ρ st H ∧ Rep X.K X.mg ρ H dx x ∧ slD dx lo hi st = some (d, st') ∧ Cont X.K X.mg (Rep X.K X.mg) ρ H d st' Q
theorem SlR.imp {r r' : V → Option Int → Option Int → Hp → VK → Prop} (h : SlR X r) (i : ∀ x lo hi H Q, r' x lo hi H Q → r x lo hi H Q) : SlR X r' := fun pins s σ H x v vl vu lo hi sl Q I rx hs pl pu q => h pins s σ H x v vl vu lo hi sl Q I rx hs pl pu (i x lo hi H Q q)
theorem cut_all {α : Type} (xs : List α) {lo hi : Option Int} (h : HT.sIx xs.length 0 lo = 0 ∧ HT.sIx xs.length xs.length hi = xs.length) : cutF xs lo hi = xs := by
  unfold cutF
  rw [h.1, h.2]
  simp
theorem slG_ok : SlR X (rSlG X) :=
  SlR.imp (sl_list.or (sl_tupA.or sl_str)) fun x lo hi H Q ⟨ρ, st, dx, d, st', S, r, e, q⟩ => by
    unfold slD at e
    split at e
    · rename_i xs
      cases e
      obtain ⟨a, vs, rfl, h, p⟩ := tup_sq r
      refine .inr (.inl ⟨a, vs, rfl, h, fun hw => ?_, fun _ => new_tup S (p.cutF lo hi) q⟩)
      rw [← p.length] at hw
      rw [cut_all xs hw] at q
      exact q.here S r
    · split at e
      · rename_i hz
        cases e; cases r
        exact .inr (.inr ⟨_, rfl, hz, q.here S (.str _)⟩)
      · cases e
    · split at e
      · rename_i xs hx
        cases e
        obtain ⟨a, vs, rfl, h, p⟩ := lst_sq S r hx
        exact .inl ⟨a, vs, rfl, h, new_lst S (p.cutF lo hi) q⟩
      · cases e
theorem ge_slice {lo hi : Option Expr} {ml mh : MO} {p2 : Pos} (ha : GE X W a ma) (hl : GO X W lo ml) (hh : GO X W hi mh) : GE X W (.Subscript a (.Slice lo hi none p2) pos) (mSl ma ml mh) :=
  PE.imp (pe_slice slG_ok ha hl hh) fun σ H Q ⟨ρ, st, σd, S, E, P⟩ => tR.bnd S E P fun x H1 dx st1 ρ1 _ a1 S1 E1 R1 P1 => tR.bnd S1 E1 P1 fun l H2 l' st2 ρ2 _ a2 S2 E2 R2 P2 => tR.bnd S2 E2 P2 fun h H3 h' st3 ρ3 _ a3 S3 E3 R3 P3 => by
    cases R2; cases R3
    obtain ⟨d, st', e, q⟩ := P3.lift
    exact ⟨ρ3, st3, dx, d, st', S3, (R1.stp S1 a2).stp S2 a3, e, q⟩

/-! ### slices with a step of one, forward or backward -/
def cutS3 {α : Type} (xs : List α) (lo hi : Option Int) (k : Int) : List α := if k = 1 then cutF xs lo hi else cutB xs lo hi
theorem Vals.cutF {xs : List V} {us : List Value} (r : Vals xs us) (lo hi : Option Int) : Vals (G.cutF xs lo hi) (G.cutF us lo hi) := by
  unfold G.cutF
  rw [r.length]
  exact Vals.take _ (Vals.drop _ r)
theorem cutF_length {α : Type} (xs : List α) (lo hi : Option Int) : (cutF xs lo hi).length ≤ xs.length := by
  unfold cutF
  rw [List.length_take, List.length_drop]
  omega
section
variable {prog : Program} {w : World} {A : Around} {E : Value → Shared → Prop} {s : Shared}
theorem applied_back {sl : Addr} {vl vu : Value} {t : Tok} {lo hi : Option Int} {n : Nat} {R : Int × Int × Nat → Shared → Prop} (hs : s.heap.IsSliceOf sl vl vu (.int (-1) t)) (pl : IsPart vl lo) (pu : IsPart vu hi)
    (h : ∀ a b : Int, a + 1 = (bEnd n n lo : Nat) → b + 1 = (bEnd n 0 hi : Nat) → R (a, -1, (if a > b then a - b else 0).toNat) s) : wpAny (model prog w) A (Builtin.Slice.sliceApplied (.ref sl) (pure (n : Int))) R E s := by
  obtain ⟨os, hos, hcs, hds⟩ := id hs
  unfold Builtin.Slice.sliceApplied Builtin.Slice.sliceFields
  refine wpAny_bind (wpAny_bind (wpAny_field hos hds (x := vl) rfl (wpAny_bind (wpAny_field hos hds (x := vu) rfl (wpAny_bind (wpAny_field hos hds (x := .int (-1) t) rfl (wpAny_pure ?_)))))))
  refine wpAny_bind (HT.slicePart_ (IsPart.int (-1) t) ?_)
  show wpAny _ _ (if ((-1 : Int) == 0) = true then _ else _) _ _ s
  rw [if_neg (by decide)]
  refine wpAny_bind (HT.slicePart_ pl (wpAny_bind (HT.slicePart_ pu (wpAny_bind (wpAny_pure ?_)))))
  have ha : (Builtin.Slice.sliceAdjust lo hi (-1) (n : Int)).1 + 1 = (bEnd n n lo : Nat) := by
    cases lo with
    | none =>
      show ((n : Int) - 1) + 1 = ((n : Nat) : Int)
      omega
    | some v =>
      show (if v < 0 then max (v + (n : Int)) (-1) else min v ((n : Int) - 1)) + 1 = ((if v < 0 then (v + n + 1).toNat else min (v.toNat + 1) n : Nat) : Int)
      split <;> omega
  have hb : (Builtin.Slice.sliceAdjust lo hi (-1) (n : Int)).2 + 1 = (bEnd n 0 hi : Nat) := by
    cases hi with
    | none =>
      show (-1 : Int) + 1 = ((0 : Nat) : Int)
      omega
    | some v =>
      show (if v < 0 then max (v + (n : Int)) (-1) else min v ((n : Int) - 1)) + 1 = ((if v < 0 then (v + n + 1).toNat else min (v.toNat + 1) n : Nat) : Int)
      split <;> omega
  have hk := h _ _ ha hb
  have e : Builtin.Slice.slicePlaces (Builtin.Slice.sliceAdjust lo hi (-1) (n : Int)).1 (Builtin.Slice.sliceAdjust lo hi (-1) (n : Int)).2 (-1) = (if (Builtin.Slice.sliceAdjust lo hi (-1) (n : Int)).1 > (Builtin.Slice.sliceAdjust lo hi (-1) (n : Int)).2 then (Builtin.Slice.sliceAdjust lo hi (-1) (n : Int)).1 - (Builtin.Slice.sliceAdjust lo hi (-1) (n : Int)).2 else 0).toNat := by
    generalize (Builtin.Slice.sliceAdjust lo hi (-1) (n : Int)).1 = a
    generalize (Builtin.Slice.sliceAdjust lo hi (-1) (n : Int)).2 = b
    unfold Builtin.Slice.slicePlaces
    congr 1
    rw [if_neg (by omega)]
    split
    · rw [Int.neg_neg, Int.ediv_one]; omega
    · rfl
  rw [← e] at hk
  show wpAny _ _ (match Builtin.Slice.sliceAdjust lo hi (-1) (n : Int) with | (lo, hi) => pure (lo, (-1 : Int), Builtin.Slice.slicePlaces lo hi (-1))) _ _ s
  exact wpAny_pure hk
theorem getItem_tuple_back {t sl : Addr} {items : Array Value} {vl vu : Value} {u : Tok} {lo hi : Option Int} {R : Value → Shared → Prop} (ht : IsTup s.heap t items) (hs : s.heap.IsSliceOf sl vl vu (.int (-1) u)) (pl : IsPart vl lo) (pu : IsPart vu hi)
    (h : R (.ref s.heap.objs.size) { s with heap := s.heap.push { cls := .type "tuple", data := .seq (cutB items.toList lo hi).toArray } })
    (hsz : items.size ≤ sizeLine) : wpAny (model prog w) A (getItem (.ref t) (.ref sl)) R E s := by
  have htake : sizeOk (.seq (cutB items.toList lo hi).toArray) := by
    show (cutB items.toList lo hi).toArray.size ≤ sizeLine
    rw [List.size_toArray]
    refine Nat.le_trans (cutB_length _ _ _) ?_
    rw [Array.length_toList]
    exact hsz
  obtain ⟨os, hos, hcs, hds⟩ := id hs
  have hTs : s.TypeIs (.ref sl) "slice" := ⟨os, hos, hcs⟩
  unfold getItem
  try with_reducible refine wpAny_holding ?_
  first | refine wpAny_bind (wpAny_pure ?_) | skip
  refine wpAny_bind (wpAny_sequenceKey ht.typeIs (by decide) ?_)
  refine wpAny_bind (wpAny_callSpecial?_slot (name := Str.ofString "__getitem__") ht.typeIs PyProof.Rows.slot_tuple_getitem
    (wpAny_call_entry PyProof.Rows.slot_tuple_getitem ht.typeIs entry_tuple_getitem ?_ (args_tuple_getitem _ _)))
  show wpAny _ _ (Builtin.Tuple.tupleItemsOf (.ref t) >>= _) _ _ s
  refine wpAny_bind (tupleItemsOf_ ht ?_)
  refine wpAny_bind (wpAny_typeOf hTs ?_)
  rw [if_pos (by decide)]
  refine wpAny_bind (applied_back hs pl pu fun a b ha hb => ?_)
  have hpk := pickB items.toList lo hi a b (by rw [Array.length_toList]; exact ha) (by rw [Array.length_toList]; exact hb) (bEnd_ok _ _) _ rfl
  have hno : ¬ ((a == 0 && (-1 : Int) == 1 && (if a > b then a - b else 0).toNat == items.size) = true) := by
    intro q
    rw [Bool.and_eq_true, Bool.and_eq_true] at q
    exact absurd (eq_of_beq q.1.2) (by decide)
  show wpAny _ _ (if (a == 0 && (-1 : Int) == 1 && (if a > b then a - b else 0).toNat == items.size) = true then _ else _) _ _ s
  rw [if_neg hno]
  have e : ((List.range (if a > b then a - b else 0).toNat).filterMap fun (m : Nat) => items[(a + (m : Int) * (-1)).toNat]?) = cutB items.toList lo hi := by
    rw [← hpk]
    exact fm_congr fun m => by simp
  rw [e]
  first
    | exact wpAny_bind (m := Builtin.Tuple.tupleExact _) (wpAny_newObj_type (wpAny_pure ⟨_, rfl, wpAny_pure h⟩) htake)
    | exact wpAny_bind (m := Builtin.Tuple.tupleExact _) (wpAny_newObj_type (wpAny_bind (wpAny_pure (wpAny_pure ⟨_, rfl, wpAny_pure h⟩))) htake)
    | exact wpAny_bind (wpAny_bind (m := Builtin.Tuple.tupleExact _) (wpAny_newObj_type (wpAny_pure (wpAny_pure ⟨_, rfl, wpAny_pure h⟩)) htake))
    | exact wpAny_bind (wpAny_bind (m := Builtin.Tuple.tupleExact _) (wpAny_newObj_type (wpAny_pure ⟨_, rfl, wpAny_pure h⟩) htake))
end
def sl3D (x : D) (lo hi : Option Int) (k : Int) (st : Store) : Option (D × Store) := match x with
  | .tup xs => if k = -1 then some (.tup (cutB xs lo hi), st) else none
  | .str z => if z.length ≤ sizeLine ∧ k = -1 then some (.str ⟨(cutB z.cps.toList lo hi).toArray⟩, st) else none
  | x => match lstD x st with
    | some xs => if k = 1 ∨ k = -1 then some (.loc st.length, st ++ [.lst (cutS3 xs lo hi k)]) else none
    | none => none
def mSl3 (m : ME) (l h : MO) (k : ME) : ME := fun σ st => (m σ st).bind fun x st1 => (l σ st1).bind fun lo st2 => (h σ st2).bind fun hi st3 => (k σ st3).bind fun k st4 => match k with
  | .int k => lift (sl3D x lo hi k st4)
  | _ => .fail
theorem Reps.cutS3 {K : PySem.W.Frag} {mg : Str → Option Value} {ρ : List Addr} {H : Hp} {xs : List D} {vs : List V} (r : Reps K mg ρ H xs vs) (lo hi : Option Int) (k : Int) : Reps K mg ρ H (G.cutS3 xs lo hi k) (G.cutS3 vs lo hi k) := by
  unfold G.cutS3
  split
  · exact r.cutF lo hi
  · exact r.cutB lo hi
theorem cutS3_length {α : Type} (xs : List α) (lo hi : Option Int) (k : Int) : (cutS3 xs lo hi k).length ≤ xs.length := by
  unfold cutS3
  split
  · exact cutF_length _ _ _
  · exact cutB_length _ _ _
theorem Vals.cutS3 {xs : List V} {us : List Value} (r : Vals xs us) (lo hi : Option Int) (k : Int) : Vals (G.cutS3 xs lo hi k) (G.cutS3 us lo hi k) := by
  unfold G.cutS3
  split
  · exact Vals.cutF r lo hi
  · exact Vals.cutB r lo hi
theorem slicePick_3 (its : List Value) (lo hi : Option Int) (k : Int) (hk : k = 1 ∨ k = -1) : slicePick its.toArray lo hi (some k) = (cutS3 its lo hi k).toArray := by
  unfold cutS3
  rcases hk with rfl | rfl
  · rw [if_pos rfl, slicePick_fwd]
  · rw [if_neg (by decide), slicePick_back]
section
variable {X : Cx} {W : WX} {a : Expr} {pos : Pos} {ma mk : ME}
/-- by values: the slice's object stands at sl -/
theorem sl3_ok {pins : List (Addr × Obj)} {s : Shared} {σ : L2.St} {H : Hp} {v : V} {u vl vu : Value} {t : Tok} {lo hi : Option Int} {k : Int} {sl : Addr} {Q : VK} {ρ : List Addr} {st st' : Store} {dx d : D} (I : L2.Inv X pins σ H s) (rx : RelV v u)
    (hs : s.heap.IsSliceOf sl vl vu (.int k t)) (pl : IsPart vl lo) (pu : IsPart vu hi) (S : SR X.K X.mg ρ st H) (r : Rep X.K X.mg ρ H dx v) (e : sl3D dx lo hi k st = some (d, st')) (q : Cont X.K X.mg (Rep X.K X.mg) ρ H d st' Q) :
    ∃ T id, typeLookup (.type T) "__getitem__" = pure (some (.builtin id)) ∧ s.TypeIs u T ∧ wpAny (model X.prog X.w) X.A (getItem u (.ref sl)) (EP X pins σ Q) X.xe s := by
  unfold sl3D at e
  split at e
  · split at e
    · rename_i xs hk
      cases e
      subst hk
      obtain ⟨a, vs, rfl, h, p⟩ := tup_sq r
      cases rx
      obtain ⟨its, rv, ht, hz⟩ := I.tuple h
      refine ⟨"tuple", _, PyProof.Rows.slot_tuple_getitem.lookup, ht.typeIs, ?_⟩
      refine getItem_tuple_back ht hs pl pu ?_ (by rw [List.size_toArray, ← rv.length]; exact hz)
      refine ⟨.ref s.heap.objs.size, _, I.laid (t' := s.toks) (o := .tup (cutB vs lo hi)) (fun b ob q => Heap.get?_push_of_some _ q) (Nat.le_refl _) ?_, rfl, new_tup S (p.cutB lo hi) q _ (I.hok.fresh (Nat.le_refl _))⟩
      exact ⟨Nat.le_trans (cutB_length _ _ _) hz, _, by simpa using Vals.cutB rv lo hi, ⟨_, Heap.get?_push_size _ rfl, rfl, _, rfl⟩⟩
    · cases e
  · split at e
    · rename_i z hk
      cases e
      obtain ⟨hz, hk⟩ := hk
      subst hk
      cases r
      obtain ⟨t2, rfl⟩ := rx
      obtain ⟨os, hos, hcs, hds⟩ := hs
      obtain ⟨l, rfl, rfl⟩ := IsPart.raw pl
      obtain ⟨u2, rfl, rfl⟩ := IsPart.raw pu
      refine ⟨"str", _, F.slot_str_getitem.lookup, typeIs_str _ _ _, ?_⟩
      refine wpAny_getItem_str_slice (l := l) (u := u2) (st := some (-1, t)) ⟨os, hos, hcs, hds⟩ rfl ?_
      have e2 := strIdx_back z (l.map (·.1)) (u2.map (·.1))
      show Made.post (if ((-1 : Int) == 1 && (Builtin.Str.strSliceIndices (l.map (·.1)) (u2.map (·.1)) (-1) z.length).length == z.length) = true then Made.val (.str z t2)
        else Made.str ⟨((Builtin.Str.strSliceIndices (l.map (·.1)) (u2.map (·.1)) (-1) z.length).filterMap (z.cps[·]?)).toArray⟩) (EP X pins σ Q) s
      rw [if_neg (by intro h; rw [Bool.and_eq_true] at h; exact absurd (eq_of_beq h.1) (by decide)), e2]
      refine ⟨?_, .str _, H, I.tok _, ⟨_, rfl⟩, q.here S (.str _)⟩
      show (cutB z.cps.toList _ _).toArray.size ≤ sizeLine
      rw [List.size_toArray]
      exact Nat.le_trans (cutB_length _ _ _) (by simpa [Str.length] using hz)
    · cases e
  · split at e
    · rename_i xs hx
      split at e
      · rename_i hk
        cases e
        obtain ⟨a, vs, rfl, h, p⟩ := lst_sq S r hx
        cases rx
        obtain ⟨its, rv, ht, hz⟩ := I.list h
        refine ⟨"list", _, slot_list_getitem.lookup, ht.isList.typeIs, ?_⟩
        refine wpAny_getItem_list_slice ht.isList hs pl pu (.int k t) (by intro z; cases z; omega) ?_ (by rw [List.size_toArray, ← rv.length]; exact hz)
        rw [slicePick_3 _ _ _ _ hk]
        refine ⟨.ref s.heap.objs.size, _, I.laid (t' := s.toks) (o := .lst (cutS3 vs lo hi k)) (fun b ob q => Heap.get?_push_of_some _ q) (Nat.le_refl _) ?_, rfl, new_lst S (p.cutS3 lo hi k) q _ (I.hok.fresh (Nat.le_refl _))⟩
        exact ⟨Nat.le_trans (cutS3_length _ _ _ _) hz, _, 0, Vals.cutS3 rv lo hi k, Heap.get?_push_size _ rfl⟩
      · cases e
    · cases e
theorem ge_slice3 {lo hi : Option Expr} {k : Expr} {ml mh : MO} {p2 : Pos} (ha : GE X W a ma) (hl : GO X W lo ml) (hh : GO X W hi mh) (hk : GE X W k mk) : GE X W (.Subscript a (.Slice lo hi (some k) p2) pos) (mSl3 ma ml mh mk) := by
  refine ⟨fun pins s σ H Q I ⟨ρ, st, σd, S, E, P⟩ => ?_⟩
  have h0 : tM X W ma σ H fun x H1 => tMO X W ml σ H1 fun l H2 => tMO X W mh σ H2 fun h H3 => tM X W mk σ H3 fun y H4 => ∃ k ρ4 st4 dx d st', y = .int k ∧ SR X.K X.mg ρ4 st4 H4 ∧ Rep X.K X.mg ρ4 H4 dx x ∧ sl3D dx l h k st4 = some (d, st') ∧ Cont X.K X.mg (Rep X.K X.mg) ρ4 H4 d st' Q :=
    tR.bnd S E P fun x H1 dx st1 ρ1 _ a1 S1 E1 R1 P1 => tR.bnd S1 E1 P1 fun l H2 l' st2 ρ2 _ a2 S2 E2 R2 P2 => tR.bnd S2 E2 P2 fun h H3 h' st3 ρ3 _ a3 S3 E3 R3 P3 => tR.bnd S3 E3 P3 fun y H4 dk st4 ρ4 _ a4 S4 E4 R4 P4 => by
      cases R2; cases R3
      split at P4
      · cases R4
        obtain ⟨d, st', e, q⟩ := P4.lift
        exact ⟨_, ρ4, st4, dx, d, st', rfl, S4, ((R1.stp S1 a2).stp S2 a3).stp S3 a4, e, q⟩
      · exact P4.elim
  refine Subscript_ (thn (ha.run pins s σ H _ I h0) fun v s1 ⟨x, H1, I1, r1, q1⟩ => ?_)
  refine wpAny_Slice (thn (hl.run pins s1 σ H1 _ I1 q1) fun vl s2 ⟨l, H2, I2, pl, q2⟩ => thn (hh.run pins s2 σ H2 _ I2 q2) fun vu s3 ⟨h, H3, I3, pu, q3⟩ => ?_)
  rw [evalPart_some]
  refine thn (hk.run pins s3 σ H3 _ I3 q3) fun vk s4 ⟨y, H4, I4, r4, k', ρ4, st4, dx, d, st', ey, S4, R4, e, q⟩ => ?_
  subst ey
  obtain ⟨t, rfl⟩ := r4
  have I5 : L2.Inv X pins σ H4 { s4 with heap := s4.heap.push { cls := .type "slice", data := .fields #[vl, vu, .int k' t] } } := I4.kept (t' := s4.toks) fun b ob q => Heap.get?_push_of_some _ q
  obtain ⟨T, id, hT, ht, hg⟩ := sl3_ok I5 r1 (Heap.IsSliceOf.new ..) pl pu S4 R4 e q
  show wpAny (model X.prog X.w) X.A (subscriptTail a (.Slice lo hi (some k) p2) v (.ref s4.heap.objs.size)) (EP X pins σ Q) X.xe { s4 with heap := s4.heap.push { cls := .type "slice", data := .fields #[vl, vu, .int k' t] } }
  exact tail_any (ops := [v, .ref s4.heap.objs.size]) ht hT hg (by with_unfolding_all rfl)
end
end
end G

/-! G8: built-in functions and classes, called. -/
namespace G
open PySem L2 PySem.Spec PyProof.Rows

/-! ### tuple(x) of what a list can be made of -/
section
open PySem.W
variable {prog : Program} {w : World} {A : Around} {E : Value → Shared → Prop} {s : Shared} {T : String} {r d : Addr} {n : Nat} {P : Nat → Value → Prop} {OK : Heap → Prop}
theorem collect_src {R : List Value → Shared → Prop} (K : KdlSrc prog w T r d n P OK) (hh : A.handled = none) (hok : OK s.heap) (hn : n ≤ sizeLine)
    (hQ : ∀ (h' : Heap) (tk : Nat) (acc : Array Value), (∀ b o, s.heap.get? b = some o → h'.get? b = some o) → ItemsOf P acc n → R acc.toList { s with heap := h', toks := tk }) :
    wpAny (model prog w) A (collect (.ref r)) R E s := by
  have hlt := K.there _ hok
  unfold collect
  refine wpAny_bind (wpAny_runValue (codeAny_builtin F.entry_proto_collect ?_))
  rw [Around.under_plainId F.plain_proto_collect _]
  show wpAny _ A.in1 (newList [] >>= fun l => again (.builtin "list.__iadd__" ⟨[l, .ref r], []⟩)) _ _ s
  refine wpAny_bind (wpAny_newObj_type ?_)
  refine wpAny_pure ⟨plainId_quiet F.plain_list_iadd _, codeAny_builtin F.entry_list_iadd ?_⟩
  rw [Around.under_plainId F.plain_list_iadd _]
  show wpAny _ A.in1 (Builtin.List.listExtendWith (.ref s.heap.objs.size) (.ref r) (.ref s.heap.objs.size)) _ _ _
  have hS : (s.heap.push { cls := .type "list", data := .seq ([] : List Value).toArray }).get? s.heap.objs.size = some { cls := .type "list", data := .seq #[] 0 } := Heap.get?_push_size _ rfl
  refine wpAny_mono (kdl_extend (A := A) (R := fun rr s' => rr = .ok (.ret (.ref s.heap.objs.size)) ∧ ∃ (h' : Heap) (tk : Nat) (acc : Array Value) (c' : Nat), s' = { s with heap := h', toks := tk } ∧
      (∀ b o, s.heap.get? b = some o → h'.get? b = some o) ∧ h'.get? s.heap.objs.size = some { cls := .type "list", dict := none, data := .seq acc c', slots := #[] } ∧ ItemsOf P acc n)
    (s := { s with heap := s.heap.push { cls := .type "list", data := .seq ([] : List Value).toArray } }) K hh (K.keep _ _ hok fun b _ o e => Heap.get?_push_of_some _ e) _ (Nat.ne_of_gt hlt.1) (Nat.ne_of_gt hlt.2) _ 0 hS
    (fun h' tk acc c' hk e hi => ⟨rfl, h', tk, acc, c', rfl, fun b o q => hk b o (Nat.ne_of_lt (Heap.lt_size q)) (Heap.get?_push_of_some _ q), e, hi⟩) hn) (fun fin s' h => ?_) (fun e s' h => ?_)
  · cases fin with
    | done f =>
      obtain ⟨e, h', tk, acc, c', rfl, hk, hS', hi⟩ := h
      cases e
      show wpAny _ A (load s.heap.objs.size >>= _) _ _ _
      exact wpAny_bind (wpAny_load hS' (wpAny_pure (hQ h' tk acc hk hi)))
    | again c' =>
      refine ⟨h.1, codeAny_mono h.2 fun rr s'' hr' => ?_⟩
      obtain ⟨rfl, h', tk, acc, c', rfl, hk, hS', hi⟩ := hr'
      show wpAny _ A (load s.heap.objs.size >>= _) _ _ _
      exact wpAny_bind (wpAny_load hS' (wpAny_pure (hQ h' tk acc hk hi)))
  · exact absurd h.1 (by simp)
theorem new_tuple_dict {R : Value → Shared → Prop} (K : KdlSrc prog w "dict" r d n P OK) (hh : A.handled = none) (hok : OK s.heap) (hn : n ≤ sizeLine)
    (h : ∀ (h' : Heap) (tk : Nat) (acc : Array Value), (∀ b o, s.heap.get? b = some o → h'.get? b = some o) → ItemsOf P acc n →
      R (.ref h'.objs.size) { s with heap := h'.push { cls := .type "tuple", data := .seq acc }, toks := tk }) :
    codeAny (model prog w) A (.call (.builtin "tuple.__new__") ⟨[.type "tuple", .ref r], []⟩) (wants R E) s := by
  refine codeAny_of_tree ?_
  show wpAny _ A.in1 (do checkBuiltinCall "tuple.__new__" ⟨[.type "tuple", .ref r], []⟩; again (.builtin "tuple.__new__" ⟨[.type "tuple", .ref r], []⟩)) _ _ s
  refine wpAny_bind (wpAny_of_eq (F.newCall_tuple_1 _) (wpAny_pure ⟨plainId_quiet F.plain_tuple_new _, codeAny_builtin F.entry_tuple_new ?_⟩))
  rw [Around.under_plainId F.plain_tuple_new _]
  have hsub := sub_tuple_self
  have hinit := init_tuple_lookup
  have hmh := madeHere_tuple
  have hTI : s.TypeIs (.ref r) "dict" := K.type s hok
  have hh1 : A.in1.handled = none := hh
  wp_walk using wpAny_typeOf hTI, collect_src (A := A.in1) K hh1 hok hn
  intro h' tk acc hk hacc
  show wpAny _ _ (Builtin.Tuple.tupleExact acc.toList.toArray >>= fun v => ret v) _ _ _
  unfold Builtin.Tuple.tupleExact
  refine wpAny_bind (wpAny_newObj_type ?_ (by show acc.toList.toArray.size ≤ sizeLine; simp only [Array.toArray_toList]; rw [hacc.1]; exact hn))
  refine wpAny_pure ?_
  have e : acc.toList.toArray = acc := by simp
  rw [e]
  exact h h' tk acc hk hacc
theorem call_tuple_dict {R : Value → Shared → Prop} (K : KdlSrc prog w "dict" r d n P OK) (hh : A.handled = none) (hok : OK s.heap) (hn : n ≤ sizeLine)
    (hQ : ∀ (h' : Heap) (tk : Nat) (acc : Array Value), (∀ b o, s.heap.get? b = some o → h'.get? b = some o) → ItemsOf P acc n →
      R (.ref h'.objs.size) { s with heap := h'.push { cls := .type "tuple", data := .seq acc }, toks := tk }) :
    wpAny (model prog w) A (call (.type "tuple") [.ref r]) R E s := by
  refine callType_codes (Q₁ := fun obj s₁ => s₁.TypeIs obj "tuple" ∧ R obj s₁) F.called_tuple (F.typeCall_tuple_1 _) F.entry_object_init
    (new_tuple_dict (A := A.in1) K hh hok hn fun h' tk acc hk hacc => ⟨⟨_, Heap.get?_push_size _ rfl, rfl⟩, hQ h' tk acc hk hacc⟩) fun obj s₁ h₁ => ?_
  exact ⟨h₁.1, F.args_object_init_2 obj _, object_init_meets F.called_tuple.init.lookup F.called_tuple.made (by decide) prog w A.in1 _ s₁ ⟨h₁.1, rfl, h₁.2⟩⟩
end
theorem call_tuple_dK {X : Cx} (hc : X.calm = true) : CallR X (.type "tuple") (fun xs H Q => ∃ p kvs, xs = [.ref p] ∧ H p = some (.dK kvs) ∧ ∀ q, H q = none → Q (.ref q) (upd H q (.tup (kvs.map fun kv => kV kv.1)))) := by
  intro pins s σ H xs us Q I r h
  obtain ⟨p, kvs, rfl, hk, q⟩ := h
  obtain ⟨u, rfl, rx⟩ := vals1 r
  obtain rfl : u = Value.ref p := rx
  obtain ⟨z, lo, vs, rk, hd⟩ := (show ObjOk X.prog X.w H s.heap p (.dK kvs) from I.hok p _ hk)
  obtain ⟨ep, hat⟩ := hd.dictAt
  have hl : kvs.length = vs.length := Paired.length rk
  refine call_tuple_dict (PySem.W.kdl_dict (knd := mixKind X.prog X.w) (kvs := vs) (ep := ep) lo) (I.ok.hd hc) hat (by rw [← hl]; exact z) fun h' tk acc hkeep hacc => ?_
  have I1 : L2.Inv X pins σ H { s with heap := h', toks := tk } := I.kept (t' := tk) hkeep
  refine ⟨.ref h'.objs.size, upd H h'.objs.size (.tup (kvs.map fun kv => kV kv.1)), I1.laid (t' := tk) (fun b o e => Heap.get?_push_of_some _ e) (Nat.le_refl _) (show ObjOk X.prog X.w _ _ _ (.tup (kvs.map fun kv => kV kv.1)) from ⟨by rw [List.length_map]; exact z, acc.toList, ?_, ?_⟩), rfl, q _ (I1.hok.fresh (Nat.le_refl _))⟩
  · have el : acc.toList.length = acc.size := by simp
    refine vals_of_at (by rw [List.length_map, el, hacc.1, hl]) fun j x w h1 h2 => ?_
    obtain ⟨k, y, hky, hi⟩ := hacc.2 j w (by rw [← Array.getElem?_toList]; exact h2)
    have e1 : (kvs.map (·.1))[j]? = some k := by
      rw [KV.keys rk, List.getElem?_map, hky] <;> rfl
    have e2 : (kvs.map fun kv => kV kv.1)[j]? = some (kV k) := by
      have e3 : (kvs.map fun kv => kV kv.1) = (kvs.map (·.1)).map kV := by rw [List.map_map] <;> rfl
      rw [e3, List.getElem?_map, e1] <;> rfl
    rw [e2] at h1
    cases h1
    exact keyIs_rel hi
  · rw [Array.toArray_toList]
    exact IsTup.new _ _

/-! ### len, abs, int, isinstance, all, any, list, tuple, max, min -/
section
variable {X : Cx}
theorem CallR.or3 {f : Value} {r1 r2 r3 : List V → Hp → VK → Prop} (h1 : CallR X f r1) (h2 : CallR X f r2) (h3 : CallR X f r3) : CallR X f (fun xs H Q => r1 xs H Q ∨ r2 xs H Q ∨ r3 xs H Q) := h1.or (h2.or h3)
theorem reps1 {K : PySem.W.Frag} {mg : Str → Option Value} {ρ : List Addr} {H : Hp} {d : D} {xs : List V} (r : Reps K mg ρ H [d] xs) : ∃ x, xs = [x] ∧ Rep K mg ρ H d x := by
  cases r with
  | cons h t => cases t; exact ⟨_, rfl, h⟩
theorem reps2 {K : PySem.W.Frag} {mg : Str → Option Value} {ρ : List Addr} {H : Hp} {d e : D} {xs : List V} (r : Reps K mg ρ H [d, e] xs) : ∃ x y, xs = [x, y] ∧ Rep K mg ρ H d x ∧ Rep K mg ρ H e y := by
  cases r with
  | cons h t =>
    obtain ⟨y, rfl, h2⟩ := reps1 t
    exact ⟨_, y, rfl, h, h2⟩
theorem dctW_of {st : Store} {n : Nat} {kvs : List (D × D)} (e : st[n]? = some (.dct kvs)) : dctW st n = some kvs := by
  unfold dctW
  rw [e]
theorem dctRW {st : Store} {n : Nat} {kvs : List (D × D)} (e : dctW st n = some kvs) : dctR st n = some kvs := by
  unfold dctR
  rw [dctW_eq e]
def bLen : OpN := fun ds st => match ds with
  | [.tup xs] => some (.int xs.length, st)
  | [.str z] => if z.length ≤ sizeLine then some (.int z.length, st) else none
  | [.loc n] => match lstAt st n, dctW st n with
    | some xs, _ => some (.int xs.length, st)
    | none, some kvs => some (.int kvs.length, st)
    | none, none => none
  | [.rol xs] => some (.int xs.length, st)
  | _ => none
theorem bLen_ok : CallR X (.builtin "len") (rGN X bLen) :=
  CallR.imp ((call_len_seq.or call_len_str).or (call_lenD.or call_len_dT)) fun xs H Q ⟨ρ, st, ds, d, st', S, r, e, q⟩ => by
    unfold bLen at e
    split at e
    · cases e
      obtain ⟨x, rfl, r1⟩ := reps1 r
      obtain ⟨a, vs, rfl, h, p⟩ := tup_sq r1
      exact .inl (.inl ⟨a, vs, rfl, .inr h, by rw [← p.length]; exact q.here S (.int _)⟩)
    · split at e
      · rename_i hz
        cases e
        obtain ⟨x, rfl, r1⟩ := reps1 r
        cases r1
        exact .inl (.inr ⟨_, rfl, hz, q.here S (.int _)⟩)
      · cases e
    · obtain ⟨x, rfl, r1⟩ := reps1 r
      split at e
      · rename_i e1
        cases e
        obtain ⟨a, vs, rfl, _, h, p⟩ := loc_lst S r1 (lstAt_eq e1)
        exact .inl (.inl ⟨a, vs, rfl, .inl (.inl (.inl h)), by rw [← p.length]; exact q.here S (.int _)⟩)
      · rename_i kvs _ e1
        cases e
        have e' := dctRW e1
        obtain ⟨a, rfl, hp, hl, hw⟩ := dct_lay S r1 e'
        rcases hl with ⟨ps, h1, h2⟩ | ⟨ps, h1, h2⟩
        · exact .inr (.inl ⟨a, ps, rfl, hw e1 _ h1 (.inl ⟨_, rfl⟩), by rw [← h2.g.len]; exact q.here S (.int _)⟩)
        · exact .inr (.inr ⟨a, ps, rfl, hw e1 _ h1 (.inr ⟨_, rfl⟩), by rw [← h2.g.len]; exact q.here S (.int _)⟩)
      · cases e
    · cases e
      obtain ⟨x, rfl, r1⟩ := reps1 r
      obtain ⟨a, vs, rfl, h, p⟩ := lst_sq (xs := _) S r1 rfl
      exact .inl (.inl ⟨a, vs, rfl, .inl h, by rw [← p.length]; exact q.here S (.int _)⟩)
    · cases e
def bAbs : OpN := fun ds st => match ds with
  | [.int i] => some (.int (if i < 0 then -i else i), st)
  | _ => none
theorem bAbs_ok : CallR X (.builtin "abs") (rGN X bAbs) :=
  CallR.imp call_abs fun xs H Q ⟨ρ, st, ds, d, st', S, r, e, q⟩ => by
    unfold bAbs at e
    split at e
    · cases e
      obtain ⟨x, rfl, r1⟩ := reps1 r
      cases r1
      exact ⟨_, rfl, q.here S (.int _)⟩
    · cases e
def bInt : OpN := fun ds st => match ds with
  | [.int i] => some (.int i, st)
  | [.bl b] => some (.int (if b then 1 else 0), st)
  | _ => none
theorem bInt_ok : CallR X (.type "int") (rGN X bInt) :=
  CallR.imp call_int1 fun xs H Q ⟨ρ, st, ds, d, st', S, r, e, q⟩ => by
    unfold bInt at e
    split at e
    · cases e
      obtain ⟨x, rfl, r1⟩ := reps1 r
      cases r1
      exact .inl ⟨_, rfl, q.here S (.int _)⟩
    · cases e
      obtain ⟨x, rfl, r1⟩ := reps1 r
      cases r1
      exact .inr ⟨_, rfl, q.here S (.int _)⟩
    · cases e
/-- two of ints -/
def bMax2 : OpN := fun ds st => match ds with
  | [.int i, .int j] => some (.int (if j > i then j else i), st)
  | _ => none
def bMin2 : OpN := fun ds st => match ds with
  | [.int i, .int j] => some (.int (if j < i then j else i), st)
  | _ => none
theorem bMax2_ok (hc : X.calm = true) : CallR X (.builtin "max") (rGN X bMax2) :=
  CallR.imp (call_max2 hc) fun xs H Q ⟨ρ, st, ds, d, st', S, r, e, q⟩ => by
    unfold bMax2 at e
    split at e
    · cases e
      obtain ⟨x, y, rfl, r1, r2⟩ := reps2 r
      cases r1; cases r2
      exact ⟨_, _, rfl, q.here S (.int _)⟩
    · cases e
theorem bMin2_ok (hc : X.calm = true) : CallR X (.builtin "min") (rGN X bMin2) :=
  CallR.imp (call_min2 hc) fun xs H Q ⟨ρ, st, ds, d, st', S, r, e, q⟩ => by
    unfold bMin2 at e
    split at e
    · cases e
      obtain ⟨x, y, rfl, r1, r2⟩ := reps2 r
      cases r1; cases r2
      exact ⟨_, _, rfl, q.here S (.int _)⟩
    · cases e
/-- a list of truths -/
def blsD : List D → Option (List Bool)
  | [] => some []
  | .bl b :: r => (blsD r).map (b :: ·)
  | _ :: _ => none
theorem bls_val {K : PySem.W.Frag} {mg : Str → Option Value} {ρ : List Addr} {H : Hp} : ∀ {xs : List D} {vs : List V} {bs : List Bool}, Reps K mg ρ H xs vs → blsD xs = some bs → vs = bs.map V.bl
  | [], _, _, .nil, e => by cases e; rfl
  | x :: r, _, _, .cons h t, e => by
    cases x with
    | bl b =>
      have e2 : (blsD r).map (b :: ·) = some _ := e
      cases e3 : blsD r with
      | none => rw [e3] at e2; cases e2
      | some bs =>
        rw [e3] at e2
        cases e2
        cases h
        rw [bls_val t e3]
        rfl
    | _ => cases e
def bAll : OpN := fun ds st => match ds with
  | [d] => ((lstD d st).bind blsD).map fun bs => (.bl (bs.all id), st)
  | _ => none
def bAny : OpN := fun ds st => match ds with
  | [d] => ((lstD d st).bind blsD).map fun bs => (.bl (bs.any id), st)
  | _ => none
theorem bls_of {d0 d : D} {st st' : Store} {f : List Bool → Bool} (e : ((lstD d0 st).bind blsD).map (fun bs => (D.bl (f bs), st)) = some (d, st')) : ∃ xs bs, lstD d0 st = some xs ∧ blsD xs = some bs ∧ d = .bl (f bs) ∧ st' = st := by
  cases e1 : lstD d0 st with
  | none => rw [e1] at e; cases e
  | some xs =>
    rw [e1] at e
    cases e2 : blsD xs with
    | none => rw [Option.bind_some, e2] at e; cases e
    | some bs =>
      rw [Option.bind_some, e2] at e
      cases e
      exact ⟨xs, bs, rfl, e2, rfl, rfl⟩
theorem bAll_ok (hc : X.calm = true) : CallR X (.builtin "all") (rGN X bAll) :=
  CallR.imp (cr_all hc) fun xs H Q ⟨ρ, st, ds, d, st', S, r, e, q⟩ => by
    unfold bAll at e
    split at e
    · obtain ⟨x, rfl, r1⟩ := reps1 r
      obtain ⟨xs, bs, e1, e2, rfl, rfl⟩ := bls_of e
      obtain ⟨a, vs, rfl, h, p⟩ := lst_sq S r1 e1
      have := bls_val p e2
      subst this
      exact ⟨a, bs, rfl, h, q.here S (.bl _)⟩
    · cases e
theorem bAny_ok (hc : X.calm = true) : CallR X (.builtin "any") (rGN X bAny) :=
  CallR.imp (cr_any hc) fun xs H Q ⟨ρ, st, ds, d, st', S, r, e, q⟩ => by
    unfold bAny at e
    split at e
    · obtain ⟨x, rfl, r1⟩ := reps1 r
      obtain ⟨xs, bs, e1, e2, rfl, rfl⟩ := bls_of e
      obtain ⟨a, vs, rfl, h, p⟩ := lst_sq S r1 e1
      have := bls_val p e2
      subst this
      exact ⟨a, bs, rfl, h, q.here S (.bl _)⟩
    · cases e
/-- list(x), tuple(x) of a list, a tuple, a dict of ints' and texts' keys -/
def flatKeys (kvs : List (D × D)) : Bool := match kvs with
  | [] => false
  | kv :: _ => match kOf kv.1 with
    | some (.inl _) => true
    | _ => false
def bList : OpN := fun ds st => match ds with
  | [.tup xs] => some (.loc st.length, st ++ [.lst xs])
  | [d] => match lstD d st, (match d with | .loc n => dctW st n | _ => none) with
    | some xs, _ => some (.loc st.length, st ++ [.lst xs])
    | none, some kvs => if flatKeys kvs then some (.loc st.length, st ++ [.lst (kvs.map (·.1))]) else none
    | none, none => none
  | _ => none
def bTuple : OpN := fun ds st => match ds with
  | [.tup xs] => some (.tup xs, st)
  | [d] => match lstD d st, (match d with | .loc n => dctW st n | _ => none) with
    | some xs, _ => some (.tup xs, st)
    | none, some kvs => if kvs.isEmpty || flatKeys kvs then some (.tup (kvs.map (·.1)), st) else none
    | none, none => none
  | _ => none
theorem pk1_keys {K : PySem.W.Frag} {mg : Str → Option Value} {ρ : List Addr} {H : Hp} : ∀ {kvs : List (D × D)} {ps : List (Key × V)}, PK1 K mg ρ H kvs ps → Reps K mg ρ H (kvs.map (·.1)) (ps.map fun kv => kV kv.1)
  | _, _, .nil => .nil
  | _, _, .cons (a := p) (b := q) h t => by
    refine .cons ?_ (pk1_keys t)
    have h1 := h.1
    show Rep K mg ρ H p.1 (kV q.1)
    cases hp : p.1 with
    | int i => rw [hp] at h1; rw [← Option.some.inj h1]; exact .int i
    | str i => rw [hp] at h1; rw [← Option.some.inj h1]; exact .str i
    | _ => rw [hp] at h1; cases h1
theorem flat_lay {ρ : List Addr} {H : Hp} {st : Store} (S : SR X.K X.mg ρ st H) {n : Nat} {v : V} {kvs : List (D × D)} (r : Rep X.K X.mg ρ H (.loc n) v) (e : dctW st n = some kvs) (hf : flatKeys kvs = true) :
    ∃ a ps, v = .ref a ∧ H a = some (.dK ps) ∧ PK1 X.K X.mg ρ H kvs ps := by
  have e' := dctRW e
  obtain ⟨a, rfl, hp, hl, hw⟩ := dct_lay S r e'
  rcases hl with ⟨ps, h1, h2⟩ | ⟨ps, h1, h2⟩
  · exact ⟨a, ps, rfl, hw e _ h1 (.inl ⟨_, rfl⟩), h2⟩
  · exfalso
    have h3 := h2.g
    cases h3 with
    | nil => exact absurd hf (by simp [flatKeys])
    | cons q t =>
      unfold flatKeys at hf
      simp only [q.1, kd2] at hf
      cases hf
theorem bList_ok (hc : X.calm = true) : CallR X (.type "list") (rGN X bList) :=
  CallR.imp (call_list_of.or (call_list_dK hc)) fun xs H Q ⟨ρ, st, ds, d, st', S, r, e, q⟩ => by
    unfold bList at e
    split at e
    · cases e
      obtain ⟨x, rfl, r1⟩ := reps1 r
      obtain ⟨a, vs, rfl, h, p⟩ := tup_sq r1
      exact .inl ⟨a, vs, rfl, .inr h, new_lst S p q⟩
    · obtain ⟨x, rfl, r1⟩ := reps1 r
      split at e
      · rename_i e1
        cases e
        obtain ⟨a, vs, rfl, h, p⟩ := lst_sq S r1 e1
        exact .inl ⟨a, vs, rfl, .inl h, new_lst S p q⟩
      · rename_i e1
        split at e
        · rename_i hf
          cases e
          split at e1
          · obtain ⟨a, ps, rfl, h, p⟩ := flat_lay S r1 e1 hf
            exact .inr ⟨a, ps, rfl, h, new_lst S (pk1_keys p) q⟩
          · cases e1
        · cases e
      · cases e
    · cases e
/-- an empty dict of either kind -/
theorem call_tuple_d0 (hc : X.calm = true) : CallR X (.type "tuple") (fun xs H Q => ∃ ρ st n kvs, Reps X.K X.mg ρ H [.loc n] xs ∧ SR X.K X.mg ρ st H ∧ dctW st n = some kvs ∧ (kvs.isEmpty || flatKeys kvs) = true ∧ Cont X.K X.mg (Rep X.K X.mg) ρ H (.tup (kvs.map (·.1))) st Q) := by
  intro pins s σ H xs us Q I rv ⟨ρ, st, n, kvs, r, S, hd, hf, q⟩
  obtain ⟨x, rfl, r1⟩ := reps1 r
  cases kvs with
  | cons kv more =>
    have hf' : flatKeys (kv :: more) = true := by simpa using hf
    obtain ⟨a, ps, rfl, h, p⟩ := flat_lay S r1 hd hf'
    exact call_tuple_dK hc pins s σ H _ us Q I rv ⟨a, ps, rfl, h, new_tup S (pk1_keys p) q⟩
  | nil =>
    obtain ⟨a, H1, rfl, w, hw⟩ := dct_view (k := .int 0) I S r1 (.int 0) hd rfl
    rcases w.lay with ⟨ps, k', h1, h2, _⟩ | ⟨ps, k', b, h1, h2, h3, h4, _⟩
    · have h0 := hw _ h1 (.inl ⟨_, rfl⟩)
      cases h2
      exact call_tuple_dK hc pins s σ H1 _ us Q w.inv rv ⟨a, [], rfl, h0, new_tup w.sr .nil (Cont.stp q w.stp)⟩
    · cases h4
theorem bTuple_ok (hc : X.calm = true) : CallR X (.type "tuple") (rGN X bTuple) :=
  CallR.imp (call_tuple_of.or (call_tuple_d0 hc)) fun xs H Q ⟨ρ, st, ds, d, st', S, r, e, q⟩ => by
    unfold bTuple at e
    split at e
    · cases e
      obtain ⟨x, rfl, r1⟩ := reps1 r
      obtain ⟨a, vs, rfl, h, p⟩ := tup_sq r1
      exact .inl ⟨a, vs, rfl, .inr ⟨h, q.here S r1⟩⟩
    · split at e
      · rename_i e1
        cases e
        obtain ⟨x, rfl, r1⟩ := reps1 r
        obtain ⟨a, vs, rfl, h, p⟩ := lst_sq S r1 e1
        exact .inl ⟨a, vs, rfl, .inl ⟨h, new_tup S p q⟩⟩
      · rename_i e1
        split at e
        · rename_i hf
          cases e
          split at e1
          · exact .inr ⟨ρ, st, _, _, r, S, e1, hf, q⟩
          · cases e1
        · cases e
      · cases e
    · cases e
/-! ### isinstance -/
def tyD (d : D) (st : Store) : Option Ty := match d with
  | .non => some .non
  | .bl _ => some .bl
  | .int _ => some .int
  | .str _ => some .str
  | .tup _ => some .tup
  | .rol _ => some .lst
  | .loc n => match st[n]? with
    | some (.lst _) => some .lst
    | some (.dct _) => some .dct
    | _ => none
  | _ => none
/-- of a type, or of one beneath it -/
def Ty.sub (a b : Ty) : Bool := a == b || (a == .bl && b == .int)
theorem sub_kit : ∀ a b : Ty, b ≠ .non → kitB a.nm b.nm = some (a.sub b) := by
  intro a b h
  cases a <;> cases b <;> first | exact absurd rfl h | decide +kernel
theorem tyD_val {ρ : List Addr} {H : Hp} {st : Store} (S : SR X.K X.mg ρ st H) {d : D} {v : V} {t : Ty} (r : Rep X.K X.mg ρ H d v) (e : tyD d st = some t) : TyX X.K H v (.type t.nm) := by
  unfold tyD at e
  split at e
  · cases e; cases r; exact .base .non
  · cases e; cases r; exact .base (.bl _)
  · cases e; cases r; exact .base (.int _)
  · cases e; cases r; exact .base (.str _)
  · cases e
    obtain ⟨a, vs, rfl, h, p⟩ := tup_at r
    exact .base (.tup h)
  · cases e
    obtain ⟨a, vs, rfl, h, p⟩ := lst_sq (xs := _) S r rfl
    rcases h with (h | ⟨o, h⟩) | ⟨o, its, n, h1, h2, _⟩
    · exact .base (.lst h)
    · exact .base (.frz h)
    · exact .kList h1 h2
  · split at e
    · rename_i xs hs
      cases e
      obtain ⟨a, vs, rfl, _, h, p⟩ := loc_lst S r hs
      exact .base (.lst h)
    · rename_i kvs hs
      cases e
      have hd := dctW_of hs
      obtain ⟨a, rfl, hp, hl, hw⟩ := dct_lay S r (dctRW hd)
      rcases hl with ⟨ps, h1, h2⟩ | ⟨ps, h1, h2⟩
      · exact .base (.dK (hw hd _ h1 (.inl ⟨_, rfl⟩)))
      · exact .base (.dT (hw hd _ h1 (.inr ⟨_, rfl⟩)))
    · cases e
  · cases e
def bIsi : OpN := fun ds st => match ds with
  | [d, .ty t] => if t = .non then none else (tyD d st).map fun a => (.bl (a.sub t), st)
  | _ => none
theorem bIsi_ok : CallR X (.builtin "isinstance") (rGN X bIsi) :=
  CallR.imp call_isi fun xs H Q ⟨ρ, st, ds, d, st', S, r, e, q⟩ => by
    unfold bIsi at e
    split at e
    · rename_i d0 t
      split at e
      · cases e
      · rename_i ht
        cases e1 : tyD d0 st with
        | none => rw [e1] at e; cases e
        | some a =>
          rw [e1] at e
          cases e
          obtain ⟨x, y, rfl, r1, r2⟩ := reps2 r
          cases r2
          exact ⟨x, _, .type a.nm, .type t.nm, a.sub t, rfl, .ty _, tyD_val S r1 e1, kit_ty (sub_kit a t ht), q.here S (.bl _)⟩
    · cases e
end
end G

/-! G9: repr. -/
namespace G
open PySem L2 PySem.Spec PyProof.Rows

/-! what repr writes: without dicts; an empty dict within tuples -/
mutual
def pdE (st : Store) : D → Option PyData
  | .non => some .none
  | .bl b => some (.bool b)
  | .int i => some (.int i)
  | .str s => some (.str s)
  | .tup xs => (pdsE st xs).map .tuple
  | .loc n => match dctW st n with
    | some [] => some (.dict [])
    | _ => none
  | .rol _ => none
  | .fn _ => none
  | .ty _ => none
def pdsE (st : Store) : List D → Option (List PyData)
  | [] => some []
  | d :: ds => match pdE st d, pdsE st ds with
    | some p, some ps => some (p :: ps)
    | _, _ => none
end
def shownOk (p : PyData) : Bool := p.showable && decide (p.depth ≤ 120) && decide (p.shown.length ≤ sizeLine)
def reprD (d : D) (st : Store) : Option Str := match toP st d with
  | some p => if !p.hasDict && shownOk p then some p.shown else none
  | none => match pdE st d with
    | some p => if shownOk p then some p.shown else none
    | none => none
def bRepr : OpN := fun ds st => match ds with
  | [d] => (reprD d st).map fun z => (.str z, st)
  | _ => none
section
variable {X : Cx} {pins : List (Addr × Obj)} {σ : L2.St} {H : Hp} {s : Shared} {ρ : List Addr} {st : Store}
theorem apart_dict {a : Addr} {kvs : List (Key × V)} (I : L2.Inv X pins σ H s) (h : Rd H a (.dK kvs) ∨ ∃ ks, Rd H a (.dT ks)) : a ≠ sysModules := by
  rcases h with h | ⟨ks, h⟩
  · obtain ⟨_, e, _⟩ := dk_rd I.hok h
    intro z; subst z; simp at e
  · obtain ⟨_, e, _⟩ := dt_rd I.hok h
    intro z; subst z; simp at e
mutual
theorem pdE_reads (I : L2.Inv X pins σ H s) (S : SR X.K X.mg ρ st H) : ∀ (d : D) (v : V) (u : Value) (p : PyData), Rep X.K X.mg ρ H d v → RelV v u → pdE st d = some p → ∃ as, Reads s.heap u p as ∧ sysModules ∉ as
  | .non, _, _, _, r, ru, e => by cases r; cases ru; unfold pdE at e; cases e; exact ⟨_, .none, by simp⟩
  | .bl b, _, _, _, r, ru, e => by cases r; cases ru; unfold pdE at e; cases e; exact ⟨_, .bool _, by simp⟩
  | .int i, _, _, _, r, ru, e => by cases r; obtain ⟨t, rfl⟩ := ru; unfold pdE at e; cases e; exact ⟨_, .int _ _, by simp⟩
  | .str z, _, _, _, r, ru, e => by cases r; obtain ⟨t, rfl⟩ := ru; unfold pdE at e; cases e; exact ⟨_, .str _ _, by simp⟩
  | .tup xs, _, _, _, r, ru, e => by
    unfold pdE at e
    cases e2 : pdsE st xs with
    | none => rw [e2] at e; cases e
    | some ps =>
      rw [e2] at e
      cases e
      obtain ⟨a, vs, rfl, h, q⟩ := tup_sq r
      cases ru
      obtain ⟨its, rv, ⟨o, ho, hc, n, hd⟩, hz⟩ := I.tuple h
      obtain ⟨as, h1, h2⟩ := pdsE_reads I S xs vs its ps q rv e2
      exact ⟨as, .tuple ho hc hd (by simpa using h1), h2⟩
  | .loc n, _, _, _, r, ru, e => by
    unfold pdE at e
    split at e
    · rename_i hd
      cases e
      obtain ⟨a, rfl, hp, hl, hw⟩ := dct_lay S r (dctRW hd)
      cases ru
      have h0 : ∃ o es ep, s.heap.get? a = some o ∧ o.ExactDict ∧ o.data = .dict es ep ∧ es.toList = [] ∧ a ≠ sysModules := by
        rcases hl with ⟨ps, h1, h2⟩ | ⟨ps, h1, h2⟩
        · cases h2
          have h0 := hw hd _ h1 (.inl ⟨_, rfl⟩)
          obtain ⟨z, hs, vs, rel, o, es, ep, e1, e2, e3, e4⟩ := I.hok a _ h0
          cases rel
          have e5 : es.toList = [] := by
            cases hes : es.toList with
            | nil => rfl
            | cons a r => have q := e4.2.1; rw [hes] at q; cases q
          exact ⟨o, es, ep, e1, e2, e3, e5, by intro z; subst z; simp at hs⟩
        · cases h2
          have h0 := hw hd _ h1 (.inr ⟨_, rfl⟩)
          obtain ⟨z, hs, xs, rel, o, es, ep, e1, e2, e3, e4, e5⟩ := I.hok a _ h0
          cases rel
          exact ⟨o, es, ep, e1, e2, e3, e4, by intro z; subst z; simp at hs⟩
      obtain ⟨o, es, ep, e1, e2, e3, e4, e5⟩ := h0
      refine ⟨[a], ?_, by simpa using fun z => e5 z.symm⟩
      exact Reads.dict (kvs := []) (as := []) (bs := []) e1 e2.1 e3 (by rw [e4]; exact .nil) (by rw [e4]; exact .nil)
    · cases e
  | .rol _, _, _, _, _, _, e => by unfold pdE at e; cases e
  | .fn _, _, _, _, _, _, e => by unfold pdE at e; cases e
  | .ty _, _, _, _, _, _, e => by unfold pdE at e; cases e
theorem pdsE_reads (I : L2.Inv X pins σ H s) (S : SR X.K X.mg ρ st H) : ∀ (ds : List D) (vs : List V) (us : List Value) (ps : List PyData), Reps X.K X.mg ρ H ds vs → Vals vs us → pdsE st ds = some ps → ∃ as, ReadsAll s.heap us ps as ∧ sysModules ∉ as
  | [], _, _, _, r, ru, e => by cases r; cases ru; unfold pdsE at e; cases e; exact ⟨_, .nil, by simp⟩
  | d :: ds, _, _, _, r, ru, e => by
    unfold pdsE at e
    split at e
    · rename_i e1 e2
      cases e
      cases r with
      | cons r1 r2 =>
        cases ru with
        | cons v1 v2 =>
          obtain ⟨as, h1, n1⟩ := pdE_reads I S d _ _ _ r1 v1 e1
          obtain ⟨bs, h2, n2⟩ := pdsE_reads I S ds _ _ _ r2 v2 e2
          exact ⟨_, .cons h1 h2, by simp [n1, n2]⟩
    · cases e
end
theorem reprD_val {d : D} {z : Str} (e : reprD d st = some z) : ∃ p, z = p.shown ∧ p.showable = true ∧ p.depth ≤ 120 ∧ p.shown.length ≤ sizeLine ∧ ((toP st d = some p ∧ p.hasDict = false) ∨ pdE st d = some p) := by
  unfold reprD at e
  split at e
  · rename_i p e1
    split at e
    · rename_i h
      cases e
      simp only [shownOk, Bool.and_eq_true, Bool.not_eq_true', decide_eq_true_eq] at h
      exact ⟨p, rfl, h.2.1.1, h.2.1.2, h.2.2, .inl ⟨e1, h.1⟩⟩
    · cases e
  · split at e
    · rename_i p e1
      split at e
      · rename_i h
        cases e
        simp only [shownOk, Bool.and_eq_true, decide_eq_true_eq] at h
        exact ⟨p, rfl, h.1.1, h.1.2, h.2, .inr e1⟩
      · cases e
    · cases e
theorem repr_any {u : Value} {p : PyData} {as : List Addr} {R : Value → Shared → Prop} {A : Around} {E : Value → Shared → Prop} {prog : Program} {w : World} (r : Reads s.heap u p as) (hs : p.showable = true) (hd : p.hasDict = true → sysModules ∉ as) (hg : A.guards = some []) (hu : A.units + 200 < cLine) (hl : p.depth ≤ 120) (hz : p.shown.length ≤ sizeLine)
    (h : ∀ (h' : Heap) (t : Tok) (tk : Nat), (∀ b o, s.heap.get? b = some o → h'.get? b = some o) → R (.str p.shown t) { s with heap := h', toks := tk }) : wpAny (model prog w) A (call (.builtin "repr") [u]) R E s := by
  cases r with
  | none => exact PySem.P.repr_of_none (h s.heap _ _ fun _ _ e => e)
  | bool b => exact PySem.P.repr_of_bool (by
      have := h s.heap s.toks (s.toks + 1) fun _ _ e => e
      cases b <;> exact this)
  | int i t =>
    have h1 : i.natAbs.log2 < 1920 := by
      rw [PyData.showable.eq_def] at hs
      exact of_decide_eq_true hs
    exact PySem.P.repr_of_int h1 (h s.heap _ _ fun _ _ e => e)
  | str x t => exact PySem.P.repr_of_str (h s.heap _ _ fun _ _ e => e) (by simpa [PyData.shown.eq_def] using hz)
  | list a b c d => exact PySem.repr_of_reads' (.list a b c d) hs hd hg (by omega) (fun _ _ e => e) (fun h' u tk k => h h' u tk k) hz
  | tuple a b c d => exact PySem.repr_of_reads' (.tuple a b c d) hs hd hg (by omega) (fun _ _ e => e) (fun h' u tk k => h h' u tk k) hz
  | dict a b c d e => exact PySem.repr_of_reads' (.dict a b c d e) hs hd hg (by omega) (fun _ _ e => e) (fun h' u tk k => h h' u tk k) hz
theorem bRepr_ok (hg : X.A.guards = some []) (hu : X.A.units + 200 < cLine) : CallR X (.builtin "repr") (rGN X bRepr) := by
  intro pins s σ H xs us Q I rv ⟨ρ, st, ds, d, st', S, r, e, q⟩
  unfold bRepr at e
  split at e
  · rename_i d0
    cases e1 : reprD d0 st with
    | none => rw [e1] at e; cases e
    | some z =>
      rw [e1] at e
      cases e
      obtain ⟨p, rfl, hs, hl, hz, hp⟩ := reprD_val e1
      obtain ⟨x, rfl, r1⟩ := reps1 r
      obtain ⟨u, rfl, ru⟩ := vals1 rv
      have rd : ∃ as, Reads s.heap u p as ∧ (p.hasDict = true → sysModules ∉ as) := by
        rcases hp with ⟨h1, h2⟩ | h1
        · obtain ⟨as, h3⟩ := Dp.reads I p x u (toP_dp S r1 h1) ru
          exact ⟨as, h3, fun z => by rw [h2] at z; cases z⟩
        · obtain ⟨as, h3, h4⟩ := pdE_reads I S d0 x u p r1 ru h1
          exact ⟨as, h3, fun _ => h4⟩
      obtain ⟨as, h1, h2⟩ := rd
      exact repr_any h1 hs h2 hg hu hl hz fun h' t tk hk => ⟨.str p.shown, H, I.kept (t' := tk) hk, ⟨t, rfl⟩, q.here S (.str _)⟩
  · cases e
end
end G

/-! G10: methods of built-in types. -/
namespace G
open PySem L2 PySem.Spec PyProof.Rows

section
variable {X : Cx} {W : WX}
/-- o.m(e, ..), o of the built-in type T -/
def mBM (T : Ty) (g : D → OpN) (mo : ME) (ra : MA) : ME := fun σ st => (mo σ st).bind fun x st1 => if tyD x st1 = some T ∧ (T = .str ∨ T = .lst ∨ T = .dct) then (ra σ st1).bind fun ds st2 => lift (g x ds st2) else .fail
theorem tyV_of {ρ : List Addr} {H : Hp} {st : Store} (S : SR X.K X.mg ρ st H) {d : D} {v : V} {T : Ty} (r : Rep X.K X.mg ρ H d v) (e : tyD d st = some T) (hT : T = .str ∨ T = .lst ∨ T = .dct) : tyV X.K T.nm v H := by
  unfold tyD at e
  split at e
  · cases e; rcases hT with h | h | h <;> cases h
  · cases e; rcases hT with h | h | h <;> cases h
  · cases e; rcases hT with h | h | h <;> cases h
  · cases e; cases r; rfl
  · cases e; rcases hT with h | h | h <;> cases h
  · cases e
    obtain ⟨a, vs, rfl, h, p⟩ := lst_sq (xs := _) S r rfl
    exact .inl ⟨rfl, _, h⟩
  · split at e
    · rename_i xs hs
      cases e
      obtain ⟨a, vs, rfl, _, h, p⟩ := loc_lst S r hs
      exact .inl ⟨rfl, _, .inl (.inl h)⟩
    · rename_i kvs hs
      cases e
      have hd := dctW_of hs
      obtain ⟨a, rfl, hp, hl, hw⟩ := dct_lay S r (dctRW hd)
      rcases hl with ⟨ps, h1, h2⟩ | ⟨ps, h1, h2⟩
      · exact .inr (.inr (.inl ⟨rfl, .inl ⟨_, hw hd _ h1 (.inl ⟨_, rfl⟩)⟩⟩))
      · exact .inr (.inr (.inl ⟨rfl, .inr ⟨_, hw hd _ h1 (.inr ⟨_, rfl⟩)⟩⟩))
    · cases e
  · cases e
variable {o e : Expr} {es : List Expr} {mo : ME} {ra : MA} {name : Str} {apos cpos : Pos} {T : Ty} {id : String} {g : D → OpN}
theorem ge_bm0 (pa : PlainAttrs T.nm) (slot : Slot T.nm name id) (hty : typeOf (.builtin id) = pure (.type "method_descriptor")) (hm : MtR X id (rGM X g)) (ho : GE X W o mo)
    (hbase : attributeBase o name X.env (eval o X.env) = eval o X.env) (hline : (apos.endLine == cpos.line) = true) : GE X W (.Call (.Attribute o name apos) [] [] cpos) (mBM T g mo aNil) :=
  PE.imp (pe_bm0 pa slot hty hm ho hbase hline) fun σ H Q ⟨ρ, st, σd, S, E, P⟩ => tR.bnd S E P fun x H1 dx st1 ρ1 _ _ S1 E1 R1 P1 => by
    split at P1
    · rename_i h
      obtain ⟨d, st', e, q⟩ := Post.lift P1
      exact ⟨tyV_of S1 R1 h.1 h.2, ρ1, st1, dx, [], d, st', S1, R1, .nil, e, q⟩
    · exact P1.elim
theorem ge_bm (pa : PlainAttrs T.nm) (slot : Slot T.nm name id) (hty : typeOf (.builtin id) = pure (.type "method_descriptor")) (hm : MtR X id (rGM X g)) (ho : GE X W o mo) (ha : GA X W (e :: es) ra)
    (hbase : attributeBase o name X.env (eval o X.env) = eval o X.env)
    (hfew : ((backTo cpos (starEach (e :: es) X.env)).all (fun x => !x.1) && (backToKw cpos (keywordEach [] X.env)).all (fun x => x.1.isSome)
      && decide ((e :: es).length + ([] : List Keyword).length + (if ([] : List Keyword).isEmpty then 0 else 1) < 30)) = true)
    (hline : (apos.endLine == cpos.line) = true) (hs : starEach (e :: es) X.env = (false, eval e X.env) :: starEach es X.env) (hplain : (backTo cpos (starEach es X.env)).any (·.1) = false) :
    GE X W (.Call (.Attribute o name apos) (e :: es) [] cpos) (mBM T g mo ra) :=
  PE.imp (pe_bm pa slot hty hm ho ha hbase hfew hline hs hplain) fun σ H Q ⟨ρ, st, σd, S, E, P⟩ => tR.bnd S E P fun x H1 dx st1 ρ1 _ _ S1 E1 R1 P1 => by
    split at P1
    · rename_i h
      refine ⟨tyV_of S1 R1 h.1 h.2, tR.bnd S1 E1 P1 fun xs H2 ds st2 ρ2 _ a2 S2 E2 R2 P2 => ?_⟩
      obtain ⟨d, st', e, q⟩ := P2.lift
      exact ⟨ρ2, st2, dx, ds, d, st', S2, R1.stp S1 a2, R2, e, q⟩
    · exact P1.elim
end

/-! ### lists -/
section
variable {X : Cx} {K : PySem.W.Frag} {mg : Str → Option Value} {ρ : List Addr} {H : Hp} {st : Store} {Q : VK}
/-- a list's place holds others -/
theorem put_lst (S : SR K mg ρ st H) {n : Nat} {a : Addr} {xs ys : List D} {vs ws : List V} {d : D} {v : V} (hp : ρ[n]? = some a) (hn : st[n]? = some (.lst xs)) (h : H a = some (.lst vs)) (r : Reps K mg ρ H ys ws) (rd : Rep K mg ρ H d v)
    (q : Cont K mg (Rep K mg) ρ H d (st.set n (.lst ys)) Q) : Q v (upd H a (.lst ws)) := by
  have stp : Stp ρ H ρ (upd H a (.lst ws)) := by
    refine ⟨⟨[], by simp, by simp⟩, fun x u hx hn' => ?_, fun x hx => ?_⟩
    · rw [upd_ne (fun z => hn' (by rw [z]; exact List.mem_of_getElem? hp))]; exact hx
    · by_cases z : x = a
      · rw [z, upd_same]; simp
      · rw [upd_ne z]; exact hx
  obtain ⟨S', s'⟩ := S.put (o := .lst ws) (c' := .lst ys) hp hn ⟨ws, rfl, Reps.stp S stp r⟩
  exact q _ _ _ s' S' (rd.stp S stp)
def mAppend : D → OpN := fun x ds st => match x, ds with
  | .loc n, [y] => match lstAt st n with
    | some xs => if xs.length < sizeLine then some (.non, st.set n (.lst (xs ++ [y]))) else none
    | none => none
  | _, _ => none
theorem mAppend_ok : MtR X "list.append" (rGM X mAppend) :=
  MtR.imp mt_append fun x xs H Q ⟨ρ, st, dx, ds, d, st', S, r1, r2, e, q⟩ => by
    unfold mAppend at e
    split at e
    · split at e
      · rename_i xs hx
        split at e
        · rename_i hl
          cases e
          obtain ⟨y, rfl, ry⟩ := reps1 r2
          obtain ⟨a, vs, rfl, hp, h, p⟩ := loc_lst S r1 (lstAt_eq hx)
          exact ⟨a, vs, y, rfl, rfl, h, by rw [← p.length]; exact hl, put_lst S hp (lstAt_eq hx) h (p.append (.cons ry .nil)) .non q⟩
        · cases e
      · cases e
    · cases e
/-- xs.extend(t), t a tuple -/
theorem extend_tup (l : Addr) (items : Array Value) (n : Nat) (b : Addr) (items2 : Array Value) (n2 : Nat) (dd : Option Addr) (sl : Array (Option Value)) (hs0 : ¬(!items.isEmpty && Builtin.List.listTooLong (items.size + items2.size)) = true) (hs1 : items.size ≤ sizeLine) (hs2 : items.size + items2.size ≤ sizeLine + 1) :
    Meets (Builtin.«list.extend» ⟨[.ref l, .ref b], []⟩) (fun _ R s => s.heap.get? l = some { cls := .type "list", dict := none, data := .seq items n, slots := #[] } ∧ s.heap.get? b = some { cls := .type "tuple", dict := dd, data := .seq items2 n2, slots := sl } ∧ R (.ok (.ret Value.none)) { s with heap := s.heap.update l (Obj.mapSeq fun x => x ++ items2), toks := s.toks }) :=
  .of_wp fun prog w A R s h => by
    obtain ⟨hp, g, d, tk, os⟩ := s
    obtain ⟨hl, hb, h⟩ := h
    have f2 := sub_tuple_tuple
    have f3 := sub_list_list
    have f4 := sub_tuple_list
    have f5 := sub_list_tuple
    have hz' : (items ++ items2).size ≤ sizeLine + 1 := by rw [Array.size_append]; exact hs2
    wp_walk using (wpAny_updateSeq hl rfl (hz := hs1) (_hz' := hz')), AutoSeq1.wpAny_loadPart' hl, AutoSeq1.wpAny_loadPart' hb
    exact ⟨_, rfl, h⟩
theorem mt_extendT : MtR X "list.extend" (fun x vs H Q => ∃ l b xs zs, x = .ref l ∧ vs = [.ref b] ∧ H l = some (.lst xs) ∧ SqT X.K H b zs ∧ xs.length + zs.length ≤ sizeLine ∧ Q .non (upd H l (.lst (xs ++ zs)))) := by
  intro pins s σ H x vs v us Q I rx rv h
  obtain ⟨l, b, xs, zs, rfl, rfl, hH, hB, hz, q⟩ := h
  cases rx
  obtain ⟨u, rfl, ru⟩ := vals1 rv
  cases ru
  obtain ⟨z, its, n, r, hl, e⟩ := I.lstM hH
  obtain ⟨its2, r2, ⟨⟨cls, dd, data, sl⟩, e2, hc, n2, hd⟩, hz2⟩ := I.tuple hB
  simp only at hc hd
  subst hc hd
  have hl2 : zs.length = its2.length := r2.length
  have hsz : its.toArray.size + its2.toArray.size ≤ sizeLine := by rw [List.size_toArray, List.size_toArray]; omega
  have hlong : ¬ (!its.toArray.isEmpty && Builtin.List.listTooLong (its.toArray.size + its2.toArray.size)) = true := by
    rw [notLongL hsz, Bool.and_false]
    exact Bool.false_ne_true
  refine call_meets F.slot_list_extend ⟨_, e, rfl⟩ F.entry_list_extend (F.args_list_extend_2 _ _)
    (extend_tup l its.toArray n b its2.toArray n2 dd sl hlong (by rw [List.size_toArray]; omega) (by omega)) ⟨e, e2, ?_⟩
  refine ⟨.non, _, I.lset (its' := its ++ its2) hH e (by simp) (r.append r2) ?_, rfl, q⟩
  rw [List.length_append]
  omega
def mExtend : D → OpN := fun x ds st => match x, ds with
  | .loc n, [y] => match lstAt st n with
    | some xs => match (match y with | .tup ys => some ys | .loc m => lstAt st m | _ => none) with
      | some ys => if xs.length + ys.length ≤ sizeLine then some (.non, st.set n (.lst (xs ++ ys))) else none
      | none => none
    | none => none
  | _, _ => none
theorem mExtend_ok : MtR X "list.extend" (rGM X mExtend) :=
  MtR.imp (MtR.or mt_extend mt_extendT) fun x xs H Q ⟨ρ, st, dx, ds, d, st', S, r1, r2, e, q⟩ => by
    unfold mExtend at e
    split at e
    · split at e
      · rename_i xs hx
        split at e
        · rename_i ys hy
          split at e
          · rename_i hl
            cases e
            obtain ⟨y, rfl, ry⟩ := reps1 r2
            obtain ⟨a, vs, rfl, hp, h, p⟩ := loc_lst S r1 (lstAt_eq hx)
            split at hy
            · cases hy
              obtain ⟨b, ws, rfl, h2, p2⟩ := tup_sq ry
              exact .inr ⟨a, b, vs, ws, rfl, rfl, h, h2, by rw [← p.length, ← p2.length]; exact hl, put_lst S hp (lstAt_eq hx) h (p.append p2) .non q⟩
            · obtain ⟨b, ws, rfl, _, h2, p2⟩ := loc_lst S ry (lstAt_eq hy)
              exact .inl ⟨a, b, vs, ws, rfl, rfl, h, h2, by rw [← p.length, ← p2.length]; exact hl, put_lst S hp (lstAt_eq hx) h (p.append p2) .non q⟩
            · cases hy
          · cases e
        · cases e
      · cases e
    · cases e
def mPop : D → OpN := fun x ds st => match x, ds with
  | .loc n, [] => match lstAt st n with
    | some xs => match xs.getLast? with
      | some y => some (y, st.set n (.lst xs.dropLast))
      | none => none
    | none => none
  | .loc n, [.int i] => match lstAt st n with
    | some xs => if -(2 ^ 63) ≤ i ∧ i < 2 ^ 63 then (ixN xs.length i).bind fun k => (xs[k]?).map fun y => (y, st.set n (.lst (xs.eraseIdx k))) else none
    | none => none
  | _, _ => none
theorem mPop_ok : MtR X "list.pop" (rGM X mPop) :=
  MtR.imp (MtR.or mt_pop mt_popAt) fun x xs H Q ⟨ρ, st, dx, ds, d, st', S, r1, r2, e, q⟩ => by
    unfold mPop at e
    split at e
    · split at e
      · rename_i xs hx
        split at e
        · rename_i y hy
          cases e
          cases r2
          obtain ⟨a, vs, rfl, hp, h, p⟩ := loc_lst S r1 (lstAt_eq hx)
          rw [List.getLast?_eq_getElem?] at hy
          obtain ⟨w, h1, h2⟩ := p.get hy
          rw [p.length] at h1
          exact .inl ⟨a, vs, w, rfl, rfl, h, h1, put_lst S hp (lstAt_eq hx) h p.dropLast h2 q⟩
        · cases e
      · cases e
    · split at e
      · rename_i xs hx
        split at e
        · rename_i hi
          cases e1 : ixN xs.length _ with
          | none => rw [e1] at e; cases e
          | some k =>
            rw [e1, Option.bind_some] at e
            cases e2 : xs[k]? with
            | none => rw [e2] at e; cases e
            | some y =>
              rw [e2] at e
              cases e
              obtain ⟨w, rfl, rw'⟩ := reps1 r2
              cases rw'
              obtain ⟨a, vs, rfl, hp, h, p⟩ := loc_lst S r1 (lstAt_eq hx)
              obtain ⟨w, h1, h2⟩ := p.get e2
              rw [p.length] at e1
              exact .inr ⟨a, vs, _, k, w, rfl, rfl, h, hi.1, hi.2, (ixN_seq e1).1, h1, put_lst S hp (lstAt_eq hx) h (p.erase k) h2 q⟩
        · cases e
      · cases e
    · cases e
end

/-! ### dicts -/
section
variable {X : Cx}
def mGet : D → OpN := fun x ds st => match x, ds with
  | .loc n, [k] => match dctW st n with
    | some kvs => if kindOk kvs k then some ((dGet kvs k).getD .non, st) else none
    | none => none
  | .loc n, [k, v] => match dctW st n with
    | some kvs => if kindOk kvs k then some ((dGet kvs k).getD v, st) else none
    | none => none
  | _, _ => none
theorem mGet_ok (hu : X.A.units + 1 < cLine) : MtR X "dict.get" (rGM X mGet) := by
  intro pins s σ H x xs v us Q I rx rxs ⟨ρ, st, dx, ds, d, st', S, r1, r2, e, q⟩
  unfold mGet at e
  split at e
  · split at e
    · rename_i kvs hd
      split at e
      · rename_i hk
        cases e
        obtain ⟨y, rfl, ry⟩ := reps1 r2
        obtain ⟨u, rfl, ru⟩ := vals1 rxs
        obtain ⟨a, H1, o, rfl, I1, a1, S1, g, m⟩ := dct_read I S r1 ry hd hk
        cases rx
        refine d_get1 hu I1 g ru fun w' s3 I3 rw' => ?_
        split at m
        · rename_i em
          subst m
          rw [em] at q
          exact ⟨_, H1, I3, rw', q _ _ _ a1 S1 .non⟩
        · rename_i em
          obtain ⟨w, rfl, rw2⟩ := m
          rw [em] at q
          exact ⟨_, H1, I3, rw', q _ _ _ a1 S1 rw2⟩
      · cases e
    · cases e
  · split at e
    · rename_i kvs hd
      split at e
      · rename_i hk
        cases e
        obtain ⟨y, z, rfl, ry, rz⟩ := reps2 r2
        obtain ⟨u, u2, rfl, ru, ru2⟩ := vals2 rxs
        obtain ⟨a, H1, o, rfl, I1, a1, S1, g, m⟩ := dct_read I S r1 ry hd hk
        cases rx
        refine d_get2 hu I1 g ru ru2 fun w' s3 I3 rw' => ?_
        split at m
        · rename_i em
          subst m
          rw [em] at q
          exact ⟨_, H1, I3, rw', q _ _ _ a1 S1 (rz.stp S a1)⟩
        · rename_i em
          obtain ⟨w, rfl, rw2⟩ := m
          rw [em] at q
          exact ⟨_, H1, I3, rw', q _ _ _ a1 S1 rw2⟩
      · cases e
    · cases e
  · cases e
end

/-! ### texts -/
section
variable {X : Cx}
theorem strs_rep {K : PySem.W.Frag} {mg : Str → Option Value} {ρ : List Addr} {H : Hp} : ∀ ys : List Str, Reps K mg ρ H (ys.map D.str) (ys.map V.str)
  | [] => .nil
  | y :: r => .cons (.str y) (strs_rep r)
def mSplit : D → OpN := fun x ds st => match x, ds with
  | .str a, [.str b] => if (b.length == 0) = false ∧ a.length + 2 ≤ sizeLine then some (.loc st.length, st ++ [.lst ((Txt.split a b).map D.str)]) else none
  | _, _ => none
theorem mSplit_ok : MtR X "str.split" (rGM X mSplit) :=
  MtR.imp mt_split fun x xs H Q ⟨ρ, st, dx, ds, d, st', S, r1, r2, e, q⟩ => by
    unfold mSplit at e
    split at e
    · split at e
      · rename_i h
        cases e
        obtain ⟨y, rfl, ry⟩ := reps1 r2
        cases r1; cases ry
        exact ⟨_, _, rfl, rfl, h.1, h.2, new_lst S (strs_rep _) q⟩
      · cases e
    · cases e
def mStrI (f : Str → Str → Int) : D → OpN := fun x ds st => match x, ds with
  | .str a, [.str b] => some (.int (f a b), st)
  | _, _ => none
theorem mStrI_of {id : String} {f : Str → Str → Int} (h : MtR X id (fun x xs H Q => ∃ a b, x = .str a ∧ xs = [.str b] ∧ Q (.int (f a b)) H)) : MtR X id (rGM X (mStrI f)) :=
  MtR.imp h fun x xs H Q ⟨ρ, st, dx, ds, d, st', S, r1, r2, e, q⟩ => by
    unfold mStrI at e
    split at e
    · cases e
      obtain ⟨y, rfl, ry⟩ := reps1 r2
      cases r1; cases ry
      exact ⟨_, _, rfl, rfl, q.here S (.int _)⟩
    · cases e
def mFind : D → OpN := mStrI fun a b => Txt.find a b
def mCount : D → OpN := mStrI fun a b => Txt.count a b
theorem mFind_ok : MtR X "str.find" (rGM X mFind) := mStrI_of mt_find
theorem mCount_ok : MtR X "str.count" (rGM X mCount) := mStrI_of mt_count
/-- a list or a tuple of texts -/
def strsD : List D → Option (List Str)
  | [] => some []
  | .str b :: r => (strsD r).map (b :: ·)
  | _ :: _ => none
theorem strs_val {K : PySem.W.Frag} {mg : Str → Option Value} {ρ : List Addr} {H : Hp} : ∀ {xs : List D} {vs : List V} {bs : List Str}, Reps K mg ρ H xs vs → strsD xs = some bs → vs = bs.map V.str
  | [], _, _, .nil, e => by cases e; rfl
  | x :: r, _, _, .cons h t, e => by
    cases x with
    | str b =>
      have e2 : (strsD r).map (b :: ·) = some _ := e
      cases e3 : strsD r with
      | none => rw [e3] at e2; cases e2
      | some bs =>
        rw [e3] at e2
        cases e2
        cases h
        rw [strs_val t e3]
        rfl
    | _ => cases e
end
end G

/-! G11: statements, loops. -/
namespace G
open PySem L2 PySem.Spec PyProof.Rows

/-- where a statement leads; an exception in the air has the slots of its moment -/
inductive FL where
  | nx (σ : Sig) | bk (σ : Sig) | ct (σ : Sig) | rt (d : D) | xc (e : Exn) (σ : Sig)
abbrev SS := Sig → Store → R FL
/-- an expression's run within a statement -/
def eb {α : Type} (r : R α) (σ : Sig) (k : α → Store → R FL) : R FL := match r with
  | .ok a st => k a st
  | .exc e st => .ok (.xc e σ) st
  | .fail => .fail
@[simp] theorem eb_ok {α : Type} (a : α) (st : Store) (σ : Sig) (k : α → Store → R FL) : eb (.ok a st) σ k = k a st := rfl
@[simp] theorem eb_fail {α : Type} (σ : Sig) (k : α → Store → R FL) : eb (.fail : R α) σ k = .fail := rfl
@[simp] theorem eb_exc {α : Type} (e : Exn) (st : Store) (σ : Sig) (k : α → Store → R FL) : eb (.exc e st : R α) σ k = .ok (.xc e σ) st := rfl
section
variable (K : PySem.W.Frag) (mg : Str → Option Value) (W : WX)
def SPost (ρ : List Addr) (H : Hp) (r : R FL) (D : Ends) : Prop := match r with
  | .fail => False
  | .exc _ _ => False
  | .ok (.nx σd) st => ∀ σ' H' ρ', Stp ρ H ρ' H' → SR K mg ρ' st H' → EnvR K mg ρ' H' σd σ' → D.nx σ' H'
  | .ok (.bk σd) st => ∀ σ' H' ρ', Stp ρ H ρ' H' → SR K mg ρ' st H' → EnvR K mg ρ' H' σd σ' → D.bk σ' H'
  | .ok (.ct σd) st => ∀ σ' H' ρ', Stp ρ H ρ' H' → SR K mg ρ' st H' → EnvR K mg ρ' H' σd σ' → D.ct σ' H'
  | .ok (.rt d) st => Cont K mg (Rep K mg) ρ H d st D.rt
  | .ok (.xc e σd) st => ∀ σ' cls dd H' ρ', Stp ρ H ρ' H' → SR K mg ρ' st H' → EnvR K mg ρ' H' σd σ' → ExcR K mg ρ' H' e cls dd → W cls dd σ' H'
end
section
variable {K : PySem.W.Frag} {mg : Str → Option Value} {W : WX} {σ : L2.St} {ρ ρ1 : List Addr} {H H1 : Hp} {st st' : Store} {σd : Sig}
theorem SPost.stp {r : R FL} {D : Ends} (h : SPost K mg W ρ H r D) (a : Stp ρ H ρ1 H1) : SPost K mg W ρ1 H1 r D := by
  cases r with
  | fail => exact h
  | exc e s => exact h
  | ok f s => cases f with
    | nx σd => exact fun σ' H' ρ' b c e => h σ' H' ρ' (a.trans b) c e
    | bk σd => exact fun σ' H' ρ' b c e => h σ' H' ρ' (a.trans b) c e
    | ct σd => exact fun σ' H' ρ' b c e => h σ' H' ρ' (a.trans b) c e
    | rt d => exact Cont.stp h a
    | xc e σd => exact fun σ' cls dd H' ρ' b c e x => h σ' cls dd H' ρ' (a.trans b) c e x
theorem SPost.eb {α β : Type} {Rl : List Addr → Hp → α → β → Prop} {r : R α} {k : α → Store → R FL} {D : Ends} (h : SPost K mg W ρ H (G.eb r σd k) D) (S : SR K mg ρ st H) (E : EnvR K mg ρ H σd σ) :
    Post K mg Rl W σ ρ H r fun v H1 => ∃ d st1 ρ1, r = .ok d st1 ∧ Stp ρ H ρ1 H1 ∧ SR K mg ρ1 st1 H1 ∧ Rl ρ1 H1 d v ∧ SPost K mg W ρ1 H1 (k d st1) D := by
  cases r with
  | fail => exact h
  | exc e s => exact fun cls dd H' ρ' a b x => h σ cls dd H' ρ' a b (E.stp S a) x
  | ok d s => exact fun v H1 ρ1 a b c => ⟨d, s, ρ1, rfl, a, b, c, SPost.stp h a⟩
end
section
variable (X : Cx) (W : WX)
def tSS (m : SS) : TS := fun D σ H => ∃ ρ st σd, SR X.K X.mg ρ st H ∧ EnvR X.K X.mg ρ H σd σ ∧ SPost X.K X.mg W ρ H (m σd st) D
abbrev HS (s : Stmt) (m : SS) : Prop := PS X s (tSS X W m)
abbrev HSs (s : List Stmt) (m : SS) : Prop := PSs X s (tSS X W m)
end
section
variable {X : Cx} {W : WX} {a b c e : Expr} {es : List Expr} {pos : Pos} {s : Stmt} {ss tt : List Stmt} {ma mb mc : ME} {mt mu : MT} {m n : SS} {ra : MA}
theorem hs_fail : HS X W s fun _ _ => .fail := ⟨fun _ _ _ _ _ _ h => let ⟨_, _, _, _, _, q⟩ := h; q.elim⟩
theorem hss_fail : HSs X W ss fun _ _ => .fail := ⟨fun _ _ _ _ _ _ h => let ⟨_, _, _, _, _, q⟩ := h; q.elim⟩
theorem tR.eb {α β : Type} {Rl : List Addr → Hp → α → β → Prop} {m : Sig → Store → R α} {k : α → Store → R FL} {σ : L2.St} {H : Hp} {ρ : List Addr} {st : Store} {σd : Sig} {D : Ends} {Q1 : β → Hp → Prop}
    (S : SR X.K X.mg ρ st H) (E : EnvR X.K X.mg ρ H σd σ) (P : SPost X.K X.mg W ρ H (G.eb (m σd st) σd k) D)
    (h : ∀ v H1 d st1 ρ1, m σd st = .ok d st1 → Stp ρ H ρ1 H1 → SR X.K X.mg ρ1 st1 H1 → EnvR X.K X.mg ρ1 H1 σd σ → Rl ρ1 H1 d v → SPost X.K X.mg W ρ1 H1 (k d st1) D → Q1 v H1) :
    tR X W Rl m σ H Q1 := ⟨ρ, st, σd, S, E, (P.eb (Rl := Rl) S E).mono fun v H1 ⟨d, st1, ρ1, e, a, b, c, p⟩ => h v H1 d st1 ρ1 e a b (E.stp S a) c p⟩

/-! ### blocks and small statements -/
def sNx : SS := fun σ st => .ok (.nx σ) st
/-- one after another -/
def sSeq (m n : SS) : SS := fun σ st => match m σ st with
  | .ok (.nx σ1) st1 => n σ1 st1
  | r => r
theorem hss_nil : HSs X W [] sNx := PSs.imp pss_nil fun D σ H ⟨ρ, st, σd, S, E, P⟩ => P σ H ρ Stp.refl S E
theorem tSS.seq {D : Ends} {σ : L2.St} {H : Hp} (h : tSS X W (sSeq m n) D σ H) : tSS X W m { D with nx := tSS X W n D } σ H := by
  obtain ⟨ρ, st, σd, S, E, P⟩ := h
  refine ⟨ρ, st, σd, S, E, ?_⟩
  unfold sSeq at P
  split at P
  · rename_i σ1 st1 e
    rw [e]
    exact fun σ' H' ρ' a b c => ⟨ρ', st1, σ1, b, c, P.stp a⟩
  · rename_i hn
    cases e : m σd st with
    | fail => rw [e] at P; exact P
    | exc x y => rw [e] at P; exact P
    | ok f s1 => cases f with
      | nx σ1 => exact (hn σ1 s1 e).elim
      | bk σ1 => rw [e] at P; exact P
      | ct σ1 => rw [e] at P; exact P
      | rt d => rw [e] at P; exact P
      | xc d σ1 => rw [e] at P; exact P
theorem hss_cons (h1 : HS X W s m) (h2 : HSs X W ss n) : HSs X W (s :: ss) (sSeq m n) := PSs.imp (pss_cons h1 h2) fun _ _ _ h => h.seq
theorem hss_one (h1 : HS X W s m) : HSs X W [s] m := pss_one h1
theorem hs_pass : HS X W (.Pass pos) sNx := PS.imp ps_pass fun D σ H ⟨ρ, st, σd, S, E, P⟩ => P σ H ρ Stp.refl S E
def sBk : SS := fun σ st => .ok (.bk σ) st
def sCt : SS := fun σ st => .ok (.ct σ) st
theorem hs_break : HS X W (.Break pos) sBk := PS.imp ps_break fun D σ H ⟨ρ, st, σd, S, E, P⟩ => P σ H ρ Stp.refl S E
theorem hs_continue : HS X W (.Continue pos) sCt := PS.imp ps_continue fun D σ H ⟨ρ, st, σd, S, E, P⟩ => P σ H ρ Stp.refl S E
def sRet (m : ME) : SS := fun σ st => eb (m σ st) σ fun d st1 => .ok (.rt d) st1
theorem hs_ret (ha : GE X W a ma) : HS X W (.Return (some a) pos) (sRet ma) := PS.imp (ps_ret ha) fun D σ H ⟨ρ, st, σd, S, E, P⟩ => tR.eb S E P fun v H1 d st1 ρ1 _ _ S1 E1 R1 P1 => P1 v H1 ρ1 Stp.refl S1 R1
theorem hs_retN : HS X W (.Return none pos) (sRet (mC .non)) := PS.imp ps_retN fun D σ H ⟨ρ, st, σd, S, E, P⟩ => P .non H ρ Stp.refl S .non
def sExpr (m : ME) : SS := fun σ st => eb (m σ st) σ fun _ st1 => .ok (.nx σ) st1
theorem hs_expr (ha : GE X W a ma) (hs : swapsWith a none pos.line X.env = pure false) : HS X W (.Expr a pos) (sExpr ma) := PS.imp (ps_expr ha hs) fun D σ H ⟨ρ, st, σd, S, E, P⟩ => tR.eb S E P fun v H1 d st1 ρ1 _ _ S1 E1 R1 P1 => P1 σ H1 ρ1 Stp.refl S1 E1
theorem hs_doc {x : Str} {j : Nat} {p q : Pos} : HS X W (.Expr (.Constant (.str x) j p) q) sNx := PS.imp ps_doc fun D σ H ⟨ρ, st, σd, S, E, P⟩ => P σ H ρ Stp.refl S E
def sIf (t : MT) (m n : SS) : SS := fun σ st => eb (t σ st) σ fun k st1 => if k = true then m σ st1 else n σ st1
theorem hs_if (hc : GT X W c mt) (ha : HSs X W ss m) (hb : HSs X W tt n) : HS X W (.If c ss tt pos) (sIf mt m n) := PS.imp (ps_if hc ha hb) fun D σ H ⟨ρ, st, σd, S, E, P⟩ => tR.eb S E P fun v H1 d st1 ρ1 _ _ S1 E1 R1 P1 => by
  cases R1
  cases v with
  | true => exact ⟨ρ1, st1, σd, S1, E1, P1⟩
  | false => exact ⟨ρ1, st1, σd, S1, E1, P1⟩

/-! ### while -/
def whileM (t : MT) (m : SS) : Nat → SS
  | 0 => fun _ _ => .fail
  | k + 1 => fun σ st => eb (t σ st) σ fun b st1 => if b = true then (match m σ st1 with
      | .ok (.nx σ1) st2 => whileM t m k σ1 st2
      | .ok (.ct σ1) st2 => whileM t m k σ1 st2
      | .ok (.bk σ1) st2 => .ok (.nx σ1) st2
      | r => r) else .ok (.nx σ) st1
/-- turns enough for any loop -/
def LF : Nat := 4611686018427387904
def sWhile (t : MT) (m : SS) : SS := whileM t m LF
theorem hs_while (hp : PassesOwn (model X.prog X.w) X.A X.env X.xe) (hc : GT X W c mt) (hb : HSs X W ss m) : HS X W (.While c ss [] pos) (sWhile mt m) := PS.imp (ps_while hp hc hb) fun D σ H h => by
  refine ⟨fun k => tSS X W (whileM mt m k) D, ⟨LF, h⟩, fun k σ H h => ?_⟩
  cases k with
  | zero => obtain ⟨_, _, _, _, _, q⟩ := h; exact q.elim
  | succ k =>
    obtain ⟨ρ, st, σd, S, E, P⟩ := h
    refine tR.eb S E P fun v H1 d st1 ρ1 _ _ S1 E1 R1 P1 => ?_
    cases R1
    cases v with
    | false => exact P1 σ H1 ρ1 Stp.refl S1 E1
    | true =>
      refine ⟨tSS X W (whileM mt m k) D, fun σ' H' q => ⟨k, Nat.lt_succ_self k, q⟩, ρ1, st1, σd, S1, E1, ?_⟩
      have P2 : SPost X.K X.mg W ρ1 H1 (match m σd st1 with
        | .ok (.nx σ1) st2 => whileM mt m k σ1 st2
        | .ok (.ct σ1) st2 => whileM mt m k σ1 st2
        | .ok (.bk σ1) st2 => .ok (.nx σ1) st2
        | r => r) D := P1
      cases e : m σd st1 with
      | fail => rw [e] at P2; exact P2
      | exc x y => rw [e] at P2; exact P2
      | ok f s1 =>
        rw [e] at P2
        cases f with
        | nx σ1 => exact fun σ' H' ρ' a b c => ⟨ρ', s1, σ1, b, c, SPost.stp P2 a⟩
        | bk σ1 => exact P2
        | ct σ1 => exact fun σ' H' ρ' a b c => ⟨ρ', s1, σ1, b, c, SPost.stp P2 a⟩
        | rt d => exact P2
        | xc d σ1 => exact P2
end
end G

/-! G12: what is walked, targets, for, comprehensions. -/
namespace G
open PySem L2 PySem.Spec PyProof.Rows RZ

/-! ### what is walked -/
inductive ItD where
  | seq (xs : List D) | lst (n : Nat) | rng (lo : Int) (n : Nat) | sgn (z : Str) | enm (n : Nat) | zll (m n : Nat) | ztt (xs ys : List D)
/-- at turn i: an item, or the end -/
def itGet (it : ItD) (i : Nat) (st : Store) : Option (Option D) := match it with
  | .seq xs => some xs[i]?
  | .lst n => (lstAt st n).map fun xs => xs[i]?
  | .rng lo n => some (if i < n then some (.int (lo + i)) else none)
  | .sgn z => some ((z.cps[i]?).map fun c => .str ⟨#[c]⟩)
  | .enm n => (lstAt st n).map fun xs => (xs[i]?).map fun d => .tup [.int i, d]
  | .zll m n => match lstAt st m, lstAt st n with
    | some xs, some ys => some (match xs[i]?, ys[i]? with
      | some x, some y => some (.tup [x, y])
      | _, _ => none)
    | _, _ => none
  | .ztt xs ys => some (match xs[i]?, ys[i]? with
      | some x, some y => some (.tup [x, y])
      | _, _ => none)
section
variable (K : PySem.W.Frag) (mg : Str → Option Value)
def ItRep (ρ : List Addr) (H : Hp) : ItD → It → Prop
  | .seq xs, J => (∃ a vs, J = Itt K a ∧ H a = some (.tup vs) ∧ Reps K mg ρ H xs vs) ∨ (∃ a vs, J = Itl K a ∧ RoL K ρ H a vs ∧ Reps K mg ρ H xs vs)
  | .lst n, J => ∃ a, J = Itl K a ∧ ρ[n]? = some a
  | .rng lo n, J => J = Itr lo n
  | .sgn z, J => J = Its z
  | .enm n, J => ∃ a, J = Ite K a ∧ ρ[n]? = some a
  | .zll m n, J => ∃ a b, J = Itz K a b ∧ ρ[m]? = some a ∧ ρ[n]? = some b
  | .ztt xs ys, J => ∃ a b vs ws, J = ItzT K a b ∧ H a = some (.tup vs) ∧ H b = some (.tup ws) ∧ Reps K mg ρ H xs vs ∧ Reps K mg ρ H ys ws
end
section
variable {K : PySem.W.Frag} {mg : Str → Option Value} {ρ ρ' : List Addr} {H H' : Hp} {st : Store}
theorem tup_keep (S : SR K mg ρ st H) (a : Stp ρ H ρ' H') {x : Addr} {vs : List V} (h : H x = some (.tup vs)) : H' x = some (.tup vs) := a.keep _ _ h (S.tupOut (.inl h))
theorem ItRep.stp (S : SR K mg ρ st H) (a : Stp ρ H ρ' H') {it : ItD} {J : It} (h : ItRep K mg ρ H it J) : ItRep K mg ρ' H' it J := by
  cases it with
  | seq xs =>
    rcases h with ⟨x, vs, e, h1, h2⟩ | ⟨x, vs, e, h1, h2⟩
    · exact .inl ⟨x, vs, e, tup_keep S a h1, Reps.stp S a h2⟩
    · exact .inr ⟨x, vs, e, RoL.stp a h1, Reps.stp S a h2⟩
  | lst n => obtain ⟨x, e, h⟩ := h; exact ⟨x, e, a.get h⟩
  | rng lo n => exact h
  | sgn z => exact h
  | enm n => obtain ⟨x, e, h⟩ := h; exact ⟨x, e, a.get h⟩
  | zll m n => obtain ⟨x, y, e, h, h'⟩ := h; exact ⟨x, y, e, a.get h, a.get h'⟩
  | ztt xs ys => obtain ⟨x, y, vs, ws, e, h1, h2, h3, h4⟩ := h; exact ⟨x, y, vs, ws, e, tup_keep S a h1, tup_keep S a h2, Reps.stp S a h3, Reps.stp S a h4⟩
theorem lst_of (S : SR K mg ρ st H) {n : Nat} {a : Addr} {xs : List D} (hp : ρ[n]? = some a) (h : lstAt st n = some xs) : ∃ vs, H a = some (.lst vs) ∧ Reps K mg ρ H xs vs := by
  obtain ⟨b, vs, e, h1, h2, h3⟩ := loc_lst S (.loc hp : Rep K mg ρ H (.loc n) (.ref a)) (lstAt_eq h)
  cases e
  exact ⟨vs, h2, h3⟩
theorem Reps.none_of {xs : List D} {vs : List V} {i : Nat} (r : Reps K mg ρ H xs vs) (e : xs[i]? = none) : vs.length ≤ i := by
  rw [← r.length]
  exact List.getElem?_eq_none_iff.mp e
theorem pair_rep {x y : D} {vx vy : V} {T : Addr} (S : SR K mg ρ st H) (hT : H T = none) (rx : Rep K mg ρ H x vx) (ry : Rep K mg ρ H y vy) :
    Stp ρ H ρ (upd H T (.tup [vx, vy])) ∧ SR K mg ρ st (upd H T (.tup [vx, vy])) ∧ Rep K mg ρ (upd H T (.tup [vx, vy])) (.tup [x, y]) (.ref T) :=
  ⟨stp_new hT, S.add hT, .tup upd_same (.cons (rx.stp S (stp_new hT)) (.cons (ry.stp S (stp_new hT)) .nil))⟩
/-- a turn -/
theorem ItRep.turn (S : SR K mg ρ st H) {it : ItD} {J : It} (h : ItRep K mg ρ H it J) (i : Nat) : match itGet it i st with
    | none => True
    | some none => J.stop i H
    | some (some d) => J.go i H ∧ ∀ x H', J.yld i H x H' → Stp ρ H ρ H' ∧ SR K mg ρ st H' ∧ Rep K mg ρ H' d x := by
  cases it with
  | seq xs =>
    show match some xs[i]? with | none => True | some none => J.stop i H | some (some d) => J.go i H ∧ ∀ x H', J.yld i H x H' → Stp ρ H ρ H' ∧ SR K mg ρ st H' ∧ Rep K mg ρ H' d x
    rcases h with ⟨a, vs, rfl, h1, h2⟩ | ⟨a, vs, rfl, h1, h2⟩
    · cases e : xs[i]? with
      | none => exact ⟨vs, .inl (.inl h1), h2.none_of e⟩
      | some d =>
        obtain ⟨v, hv, rv⟩ := h2.get e
        refine ⟨⟨vs, v, .inl (.inl h1), hv⟩, fun x H' ⟨e1, e2⟩ => ?_⟩
        subst e1
        have := e2 vs (.inl (.inl h1))
        rw [hv] at this; cases this
        exact ⟨Stp.refl, S, rv⟩
    · cases e : xs[i]? with
      | none => exact ⟨vs, h1.sq, h2.none_of e⟩
      | some d =>
        obtain ⟨v, hv, rv⟩ := h2.get e
        refine ⟨⟨vs, v, h1.sq, hv⟩, fun x H' ⟨e1, e2⟩ => ?_⟩
        subst e1
        have := e2 vs h1.sq
        rw [hv] at this; cases this
        exact ⟨Stp.refl, S, rv⟩
  | lst n =>
    obtain ⟨a, rfl, hp⟩ := h
    show match (lstAt st n).map (fun xs => xs[i]?) with | none => True | some none => (Itl K a).stop i H | some (some d) => (Itl K a).go i H ∧ ∀ x H', (Itl K a).yld i H x H' → Stp ρ H ρ H' ∧ SR K mg ρ st H' ∧ Rep K mg ρ H' d x
    cases e0 : lstAt st n with
    | none => trivial
    | some xs =>
      obtain ⟨vs, h1, h2⟩ := lst_of S hp e0
      show match some xs[i]? with | none => True | some none => (Itl K a).stop i H | some (some d) => (Itl K a).go i H ∧ ∀ x H', (Itl K a).yld i H x H' → Stp ρ H ρ H' ∧ SR K mg ρ st H' ∧ Rep K mg ρ H' d x
      cases e : xs[i]? with
      | none => exact ⟨vs, .inl (.inl h1), h2.none_of e⟩
      | some d =>
        obtain ⟨v, hv, rv⟩ := h2.get e
        refine ⟨⟨vs, v, .inl (.inl h1), hv⟩, fun x H' ⟨e1, e2⟩ => ?_⟩
        subst e1
        have := e2 vs (.inl (.inl h1))
        rw [hv] at this; cases this
        exact ⟨Stp.refl, S, rv⟩
  | rng lo n =>
    cases (show J = Itr lo n from h)
    show match some (if i < n then some (D.int (lo + i)) else none) with | none => True | some none => (Itr lo n).stop i H | some (some d) => (Itr lo n).go i H ∧ ∀ x H', (Itr lo n).yld i H x H' → Stp ρ H ρ H' ∧ SR K mg ρ st H' ∧ Rep K mg ρ H' d x
    by_cases hi : i < n
    · rw [if_pos hi]
      refine ⟨hi, fun x H' ⟨e1, e2⟩ => ?_⟩
      subst e1 e2
      exact ⟨Stp.refl, S, .int _⟩
    · rw [if_neg hi]
      exact Nat.le_of_not_lt hi
  | sgn z =>
    cases (show J = Its z from h)
    show match some ((z.cps[i]?).map fun c => D.str ⟨#[c]⟩) with | none => True | some none => (Its z).stop i H | some (some d) => (Its z).go i H ∧ ∀ x H', (Its z).yld i H x H' → Stp ρ H ρ H' ∧ SR K mg ρ st H' ∧ Rep K mg ρ H' d x
    cases e : z.cps[i]? with
    | none => exact Array.getElem?_eq_none_iff.mp e
    | some c =>
      refine ⟨(Array.getElem?_eq_some_iff.mp e).1, fun x H' ⟨e1, c', e2, e3⟩ => ?_⟩
      subst e1 e3
      rw [e] at e2; cases e2
      exact ⟨Stp.refl, S, .str _⟩
  | enm n =>
    obtain ⟨a, rfl, hp⟩ := h
    show match (lstAt st n).map (fun xs => (xs[i]?).map fun d => D.tup [.int i, d]) with | none => True | some none => (Ite K a).stop i H | some (some d) => (Ite K a).go i H ∧ ∀ x H', (Ite K a).yld i H x H' → Stp ρ H ρ H' ∧ SR K mg ρ st H' ∧ Rep K mg ρ H' d x
    cases e0 : lstAt st n with
    | none => trivial
    | some xs =>
      obtain ⟨vs, h1, h2⟩ := lst_of S hp e0
      show match some ((xs[i]?).map fun d => D.tup [.int i, d]) with | none => True | some none => (Ite K a).stop i H | some (some d) => (Ite K a).go i H ∧ ∀ x H', (Ite K a).yld i H x H' → Stp ρ H ρ H' ∧ SR K mg ρ st H' ∧ Rep K mg ρ H' d x
      cases e : xs[i]? with
      | none => exact ⟨vs, .inl (.inl h1), h2.none_of e⟩
      | some d =>
        obtain ⟨v, hv, rv⟩ := h2.get e
        refine ⟨⟨vs, v, .inl (.inl h1), hv⟩, fun x H' ⟨T, y, e1, e2, e3, e4⟩ => ?_⟩
        subst e1 e3
        have := e4 vs (.inl (.inl h1))
        rw [hv] at this; cases this
        exact pair_rep S e2 (.int _) rv
  | zll m n =>
    obtain ⟨a, b, rfl, hp, hq⟩ := h
    cases e0 : lstAt st m with
    | none => simp only [itGet, e0]
    | some xs =>
      cases e1 : lstAt st n with
      | none => simp only [itGet, e0, e1]
      | some ys =>
        obtain ⟨vs, h1, h2⟩ := lst_of S hp e0
        obtain ⟨ws, h3, h4⟩ := lst_of S hq e1
        have g1 : SqL K H a vs := .inl (.inl h1)
        have g2 : SqL K H b ws := .inl (.inl h3)
        simp only [itGet, e0, e1]
        cases ex : xs[i]? with
        | none => exact ⟨vs, ws, g1, g2, .inl (h2.none_of ex)⟩
        | some x =>
          cases ey : ys[i]? with
          | none => exact ⟨vs, ws, g1, g2, .inr (h4.none_of ey)⟩
          | some y =>
            obtain ⟨v, hv, rv⟩ := h2.get ex
            obtain ⟨w, hw, rw'⟩ := h4.get ey
            refine ⟨⟨vs, ws, v, w, g1, g2, hv, hw⟩, fun x H' ⟨T, v', w', e1, e2, e3, e4, e5⟩ => ?_⟩
            subst e1 e3
            have q1 := e4 vs g1
            have q2 := e5 ws g2
            rw [hv] at q1; cases q1
            rw [hw] at q2; cases q2
            exact pair_rep S e2 rv rw'
  | ztt xs ys =>
    obtain ⟨a, b, vs, ws, rfl, h1, h3, h2, h4⟩ := h
    have g1 : SqT K H a vs := .inl (.inl h1)
    have g2 : SqT K H b ws := .inl (.inl h3)
    simp only [itGet]
    cases ex : xs[i]? with
    | none => exact ⟨vs, ws, g1, g2, .inl (h2.none_of ex)⟩
    | some x =>
      cases ey : ys[i]? with
      | none => exact ⟨vs, ws, g1, g2, .inr (h4.none_of ey)⟩
      | some y =>
        obtain ⟨v, hv, rv⟩ := h2.get ex
        obtain ⟨w, hw, rw'⟩ := h4.get ey
        refine ⟨⟨vs, ws, v, w, g1, g2, hv, hw⟩, fun x H' ⟨T, v', w', e1, e2, e3, e4, e5⟩ => ?_⟩
        subst e1 e3
        have q1 := e4 vs g1
        have q2 := e5 ws g2
        rw [hv] at q1; cases q1
        rw [hw] at q2; cases q2
        exact pair_rep S e2 rv rw'
end

/-! ### how a walk begins -/
abbrev MI := Sig → Store → R ItD
section
variable (X : Cx) (W : WX)
abbrev tMI (m : MI) : TI := tR X W (ItRep X.K X.mg) m
abbrev GI (tg e : Expr) (m : MI) : Prop := PI X tg e (tMI X W m)
end
section
variable {X : Cx} {W : WX} {tg e e2 : Expr} {ma mb : ME} {mi : MI} {ra : MA} {p pos tpos : Pos} {elts : List Expr} {kk : Nat}
theorem PI.imp {t t' : TI} (h : PI X tg e t) (i : ∀ σ H Q, t' σ H Q → t σ H Q) : PI X tg e t' := ⟨fun pins s σ H Q I q => h.run pins s σ H Q I (i σ H Q q)⟩
theorem gi_fail : GI X W tg e fun _ _ => .fail := ⟨fun _ _ _ _ _ _ h => h.nofail.elim⟩
/-- a list, a tuple, a text -/
def iterD (d : D) (st : Store) : Option ItD := match d with
  | .tup xs => some (.seq xs)
  | .rol xs => some (.seq xs)
  | .str z => some (.sgn z)
  | .loc n => (lstAt st n).map fun _ => .lst n
  | _ => none
def iAny (m : ME) : MI := fun σ st => (m σ st).bind fun d st1 => match iterD d st1 with
  | some it => .ok it st1
  | none => .fail
theorem gi_any (ha : GE X W e ma) : GI X W tg e (iAny ma) := by
  refine ⟨fun pins s σ H R I ⟨ρ, st, σd, S, E, P⟩ => ?_⟩
  have h0 : tM X W ma σ H fun x H1 => (∃ a, x = .ref a ∧ (∃ xs, SqL X.K H1 a xs) ∧ R (Itl X.K a) H1) ∨ (∃ a, x = .ref a ∧ (∃ xs, SqT X.K H1 a xs) ∧ R (Itt X.K a) H1) ∨ (∃ z, x = .str z ∧ R (Its z) H1) := tR.bnd S E P fun x H1 d st1 ρ1 _ _ S1 E1 R1 P1 => by
    cases d with
    | tup xs =>
      obtain ⟨a, vs, rfl, h, q⟩ := tup_at R1
      exact .inr (.inl ⟨a, rfl, ⟨vs, .inl (.inl h)⟩, P1 _ H1 ρ1 Stp.refl S1 (.inl ⟨a, vs, rfl, h, q⟩)⟩)
    | rol xs =>
      cases R1 with
      | rol h q => exact .inl ⟨_, rfl, ⟨_, h.sq⟩, P1 _ H1 ρ1 Stp.refl S1 (.inr ⟨_, _, rfl, h, q⟩)⟩
    | str z => cases R1; exact .inr (.inr ⟨z, rfl, P1 _ H1 ρ1 Stp.refl S1 rfl⟩)
    | loc n =>
      cases e0 : lstAt st1 n with
      | none => simp only [iterD, e0, Option.map_none] at P1; exact P1.elim
      | some xs =>
        simp only [iterD, e0, Option.map_some] at P1
        obtain ⟨a, vs, rfl, hp, h, q⟩ := loc_lst S1 R1 (lstAt_eq e0)
        exact .inl ⟨a, rfl, ⟨vs, .inl (.inl h)⟩, P1 _ H1 ρ1 Stp.refl S1 ⟨a, rfl, hp⟩⟩
    | _ => exact P1.elim
  refine thn (ha.run pins s σ H _ I h0) fun v s1 ⟨x, H1, I1, r1, q1⟩ => ?_
  rcases q1 with ⟨a, rfl, ⟨xs, hq⟩, q⟩ | ⟨a, rfl, ⟨xs, hq⟩, q⟩ | ⟨z, rfl, q⟩
  · cases r1
    obtain ⟨its, rv, pl, hz⟩ := I1.list hq
    exact wpAny_pyIter_list pl.isList (pi_one (tk := s1.toks) I1 _ (turn_list a _) ⟨_, Heap.get?_push_size _ rfl, rfl, rfl⟩ q)
  · cases r1
    obtain ⟨its, rv, pl, hz⟩ := I1.tuple hq
    exact wpAny_pyIter_tuple (show s1.heap.IsTuple a its.toArray from pl) (pi_one (tk := s1.toks) I1 _ (turn_tuple a _) ⟨_, Heap.get?_push_size _ rfl, rfl, rfl⟩ q)
  · obtain ⟨t, rfl⟩ := r1
    cases ha : z.cps.all (· < 128)
    · exact wpAny_pyIter_wide ha (pi_one (tk := s1.toks) I1 _ (turn_str _ z t "str_iterator" (.inr rfl)) ⟨_, Heap.get?_push_size _ rfl, rfl, rfl⟩ q)
    · exact wpAny_pyIter_ascii ha (pi_one (tk := s1.toks) I1 _ (turn_str _ z t "str_ascii_iterator" (.inl rfl)) ⟨_, Heap.get?_push_size _ rfl, rfl, rfl⟩ q)
/-- range(a), range(a, b) -/
def iRng1 (r : MA) : MI := fun σ st => (r σ st).bind fun ds st1 => match ds with
  | [.int j] => if -(2 ^ 62) ≤ j ∧ j < 2 ^ 62 then .ok (.rng 0 j.toNat) st1 else .fail
  | _ => .fail
def iRng2 (r : MA) : MI := fun σ st => (r σ st).bind fun ds st1 => match ds with
  | [.int i, .int j] => if -(2 ^ 62) ≤ i ∧ i < 2 ^ 62 ∧ -(2 ^ 62) ≤ j ∧ j < 2 ^ 62 then .ok (.rng i (j - i).toNat) st1 else .fail
  | _ => .fail
theorem gi_range1 {a : Expr} (hg : Gl X "range") (hm : X.mg "range" = none) (ha : GA X W [a] ra) (hs : starEach [a] X.env = [(false, eval a X.env)]) : GI X W tg (.Call (.Name "range" p) [a] [] pos) (iRng1 ra) :=
  PI.imp (pi_range1 hg hm ha hs) fun σ H Q ⟨ρ, st, σd, S, E, P⟩ => tR.bnd S E P fun xs H1 ds st1 ρ1 _ _ S1 E1 R1 P1 => by
    split at P1
    · split at P1
      · rename_i hj
        obtain ⟨x, rfl, r⟩ := reps1 R1
        cases r
        exact ⟨_, rfl, hj.1, hj.2, P1 _ H1 ρ1 Stp.refl S1 rfl⟩
      · exact P1.elim
    · exact P1.elim
theorem gi_range2 {a b : Expr} (hg : Gl X "range") (hm : X.mg "range" = none) (ha : GA X W [a, b] ra) (hs : starEach [a, b] X.env = [(false, eval a X.env), (false, eval b X.env)]) (hs2 : starEach [b] X.env = [(false, eval b X.env)]) : GI X W tg (.Call (.Name "range" p) [a, b] [] pos) (iRng2 ra) :=
  PI.imp (pi_range2 hg hm ha hs hs2) fun σ H Q ⟨ρ, st, σd, S, E, P⟩ => tR.bnd S E P fun xs H1 ds st1 ρ1 _ _ S1 E1 R1 P1 => by
    split at P1
    · split at P1
      · rename_i hj
        obtain ⟨x, y, rfl, r, r'⟩ := reps2 R1
        cases r; cases r'
        exact ⟨_, _, rfl, hj, P1 _ H1 ρ1 Stp.refl S1 rfl⟩
      · exact P1.elim
    · exact P1.elim
/-- enumerate(xs), zip(xs, ys) -/
def iEnm (r : MA) : MI := fun σ st => (r σ st).bind fun ds st1 => match ds with
  | [.loc n] => match lstAt st1 n with
    | some _ => .ok (.enm n) st1
    | none => .fail
  | _ => .fail
theorem gi_enum (hg : Gl X "enumerate") (hm : X.mg "enumerate" = none) (ha : GA X W [e] ra) (hs : starEach [e] X.env = [(false, eval e X.env)]) : GI X W (.Tuple elts kk tpos) (.Call (.Name "enumerate" p) [e] [] pos) (iEnm ra) :=
  PI.imp (pi_enum hg hm ha hs) fun σ H Q ⟨ρ, st, σd, S, E, P⟩ => tR.bnd S E P fun xs H1 ds st1 ρ1 _ _ S1 E1 R1 P1 => by
    split at P1
    · split at P1
      · rename_i e0
        obtain ⟨x, rfl, r⟩ := reps1 R1
        obtain ⟨a, vs, rfl, hp, h, q⟩ := loc_lst S1 r (lstAt_eq e0)
        exact ⟨a, vs, rfl, .inl (.inl h), P1 _ H1 ρ1 Stp.refl S1 ⟨a, rfl, hp⟩⟩
      · exact P1.elim
    · exact P1.elim
def iZip (r : MA) : MI := fun σ st => (r σ st).bind fun ds st1 => match ds with
  | [.loc m, .loc n] => match lstAt st1 m, lstAt st1 n with
    | some _, some _ => .ok (.zll m n) st1
    | _, _ => .fail
  | [.tup xs, .tup ys] => .ok (.ztt xs ys) st1
  | _ => .fail
theorem gi_zip (hg : Gl X "zip") (hm : X.mg "zip" = none) (ha : GA X W [e, e2] ra) (hs : starEach [e, e2] X.env = (false, eval e X.env) :: starEach [e2] X.env) (hpl : (backTo pos (starEach [e2] X.env)).any (·.1) = false) : GI X W (.Tuple elts kk tpos) (.Call (.Name "zip" p) [e, e2] [] pos) (iZip ra) :=
  PI.imp (pi_zipA hg hm ha hs hpl) fun σ H Q ⟨ρ, st, σd, S, E, P⟩ => tR.bnd S E P fun xs H1 ds st1 ρ1 _ _ S1 E1 R1 P1 => by
    split at P1
    · split at P1
      · rename_i e0 e1
        obtain ⟨x, y, rfl, r, r'⟩ := reps2 R1
        obtain ⟨a, vs, rfl, hp, h, q⟩ := loc_lst S1 r (lstAt_eq e0)
        obtain ⟨b, ws, rfl, hp', h', q'⟩ := loc_lst S1 r' (lstAt_eq e1)
        exact ⟨a, b, vs, ws, rfl, .inl ⟨.inl (.inl h), .inl (.inl h'), P1 _ H1 ρ1 Stp.refl S1 ⟨a, b, rfl, hp, hp'⟩⟩⟩
      · exact P1.elim
    · obtain ⟨x, y, rfl, r, r'⟩ := reps2 R1
      obtain ⟨a, vs, rfl, h, q⟩ := tup_at r
      obtain ⟨b, ws, rfl, h', q'⟩ := tup_at r'
      exact ⟨a, b, vs, ws, rfl, .inr ⟨.inl (.inl h), .inl (.inl h'), P1 _ H1 ρ1 Stp.refl S1 ⟨a, b, vs, ws, rfl, h, h', q, q'⟩⟩⟩
    · exact P1.elim
end

/-! ### targets -/
section
variable (X : Cx) (W : WX)
def tMG (g : MG) : TG := fun v σ H Q => ∃ ρ st σd d, SR X.K X.mg ρ st H ∧ EnvR X.K X.mg ρ H σd σ ∧ Rep X.K X.mg ρ H d v ∧ Post X.K X.mg (EnvR X.K X.mg) W σ ρ H (g d σd st) Q
abbrev GG (tg : Expr) (g : MG) : Prop := PG X tg (tMG X W g)
abbrev MGs := List D → Sig → Store → R Sig
def tMGs (g : MGs) : TGs := fun vs σ H Q => ∃ ρ st σd ds, SR X.K X.mg ρ st H ∧ EnvR X.K X.mg ρ H σd σ ∧ Reps X.K X.mg ρ H ds vs ∧ Post X.K X.mg (EnvR X.K X.mg) W σ ρ H (g ds σd st) Q
abbrev GGs (ts : List Expr) (g : MGs) : Prop := PGs X ts (tMGs X W g)
end
section
variable {X : Cx} {W : WX} {tg e a b : Expr} {es : List Expr} {pos : Pos} {g : MG} {gs : MGs} {ma mb : ME}
theorem PG.imp {t t' : TG} (h : PG X tg t) (i : ∀ v σ H Q, t' v σ H Q → t v σ H Q) : PG X tg t' := ⟨fun pins s σ H v u Q I r q => h.run pins s σ H v u Q I r (i v σ H Q q)⟩
theorem PGs.imp {t t' : TGs} (h : PGs X es t) (i : ∀ v σ H Q, t' v σ H Q → t v σ H Q) : PGs X es t' := ⟨fun pins s σ H v u Q I r q => h.run pins s σ H v u Q I r (i v σ H Q q)⟩
theorem gg_fail : GG X W tg fun _ _ _ => .fail := ⟨fun _ _ _ _ _ _ _ _ _ ⟨_, _, _, _, _, _, _, q⟩ => q.elim⟩
theorem ggs_fail : GGs X W es fun _ _ _ => .fail := ⟨fun _ _ _ _ _ _ _ _ _ ⟨_, _, _, _, _, _, _, q⟩ => q.elim⟩
theorem EnvR.set {K : PySem.W.Frag} {mg : Str → Option Value} {ρ : List Addr} {H : Hp} {σd : Sig} {σ : L2.St} (E : EnvR K mg ρ H σd σ) (i : Nat) {d : D} {v : V} (r : Rep K mg ρ H d v) : EnvR K mg ρ H (σd.set i (some d)) (σ.set i (some v)) := by
  refine ⟨by simp [E.len], fun j d' h => ?_⟩
  by_cases e : i = j
  · subst e
    have hl : i < σd.length := by
      have := (List.getElem?_eq_some_iff.mp h).1
      simpa using this
    rw [List.getElem?_set_self hl] at h
    cases h
    exact ⟨v, by rw [List.getElem?_set_self (by rw [← E.len]; exact hl)], r⟩
  · rw [List.getElem?_set_ne e] at h
    obtain ⟨w, h1, h2⟩ := E.at' j d' h
    exact ⟨w, by rw [List.getElem?_set_ne e]; exact h1, h2⟩
def gNm (i : Nat) : MG := fun d σ st => .ok (σ.set i (some d)) st
theorem gg_name {i : Nat} (h : PG X tg (gName i)) : GG X W tg (gNm i) := PG.imp h fun v σ H Q ⟨ρ, st, σd, d, S, E, r, P⟩ => P _ H ρ Stp.refl S (E.set i r)
def gNl : MGs := fun ds σ st => match ds with
  | [] => .ok σ st
  | _ => .fail
def gCn (g : MG) (r : MGs) : MGs := fun ds σ st => match ds with
  | d :: ds => (g d σ st).bind fun σ1 st1 => match r ds σ1 st1 with
    | .ok σ2 st2 => .ok σ2 st2
    | _ => .fail
  | [] => .fail
theorem ggs_nil : GGs X W [] gNl := PGs.imp pgs_nil fun vs σ H Q ⟨ρ, st, σd, ds, S, E, r, P⟩ => by
  cases r with
  | nil => exact ⟨rfl, P _ H ρ Stp.refl S E⟩
  | cons _ _ => exact P.elim
theorem ggs_cons (h1 : GG X W e g) (h2 : GGs X W es gs) (hs : (assignEach (e :: es) X.env).map (·.2) = assign e X.env :: (assignEach es X.env).map (·.2)) : GGs X W (e :: es) (gCn g gs) := PGs.imp (pgs_cons h1 h2 hs) fun vs σ H Q ⟨ρ, st, σd, ds, S, E, r, P⟩ => by
  cases r with
  | nil => exact P.elim
  | cons r1 r2 =>
    refine ⟨_, _, rfl, ρ, st, σd, _, S, E, r1, (P.bnd (Rl := EnvR X.K X.mg)).mono fun σ1 H1 ⟨σd1, st1, ρ1, _, a, S1, E1, P1⟩ => ?_⟩
    refine ⟨ρ1, st1, σd1, _, S1, E1, Reps.stp S a r2, ?_⟩
    split at P1
    · rename_i e2
      rw [e2]
      exact P1
    · exact P1.elim
def gTp (n : Nat) (gs : MGs) : MG := fun d σ st => match d with
  | .tup ds => if ds.length = n then gs ds σ st else .fail
  | _ => .fail
theorem gg_tup {n k : Nat} (hc : X.calm = true) (h : GGs X W es gs) (hn : (assignEach es X.env).length = n) (hst : (assignEach es X.env).findIdx? (·.1) = none) : GG X W (.Tuple es k pos) (gTp n gs) := PG.imp (pg_tup hc h hn hst) fun v σ H Q ⟨ρ, st, σd, d, S, E, r, P⟩ => by
  cases d with
  | tup ds =>
    obtain ⟨a, vs, rfl, h, q⟩ := tup_sq r
    have P' : Post X.K X.mg (EnvR X.K X.mg) W σ ρ H (if ds.length = n then gs ds σd st else .fail) Q := P
    split at P'
    · rename_i hl
      exact ⟨a, vs, rfl, h, by rw [← q.length]; exact hl, ρ, st, σd, ds, S, E, q, P'⟩
    · exact P'.elim
  | _ => exact P.elim
end
end G

/-! G13: stores, assignments, for, comprehensions. -/
namespace G
open PySem L2 PySem.Spec PyProof.Rows RZ

/-! ### o[i] = v -/
def setD (x i v : D) (st : Store) : Option Store := match x with
  | .loc n => match lstAt st n with
    | some xs => match i with
      | .int k => (ixN xs.length k).map fun j => st.set n (.lst (xs.set j v))
      | _ => none
    | none => match dctW st n with
      | some kvs => if kindOk kvs i = true ∧ kvs.length < sizeLine then some (st.set n (.dct (dPut kvs i v))) else none
      | none => none
  | _ => none
section
variable {X : Cx} {W : WX}
def tSetG (X : Cx) : TSet := fun o i v H Q => ∃ ρ st dx di dv st', SR X.K X.mg ρ st H ∧ Rep X.K X.mg ρ H dx o ∧ Rep X.K X.mg ρ H di i ∧ Rep X.K X.mg ρ H dv v ∧ setD dx di dv st = some st' ∧ ∀ H' ρ', Stp ρ H ρ' H' → SR X.K X.mg ρ' st' H' → Q H'
theorem setG_ok (hu : X.A.units + 1 < cLine) : PSet X (tSetG X) := by
  intro pins s σ H o i v ov iv u Q I ro ri rv ⟨ρ, st, dx, di, dv, st', S, r1, r2, r3, e, q⟩
  cases dx with
  | loc n =>
    unfold setD at e
    dsimp only at e
    split at e
    · rename_i xs hx
      split at e
      · rename_i k
        cases e1 : ixN xs.length k with
        | none => rw [e1] at e; cases e
        | some j =>
          rw [e1] at e
          cases e
          cases r2
          obtain ⟨a, vs, rfl, hp, h, p⟩ := loc_lst S r1 (lstAt_eq hx)
          refine set_list pins s σ H _ _ v ov iv u Q I ro ri rv ⟨a, vs, k, j, rfl, rfl, h, by rw [← p.length]; exact e1, ?_⟩
          exact put_lst (Q := fun _ H' => Q H') (d := .non) (v := .non) S hp (lstAt_eq hx) h (p.set r3 j) .non fun _ H' ρ' a1 S1 _ => q H' ρ' a1 S1
      · cases e
    · split at e
      · rename_i kvs hd
        split at e
        · rename_i hk
          cases e
          obtain ⟨a, H1, rfl, w, hw⟩ := dct_view I S r1 r2 hd hk.1
          cases ro
          obtain ⟨H2, g, S2, s2⟩ := w.put hw hd hk.2 (r3.stp S w.stp)
          exact d_setItem hu w.inv g ri rv fun s' I' => ⟨H2, I', q H2 ρ (w.stp.trans s2) S2⟩
        · cases e
      · cases e
  | _ => cases e
variable {tg e a b : Expr} {es : List Expr} {pos : Pos} {g : MG} {gs : MGs} {ma mb : ME}
def gSb (mo mi : ME) : MG := fun d σ st => (mo σ st).bind fun x st1 => (mi σ st1).bind fun i st2 => match setD x i d st2 with
  | some st3 => .ok σ st3
  | none => .fail
theorem gg_sub (hu : X.A.units + 1 < cLine) (ha : GE X W a ma) (hb : GE X W b mb) (hs : ∀ v, assign (.Subscript a b pos) X.env v = (do
      let ov ← holding [v] (eval a X.env)
      let iv ← holding [v, ov] (eval b X.env)
      standAt pos
      holding [v, ov, iv] (setItem ov iv v)
      release [v, ov, iv] [])) : GG X W (.Subscript a b pos) (gSb ma mb) := PG.imp (pg_sub ha hb (setG_ok hu) hs) fun v σ H Q ⟨ρ, st, σd, d, S, E, r, P⟩ => by
  refine tR.bnd (Rm := EnvR X.K X.mg) S E P fun x H1 dx st1 ρ1 _ a1 S1 E1 R1 P1 => tR.bnd S1 E1 P1 fun y H2 dy st2 ρ2 _ a2 S2 E2 R2 P2 => ?_
  split at P2
  · rename_i st3 e3
    exact ⟨ρ2, st2, dx, dy, d, st3, S2, R1.stp S1 a2, R2, (r.stp S a1).stp S1 a2, e3, fun H' ρ' a3 S3 => P2 σ H' ρ' a3 S3 (E2.stp S2 a3)⟩
  · exact P2.elim

/-! ### assignments -/
def sAsg (m : ME) (g : MG) : SS := fun σ st => eb (m σ st) σ fun d st1 => eb (g d σ st1) σ fun σ1 st2 => .ok (.nx σ1) st2
theorem hs_asg (he : GE X W e ma) (hg : GG X W tg g) (hs : swapsWithSole [tg] e pos.line X.env = pure false) (hw : swappedStores [tg] e X.env = pure none) (h1 : (assignEach [tg] X.env).map (·.2) = [assign tg X.env]) : HS X W (.Assign [tg] e pos) (sAsg ma g) :=
  PS.imp (ps_asg he hg hs hw h1) fun D σ H ⟨ρ, st, σd, S, E, P⟩ => tR.eb S E P fun v H1 d st1 ρ1 _ _ S1 E1 R1 P1 =>
    ⟨ρ1, st1, σd, d, S1, E1, R1, (P1.eb (Rl := EnvR X.K X.mg) S1 E1).mono fun σ2 H2 ⟨σd2, st2, ρ2, _, _, S2, E2, P2⟩ => P2 σ2 H2 ρ2 Stp.refl S2 E2⟩
/-- a, b = x, y with plain local names -/
def sPar2 (i j : Nat) (r : MA) : SS := fun σ st => eb (r σ st) σ fun ds st1 => match ds with
  | [x, y] => .ok (.nx ((σ.set i (some x)).set j (some y))) st1
  | _ => .fail
/-- a, b, c = x, y, z with plain local names -/
def sPar3 (i j k : Nat) (r : MA) : SS := fun σ st => eb (r σ st) σ fun ds st1 => match ds with
  | [x, y, z] => .ok (.nx (((σ.set i (some x)).set j (some y)).set k (some z))) st1
  | _ => .fail
variable {ra : MA}
theorem reps3 {K : PySem.W.Frag} {mg : Str → Option Value} {ρ : List Addr} {H : Hp} {d e f : D} {xs : List V} (r : Reps K mg ρ H [d, e, f] xs) : ∃ x y z, xs = [x, y, z] ∧ Rep K mg ρ H d x ∧ Rep K mg ρ H e y ∧ Rep K mg ρ H f z := by
  cases r with
  | cons h t =>
    obtain ⟨y, z, rfl, h2, h3⟩ := reps2 t
    exact ⟨_, y, z, rfl, h, h2, h3⟩
theorem hs_par {i j : Nat} {x y : Str} {px py pt : Pos} {kt k2 : Nat} {pt2 : Pos} (hc : X.calm = true) (hN : X.N.Nodup) (hi : X.N[i]? = some x) (hj : X.N[j]? = some y) (hij : i ≠ j)
    (hx : X.env.scope.names.lookup x = some .local) (hy : X.env.scope.names.lookup y = some .local) (ha : GA X W [a, b] ra)
    (hw : swappedStores [.Tuple [.Name x px, .Name y py] kt pt] (.Tuple [a, b] k2 pt2) X.env = pure (some [x, y])) :
    HS X W (.Assign [.Tuple [.Name x px, .Name y py] kt pt] (.Tuple [a, b] k2 pt2) pos) (sPar2 i j ra) :=
  PS.imp (ps_par hc hN hi hj hij hx hy ha hw) fun D σ H ⟨ρ, st, σd, S, E, P⟩ => tR.eb S E P fun vs H1 ds st1 ρ1 _ _ S1 E1 R1 P1 => by
    split at P1
    · obtain ⟨v, w, rfl, r1, r2⟩ := reps2 R1
      exact ⟨v, w, rfl, P1 _ H1 ρ1 Stp.refl S1 ((E1.set _ r1).set _ r2)⟩
    · exact P1.elim
variable {c : Expr}
theorem hs_par3 {i j l : Nat} {x y z : Str} {px py pz pt : Pos} {kt k2 : Nat} {pt2 : Pos} (hc : X.calm = true) (hN : X.N.Nodup) (hi : X.N[i]? = some x) (hj : X.N[j]? = some y) (hl : X.N[l]? = some z) (hij : i ≠ j) (hil : i ≠ l) (hjl : j ≠ l)
    (hx : X.env.scope.names.lookup x = some .local) (hy : X.env.scope.names.lookup y = some .local) (hz : X.env.scope.names.lookup z = some .local) (ha : GA X W [a, b, c] ra)
    (hw : swappedStores [.Tuple [.Name x px, .Name y py, .Name z pz] kt pt] (.Tuple [a, b, c] k2 pt2) X.env = pure (some [x, y, z])) :
    HS X W (.Assign [.Tuple [.Name x px, .Name y py, .Name z pz] kt pt] (.Tuple [a, b, c] k2 pt2) pos) (sPar3 i j l ra) :=
  PS.imp (ps_par3 hc hN hi hj hl hij hil hjl hx hy hz ha hw) fun D σ H ⟨ρ, st, σd, S, E, P⟩ => tR.eb S E P fun vs H1 ds st1 ρ1 _ _ S1 E1 R1 P1 => by
    split at P1
    · obtain ⟨u, v, w, rfl, r1, r2, r3⟩ := reps3 R1
      exact ⟨u, v, w, rfl, P1 _ H1 ρ1 Stp.refl S1 (((E1.set _ r1).set _ r2).set _ r3)⟩
    · exact P1.elim
/-- x += e and the like, x a local -/
def sAug (i : Nat) (f : Op2) (m : ME) : SS := fun σ st => match σ[i]? with
  | some (some x) => eb (m σ st) σ fun y st1 => match f x y st1 with
    | some (z, st2) => .ok (.nx (σ.set i (some z))) st2
    | none => .fail
  | _ => .fail
theorem hs_aug {i : Nat} {x : Str} {op : Operator} {f : Op2} {px : Pos} (hN : X.N.Nodup) (hi : X.N[i]? = some x) (hx : Loc X.env.scope x) (he : GE X W e ma) (ho : OpR X (inplaceOp op) (rG2 X f)) (hf : X.fn x = true ∨ X.env.scope.names.lookup x = some .local) :
    HS X W (.AugAssign (.Name x px) op e pos) (sAug i f ma) :=
  PS.imp (ps_aug (ti := rG2 X f) hN hi hx he (fun pins s σ H x y v u Q I r1 r2 q => ho pins s σ H x y v u Q I r1 r2 q) hf) fun D σ H ⟨ρ, st, σd, S, E, P⟩ => by
    unfold sAug at P
    split at P
    · rename_i d hd
      obtain ⟨v, h1, h2⟩ := E.at' i d hd
      refine ⟨v, h1, tR.eb S E P fun w H1 d2 st1 ρ1 _ a1 S1 E1 R1 P1 => ?_⟩
      split at P1
      · rename_i z st2 e2
        exact ⟨ρ1, st1, d, d2, z, st2, S1, h2.stp S a1, R1, e2, fun v' H' ρ' a2 S2 r2 => P1 _ H' ρ' a2 S2 ((E1.stp S1 a2).set i r2)⟩
      · exact P1.elim
    · exact P.elim

/-! ### for -/
def forM (it : ItD) (g : MG) (b : SS) : Nat → Nat → SS
  | 0, _ => fun _ _ => .fail
  | k + 1, i => fun σ st => match itGet it i st with
    | none => .fail
    | some none => .ok (.nx σ) st
    | some (some d) => eb (g d σ st) σ fun σ1 st1 => match b σ1 st1 with
      | .ok (.nx σ2) st2 => forM it g b k (i + 1) σ2 st2
      | .ok (.ct σ2) st2 => forM it g b k (i + 1) σ2 st2
      | .ok (.bk σ2) st2 => .ok (.nx σ2) st2
      | r => r
def sFor (mi : MI) (g : MG) (b : SS) : SS := fun σ st => eb (mi σ st) σ fun it st1 => forM it g b LF 0 σ st1
variable {mi : MI} {m : SS} {ss : List Stmt}
theorem hs_for (hp : PassesOwn (model X.prog X.w) X.A X.env X.xe) (hc : X.calm = true) (hi : GI X W tg e mi) (hg : GG X W tg g) (hb : HSs X W ss m) (hs : ∀ x, foldedSetIterable e X.env x = pure x) : HS X W (.For tg e ss [] pos) (sFor mi g m) :=
  PS.imp (ps_for hp hc hi hg hb hs) fun D σ H ⟨ρ, st, σd, S, E, P⟩ => tR.eb S E P fun J H1 it st1 ρ1 _ _ S1 E1 R1 P1 => by
    refine ⟨fun i k σ H => ∃ ρ st σd, SR X.K X.mg ρ st H ∧ EnvR X.K X.mg ρ H σd σ ∧ ItRep X.K X.mg ρ H it J ∧ SPost X.K X.mg W ρ H (forM it g m k i σd st) D, ⟨LF, ρ1, st1, σd, S1, E1, R1, P1⟩, ?_⟩
    rintro i k σ H ⟨ρ, st, σd, S, E, T, P⟩
    cases k with
    | zero => exact P.elim
    | succ k =>
      have P' : SPost X.K X.mg W ρ H (match itGet it i st with
        | none => .fail
        | some none => .ok (.nx σd) st
        | some (some d) => eb (g d σd st) σd fun σ1 st1 => match m σ1 st1 with
          | .ok (.nx σ2) st2 => forM it g m k (i + 1) σ2 st2
          | .ok (.ct σ2) st2 => forM it g m k (i + 1) σ2 st2
          | .ok (.bk σ2) st2 => .ok (.nx σ2) st2
          | r => r) D := P
      have tn := T.turn S i
      split at P'
      · exact P'.elim
      · rename_i e0
        rw [e0] at tn
        exact .inl ⟨tn, P' σ H ρ Stp.refl S E⟩
      · rename_i d e0
        rw [e0] at tn
        refine .inr ⟨tn.1, fun σ' H' => ∃ ρ st σd, SR X.K X.mg ρ st H' ∧ EnvR X.K X.mg ρ H' σd σ' ∧ ItRep X.K X.mg ρ H' it J ∧ SPost X.K X.mg W ρ H' (forM it g m k (i + 1) σd st) D, fun σ' H' q => ⟨k, Nat.lt_succ_self k, q⟩, fun x H' y => ?_⟩
        obtain ⟨a1, S1, r1⟩ := tn.2 x H' y
        have E1 := E.stp S a1
        refine ⟨ρ, st, σd, d, S1, E1, r1, ((P'.stp a1).eb (Rl := EnvR X.K X.mg) S1 E1).mono fun σ2 H2 ⟨σd2, st2, ρ2, _, a2, S2, E2, P2⟩ => ?_⟩
        refine ⟨ρ2, st2, σd2, S2, E2, ?_⟩
        have T2 := (T.stp S a1).stp S1 a2
        cases e1 : m σd2 st2 with
        | fail => rw [e1] at P2; exact P2
        | exc x y => rw [e1] at P2; exact P2
        | ok f s1 =>
          rw [e1] at P2
          cases f with
          | nx σ3 => exact fun σ' H' ρ' a b c => ⟨ρ', s1, σ3, b, c, T2.stp S2 a, SPost.stp P2 a⟩
          | bk σ3 => exact P2
          | ct σ3 => exact fun σ' H' ρ' a b c => ⟨ρ', s1, σ3, b, c, T2.stp S2 a, SPost.stp P2 a⟩
          | rt d => exact P2
          | xc d σ3 => exact P2
end
end G

/-! G14: list comprehensions. -/
namespace G
open PySem L2 PySem.Spec PyProof.Rows RZ

/-! ### targets of a comprehension: names, tuples of names -/
inductive Tg1 where
  | nm (i : Nat) | tp (is : List Nat)
def setAll : List Nat → List D → Sig → Option Sig
  | [], [], σ => some σ
  | i :: is, d :: ds, σ => setAll is ds (σ.set i (some d))
  | _, _, _ => none
def bindT (t : Tg1) (d : D) (σ : Sig) : Option Sig := match t with
  | .nm i => some (σ.set i (some d))
  | .tp is => match d with
    | .tup ds => setAll is ds σ
    | _ => none
def tgNs : List Nat → TGs
  | [] => gNil
  | i :: is => gCons (gName i) (tgNs is)
def tgG (K : PySem.W.Frag) : Tg1 → TG
  | .nm i => gName i
  | .tp is => gTup K is.length (tgNs is)
def Tg1.has : Tg1 → List Nat
  | .nm i => [i]
  | .tp is => is
def wipeD (σ : Sig) : List Nat → Sig
  | [] => σ
  | v :: vs => (wipeD σ vs).set v none
section
variable {K : PySem.W.Frag} {mg : Str → Option Value} {ρ ρ' : List Addr} {H H' : Hp} {st : Store} {σ : L2.St} {σd : Sig} {vs : List Nat}
theorem wipeD_length (σ : Sig) : ∀ vs : List Nat, (wipeD σ vs).length = σ.length
  | [] => rfl
  | v :: vs => by unfold wipeD; rw [List.length_set, wipeD_length σ vs]
theorem wipeD_some {i : Nat} {x : D} : ∀ {vs : List Nat}, (wipeD σd vs)[i]? = some (some x) → σd[i]? = some (some x) ∧ i ∉ vs
  | [], h => ⟨h, by simp⟩
  | v :: vs, h => by
    unfold wipeD at h
    by_cases hi : v = i
    · subst hi
      by_cases hv : v < (wipeD σd vs).length
      · rw [List.getElem?_set_self hv] at h; cases h
      · rw [List.getElem?_eq_none (by simpa using hv)] at h; cases h
    · rw [List.getElem?_set_ne hi] at h
      obtain ⟨h1, h2⟩ := wipeD_some h
      exact ⟨h1, by simp only [List.mem_cons, not_or]; exact ⟨fun e => hi e.symm, h2⟩⟩
theorem EnvR.wipe (E : EnvR K mg ρ H σd σ) : EnvR K mg ρ H (wipeD σd vs) (L2.wipe σ vs) :=
  ⟨by rw [wipeD_length, wipe_length]; exact E.len, fun i d h => by
    obtain ⟨h1, h2⟩ := wipeD_some h
    obtain ⟨v, e, r⟩ := E.at' i d h1
    exact ⟨v, by rw [wipe_out h2]; exact e, r⟩⟩
theorem wipe_set {i : Nat} {x : Option V} : ∀ {vs : List Nat} {σ : L2.St}, i ∈ vs → L2.wipe (σ.set i x) vs = L2.wipe σ vs
  | v :: vs, σ, h => by
    unfold L2.wipe
    by_cases e : i ∈ vs
    · rw [wipe_set e]
    · have ei : i = v := by rcases List.mem_cons.mp h with e1 | e1; exact e1; exact absurd e1 e
      subst ei
      apply List.ext_getElem?
      intro j
      by_cases hj : i = j
      · subst hj
        by_cases hl : i < σ.length
        · rw [List.getElem?_set_self (by rw [wipe_length, List.length_set]; exact hl), List.getElem?_set_self (by rw [wipe_length]; exact hl)]
        · rw [List.getElem?_eq_none (by rw [List.length_set, wipe_length, List.length_set]; omega), List.getElem?_eq_none (by rw [List.length_set, wipe_length]; omega)]
      · rw [List.getElem?_set_ne hj, List.getElem?_set_ne hj]
        by_cases hv : j ∈ vs
        · exact wipe_none hv
        · rw [wipe_out hv, wipe_out hv, List.getElem?_set_ne hj]
where
  wipe_none {j : Nat} {x : Option V} {i : Nat} {σ : L2.St} : ∀ {vs : List Nat}, j ∈ vs → (L2.wipe (σ.set i x) vs)[j]? = (L2.wipe σ vs)[j]?
    | v :: vs, h => by
      unfold L2.wipe
      by_cases e : v = j
      · subst e
        by_cases hl : v < σ.length
        · rw [List.getElem?_set_self (by rw [wipe_length, List.length_set]; exact hl), List.getElem?_set_self (by rw [wipe_length]; exact hl)]
        · rw [List.getElem?_eq_none (by rw [List.length_set, wipe_length, List.length_set]; omega), List.getElem?_eq_none (by rw [List.length_set, wipe_length]; omega)]
      · rw [List.getElem?_set_ne e, List.getElem?_set_ne e]
        exact wipe_none (by rcases List.mem_cons.mp h with h1 | h1; exact absurd h1.symm e; exact h1)
theorem wipe_sub : ∀ {us : List Nat}, (∀ v ∈ us, v ∈ vs) → L2.wipe (L2.wipe σ us) vs = L2.wipe σ vs
  | [], _ => rfl
  | u :: us, h => by
    show L2.wipe ((L2.wipe σ us).set u none) vs = _
    rw [wipe_set (h u List.mem_cons_self)]
    exact wipe_sub fun v hv => h v (List.mem_cons_of_mem _ hv)
theorem wipe_wipe (vs : List Nat) : L2.wipe (L2.wipe σ vs) vs = L2.wipe σ vs := wipe_sub fun _ h => h
theorem tgNs_ok {Q : L2.St → Hp → Prop} {w : L2.St} : ∀ {is : List Nat} {ds : List D} {xs : List V} {σd σd' : Sig} {σ : L2.St}, (∀ i ∈ is, i ∈ vs) → EnvR K mg ρ H σd σ → Reps K mg ρ H ds xs → setAll is ds σd = some σd' → L2.wipe σ vs = w → (∀ σ', EnvR K mg ρ H σd' σ' → L2.wipe σ' vs = w → Q σ' H) → tgNs is xs σ H Q
  | [], [], xs, _, _, σ, _, E, r, e, hw, q => by
    cases r; cases e
    exact ⟨rfl, q σ E hw⟩
  | i :: is, d :: ds, xs, _, _, σ, hv, E, r, e, hw, q => by
    cases r with
    | cons r1 r2 => exact ⟨_, _, rfl, tgNs_ok (fun j hj => hv j (List.mem_cons_of_mem _ hj)) (E.set i r1) r2 e (by rw [wipe_set (hv i List.mem_cons_self)]; exact hw) q⟩
  | [], _ :: _, _, _, _, _, _, _, _, e, _, _ => by cases e
  | _ :: _, [], _, _, _, _, _, _, _, e, _, _ => by cases e
theorem setAll_len : ∀ {is : List Nat} {ds : List D} {σ σ' : Sig}, setAll is ds σ = some σ' → ds.length = is.length
  | [], [], _, _, _ => rfl
  | i :: is, d :: ds, _, _, e => congrArg (· + 1) (setAll_len (is := is) e)
  | [], _ :: _, _, _, e => by cases e
  | _ :: _, [], _, _, e => by cases e
theorem tgG_ok {t : Tg1} {d : D} {x : V} {σd' : Sig} {Q : L2.St → Hp → Prop} {w : L2.St} (hv : ∀ i ∈ t.has, i ∈ vs) (E : EnvR K mg ρ H σd σ) (r : Rep K mg ρ H d x) (e : bindT t d σd = some σd') (hw : L2.wipe σ vs = w) (q : ∀ σ', EnvR K mg ρ H σd' σ' → L2.wipe σ' vs = w → Q σ' H) : tgG K t x σ H Q := by
  cases t with
  | nm i => cases e; exact q _ (E.set i r) (by rw [wipe_set (hv i List.mem_cons_self)]; exact hw)
  | tp is =>
    cases d with
    | tup ds =>
      obtain ⟨a, xs, rfl, h, rr⟩ := tup_sq r
      exact ⟨a, xs, rfl, h, by rw [← rr.length]; exact setAll_len e, tgNs_ok hv E rr e hw q⟩
    | _ => cases e
end
def noW : WX := fun _ _ _ _ => False
section
variable (it : ItD) (t : Tg1) (tt : MT) (te : ME) (dn : Nat) (w : Sig)
def lcM : Nat → Nat → Store → Option Store
  | 0, _, _ => none
  | k + 1, i, st => match itGet it i st with
    | none => none
    | some none => some st
    | some (some d) => match bindT t d w with
      | none => none
      | some σ2 => match tt σ2 st with
        | .ok true st3 => match te σ2 st3 with
          | .ok y st4 => match lstAt st4 dn with
            | some acc => if acc.length < sizeLine then lcM k (i + 1) (st4.set dn (.lst (acc ++ [y]))) else none
            | none => none
          | _ => none
        | .ok false st3 => lcM k (i + 1) st3
        | _ => none
end
def mLc (mi : MI) (t : Tg1) (tt : MT) (te : ME) (vs : List Nat) : ME := fun σ st => (mi σ st).bind fun it st1 => match lcM it t tt te st1.length (wipeD σ vs) LF 0 (st1 ++ [.lst []]) with
  | some st2 => .ok (.loc st1.length) st2
  | none => .fail
section
variable {X : Cx} {W : WX} {tg e elt : Expr} {pos : Pos} {ifs : List Expr} {mi : MI} {t : Tg1} {mt : MT} {me : ME} {vs : List Nat}
theorem lc_step {σ : L2.St} {H : Hp} {Q : VK} (hv : ∀ i ∈ t.has, i ∈ vs) (h : tM X W (mLc mi t mt me vs) σ H Q) : tLc (tMI X W mi) (tgG X.K t) (tMT X noW mt) (tM X noW me) vs σ H Q := by
  obtain ⟨ρ, st, σd, S, E, P⟩ := h
  refine tR.bnd S E P fun J H1 it st1 ρ1 _ _ S1 E1 R1 P1 D hD => ?_
  split at P1
  · rename_i st2 e2
    refine ⟨fun i m H => ∃ ρ st, SR X.K X.mg ρ st H ∧ EnvR X.K X.mg ρ H σd σ ∧ ItRep X.K X.mg ρ H it J ∧ ρ[st1.length]? = some D ∧ lcM it t mt me st1.length (wipeD σd vs) m i st = some st2 ∧ ∀ Hf ρf, Stp ρ H ρf Hf → SR X.K X.mg ρf st2 Hf → Q (.ref D) Hf, ⟨LF, ?_⟩, ?_⟩
    · obtain ⟨S2, s2⟩ := S1.new (c := .lst []) (o := .lst []) hD ⟨[], rfl, .nil⟩
      refine ⟨_, _, S2, E1.stp S1 s2, R1.stp S1 s2, by rw [← S1.len]; simp, e2, fun Hf ρf a b => P1 (.ref D) Hf ρf (s2.trans a) b (.loc (a.get (by rw [← S1.len]; simp)))⟩
    · rintro i m H ⟨ρ, st, S, E, T, hp, el, q⟩
      cases m with
      | zero => cases el
      | succ m =>
        unfold lcM at el
        have tn := T.turn S i
        split at el
        · cases el
        · rename_i e0
          rw [e0] at tn
          cases el
          exact .inl ⟨tn, q H ρ Stp.refl S⟩
        · rename_i d e0
          rw [e0] at tn
          refine .inr ⟨tn.1, fun H' => ∃ ρ st, SR X.K X.mg ρ st H' ∧ EnvR X.K X.mg ρ H' σd σ ∧ ItRep X.K X.mg ρ H' it J ∧ ρ[st1.length]? = some D ∧ lcM it t mt me st1.length (wipeD σd vs) m (i + 1) st = some st2 ∧ ∀ Hf ρf, Stp ρ H' ρf Hf → SR X.K X.mg ρf st2 Hf → Q (.ref D) Hf, fun H' z => ⟨m, Nat.lt_succ_self m, z⟩, fun x H' hy => ?_⟩
          obtain ⟨a1, Sx, rx⟩ := tn.2 x H' hy
          have Ex := E.stp S a1
          have Tx := T.stp S a1
          have hpx := a1.get hp
          split at el
          · cases el
          · rename_i σ2 eb
            refine tgG_ok hv (Ex.wipe (vs := vs)) rx eb (wipe_wipe vs) fun σ' E2 hw => ⟨hw, ρ, st, σ2, Sx, E2, ?_⟩
            split at el
            · rename_i st3 et
              rw [et]
              refine fun b H3 ρ3 a3 S3 hb => ?_
              cases hb
              rw [if_pos rfl]
              refine ⟨ρ3, st3, σ2, S3, E2.stp Sx a3, ?_⟩
              split at el
              · rename_i y st4 ey
                rw [ey]
                refine fun u H4 ρ4 a4 S4 ru => ?_
                split at el
                · rename_i acc ea
                  split at el
                  · rename_i hl
                    have hp4 := a4.get (a3.get hpx)
                    obtain ⟨acv, h1, h2⟩ := lst_of S4 hp4 ea
                    refine ⟨acv, h1, by rw [← h2.length]; exact hl, ?_⟩
                    refine put_lst (Q := fun _ H' => ∃ ρ st, SR X.K X.mg ρ st H' ∧ EnvR X.K X.mg ρ H' σd σ ∧ ItRep X.K X.mg ρ H' it J ∧ ρ[st1.length]? = some D ∧ lcM it t mt me st1.length (wipeD σd vs) m (i + 1) st = some st2 ∧ ∀ Hf ρf, Stp ρ H' ρf Hf → SR X.K X.mg ρf st2 Hf → Q (.ref D) Hf) (d := .non) (v := .non) S4 hp4 (lstAt_eq ea) h1 (h2.append (.cons ru .nil)) .non fun _ H' ρ' a5 S5 _ => ?_
                    exact ⟨ρ', _, S5, ((Ex.stp Sx a3).stp S3 a4).stp S4 a5, ((Tx.stp Sx a3).stp S3 a4).stp S4 a5, a5.get hp4, el, fun Hf ρf b c => q Hf ρf ((((a1.trans a3).trans a4).trans a5).trans b) c⟩
                  · cases el
                · cases el
              · cases el
            · rename_i st3 et
              rw [et]
              refine fun b H3 ρ3 a3 S3 hb => ?_
              cases hb
              rw [if_neg (by decide)]
              exact ⟨ρ3, _, S3, Ex.stp Sx a3, Tx.stp Sx a3, a3.get hpx, el, fun Hf ρf b c => q Hf ρf ((a1.trans a3).trans b) c⟩
            · cases el
  · exact P1.elim
/-- a comprehension's parts, whatever its block -/
structure LcOk (X : Cx) (tg elt : Expr) (ifs : List Expr) (scope : Scope) (t : Tg1) (mt : MT) (me : ME) : Prop where
  tg : ∀ (s : Shared) (H : Hp) (C : Addr) (cl : List (Str × Addr)) (fp : List Addr), PG (X.blk s H scope (compEnvC scope cl C X.env) fp) tg (tgG X.K t)
  ifs : ∀ (s : Shared) (H : Hp) (C : Addr) (cl : List (Str × Addr)) (fp : List Addr), PTs (X.blk s H scope (compEnvC scope cl C X.env) fp) ifs (tMT X noW mt)
  elt : ∀ (s : Shared) (H : Hp) (C : Addr) (cl : List (Str × Addr)) (fp : List Addr), GE (X.blk s H scope (compEnvC scope cl C X.env) fp) noW elt me
variable {scope : Scope} {own : List (Str × Nat)} {sp : Pos}
theorem ge_lc (hc : X.calm = true) (hN : X.N.Nodup) (hi : GI X W tg e mi) (ok : BlkOk X.N X.env.scope scope own) (L : LcOk X tg elt ifs scope t mt me) (hv : ∀ i ∈ t.has, i ∈ own.map (·.2)) (hs : ∀ x, foldedSetIterable e X.env x = pure x) :
    GE X W (.ListComp elt [⟨tg, e, ifs, 0⟩] scope pos) (mLc mi t mt me (own.map (·.2))) :=
  PE.imp (pe_lc hc hN hi ok L.tg L.ifs L.elt hs) fun σ H Q h => lc_step hv h
theorem hs_setLc {i : Nat} {y : Str} {py : Pos} (hc : X.calm = true) (hN : X.N.Nodup) (hy : X.N[i]? = some y) (hyl : X.env.scope.names.lookup y = some .local)
    (hsw : swapsWith (.ListComp elt [⟨tg, e, ifs, 0⟩] scope pos) (some (.Name y py)) sp.line X.env = pure true) (hi : GI X W tg e mi) (ok : BlkOk X.N X.env.scope scope own) (L : LcOk X tg elt ifs scope t mt me) (hv : ∀ i ∈ t.has, i ∈ own.map (·.2)) (hs : ∀ x, foldedSetIterable e X.env x = pure x) :
    HS X W (.Assign [.Name y py] (.ListComp elt [⟨tg, e, ifs, 0⟩] scope pos) sp) (sAsg (mLc mi t mt me (own.map (·.2))) (gNm i)) :=
  PS.imp (ps_setLc hc hN hy hyl hsw hi ok L.tg L.ifs L.elt hs) fun D σ H ⟨ρ, st, σd, S, E, P⟩ =>
    lc_step hv (tR.eb S E P fun v H1 d st1 ρ1 _ _ S1 E1 R1 P1 => P1 _ H1 ρ1 Stp.refl S1 (E1.set i R1))
/-- no test -/
def tTrue : MT := fun _ st => .ok true st
theorem pts_nilG : PTs X [] (tMT X W tTrue) := ⟨fun pins s σ H Q I ⟨ρ, st, σd, S, E, P⟩ => pts_nil.run pins s σ H Q I (P true H ρ Stp.refl S rfl)⟩
end
end G

/-! G15: defs and calls, where no container is within its own repr. -/
namespace G
open PySem L2 PySem.Spec PyProof.Rows RZ

section
variable (P : Program) (w : World) (K : PySem.W.Frag) (mg : Str → Option Value) (base : Heap)
/-- a def's promise at callers that have no repr under way -/
structure FnG (k : Nat) (f : Addr) (fd : FuncData) (ps : List Str) (sp : Sp) : Prop where
  many : ∀ vs H Q E, sp vs H Q E → vs.length = ps.length
  goes : ∀ (A : Around) (out : List Env) (s : Shared) (H : Hp) (ar : Args) (us : List Value) (vs : List V) (Q : VK) (E : XK),
    A.guards = some [] → Room k A → Env0 P w K mg base A out s H → BindsTo s fd ar (ps.zip us) → Vals vs us → sp vs H Q E →
      codeAny (model P w) A (.call (.ref f) ar) (CR (L2.CX P w) out P w H s Q E) s
end
section
variable {P : Program} {w : World} {K : PySem.W.Frag} {mg : Str → Option Value} {base : Heap} {k : Nat} {f : Addr}
theorem FnG.weaken {j : Nat} {fd : FuncData} {ps : List Str} {sp : Sp} (F : FnG P w K mg base j f fd ps sp) (h : j ≤ k) : FnG P w K mg base k f fd ps sp :=
  ⟨F.many, fun A out s H ar us vs Q E g r => F.goes A out s H ar us vs Q E g (r.mono h)⟩
/-- a def by its body's reading at the entry -/
theorem fnG_of {nm ql : Str} {pa : Arguments} {bd : List Stmt} {sc : Scope} {dv kv dc pm cv ct ocl : Value} {an odi : Option Addr} {sl : Array (Option Value)} {N ps : List Str} {sp : Sp}
    (look : K.lookup f = some ⟨ocl, odi, .func (PySem.W.fnOf nm ql pa bd sc dv kv dc pm an cv ct), sl⟩) (code : PySem.W.codeIn K cv ql = true) (S : FnScope N ps sc)
    (many : ∀ vs H Q E, sp vs H Q E → vs.length = ps.length)
    (hb : ∀ (A : Around) (out : List Env) (s : Shared) (H : Hp) (vs : List V) (Q : VK) (E : XK), A.guards = some [] → Room k (A.deeper (envOfC ql sc s.heap.objs.size f cv)) → sp vs H Q E →
      ∃ t, PSs (cxOf (L2.CX P w) P w K mg base N ql sc f cv A out s H E) bd t ∧ t { nx := fun _ H1 => Q .non H1, rt := Q } (L2.start N vs) H) :
    FnG P w K mg base (k + 1) f (PySem.W.fnOf nm ql pa bd sc dv kv dc pm an cv ct) ps sp := by
  constructor
  · exact many
  intro A out s H ar us vs Q E g room env0 bnd rel prom
  have count := many _ _ _ _ prom
  have there : K.In s.heap := env0.mod.kin.keeps (fun b o z => And.left (env0.bs b o z))
  have unlim : s.heap.NoLimit := env0.mod.nolimit.keeps (fun b o z => And.left (env0.bs b o z))
  have kinds : ∀ y ∈ ps.zip us, sc.names.lookup y.1 = some .local ∨ (sc.names.lookup y.1 = some .cell ∧ ((cellsFrom (s.heap.objs.size + 1) sc.names []).lookup y.1).isSome = true) := by
    rintro ⟨n, v⟩ hy
    have q := S.par n (List.of_mem_zip hy).1
    cases q with
    | inl q => exact .inl q
    | inr q => exact Or.inr (And.intro q (PySem.W.cellsFrom_some _ _ _ (Or.inl q)))
  apply codeAny_call_function room.depth (there _ _ look) rfl S.co S.gen rfl (PySem.W.codeRec_of there code)
  apply bnd
  apply wpAny_newFunctionEnv_cells S.kind kinds
  intro env he s1 x
  subst he
  constructor
  · exact unlim.keeps x.toInCall.keep
  apply codeAny_func
  obtain ⟨t, ht, hq⟩ := hb A out s H vs Q E g (room.deeper _) prom
  have I := inv_start (CX := L2.CX P w) (E := E) S room.hd env0 count rel x
  have go := ht.run [] s1 (L2.start N vs) H _ I hq
  apply wpAny_mono go
  · intro fl s' hs
    cases fl with
    | brk => exact (hs.elim fun _ z => z.elim fun _ z => z.2.elim)
    | cont => exact (hs.elim fun _ z => z.elim fun _ z => z.2.elim)
    | next =>
      obtain ⟨σ1, H1, J, q⟩ := hs
      exact ⟨.non, H1, J.os, J.bare, J.base, J.hok, rfl, q⟩
    | ret u =>
      obtain ⟨v, σ1, H1, J, rv, q⟩ := hs
      exact ⟨v, H1, J.os, J.bare, J.base, J.hok, rv, q⟩
  · intro e s' hs
    exact hs
end

/-! ### a def as a run -/
def spG (K : PySem.W.Frag) (mg : Str → Option Value) (n : Nat) (F : List D → Store → R D) : Sp := fun vs H Q E => vs.length = n ∧
  ∃ ρ st ds, SR K mg ρ st H ∧ Reps K mg ρ H ds vs ∧ Post K mg (Rep K mg) (fun c d _ H => E c d H) [] ρ H (F ds st) Q
/-- the entry's slots, then the body -/
def startD (n : Nat) (ds : List D) : Sig := ds.map some ++ List.replicate (n - ds.length) none
def runF (n : Nat) (m : SS) : List D → Store → R D := fun ds st => match m (startD n ds) st with
  | .ok (.rt d) st1 => .ok d st1
  | .ok (.nx _) st1 => .ok .non st1
  | .ok (.xc e _) st1 => .exc e st1
  | _ => .fail
theorem start_env {K : PySem.W.Frag} {mg : Str → Option Value} {ρ : List Addr} {H : Hp} {ds : List D} {vs : List V} {N : List Str} (r : Reps K mg ρ H ds vs) : EnvR K mg ρ H (startD N.length ds) (L2.start N vs) := by
  refine ⟨by simp [startD, L2.start, r.length], fun i d h => ?_⟩
  have hl := r.length
  unfold startD at h
  by_cases hi : i < ds.length
  · rw [List.getElem?_append_left (by simpa using hi), List.getElem?_map] at h
    cases e : ds[i]? with
    | none => rw [e] at h; cases h
    | some d' =>
      rw [e] at h
      cases h
      obtain ⟨v, hv, rv⟩ := r.get e
      refine ⟨v, ?_, rv⟩
      unfold L2.start
      rw [List.getElem?_append_left (by simp; omega), List.getElem?_map, hv]
      rfl
  · rw [List.getElem?_append_right (by simpa using hi), List.getElem?_replicate] at h
    split at h <;> cases h
section
variable {P : Program} {w : World} {K : PySem.W.Frag} {mg : Str → Option Value} {base : Heap} {k : Nat} {f : Addr}
theorem fnG_run {nm ql : Str} {pa : Arguments} {bd : List Stmt} {sc : Scope} {dv kv dc pm cv ct ocl : Value} {an odi : Option Addr} {sl : Array (Option Value)} {N ps : List Str} {m : SS}
    (look : K.lookup f = some ⟨ocl, odi, .func (PySem.W.fnOf nm ql pa bd sc dv kv dc pm an cv ct), sl⟩) (code : PySem.W.codeIn K cv ql = true) (S : FnScope N ps sc)
    (hb : ∀ (A : Around) (out : List Env) (s : Shared) (H : Hp) (E : XK), A.guards = some [] → Room k (A.deeper (envOfC ql sc s.heap.objs.size f cv)) →
      HSs (cxOf (L2.CX P w) P w K mg base N ql sc f cv A out s H E) (fun c d _ H => E c d H) bd m) :
    FnG P w K mg base (k + 1) f (PySem.W.fnOf nm ql pa bd sc dv kv dc pm an cv ct) ps (spG K mg ps.length (runF N.length m)) := by
  refine fnG_of look code S (fun _ _ _ _ h => h.1) fun A out s H vs Q E g room ⟨hl, ρ, st, ds, SS0, RR, P0⟩ => ⟨_, hb A out s H E g room, ρ, st, startD N.length ds, SS0, start_env RR, ?_⟩
  show SPost K mg (fun c d _ H => E c d H) ρ H (m (startD N.length ds) st) { nx := fun _ H1 => Q .non H1, rt := Q }
  unfold runF at P0
  cases e : m (startD N.length ds) st with
  | fail => rw [e] at P0; exact P0
  | exc x y => rw [e] at P0; exact P0.elim
  | ok fl s1 =>
    rw [e] at P0
    cases fl with
    | rt d => exact P0
    | nx σ1 => exact fun σ' H' ρ' a b c => P0 .non H' ρ' a b .non
    | xc x σ1 => exact fun σ' cls dd H' ρ' a b c z => P0 cls dd H' ρ' a b z
    | bk σ1 => exact P0.elim
    | ct σ1 => exact P0.elim
end

/-! ### calls -/
/-- how the written values come to the parameters: perm tells for each parameter which one -/
def pick {α : Type} (perm : List Nat) (l : List α) : List α := perm.filterMap fun i => l[i]?
def BindP (K : PySem.W.Frag) (fd : FuncData) (ps : List Str) (n : Nat) (ks : List Str) (perm : List Nat) : Prop :=
  ∀ (s : Shared) (us ws : List Value), K.In s.heap → us.length = n → ws.length = ks.length → BindsTo s fd ⟨us, ks.zip ws⟩ (ps.zip (pick perm (us ++ ws)))
theorem pick_vals : ∀ {perm : List Nat} {vs : List V} {us : List Value}, Vals vs us → Vals (pick perm vs) (pick perm us)
  | [], _, _, _ => .nil
  | i :: r, vs, us, h => by
    have ih := pick_vals (perm := r) h
    unfold pick at ih ⊢
    rw [List.filterMap_cons, List.filterMap_cons]
    cases e : vs[i]? with
    | none =>
      have e2 : us[i]? = none := by
        rw [List.getElem?_eq_none_iff] at e ⊢
        rw [← h.length]; exact e
      rw [e2]
      exact ih
    | some v =>
      obtain ⟨u, hu, rv⟩ := h.get e
      rw [hu]
      exact .cons rv ih
theorem pick_reps {K : PySem.W.Frag} {mg : Str → Option Value} {ρ : List Addr} {H : Hp} : ∀ {perm : List Nat} {ds : List D} {vs : List V}, Reps K mg ρ H ds vs → Reps K mg ρ H (pick perm ds) (pick perm vs)
  | [], _, _, _ => .nil
  | i :: r, ds, vs, h => by
    have ih := pick_reps (perm := r) h
    unfold pick at ih ⊢
    rw [List.filterMap_cons, List.filterMap_cons]
    cases e : ds[i]? with
    | none =>
      have e2 : vs[i]? = none := by
        rw [List.getElem?_eq_none_iff] at e ⊢
        rw [← h.length]; exact e
      rw [e2]
      exact ih
    | some d =>
      obtain ⟨v, hv, rv⟩ := h.get e
      rw [hv]
      exact .cons rv ih
/-- a call's run: the written arguments a, b, the callee F -/
def mCall (n q : Nat) (perm : List Nat) (F : List D → Store → R D) (ra rb : MA) : ME := fun σ st => (ra σ st).bind fun ds st1 => (rb σ st1).bind fun es st2 =>
  if ds.length = n ∧ es.length = q ∧ (pick perm (ds ++ es)).length = perm.length then F (pick perm (ds ++ es)) st2 else .fail
section
variable {X : Cx} {W : WX} {k : Nat} {f : Addr} {fd : FuncData} {ps ks : List Str} {perm : List Nat} {n q : Nat} {x : Str} {p pos : Pos} {e : Expr} {es : List Expr} {kws : List Keyword} {ra rb : MA} {F : List D → Store → R D}
theorem Post.noσ {α β : Type} {K : PySem.W.Frag} {mg : Str → Option Value} {Rl : List Addr → Hp → α → β → Prop} {σ : L2.St} {ρ : List Addr} {H : Hp} {r : R α} {Q : β → Hp → Prop} (h : Post K mg Rl W σ ρ H r Q) : Post K mg Rl (fun c d _ H => WE W σ c d H) [] ρ H r Q := by
  cases r with
  | fail => exact h
  | ok d s => exact h
  | exc e s => exact h
/-- the call itself, its values known -/
theorem runG_fn {pins : List (Addr × Obj)} {σ : L2.St} {H : Hp} {s : Shared} {Q : VK} {us ws : List Value} {vs zs : List V} {ρ : List Addr} {st : Store} {ds es : List D} (G : FnG X.prog X.w X.K X.mg X.base k f fd ps (spG X.K X.mg ps.length F)) (hg : X.A.guards = some []) (hr : Room k X.A) (hb : BindP X.K fd ps n ks perm) (hp : perm.length = ps.length) (tk : Takes X W)
    (I : Inv X pins σ H s) (r : Vals vs us) (rz : Vals zs ws) (hn : us.length = n) (hk : ws.length = ks.length) (S : SR X.K X.mg ρ st H) (R1 : Reps X.K X.mg ρ H ds vs) (R2 : Reps X.K X.mg ρ H es zs)
    (hl : (pick perm (ds ++ es)).length = perm.length) (h : Post X.K X.mg (Rep X.K X.mg) W σ ρ H (F (pick perm (ds ++ es)) st) Q) : wpAny (model X.prog X.w) X.A (call (.ref f) us (ks.zip ws)) (EP X pins σ Q) X.xe s := by
  have R3 : Reps X.K X.mg ρ H (pick perm (ds ++ es)) (pick perm (vs ++ zs)) := pick_reps (R1.append R2)
  have prom : spG X.K X.mg ps.length F (pick perm (vs ++ zs)) H Q (WE W σ) := ⟨by rw [← R3.length, hl, hp], ρ, st, _, S, R3, h.noσ⟩
  apply wpAny_call
  refine codeAny_mono (G.goes X.A X.stack s H ⟨us, ks.zip ws⟩ _ _ Q (WE W σ) hg hr I.env0 (hb s us ws I.kIn hn hk) (pick_vals (r.append rz)) prom) fun z s' hq => ?_
  rcases z with e | fl
  · exact passAt tk σ pins H s e s' I hq
  · cases fl <;> first
      | exact I.after hq
      | exact False.elim hq
theorem mCall_post {σ : L2.St} {H : Hp} {Q : VK} (h : tM X W (mCall n q perm F ra rb) σ H Q) : tMA X W ra σ H fun vs H1 => tMA X W rb σ H1 fun zs H2 => vs.length = n ∧ zs.length = q ∧ ∃ ρ st ds es, SR X.K X.mg ρ st H2 ∧ Reps X.K X.mg ρ H2 ds vs ∧ Reps X.K X.mg ρ H2 es zs ∧ (pick perm (ds ++ es)).length = perm.length ∧ Post X.K X.mg (Rep X.K X.mg) W σ ρ H2 (F (pick perm (ds ++ es)) st) Q := by
  obtain ⟨ρ, st, σd, S, E, P⟩ := h
  refine tR.bnd S E P fun vs H1 ds st1 ρ1 _ _ S1 E1 R1 P1 => tR.bnd S1 E1 P1 fun zs H2 es st2 ρ2 _ a2 S2 E2 R2 P2 => ?_
  split at P2
  · rename_i hc
    exact ⟨by rw [← R1.length]; exact hc.1, by rw [← R2.length]; exact hc.2.1, ρ2, st2, ds, es, S2, Reps.stp S1 a2 R1, R2, hc.2.2, P2⟩
  · exact P2.elim
/-- f(e, .., k = v, ..) -/
theorem ge_call (G : FnG X.prog X.w X.K X.mg X.base k f fd ps (spG X.K X.mg ps.length F)) (hg : X.A.guards = some []) (hr : Room k X.A) (hb : BindP X.K fd ps n ks perm) (hp : perm.length = ps.length) (tk : Takes X W)
    (hx : Gl X x) (hm : X.mg x = some (.ref f)) (hkp : PySem.W.keepIn X.K (.ref f) = true) (ha : GA X W (e :: es) ra) (hkw : PK X kws (tMA X W rb))
    (hall : (backToKw pos (keywordEach kws X.env)).all (·.1.isSome) = true) (hks : (backToKw pos (keywordEach kws X.env)).filterMap (·.1) = ks) (hkl : ks.length = q)
    (hdb : (x == ("__debug__" : Str)) = false) (he : starEach (e :: es) X.env = (false, eval e X.env) :: starEach es X.env)
    (hpl : ((backTo pos (starEach (e :: es) X.env)).any (·.1) || (backToKw pos (keywordEach kws X.env)).any (·.1.isNone)) = false) :
    GE X W (.Call (.Name x p) (e :: es) kws pos) (mCall n q perm F ra rb) := by
  refine ⟨fun pins s σ H Q I h => ?_⟩
  refine wpAny_Call_Name_kw (ld_glob I hx hm ?_ hdb)
  refine PySem.W.callWith_KW (h₀ := X.base) I.ok.mod.kin hkp hall (thn (ha.run pos pins s σ H _ I (mCall_post h)) fun us s1 ⟨vs, H1, I1, r, q⟩ => ?_) hpl he
  refine thn (hkw.run pos pins s1 σ H1 _ I1 q) fun ws s2 ⟨zs, H2, I2, rz, hn, hq, ρ, st, ds, es', S, R1, R2, hl, q2⟩ => ⟨I2.kIn, ?_⟩
  rw [hks]
  exact runG_fn G hg hr hb hp tk I2 r rz (r.length.symm.trans hn) (rz.length.symm.trans (hq.trans hkl.symm)) S R1 R2 hl q2
/-- f(k = v, ..) -/
theorem ge_callK (G : FnG X.prog X.w X.K X.mg X.base k f fd ps (spG X.K X.mg ps.length F)) (hg : X.A.guards = some []) (hr : Room k X.A) (hb : BindP X.K fd ps 0 ks perm) (hp : perm.length = ps.length) (tk : Takes X W)
    (hx : Gl X x) (hm : X.mg x = some (.ref f)) (hkp : PySem.W.keepIn X.K (.ref f) = true) (hkw : PK X kws (tMA X W rb))
    (hall : (backToKw pos (keywordEach kws X.env)).all (·.1.isSome) = true) (hks : (backToKw pos (keywordEach kws X.env)).filterMap (·.1) = ks) (hkl : ks.length = q)
    (hdb : (x == ("__debug__" : Str)) = false) 
    (hpl : ((backTo pos (starEach [] X.env)).any (·.1) || (backToKw pos (keywordEach kws X.env)).any (·.1.isNone)) = false) :
    GE X W (.Call (.Name x p) [] kws pos) (mCall 0 q perm F aNil rb) := by
  refine ⟨fun pins s σ H Q I h => ?_⟩
  obtain ⟨ρ0, st0, σd0, S0, E0, P0⟩ := mCall_post h
  have q := P0 [] H ρ0 Stp.refl S0 .nil
  refine wpAny_Call_Name_kw (ld_glob I hx hm ?_ hdb)
  refine PySem.W.callWith_KW0 (h₀ := X.base) I.ok.mod.kin hkp hall (thn (hkw.run pos pins s σ H _ I q) fun ws s2 ⟨zs, H2, I2, rz, hn, hq, ρ, st, ds, es', S, R1, R2, hl, q2⟩ => ⟨I2.kIn, ?_⟩) hpl
  rw [hks]
  exact runG_fn G hg hr hb hp tk I2 .nil rz rfl (rz.length.symm.trans (hq.trans hkl.symm)) S R1 R2 hl q2
/-- f(e, ..) with values by place alone -/
def mCallP (n : Nat) (F : List D → Store → R D) (ra : MA) : ME := fun σ st => (ra σ st).bind fun ds st1 => if ds.length = n then F ds st1 else .fail
theorem ge_callP (G : FnG X.prog X.w X.K X.mg X.base k f fd ps (spG X.K X.mg ps.length F)) (hg : X.A.guards = some []) (hr : Room k X.A) (hb : Binds X.K fd ps []) (tk : Takes X W)
    (hx : Gl X x) (hm : X.mg x = some (.ref f)) (hkp : PySem.W.keepIn X.K (.ref f) = true) (ha : GA X W (e :: es) ra)
    (hdb : (x == ("__debug__" : Str)) = false) (he : starEach (e :: es) X.env = (false, eval e X.env) :: starEach es X.env) (hpl : (backTo pos (starEach es X.env)).any (·.1) = false) :
    GE X W (.Call (.Name x p) (e :: es) [] pos) (mCallP ps.length F ra) := by
  refine ⟨fun pins s σ H Q I ⟨ρ, st, σd, S, E, P⟩ => ?_⟩
  refine wpAny_Call_Name_kw (ld_glob I hx hm ?_ hdb)
  have h : tMA X W ra σ H fun vs H1 => vs.length = ps.length ∧ spG X.K X.mg ps.length F vs H1 Q (WE W σ) := tR.bnd S E P fun vs H1 ds st1 ρ1 _ _ S1 E1 R1 P1 => by
    split at P1
    · rename_i hl
      have hl' : vs.length = ps.length := R1.length.symm.trans hl
      exact ⟨hl', hl', ρ1, st1, ds, S1, R1, P1.noσ⟩
    · exact P1.elim
  refine PySem.W.callWith_K (h₀ := X.base) I.ok.mod.kin hkp (thn (ha.run pos pins s σ H _ I h) fun us s1 ⟨vs, H1, I1, r, hl, q⟩ => ⟨I1.kIn, ?_⟩) he hpl
  apply wpAny_call
  have hu : us.length = ps.length := r.length.symm.trans hl
  have b := hb s1 us I1.kIn (by rw [List.append_nil]; exact hu)
  rw [List.append_nil] at b
  refine codeAny_mono (G.goes X.A X.stack s1 H1 ⟨us, []⟩ us vs Q (WE W σ) hg hr I1.env0 b r q) fun z s' hq => ?_
  rcases z with e | fl
  · exact passAt tk σ pins H1 s1 e s' I1 hq
  · cases fl <;> first
      | exact I1.after hq
      | exact False.elim hq
theorem ge_callP0 (G : FnG X.prog X.w X.K X.mg X.base k f fd [] (spG X.K X.mg 0 F)) (hg : X.A.guards = some []) (hr : Room k X.A) (hb : Binds X.K fd [] []) (tk : Takes X W)
    (hx : Gl X x) (hm : X.mg x = some (.ref f)) (hkp : PySem.W.keepIn X.K (.ref f) = true) (hdb : (x == ("__debug__" : Str)) = false) :
    GE X W (.Call (.Name x p) [] [] pos) (mCallP 0 F aNil) := by
  refine ⟨fun pins s σ H Q I ⟨ρ, st, σd, S, E, P⟩ => ?_⟩
  refine wpAny_Call_Name_kw (ld_glob I hx hm ?_ hdb)
  refine PySem.W.callWith_K0 I.kIn hkp ?_
  apply wpAny_call
  refine codeAny_mono (G.goes X.A X.stack s H ⟨[], []⟩ [] [] Q (WE W σ) hg hr I.env0 (hb s [] I.kIn rfl) .nil ⟨rfl, ρ, st, [], S, .nil, P.noσ⟩) fun z s' hq => ?_
  rcases z with e | fl
  · exact passAt tk σ pins H s e s' I hq
  · cases fl <;> first
      | exact I.after hq
      | exact False.elim hq
/-- keywords' values -/
theorem gk_nil : PK X [] (tMA X W aNil) := ⟨fun pos pins s σ H Q I ⟨ρ, st, σd, S, E, P⟩ => pk_nil.run pos pins s σ H Q I (P [] H ρ Stp.refl S .nil)⟩
theorem PK.imp {t t' : TA} (h : PK X kws t) (i : ∀ σ H Q, t' σ H Q → t σ H Q) : PK X kws t' := ⟨fun p pins s σ H Q I q => h.run p pins s σ H Q I (i σ H Q q)⟩
theorem gk_cons {nm : Option Str} {ma : ME} {kp : Pos} (ha : GE X W e ma) (hr : PK X kws (tMA X W ra)) : PK X (⟨nm, e, kp⟩ :: kws) (tMA X W (aCons ma ra)) :=
  PK.imp (pk_cons ha hr) fun σ H Q ⟨ρ, st, σd, S, E, P⟩ => tR.bnd S E P fun x H1 dx st1 ρ1 _ _ S1 E1 R1 P1 => tR.bnd S1 E1 P1 fun xs H2 ds st2 ρ2 _ a2 S2 E2 R2 P2 => P2 _ H2 ρ2 Stp.refl S2 (.cons (R1.stp S1 a2) R2)
end
end G

/-! G16: the law's own call. -/
namespace G
open PySem L2 PySem.Spec PyProof.Rows RZ

section
variable {P : Program} {w : World} {K : PySem.W.Frag} {mg mb : Str → Option Value} {k : Nat} {fa a : Addr} {x : Str} {s : Shared} {vs : List Value} {ns : List Int} {F : List D → Store → R D}
/-- where at most the script is tracked -/
structure OnlyAt (K : PySem.W.Frag) (h : Heap) (H : Hp) (a : Addr) (o : Obj) (xs : List V) : Prop where
  at' : ∀ b u, H b = some u → b = a ∧ u = .frz o (.lst xs)
  out : H a ≠ none → K.lookup a = none
  ob : h.get? a = some o
  cl : ∀ es n, o.data ≠ .dict es n
theorem OnlyAt.notTracked {h : Heap} {H : Hp} {o ob : Obj} {xs : List V} (T : OnlyAt K h H a o xs) {b : Addr} (e : h.get? b = some ob) {es : Array DictEntry} {n : Nat} (d : ob.data = .dict es n) : H b = none := by
  rcases q : H b with _ | u
  · rfl
  · obtain ⟨rfl, -⟩ := T.at' b u q
    have := T.ob
    rw [e] at this
    cases this
    exact absurd d (T.cl es n)
theorem OnlyAt.nsp {h : Heap} {H : Hp} {o : Obj} {xs : List V} (T : OnlyAt K h H a o xs) {b : Addr} {m : Str → Option Value} (z : h.Ns b m) : (hidT h H).Ns b m := by
  obtain ⟨ob, es, ep, e, d, r⟩ := z
  exact ⟨ob, es, ep, hidT_get e (T.notTracked e d), d, r⟩
theorem OnlyAt.kin {h : Heap} {H : Hp} {o : Obj} {xs : List V} (T : OnlyAt K h H a o xs) (X : K.In h) : K.In (hidT h H) := by
  intro b ob e
  refine hidT_get (X b ob e) ?_
  rcases q : H b with _ | u
  · rfl
  · obtain ⟨rfl, -⟩ := T.at' b u q
    rw [T.out (by rw [q]; simp)] at e
    cases e
/-- the call, from such a heap -/
theorem lawG_at {H : Hp} {o : Obj} (X : K.In s.heap) (nm : s.heap.Ns mainGlobals mg) (nb : s.heap.Ns builtinsNs mb) (bb : ∀ x : Str, x ≠ "__name__" → mb x = bootBuiltins x) (lim : s.heap.NoLimit) (gens : s.gens = #[]) (room : Room k callerA)
    (T : OnlyAt K s.heap H a o (ns.map V.int)) (S : SqL K H a (ns.map V.int)) (ok : HOk P w H s.heap)
    (G : ∀ base : Heap, K.In base → base.Ns mainGlobals mg → ∃ fd, FnG P w K mg base k fa fd [x] (spG K mg 1 F) ∧ Binds K fd [x] [])
    (run : ∃ st, F [.rol (ns.map D.int)] [] = .ok (.bl true) st) :
    codeAny (model P w) callerA (.call (.ref fa) ⟨[.ref a], []⟩) (fun r s1 => r = .ok (.ret (.bool true)) ∧ OldK s.heap s1.heap ∧ s1.os = s.os ∧ AllBare s1.gens) s := by
  obtain ⟨st, run⟩ := run
  have kin := T.kin X
  have md : L2.Mod K mg (hidT s.heap H) := by
    refine ⟨kin, T.nsp nm, ⟨mb, T.nsp nb, bb⟩, ?_⟩
    obtain ⟨mc, h1, h2⟩ := lim
    exact ⟨mc, T.nsp h1, h2⟩
  have env0 : Env0 P w K mg (hidT s.heap H) callerA [] s H := by
    constructor
    · rfl
    · exact md
    · exact fun b o e => of_hidT e
    · exact Nat.le_of_eq (hidT_size _ _)
    · trivial
    · exact fun b hb => (nomatch hb)
    · exact ok
    · exact .of_eq gens
  have rol : Rep K mg [] H (.rol (ns.map D.int)) (.ref a) := by
    have ri : ∀ l : List Int, Reps K mg [] H (l.map D.int) (l.map V.int) := fun l => by
      induction l with
      | nil => exact .nil
      | cons z r ih => exact .cons (.int z) ih
    refine .rol (vs := ns.map V.int) ?_ (ri ns)
    rcases S with h | h
    · exact .inl ⟨h, by simp⟩
    · exact .inr (.inr h)
  have sr : SR K mg [] [] H := ⟨rfl, List.nodup_nil, fun n c h => by simp at h⟩
  have prom : spG K mg 1 F [.ref a] H (fun v _ => v = .bl true) (fun _ _ _ => False) := by
    refine ⟨rfl, [], [], [.rol (ns.map D.int)], sr, .cons rol .nil, ?_⟩
    rw [run]
    intro v H1 ρ1 _ _ r
    cases r
    rfl
  obtain ⟨fd, G, B⟩ := G _ kin (T.nsp nm)
  have go := G.goes callerA [] s H ⟨[.ref a], []⟩ [.ref a] [.ref a] _ _ rfl room env0 (B s [.ref a] X rfl) (.cons rfl .nil) prom
  refine codeAny_mono go fun r s1 h => ?_
  rcases r with e | fl
  · obtain ⟨_, _, _, _, _, _, _, _, _, _, _, _, z⟩ := h
    exact z.elim
  · cases fl with
    | ret u =>
      obtain ⟨v, H1, os, bare, un, ok1, rv, q⟩ := h
      cases (show v = V.bl true from q)
      cases (show u = Value.bool true from rv)
      refine ⟨rfl, OldK.of_keep fun b o e => ?_, os, bare⟩
      rcases q : H b with _ | u
      · exact un.keep b o e q (fun z => (nomatch z)) (fun z => (nomatch z))
      · obtain ⟨rfl, rfl⟩ := T.at' b u q
        have z := un.frzs b _ _ q
        have e1 := (ok b _ q).1
        have e2 := (ok1 b _ z).1
        rw [e] at e1
        cases e1
        exact e2
    | next => exact False.elim h
    | brk => exact False.elim h
    | cont => exact False.elim h
theorem lawG (X : K.In s.heap) (nm : s.heap.Ns mainGlobals mg) (nb : s.heap.Ns builtinsNs mb) (bb : ∀ x : Str, x ≠ "__name__" → mb x = bootBuiltins x) (lim : s.heap.NoLimit) (gens : s.gens = #[]) (room : Room k callerA)
    (ha : s.heap.get? a = some { cls := .type "list", data := .seq vs.toArray }) (hi : IntsAre vs ns) (hl : ns.length ≤ sizeLine)
    (G : ∀ base : Heap, K.In base → base.Ns mainGlobals mg → ∃ fd, FnG P w K mg base k fa fd [x] (spG K mg 1 F) ∧ Binds K fd [x] [])
    (run : ∃ st, F [.rol (ns.map D.int)] [] = .ok (.bl true) st) :
    codeAny (model P w) callerA (.call (.ref fa) ⟨[.ref a], []⟩) (fun r s1 => r = .ok (.ret (.bool true)) ∧ OldK s.heap s1.heap ∧ s1.os = s.os ∧ AllBare s1.gens) s := by
  have vals := vals_ints hi
  have len := hi.length
  have nd : ∀ (es : Array DictEntry) (n : Nat), Data.seq vs.toArray 0 ≠ Data.dict es n := fun _ _ z => by cases z
  cases hk : K.lookup a with
  | some o =>
    have e := X a o hk
    rw [ha] at e
    cases e
    refine lawG_at (H := fun _ => none) X nm nb bb lim gens room ⟨fun b u z => (nomatch z), fun z => absurd rfl z, ha, fun es n z => by cases z⟩ ?_ (fun b u z => (nomatch z)) G run
    refine Or.inr ⟨_, vs.toArray, _, hk, rfl, rfl, rfl, ?_, ?_⟩
    · rw [List.size_toArray, len]; exact hl
    · simpa using vals
  | none =>
    have Ha : ∀ b u, (if b = a then some (HO.frz { cls := .type "list", data := .seq vs.toArray } (.lst (ns.map V.int))) else none) = some u → b = a ∧ u = .frz { cls := .type "list", data := .seq vs.toArray } (.lst (ns.map V.int)) := fun b u z => by
      split at z
      · rename_i hb
        cases z
        exact ⟨hb, rfl⟩
      · cases z
    refine lawG_at (H := fun b => if b = a then some (.frz { cls := .type "list", data := .seq vs.toArray } (.lst (ns.map V.int))) else none) X nm nb bb lim gens room ⟨Ha, fun _ => hk, ha, fun es n z => by cases z⟩ ?_ ?_ G run
    · exact Or.inl (Or.inr ⟨_, if_pos rfl⟩)
    · intro b u z
      obtain ⟨rfl, rfl⟩ := Ha b u z
      exact ⟨ha, by rw [List.length_map]; exact hl, vs, _, vals, ha⟩
end
/-- the goal that the head of a claim leaves, from the run of the law at every script -/
theorem walkG {l : PySem.W.OpenLaw} {n k : Nat} {q : Program} {loose : List Str} {XP : (Str → Option Value) → Heap → Prop} {YP : World → Heap → Prop} {d : DefRec} {K : Params → PySem.W.Frag} {x : Str} {F : List D → Store → R D}
    (hn : l.most = some n) (hn2 : n ≤ sizeLine) (hdf : d.params.defaults = []) (hr : Room k callerA) (hY : ∀ (w : World) (h : Heap), YP w h → (K w.params).In h)
    (hF : ∀ (w : World) (mg : Str → Option Value) (fa : Addr) (h : Heap), (K w.params).In h → h.Ns mainGlobals mg → mg d.name = some (.ref fa) →
      ∀ base : Heap, (K w.params).In base → base.Ns mainGlobals mg → ∃ fd, FnG l.prog w (K w.params) mg base k fa fd [x] (spG (K w.params) mg 1 F) ∧ Binds (K w.params) fd [x] [])
    (run : ∀ ns : List Int, ns.length ≤ n → (∀ z ∈ ns, Builtin.Int.intBits z ≤ 1048576) → ∃ st, F [.rol (ns.map D.int)] [] = .ok (.bl true) st) :
    PySem.W.WalkO q loose XP YP l.row.toRowW d [] (fun f vs => PySem.call f vs) := by
  refine Att.attach_callB hn hdf fun w s0 s1 mg mb fa o pm cd doc a vs ns G Y ho hd hcd hmg hobj hints hlen hbits hg => ?_
  have KX := hY w _ Y
  exact lawG KX G.T.g G.T.b G.T.builtins G.T.nolimit hg hr hobj hints (Nat.le_trans hlen hn2) (hF w mg fa _ KX G.T.g hmg) (run ns hlen hbits)
end G

/-! G17: what the rules ask of the text alone, as tests. -/
namespace G
open PySem L2 PySem.Spec PyProof.Rows RZ

/-! ### empty dicts, negation -/
section
variable {X : Cx} {W : WX} {pos : Pos} {a : Expr} {ma : ME}
def mDict0 : ME := fun _ st => .ok (.loc st.length) (st ++ [.dct []])
theorem ge_dict0 : GE X W (.Dict [] [] pos) mDict0 := PE.imp pe_dnewK fun σ H Q ⟨ρ, st, σd, S, E, P⟩ p hp => by
  obtain ⟨S1, s1⟩ := S.new (c := .dct []) (o := .dK []) hp (.inl ⟨[], rfl, .nil⟩)
  exact P _ _ _ s1 S1 (.loc (by rw [← S.len]; simp))
def opNeg : Op1 := fun x st => match x with
  | .int i => some (.int (-i), st)
  | _ => none
theorem opNeg_ok : UnR X (unaryOp .USub) (rG1 X opNeg) := UnR.imp un_neg fun x H Q ⟨ρ, st, dx, d, st', S, r, e, q⟩ => by
  cases dx with
  | int i => cases r; cases e; exact ⟨i, rfl, q.here S (.int _)⟩
  | _ => cases e
end

/-! ### argument lists without stars -/
def plainE : Expr → Bool
  | .Starred _ _ => false
  | _ => true
theorem star_cons {e : Expr} {es : List Expr} {env : Env} (h : plainE e = true) : starEach (e :: es) env = (false, eval e env) :: starEach es env := by
  cases e <;> first | rfl | cases h
theorem back_any (pos : Pos) (l : List (Bool × Sem Value)) : (backTo pos l).any (·.1) = l.any (·.1) := by
  unfold backTo
  rw [List.any_map]
  rfl
theorem star_any {env : Env} : ∀ {es : List Expr}, es.all plainE = true → (starEach es env).any (·.1) = false
  | [], _ => rfl
  | e :: es, h => by
    rw [List.all_cons, Bool.and_eq_true] at h
    rw [star_cons h.1, List.any_cons]
    exact star_any h.2
theorem star_back {env : Env} {pos : Pos} {es : List Expr} (h : es.all plainE = true) : (backTo pos (starEach es env)).any (·.1) = false := by
  rw [back_any]
  exact star_any h
theorem star_len {env : Env} : ∀ {es : List Expr}, (starEach es env).length = es.length
  | [] => rfl
  | e :: es => by
    cases e <;> (show _ + 1 = _ + 1; rw [star_len])
theorem star_few {env : Env} {pos : Pos} {e : Expr} {es : List Expr} (h : (e :: es).all plainE = true) (hl : es.length < 29) :
    ((backTo pos (starEach (e :: es) env)).all (fun x => !x.1) && (backToKw pos (keywordEach [] env)).all (fun x => x.1.isSome)
      && decide ((e :: es).length + ([] : List Keyword).length + (if ([] : List Keyword).isEmpty then 0 else 1) < 30)) = true := by
  have h1 := star_back (env := env) (pos := pos) h
  have h2 : (backTo pos (starEach (e :: es) env)).all (fun x => !x.1) = true := by
    rw [← List.not_any_eq_all_not, h1]
    rfl
  rw [h2]
  have h3 : (e :: es).length + ([] : List Keyword).length + (if ([] : List Keyword).isEmpty then 0 else 1) < 30 := by
    show es.length + 1 + 0 + 0 < 30
    omega
  rw [decide_eq_true h3]
  rfl

/-! ### keywords -/
def kwNames : List Keyword → Option (List Str)
  | [] => some []
  | ⟨some n, _, _⟩ :: r => (kwNames r).map (n :: ·)
  | ⟨none, _, _⟩ :: _ => none
theorem kw_facts {env : Env} {pos : Pos} : ∀ {kws : List Keyword} {ks : List Str}, kwNames kws = some ks →
    (backToKw pos (keywordEach kws env)).all (·.1.isSome) = true ∧ (backToKw pos (keywordEach kws env)).filterMap (·.1) = ks ∧ (backToKw pos (keywordEach kws env)).any (·.1.isNone) = false
  | [], _, h => by cases h; exact ⟨rfl, rfl, rfl⟩
  | ⟨some n, v, p⟩ :: r, ks, h => by
    cases e : kwNames r with
    | none => simp [kwNames, e] at h
    | some l =>
      simp [kwNames, e] at h
      obtain ⟨h1, h2, h3⟩ := kw_facts (env := env) (pos := pos) e
      subst h
      exact ⟨h1, congrArg (n :: ·) h2, h3⟩
  | ⟨none, _, _⟩ :: _, _, h => by cases h

/-! ### tests -/
/-- neither and, or, not, a comparison, nor an if -/
def plainT : Expr → Bool
  | .UnaryOp .Not _ _ => false
  | .BoolOp _ _ _ => false
  | .IfExp _ _ _ _ => false
  | .Compare _ _ _ _ => false
  | _ => true
theorem isTrue_plain {e : Expr} {env : Env} (h : plainT e = true) : ∀ whole, isTrue e env whole = (do let v ← whole; standAt e.pos; holding [v] (truthy v)) := by
  intro whole
  cases e with
  | UnaryOp op a p => cases op <;> first | rfl | cases h
  | BoolOp _ _ _ => cases h
  | IfExp _ _ _ _ => cases h
  | Compare _ _ _ _ => cases h
  | _ => rfl

/-! ### subscripts, what is walked -/
def plainIx : Expr → Bool
  | .Slice _ _ _ _ => false
  | _ => true
theorem plainIx_ok {b : Expr} (h : plainIx b = true) : PlainIx b := by
  intro o i
  cases b <;> first | rfl | cases h
def noSet : Expr → Bool
  | .Set _ _ _ => false
  | _ => true
theorem noSet_ok {e : Expr} {env : Env} (h : noSet e = true) : ∀ x, foldedSetIterable e env x = pure x := by
  intro x
  cases e <;> first | rfl | cases h
def noCall0 : Expr → Bool
  | .Call _ [] [] _ => false
  | _ => true
theorem attr_base {o : Expr} {n : Str} {env : Env} (h : noCall0 o = true) : attributeBase o n env (eval o env) = eval o env := by
  cases o with
  | Call f as ks p =>
    cases as with
    | nil =>
      cases ks with
      | nil => cases h
      | cons k r => cases f <;> rfl
    | cons a r => cases f <;> rfl
  | _ => rfl

/-! ### comprehensions at the right of a store -/
def noComp : Expr → Bool
  | .ListComp _ _ _ _ => false
  | .SetComp _ _ _ _ => false
  | .DictComp _ _ _ _ _ => false
  | _ => true
theorem swaps_no {e : Expr} {t : Option Expr} {l : Nat} {env : Env} (h : noComp e = true) : swapsWith e t l env = pure false := by
  cases e <;> first | rfl | cases h
def notName : Expr → Bool
  | .Name _ _ => false
  | _ => true
theorem swaps_notName {e t : Expr} {l : Nat} {env : Env} (h : notName t = true) : swapsWith e (some t) l env = pure false := by
  cases e <;> cases t <;> first | rfl | cases h

/-! ### several stores at once -/
/-- a target that is a local name on this line -/
def parName (sc : Scope) (line : Nat) : Expr → Option Str
  | .Name x p => if sc.names.lookup x == some .local && p.line == line then some x else none
  | _ => none
/-- what a parallel store does: nothing special (some none), or its names are swapped -/
def parOf (sc : Scope) (ts vs : List Expr) : Option (Option (List Str)) :=
  if !(ts.length == 2 || ts.length == 3) || vs.length != ts.length then some none
  else if vs.any (fun e => !plainE e) then some none
  else
    let ns := ts.filterMap (parName sc ((ts.head?.map (·.pos.line)).getD 0))
    if ns.length != ts.length || ns.eraseDups.length != ns.length then some none
    else if vs.all (foldedForSure 8) then some none
    else if vs.all (constantsAlone 8) then none
    else some (some ns)
def swapOf (sc : Scope) (t e : Expr) : Option (Option (List Str)) := match t, e with
  | .Tuple ts _ _, .Tuple vs _ _ => parOf sc ts vs
  | .List _ _, _ => none
  | _, _ => some none
theorem any_star (vs : List Expr) : (vs.any fun | .Starred .. => true | _ => false) = vs.any (fun e => !plainE e) := by
  congr 1
  funext e
  cases e <;> rfl
theorem par_names {env : Env} {l : Nat} (ts : List Expr) : (ts.filterMap fun
    | .Name id pos => if env.kindOf id == some .local && pos.line == l then some id else none
    | _ => none) = ts.filterMap (parName env.scope l) := by
  congr 1
theorem swapOf_ok {env : Env} {t e : Expr} {r : Option (List Str)} (hb : env.scope.kind = .function) (h : swapOf env.scope t e = some r) : swappedStores [t] e env = pure r := by
  have hk : (env.blockKind != .function) = false := by
    unfold Env.blockKind
    rw [hb]
    rfl
  cases t with
  | Tuple ts k p =>
    cases e with
    | Tuple vs k2 p2 =>
      have h : parOf env.scope ts vs = some r := h
      have n1 := any_star vs
      have n2 := par_names (env := env) (l := (ts.head?.map (·.pos.line)).getD 0) ts
      generalize hA : (vs.any fun | .Starred .. => true | _ => false) = A at n1
      generalize hB : (ts.filterMap fun
        | .Name id pos => if env.kindOf id == some .local && pos.line == (ts.head?.map (·.pos.line)).getD 0 then some id else none
        | _ => none) = B at n2
      subst n1 n2
      unfold parOf at h
      unfold swappedStores
      simp only [hk, Bool.or_false]
      split at h
      · rename_i c
        cases h
        exact if_pos c
      · rename_i c
        refine (if_neg c).trans ?_
        split at h
        · rename_i c2
          cases h
          exact if_pos (hA.trans c2)
        · rename_i c2
          refine (if_neg (c := (vs.any fun | .Starred .. => true | _ => false) = true) (by rw [hA]; exact c2)).trans ?_
          replace h : (if ((ts.filterMap (parName env.scope ((ts.head?.map (·.pos.line)).getD 0))).length != ts.length || (ts.filterMap (parName env.scope ((ts.head?.map (·.pos.line)).getD 0))).eraseDups.length != (ts.filterMap (parName env.scope ((ts.head?.map (·.pos.line)).getD 0))).length) = true then some none
            else if vs.all (foldedForSure 8) = true then some none
            else if vs.all (constantsAlone 8) = true then none else some (some (ts.filterMap (parName env.scope ((ts.head?.map (·.pos.line)).getD 0))))) = some r := h
          rw [← hB] at h
          split at h
          · rename_i c3
            cases h
            exact if_pos c3
          · rename_i c3
            refine (if_neg c3).trans ?_
            split at h
            · rename_i c4
              cases h
              exact if_pos c4
            · rename_i c4
              refine (if_neg c4).trans ?_
              split at h
              · cases h
              · rename_i c5
                cases h
                exact if_neg c5
    | _ => cases h; rfl
  | List _ _ => cases h
  | _ => cases h; rfl
end G

/-! G18: the reader: text to runs, and that it is sound. -/
namespace G
open PySem L2 PySem.Spec PyProof.Rows RZ

/-! ### options -/
def ap1 {α β : Type} (f : α → β) (a : Option α) : Option β := match a with
  | some a => some (f a)
  | none => none
def ap2 {α β γ : Type} (f : α → β → γ) (a : Option α) (b : Option β) : Option γ := match a with
  | some a => match b with
    | some b => some (f a b)
    | none => none
  | none => none
def ap3 {α β γ δ : Type} (f : α → β → γ → δ) (a : Option α) (b : Option β) (c : Option γ) : Option δ := match a with
  | some a => match b with
    | some b => match c with
      | some c => some (f a b c)
      | none => none
    | none => none
  | none => none
def gd {α : Type} (b : Bool) (a : Option α) : Option α := match b with
  | true => a
  | false => none
theorem ap1_eq {α β : Type} {f : α → β} {a : Option α} {m : β} (h : ap1 f a = some m) : ∃ x, a = some x ∧ m = f x := by
  cases a with
  | none => cases h
  | some x => cases h; exact ⟨x, rfl, rfl⟩
theorem ap2_eq {α β γ : Type} {f : α → β → γ} {a : Option α} {b : Option β} {m : γ} (h : ap2 f a b = some m) : ∃ x y, a = some x ∧ b = some y ∧ m = f x y := by
  cases a with
  | none => cases h
  | some x => cases b with
    | none => cases h
    | some y => cases h; exact ⟨x, y, rfl, rfl, rfl⟩
theorem ap3_eq {α β γ δ : Type} {f : α → β → γ → δ} {a : Option α} {b : Option β} {c : Option γ} {m : δ} (h : ap3 f a b c = some m) : ∃ x y z, a = some x ∧ b = some y ∧ c = some z ∧ m = f x y z := by
  cases a with
  | none => cases h
  | some x => cases b with
    | none => cases h
    | some y => cases c with
      | none => cases h
      | some z => cases h; exact ⟨x, y, z, rfl, rfl, rfl, rfl⟩
theorem gd_eq {α : Type} {b : Bool} {a : Option α} {m : α} (h : gd b a = some m) : b = true ∧ a = some m := by
  cases b with
  | true => exact ⟨rfl, h⟩
  | false => cases h

/-! ### what the reader knows -/
structure FnE where
  ps : List Str
  pats : List (Nat × List Str × List Nat)
structure Ctx where
  N : List Str
  sc : Scope
  cells : Option Scope
  k : Nat
  blt : List Str
  fns : List (Str × FnE)
  call : Str → List D → Store → R D
structure Known (X : Cx) (c : Ctx) (x : Str) (fe : FnE) : Prop where
  ex : ∃ f fd, FnG X.prog X.w X.K X.mg X.base c.k f fd fe.ps (spG X.K X.mg fe.ps.length (c.call x)) ∧ X.mg x = some (.ref f) ∧ PySem.W.keepIn X.K (.ref f) = true ∧ Binds X.K fd fe.ps [] ∧
    ∀ n ks perm, (n, ks, perm) ∈ fe.pats → perm.length = fe.ps.length ∧ BindP X.K fd fe.ps n ks perm
structure Tk (X : Cx) (W : WX) (c : Ctx) : Prop where
  calm : X.calm = true
  N : X.N = c.N
  nd : c.N.Nodup
  sc : X.env.scope = c.sc
  kind : c.sc.kind = .function
  guards : X.A.guards = some []
  room : Room c.k X.A
  takes : Takes X W
  fn : match c.cells with
    | none => ∀ x, X.fn x = true
    | some s => ∀ x, X.fn x = (s.names.lookup x == some .cell)
  own : c.cells = none → PassesOwn (model X.prog X.w) X.A X.env X.xe
  blt : ∀ x, c.blt.contains x = true → X.mg x = none
  fns : ∀ x fe, c.fns.lookup x = some fe → Known X c x fe
def slotOf : List Str → Str → Option Nat
  | [], _ => none
  | y :: r, x => if y = x then some 0 else ap1 (· + 1) (slotOf r x)
theorem slotOf_ok : ∀ {N : List Str} {x : Str} {i : Nat}, slotOf N x = some i → N[i]? = some x
  | y :: r, x, i, h => by
    unfold slotOf at h
    split at h
    · rename_i e
      cases h
      simp [e]
    · obtain ⟨j, h1, rfl⟩ := ap1_eq h
      exact slotOf_ok (N := r) h1
/-- the runs that the reader has found for smaller parts -/
structure Ev where
  e : Expr → Option ME
  t : Expr → Option MT
  w : Expr → Option MT
  a : List Expr → Option MA
  o : Option Expr → Option MO
  i : Expr → Expr → Option MI
  g : Expr → Option MG
  gs : List Expr → Option MGs
  kw : List Keyword → Option MA
  s : Stmt → Option SS
  b : List Stmt → Option SS
structure Snd (X : Cx) (W : WX) (v : Ev) : Prop where
  e : ∀ e m, v.e e = some m → GE X W e m
  t : ∀ e m, v.t e = some m → GT X W e m
  w : ∀ e m, v.w e = some m → GW X W e m
  a : ∀ e m, v.a e = some m → GA X W e m
  o : ∀ e m, v.o e = some m → GO X W e m
  i : ∀ g e m, v.i g e = some m → GI X W g e m
  g : ∀ e m, v.g e = some m → GG X W e m
  gs : ∀ e m, v.gs e = some m → GGs X W e m
  kw : ∀ e m, v.kw e = some m → PK X e (tMA X W m)
  s : ∀ e m, v.s e = some m → HS X W e m
  b : ∀ e m, v.b e = some m → HSs X W e m
def Sound (r : Ctx → Ev) : Prop := ∀ (c : Ctx) (X : Cx) (W : WX), Tk X W c → Snd X W (r c)

section
variable {X : Cx} {W : WX} {c : Ctx}
theorem Tk.units (T : Tk X W c) : X.A.units + 200 < cLine := by have := T.room.un; omega
theorem Tk.gl (T : Tk X W c) {x : Str} (h : c.sc.names.lookup x = some .globalImplicit) : Gl X x := by
  show X.env.scope.names.lookup x = _
  rw [T.sc]; exact h
theorem Tk.fnl (T : Tk X W c) {x : Str} (h : (match c.cells with | none => true | some s => c.sc.names.lookup x == some .local || s.names.lookup x == some .cell) = true) : X.fn x = true ∨ X.env.scope.names.lookup x = some .local := by
  have := T.fn
  split at h
  · rename_i e
    rw [e] at this
    exact .inl (this x)
  · rename_i s e
    rw [e] at this
    rcases Bool.or_eq_true_iff.mp h with h | h
    · right; rw [T.sc]; simpa using h
    · left; rw [this]; exact h

/-! ### names, constants -/
def special (x : Str) : Bool := (x == ("__debug__" : Str)) || (x == ("__classdict__" : Str)) || (x == ("__name__" : Str))
theorem special_no {x : Str} (h : special x = false) : (x == ("__debug__" : Str)) = false ∧ (x == ("__classdict__" : Str)) = false ∧ x ≠ ("__name__" : Str) := by
  unfold special at h
  simp only [Bool.or_eq_false_iff] at h
  exact ⟨h.1.1, h.1.2, by simpa using h.2⟩
def tyOf (x : Str) : Option Ty :=
  if x = "str" then some .str else if x = "int" then some .int else if x = "tuple" then some .tup else if x = "list" then some .lst else if x = "dict" then some .dct else if x = "bool" then some .bl else if x = "set" then some .set else none
theorem tyOf_ok {x : Str} {t : Ty} (h : tyOf x = some t) : bootBuiltins x = some (.type t.nm) := by
  unfold tyOf at h
  repeat' split at h
  all_goals first
    | (rename_i e; subst e; cases h; decide +kernel)
    | cases h
def rName (c : Ctx) (x : Str) : Option ME := gd (!special x) (match c.sc.names.lookup x with
  | some .local => ap1 mVar (slotOf c.N x)
  | some .cell => ap1 mVar (slotOf c.N x)
  | some .free => ap1 mVar (slotOf c.N x)
  | some .globalImplicit => match c.fns.lookup x with
    | some _ => some (mC (.fn x))
    | none => gd (c.blt.contains x) (ap1 (fun t => mC (.ty t)) (tyOf x))
  | _ => none)
theorem rName_ok (T : Tk X W c) {x : Str} {m : ME} {pos : Pos} (h : rName c x = some m) : GE X W (.Name x pos) m := by
  obtain ⟨h0, h⟩ := gd_eq h
  obtain ⟨d1, d2, d3⟩ := special_no (x := x) (by simpa using h0)
  have var : ∀ k, c.sc.names.lookup x = some k → (k = .local ∨ k = .cell ∨ k = .free) → ap1 mVar (slotOf c.N x) = some m → GE X W (.Name x pos) m := fun k hk hk' h => by
    obtain ⟨i, hi, rfl⟩ := ap1_eq h
    refine ge_var (pe_var (by rw [T.N]; exact slotOf_ok hi) ?_ d1 d2)
    unfold Vis
    rw [T.sc, hk]
    rcases hk' with rfl | rfl | rfl
    · exact .inl rfl
    · exact .inr (.inl rfl)
    · exact .inr (.inr rfl)
  split at h
  · rename_i hk; exact var _ hk (.inl rfl) h
  · rename_i hk; exact var _ hk (.inr (.inl rfl)) h
  · rename_i hk; exact var _ hk (.inr (.inr rfl)) h
  · rename_i hk
    split at h
    · rename_i fe hf
      cases h
      obtain ⟨f, fd, _, hm, _⟩ := (T.fns x fe hf).ex
      exact ge_const (v := .ref f) (pe_glob (T.gl hk) hm rfl d1) fun ρ H => .fn hm
    · obtain ⟨hb, h⟩ := gd_eq h
      obtain ⟨t, ht, rfl⟩ := ap1_eq h
      exact ge_const (v := .ty t.nm) (pe_bltn (T.gl hk) (T.blt x hb) (tyOf_ok ht) rfl d3 d1) fun ρ H => .ty t
  · cases h
def rConst : Const → Option ME
  | .none => some (mC .non)
  | .bool b => some (mC (.bl b))
  | .int i => some (mC (.int i))
  | .str s => some (mC (.str s))
  | _ => none
theorem rConst_ok {v : Const} {k : Nat} {pos : Pos} {m : ME} (h : rConst v = some m) : GE X W (.Constant v k pos) m := by
  cases v with
  | none => cases h; exact ge_const pe_non fun _ _ => .non
  | bool b => cases h; exact ge_const pe_bl fun _ _ => .bl b
  | int i => cases h; exact ge_const pe_int fun _ _ => .int i
  | str s => cases h; exact ge_const pe_str fun _ _ => .str s
  | _ => cases h

/-! ### operators -/
def rBin : Operator → Option Op2
  | .Add => some opAdd
  | .Sub => some opSub
  | .Mult => some opMul
  | .Mod => some opMod
  | .FloorDiv => some opDiv
  | .Pow => some opPow
  | _ => none
theorem rBin_ok {op : Operator} {f : Op2} (h : rBin op = some f) : OpR X (binaryOp op) (rG2 X f) := by
  cases op <;> cases h
  · exact opAdd_ok
  · exact opSub_ok
  · exact opMul_ok
  · exact opMod_ok
  · exact opPow_ok
  · exact opDiv_ok
def rCmp : CmpOp → Op2
  | .Eq => opEq false
  | .NotEq => opEq true
  | .Lt => opLt
  | .LtE => opLe
  | .Gt => opGt
  | .GtE => opGe
  | .Is => opIsN false
  | .IsNot => opIsN true
  | .In => opIn false
  | .NotIn => opIn true
theorem rCmp_ok (T : Tk X W c) (op : CmpOp) : OpR X (compareOp op) (rG2 X (rCmp op)) := by
  have hu := T.units
  cases op
  · exact opEq_ok (by omega)
  · exact opNe_ok (by omega)
  · exact opLt_ok
  · exact opLe_ok
  · exact opGt_ok
  · exact opGe_ok
  · exact opIsN_ok
  · exact opIsNot_ok
  · exact opIn_ok (by omega)
  · exact opNotIn_ok (by omega)
/-- a op b op2 c -/
def mChain (f g : Op2) (ma mb mc : ME) : ME := fun σ st => (ma σ st).bind fun x st1 => (mb σ st1).bind fun y st2 => match f x y st2 with
  | some (.bl true, st3) => (mc σ st3).bind fun z st4 => lift (g y z st4)
  | some (.bl false, st3) => .ok (.bl false) st3
  | _ => .fail
section
variable {a b d : Expr} {ma mb md : ME} {pos : Pos}
theorem tChain_of {f g : Op2} {σ : L2.St} {H : Hp} {Q : VK} (h : tM X W (mChain f g ma mb md) σ H Q) : tChain (rG2 X f) (rG2 X g) (tM X W ma) (tM X W mb) (tM X W md) σ H Q := by
  obtain ⟨ρ, st, σd, S, E, P⟩ := h
  refine tR.bnd S E P fun x H1 dx st1 ρ1 _ _ S1 E1 R1 P1 => tR.bnd S1 E1 P1 fun y H2 dy st2 ρ2 _ a2 S2 E2 R2 P2 => ?_
  split at P2
  · rename_i st3 e3
    refine ⟨ρ2, st2, dx, dy, _, st3, S2, R1.stp S1 a2, R2, e3, fun v H3 ρ3 a3 S3 r3 => ?_⟩
    cases r3
    refine ⟨true, rfl, ?_⟩
    rw [if_pos rfl]
    have E3 := E2.stp S2 a3
    refine tR.bnd S3 E3 (Post.stp P2 a3) fun z H4 dz st4 ρ4 _ a4 S4 E4 R4 P4 => ?_
    obtain ⟨d, st', e, q⟩ := P4.lift
    exact ⟨ρ4, st4, dy, dz, d, st', S4, (R2.stp S2 a3).stp S3 a4, R4, e, q⟩
  · rename_i st3 e3
    refine ⟨ρ2, st2, dx, dy, _, st3, S2, R1.stp S1 a2, R2, e3, fun v H3 ρ3 a3 S3 r3 => ?_⟩
    cases r3
    refine ⟨false, rfl, ?_⟩
    rw [if_neg (by decide)]
    exact P2 (.bl false) H3 ρ3 a3 S3 (.bl false)
  · exact P2.elim
theorem ge_chain {op op2 : CmpOp} {f g : Op2} (hf : OpR X (compareOp op) (rG2 X f)) (hg : OpR X (compareOp op2) (rG2 X g)) (ha : GE X W a ma) (hb : GE X W b mb) (hd : GE X W d md) (hm : lastMarks [op, op2] [b, d] = false) :
    GE X W (.Compare a [op, op2] [b, d] pos) (mChain f g ma mb md) := PE.imp (pe_chain hf hg ha hb hd hm) fun _ _ _ h => tChain_of h
theorem gt_chain {op op2 : CmpOp} {f g : Op2} (hf : OpR X (compareOp op) (rG2 X f)) (hg : OpR X (compareOp op2) (rG2 X g)) (ha : GE X W a ma) (hb : GE X W b mb) (hd : GE X W d md) (hm : lastMarks [op, op2] [b, d] = false) :
    GT X W (.Compare a [op, op2] [b, d] pos) (mBl (mChain f g ma mb md)) := PT.imp (pt_chain hf hg ha hb hd hm) fun _ _ _ h => tChain_of (tM_bl h)
end
/-! ### built-in functions and methods -/
def bltFn (x : Str) : Option OpN :=
  if x = "len" then some bLen else if x = "abs" then some bAbs else if x = "int" then some bInt else if x = "max" then some bMax2 else if x = "min" then some bMin2 else if x = "all" then some bAll else if x = "any" then some bAny
  else if x = "list" then some bList else if x = "tuple" then some bTuple else if x = "isinstance" then some bIsi else if x = "repr" then some bRepr else none
theorem bltFn_ok (T : Tk X W c) {x : Str} {g : OpN} {e : Expr} {es : List Expr} {ra : MA} {p pos : Pos} (h : bltFn x = some g) (hk : c.sc.names.lookup x = some .globalImplicit) (hb : c.blt.contains x = true) (hp : (e :: es).all plainE = true) (ha : GA X W (e :: es) ra) :
    GE X W (.Call (.Name x p) (e :: es) [] pos) (mCB g ra) := by
  have hg := T.gl hk
  have hm := T.blt x hb
  rw [List.all_cons, Bool.and_eq_true] at hp
  have s1 := star_cons (env := X.env) (es := es) hp.1
  have s2 := star_back (env := X.env) (pos := pos) hp.2
  have hu := T.units
  unfold bltFn at h
  repeat' split at h
  all_goals first
    | (rename_i e; subst e; cases h)
    | (cases h; done)
  · exact ge_callB bLen_ok hg hm (by decide +kernel) ha (by decide) (by decide) s1 s2
  · exact ge_callB bAbs_ok hg hm (by decide +kernel) ha (by decide) (by decide) s1 s2
  · exact ge_callTy bInt_ok hg hm (by decide +kernel) ha (by decide) (by decide) s1 s2
  · exact ge_callB (bMax2_ok T.calm) hg hm (by decide +kernel) ha (by decide) (by decide) s1 s2
  · exact ge_callB (bMin2_ok T.calm) hg hm (by decide +kernel) ha (by decide) (by decide) s1 s2
  · exact ge_callB (bAll_ok T.calm) hg hm (by decide +kernel) ha (by decide) (by decide) s1 s2
  · exact ge_callB (bAny_ok T.calm) hg hm (by decide +kernel) ha (by decide) (by decide) s1 s2
  · exact ge_callTy (bList_ok T.calm) hg hm (by decide +kernel) ha (by decide) (by decide) s1 s2
  · exact ge_callTy (bTuple_ok T.calm) hg hm (by decide +kernel) ha (by decide) (by decide) s1 s2
  · exact ge_callB bIsi_ok hg hm (by decide +kernel) ha (by decide) (by decide) s1 s2
  · exact ge_callB (bRepr_ok T.guards hu) hg hm (by decide +kernel) ha (by decide) (by decide) s1 s2
/-- methods by their names and the number of their arguments -/
def mtFn (x : Str) (n : Nat) : Option (Ty × (D → OpN)) := match n with
  | 0 => if x = "pop" then some (.lst, mPop) else none
  | _ => if x = "append" then some (.lst, mAppend) else if x = "extend" then some (.lst, mExtend) else if x = "pop" then some (.lst, mPop) else if x = "get" then some (.dct, mGet) else if x = "split" then some (.str, mSplit)
    else if x = "find" then some (.str, mFind) else if x = "count" then some (.str, mCount) else none
theorem mtFn_ok0 (T : Tk X W c) {x : Str} {ty : Ty} {g : D → OpN} {o : Expr} {mo : ME} {p pos : Pos} (h : mtFn x 0 = some (ty, g)) (hb : noCall0 o = true) (hl : (p.endLine == pos.line) = true) (ho : GE X W o mo) :
    GE X W (.Call (.Attribute o x p) [] [] pos) (mBM ty g mo aNil) := by
  have hbase := attr_base (n := x) (env := X.env) hb
  simp only [mtFn] at h
  split at h
  · rename_i e
    subst e
    cases h
    exact ge_bm0 PySem.F.plainAttrs_list PySem.F.slot_list_pop rfl mPop_ok ho hbase hl
  · cases h
theorem mtFn_ok (T : Tk X W c) {x : Str} {ty : Ty} {g : D → OpN} {o e : Expr} {es : List Expr} {mo : ME} {ra : MA} {p pos : Pos} (h : mtFn x (es.length + 1) = some (ty, g)) (hb : noCall0 o = true) (hl : (p.endLine == pos.line) = true) (hp : (e :: es).all plainE = true) (hn : es.length < 29)
    (ho : GE X W o mo) (ha : GA X W (e :: es) ra) : GE X W (.Call (.Attribute o x p) (e :: es) [] pos) (mBM ty g mo ra) := by
  have hbase := attr_base (n := x) (env := X.env) hb
  have hfew := star_few (env := X.env) (pos := pos) hp hn
  rw [List.all_cons, Bool.and_eq_true] at hp
  have s1 := star_cons (env := X.env) (es := es) hp.1
  have s2 := star_back (env := X.env) (pos := pos) hp.2
  have hu := T.units
  simp only [mtFn] at h
  repeat' split at h
  all_goals first
    | (rename_i e; subst e; cases h)
    | (cases h; done)
  · exact ge_bm PySem.F.plainAttrs_list PySem.F.slot_list_append rfl mAppend_ok ho ha hbase hfew hl s1 s2
  · exact ge_bm PySem.F.plainAttrs_list PySem.F.slot_list_extend rfl mExtend_ok ho ha hbase hfew hl s1 s2
  · exact ge_bm PySem.F.plainAttrs_list PySem.F.slot_list_pop rfl mPop_ok ho ha hbase hfew hl s1 s2
  · exact ge_bm PySem.F.plainAttrs_dict PySem.F.slot_dict_get rfl (mGet_ok (by omega)) ho ha hbase hfew hl s1 s2
  · exact ge_bm PySem.F.plainAttrs_str PySem.F.slot_str_split rfl mSplit_ok ho ha hbase hfew hl s1 s2
  · exact ge_bm PySem.F.plainAttrs_str PySem.F.slot_str_find rfl mFind_ok ho ha hbase hfew hl s1 s2
  · exact ge_bm PySem.F.plainAttrs_str PySem.F.slot_str_count rfl mCount_ok ho ha hbase hfew hl s1 s2
end
end G

/-! G19: the reader's rules. -/
namespace G
open PySem L2 PySem.Spec PyProof.Rows RZ

section
variable {X : Cx} {W : WX} {c : Ctx} {r : Ctx → Ev}
/-! ### stores of names -/
def stName (c : Ctx) (x : Str) : Option Nat :=
  gd ((c.sc.names.lookup x == some .local || c.sc.names.lookup x == some .cell) && (match c.cells with | none => true | some s => c.sc.names.lookup x == some .local || s.names.lookup x == some .cell)) (slotOf c.N x)
theorem stName_ok (T : Tk X W c) {x : Str} {i : Nat} {pos : Pos} (h : stName c x = some i) : PG X (.Name x pos) (gName i) := by
  obtain ⟨h1, h2⟩ := gd_eq h
  rw [Bool.and_eq_true] at h1
  refine pg_name (by rw [T.N]; exact T.nd) (by rw [T.N]; exact slotOf_ok h2) ?_ (T.fnl h1.2)
  unfold L2.Loc
  rw [T.sc]
  simpa using h1.1
def stNames (c : Ctx) : List Expr → Option (List Nat)
  | [] => some []
  | .Name x _ :: l => ap2 (· :: ·) (stName c x) (stNames c l)
  | _ => none
theorem stNames_ok (T : Tk X W c) : ∀ {es : List Expr} {is : List Nat}, stNames c es = some is → PGs X es (tgNs is) ∧ (assignEach es X.env).length = is.length ∧ (assignEach es X.env).findIdx? (·.1) = none
  | [], is, h => by cases h; exact ⟨pgs_nil, rfl, rfl⟩
  | .Name x p :: l, is, h => by
    obtain ⟨i, js, h1, h2, rfl⟩ := ap2_eq h
    obtain ⟨a, b, d⟩ := stNames_ok T h2
    refine ⟨pgs_cons (stName_ok T h1) a rfl, congrArg (· + 1) b, ?_⟩
    show ((false, assign (.Name x p) X.env) :: assignEach l X.env).findIdx? (·.1) = none
    rw [List.findIdx?_cons, d]
    rfl
  | .Tuple _ _ _ :: _, _, h => by cases h
  | .BoolOp _ _ _ :: _, _, h => by cases h
  | .NamedExpr _ _ _ :: _, _, h => by cases h
  | .BinOp _ _ _ _ :: _, _, h => by cases h
  | .UnaryOp _ _ _ :: _, _, h => by cases h
  | .Lambda _ _ _ _ :: _, _, h => by cases h
  | .IfExp _ _ _ _ :: _, _, h => by cases h
  | .Dict _ _ _ :: _, _, h => by cases h
  | .Set _ _ _ :: _, _, h => by cases h
  | .ListComp _ _ _ _ :: _, _, h => by cases h
  | .SetComp _ _ _ _ :: _, _, h => by cases h
  | .DictComp _ _ _ _ _ :: _, _, h => by cases h
  | .GeneratorExp _ _ _ _ :: _, _, h => by cases h
  | .Await _ _ :: _, _, h => by cases h
  | .Yield _ _ :: _, _, h => by cases h
  | .YieldFrom _ _ :: _, _, h => by cases h
  | .Compare _ _ _ _ :: _, _, h => by cases h
  | .Call _ _ _ _ :: _, _, h => by cases h
  | .FormattedValue _ _ _ _ :: _, _, h => by cases h
  | .JoinedStr _ _ :: _, _, h => by cases h
  | .Constant _ _ _ :: _, _, h => by cases h
  | .Attribute _ _ _ :: _, _, h => by cases h
  | .Subscript _ _ _ :: _, _, h => by cases h
  | .Starred _ _ :: _, _, h => by cases h
  | .List _ _ :: _, _, h => by cases h
  | .Slice _ _ _ _ :: _, _, h => by cases h
def rTg1 (c : Ctx) : Expr → Option Tg1
  | .Name x _ => ap1 Tg1.nm (stName c x)
  | .Tuple es _ _ => ap1 Tg1.tp (stNames c es)
  | _ => none
theorem rTg1_ok (T : Tk X W c) {tg : Expr} {t : Tg1} (h : rTg1 c tg = some t) : PG X tg (tgG X.K t) := by
  cases tg with
  | Name x p =>
    obtain ⟨i, h1, rfl⟩ := ap1_eq h
    exact stName_ok T h1
  | Tuple es k p =>
    obtain ⟨is, h1, rfl⟩ := ap1_eq h
    obtain ⟨a, b, d⟩ := stNames_ok T h1
    exact pg_tup T.calm a b d
  | _ => cases h

/-! ### comprehensions -/
def Ctx.blk (c : Ctx) (scope : Scope) : Ctx := { c with sc := relS scope c.sc, cells := some scope }
def ownOf (N : List Str) : List (Str × NameKind) → List (Str × Nat)
  | [] => []
  | (x, k) :: l => if k == .local || k == .cell then match slotOf N x with
      | some i => (x, i) :: ownOf N l
      | none => ownOf N l
    else ownOf N l
theorem takes_no : Takes X noW := fun _ _ x => by
  obtain ⟨_, _, _, _, _, _, _, _, _, _, _, _, _, _, _, _, z⟩ := x
  exact z.elim
theorem Tk.blk (T : Tk X W c) {scope : Scope} (hk : scope.kind = .function) (s : Shared) (H : Hp) (C : Addr) (cl : List (Str × Addr)) (fp : List Addr) : Tk (X.blk s H scope (compEnvC scope cl C X.env) fp) noW (c.blk scope) where
  calm := T.calm
  N := T.N
  nd := T.nd
  sc := by
    show relS scope X.env.scope = relS scope c.sc
    rw [T.sc]
  kind := hk
  guards := T.guards
  room := T.room
  takes := takes_no
  fn := fun x => rfl
  own := fun z => by cases z
  blt := T.blt
  fns := fun x fe h => ⟨(T.fns x fe h).ex⟩
def rIfs (v : Ev) : List Expr → Option MT
  | [] => some tTrue
  | [q] => v.t q
  | _ => none
def rLc (r : Ctx → Ev) (c : Ctx) (elt : Expr) (gs : List Comprehension) (scope : Scope) : Option ME := match gs with
  | [⟨tg, it, ifs, 0⟩] => match rTg1 (c.blk scope) tg with
    | some t => gd (blkC c.N c.sc scope (ownOf c.N scope.names) && noSet it && t.has.all (fun i => ((ownOf c.N scope.names).map (·.2)).contains i))
        (ap3 (fun mi tt me => mLc mi t tt me ((ownOf c.N scope.names).map (·.2))) ((r c).i tg it) (rIfs (r (c.blk scope)) ifs) ((r (c.blk scope)).e elt))
    | none => none
  | _ => none
theorem rLc_parts (hr : Sound r) (T : Tk X W c) {elt : Expr} {gs : List Comprehension} {scope : Scope} {m : ME} (h : rLc r c elt gs scope = some m) :
    ∃ tg it ifs t mi tt me, gs = [⟨tg, it, ifs, 0⟩] ∧ m = mLc mi t tt me ((ownOf c.N scope.names).map (·.2)) ∧ GI X W tg it mi ∧ BlkOk X.N X.env.scope scope (ownOf c.N scope.names) ∧ LcOk X tg elt ifs scope t tt me ∧ (∀ i ∈ t.has, i ∈ (ownOf c.N scope.names).map (·.2)) ∧ (∀ x, foldedSetIterable it X.env x = pure x) := by
  unfold rLc at h
  split at h
  · rename_i tg it ifs
    split at h
    · rename_i t ht
      obtain ⟨h1, h2⟩ := gd_eq h
      obtain ⟨mi, tt, me, e1, e2, e3, rfl⟩ := ap3_eq h2
      simp only [Bool.and_eq_true] at h1
      obtain ⟨⟨b1, b2⟩, b3⟩ := h1
      have ok := blkOk_by b1
      rw [← T.N, ← T.sc] at ok
      refine ⟨tg, it, ifs, t, mi, tt, me, rfl, rfl, (hr c X W T).i _ _ _ e1, ?_, ⟨fun s H C cl fp => ?_, fun s H C cl fp => ?_, fun s H C cl fp => ?_⟩, fun i hi => ?_, noSet_ok b2⟩
      · rw [← T.N]; exact ok
      · exact rTg1_ok (T.blk ok.kind s H C cl fp) ht
      · have S := hr _ _ _ (T.blk ok.kind s H C cl fp)
        unfold rIfs at e2
        split at e2
        · cases e2; exact pts_nilG
        · exact pts_one (S.t _ _ e2)
        · cases e2
      · exact (hr _ _ _ (T.blk ok.kind s H C cl fp)).e _ _ e3
      · have := List.all_eq_true.mp b3 i hi
        simpa using this
    · cases h
  · cases h
theorem rLc_ok (hr : Sound r) (T : Tk X W c) {elt : Expr} {gs : List Comprehension} {scope : Scope} {m : ME} {pos : Pos} (h : rLc r c elt gs scope = some m) : GE X W (.ListComp elt gs scope pos) m := by
  obtain ⟨tg, it, ifs, t, mi, tt, me, rfl, rfl, h1, h2, h3, h4, h5⟩ := rLc_parts hr T h
  exact ge_lc T.calm (by rw [T.N]; exact T.nd) h1 h2 h3 h4 h5

/-! ### calls -/
def patOf : List (Nat × List Str × List Nat) → Nat → List Str → Option (List Nat)
  | [], _, _ => none
  | (n, ks, perm) :: l, m, js => if n = m ∧ ks = js then some perm else patOf l m js
theorem patOf_ok : ∀ {l : List (Nat × List Str × List Nat)} {n : Nat} {ks : List Str} {perm : List Nat}, patOf l n ks = some perm → (n, ks, perm) ∈ l
  | (n', ks', perm') :: l, n, ks, perm, h => by
    unfold patOf at h
    split at h
    · rename_i e
      cases h
      obtain ⟨rfl, rfl⟩ := e
      exact List.mem_cons_self
    · exact List.mem_cons_of_mem _ (patOf_ok h)
def rFn (v : Ev) (F : List D → Store → R D) (fe : FnE) (as : List Expr) (ks : List Keyword) : Option ME := match ks with
  | [] => match as with
    | [] => gd fe.ps.isEmpty (some (mCallP 0 F aNil))
    | e :: es => gd ((e :: es).all plainE) (ap1 (mCallP fe.ps.length F) (v.a (e :: es)))
  | k :: ks => match kwNames (k :: ks) with
    | none => none
    | some nm => match as with
      | [] => ap2 (fun perm rb => mCall 0 nm.length perm F aNil rb) (patOf fe.pats 0 nm) (v.kw (k :: ks))
      | e :: es => gd ((e :: es).all plainE) (ap3 (fun perm ra rb => mCall (es.length + 1) nm.length perm F ra rb) (patOf fe.pats (es.length + 1) nm) (v.a (e :: es)) (v.kw (k :: ks)))
theorem rFn_ok (T : Tk X W c) {v : Ev} (S : Snd X W v) {x : Str} {fe : FnE} {as : List Expr} {ks : List Keyword} {m : ME} {p pos : Pos} (hk : c.sc.names.lookup x = some .globalImplicit) (hs : special x = false) (hf : c.fns.lookup x = some fe)
    (h : rFn v (c.call x) fe as ks = some m) : GE X W (.Call (.Name x p) as ks pos) m := by
  obtain ⟨d1, _, _⟩ := special_no hs
  have hg := T.gl hk
  obtain ⟨f, fd, hG, hm, hkp, hB, hP⟩ := (T.fns x fe hf).ex
  unfold rFn at h
  split at h
  · split at h
    · obtain ⟨h1, h2⟩ := gd_eq h
      cases h2
      obtain ⟨ps, pats⟩ := fe
      cases ps with
      | nil => exact ge_callP0 hG T.guards T.room hB T.takes hg hm hkp d1
      | cons _ _ => cases h1
    · rename_i e es
      obtain ⟨h1, h2⟩ := gd_eq h
      obtain ⟨ra, e1, rfl⟩ := ap1_eq h2
      rw [List.all_cons, Bool.and_eq_true] at h1
      exact ge_callP hG T.guards T.room hB T.takes hg hm hkp (S.a _ _ e1) d1 (star_cons h1.1) (star_back h1.2)
  · rename_i k ks
    split at h
    · cases h
    · rename_i nm hn
      obtain ⟨k1, k2, k3⟩ := kw_facts (env := X.env) (pos := pos) hn
      split at h
      · obtain ⟨perm, rb, e1, e2, rfl⟩ := ap2_eq h
        obtain ⟨hl, hb⟩ := hP _ _ _ (patOf_ok e1)
        exact ge_callK hG T.guards T.room hb hl T.takes hg hm hkp (S.kw _ _ e2) k1 k2 rfl d1 (by rw [k3]; rfl)
      · rename_i e es
        obtain ⟨h1, h2⟩ := gd_eq h
        obtain ⟨perm, ra, rb, e1, e2, e3, rfl⟩ := ap3_eq h2
        obtain ⟨hl, hb⟩ := hP _ _ _ (patOf_ok e1)
        have h3 := star_back (env := X.env) (pos := pos) h1
        rw [List.all_cons, Bool.and_eq_true] at h1
        exact ge_call hG T.guards T.room hb hl T.takes hg hm hkp (S.a _ _ e2) (S.kw _ _ e3) k1 k2 rfl d1 (star_cons h1.1) (by rw [h3, k3]; rfl)
def rCall (r : Ctx → Ev) (c : Ctx) (f : Expr) (as : List Expr) (ks : List Keyword) (pos : Pos) : Option ME := match f with
  | .Name x _ => match c.sc.names.lookup x with
    | some .globalImplicit => gd (!special x) (match c.fns.lookup x with
      | some fe => rFn (r c) (c.call x) fe as ks
      | none => match ks with
        | [] => match as with
          | [] => none
          | e :: es => gd (c.blt.contains x && (e :: es).all plainE) (ap2 mCB (bltFn x) ((r c).a (e :: es)))
        | _ => none)
    | _ => none
  | .Attribute o x p => match ks with
    | [] => gd (noCall0 o && p.endLine == pos.line) (match as with
      | [] => match mtFn x 0 with
        | some (ty, g) => ap1 (fun mo => mBM ty g mo aNil) ((r c).e o)
        | none => none
      | e :: es => gd ((e :: es).all plainE && decide (es.length < 29)) (match mtFn x (es.length + 1) with
        | some (ty, g) => ap2 (mBM ty g) ((r c).e o) ((r c).a (e :: es))
        | none => none))
    | _ => none
  | _ => none
theorem rCall_ok (T : Tk X W c) (S : Snd X W (r c)) {f : Expr} {as : List Expr} {ks : List Keyword} {m : ME} {pos : Pos} (h : rCall r c f as ks pos = some m) : GE X W (.Call f as ks pos) m := by
  cases f with
  | Name x p =>
    simp only [rCall] at h
    split at h
    · rename_i hk
      obtain ⟨h1, h2⟩ := gd_eq h
      have hs : special x = false := by simpa using h1
      split at h2
      · rename_i fe hf
        exact rFn_ok T S hk hs hf h2
      · split at h2
        · split at h2
          · cases h2
          · rename_i e es
            obtain ⟨h3, h4⟩ := gd_eq h2
            rw [Bool.and_eq_true] at h3
            obtain ⟨g, ra, e1, e2, rfl⟩ := ap2_eq h4
            exact bltFn_ok T e1 hk h3.1 h3.2 (S.a _ _ e2)
        · cases h2
    · cases h
  | Attribute o x p =>
    simp only [rCall] at h
    split at h
    · obtain ⟨h1, h2⟩ := gd_eq h
      rw [Bool.and_eq_true] at h1
      split at h2
      · split at h2
        · rename_i ty g hm
          obtain ⟨mo, e1, rfl⟩ := ap1_eq h2
          exact mtFn_ok0 T hm h1.1 h1.2 (S.e _ _ e1)
        · cases h2
      · rename_i e es
        obtain ⟨h3, h4⟩ := gd_eq h2
        rw [Bool.and_eq_true] at h3
        split at h4
        · rename_i ty g hm
          obtain ⟨mo, ra, e1, e2, rfl⟩ := ap2_eq h4
          exact mtFn_ok T hm h1.1 h1.2 h3.1 (by simpa using h3.2) (S.e _ _ e1) (S.a _ _ e2)
        · cases h4
    · cases h
  | _ => cases h
end
end G

/-! G20: the reader itself, and its soundness. -/
namespace G
open PySem L2 PySem.Spec PyProof.Rows RZ

/-! ### += -/
def opIAdd : Op2 := fun x y st => match x, y with
  | .int i, .int j => some (.int (i + j), st)
  | .str a, .str b => if a.length + b.length ≤ sizeLine then some (.str (a ++ b), st) else none
  | _, _ => none
section
variable {X : Cx}
theorem opIAdd_ok : OpR X (inplaceOp .Add) (rG2 X opIAdd) := by
  intro pins s σ H x y v u Q I rx ry ⟨ρ, st, dx, dy, d, st', S, r1, r2, e, q⟩
  unfold opIAdd at e
  split at e
  · cases r1; cases r2; cases e
    exact iop_add pins s σ H _ _ v u Q I rx ry ⟨_, _, rfl, rfl, q.here S (.int _)⟩
  · split at e
    · rename_i hl
      cases r1; cases r2; cases e
      exact iop_add_str pins s σ H _ _ v u Q I rx ry ⟨_, _, rfl, rfl, hl, q.here S (.str _)⟩
    · cases e
  · cases e
def opISub : Op2 := fun x y st => match x, y with
  | .int i, .int j => some (.int (i - j), st)
  | _, _ => none
theorem opISub_ok : OpR X (inplaceOp .Sub) (rG2 X opISub) := by
  intro pins s σ H x y v u Q I rx ry ⟨ρ, st, dx, dy, d, st', S, r1, r2, e, q⟩
  unfold opISub at e
  split at e
  · cases r1; cases r2; cases e
    exact iop_sub pins s σ H _ _ v u Q I rx ry ⟨_, _, rfl, rfl, q.here S (.int _)⟩
  · cases e
def rAug : Operator → Option Op2
  | .Add => some opIAdd
  | .Sub => some opISub
  | _ => none
theorem rAug_ok {op : Operator} {f : Op2} (h : rAug op = some f) : OpR X (inplaceOp op) (rG2 X f) := by
  cases op <;> cases h
  · exact opIAdd_ok
  · exact opISub_ok
end

section
variable {X : Cx} {W : WX} {c : Ctx} {r : Ctx → Ev}
/-! ### expressions -/
def rE (r : Ctx → Ev) (c : Ctx) (e : Expr) : Option ME := match e with
  | .Constant v _ _ => rConst v
  | .Name x _ => rName c x
  | .BinOp a op b _ => ap3 mBin (rBin op) ((r c).e a) ((r c).e b)
  | .UnaryOp op a _ => match op with
    | .Not => ap1 mNt ((r c).e a)
    | .USub => ap1 (mUn opNeg) ((r c).e a)
    | _ => none
  | .BoolOp op es p => match es with
    | [] => none
    | [a] => (r c).e a
    | a :: b :: es => match op with
      | .And => ap2 mAn ((r c).e a) ((r c).e (.BoolOp .And (b :: es) p))
      | .Or => ap2 mOo ((r c).e a) ((r c).e (.BoolOp .Or (b :: es) p))
  | .IfExp q a b _ => ap3 mIf ((r c).t q) ((r c).e a) ((r c).e b)
  | .Compare a ops bs _ => match ops, bs with
    | [op], [b] => gd (!behindInMarks op b) (ap2 (mBin (rCmp op)) ((r c).e a) ((r c).e b))
    | [op, op2], [b, d] => gd (!lastMarks [op, op2] [b, d]) (ap3 (mChain (rCmp op) (rCmp op2)) ((r c).e a) ((r c).e b) ((r c).e d))
    | _, _ => none
  | .Tuple es _ _ => ap1 mTup ((r c).a es)
  | .List es _ => ap1 mLst ((r c).a es)
  | .Dict ks vs _ => match ks, vs with
    | [], [] => some mDict0
    | _, _ => none
  | .Subscript a ix _ => match ix with
    | .Slice lo hi st _ => match st with
      | none => ap3 mSl ((r c).e a) ((r c).o lo) ((r c).o hi)
      | some k => match (r c).e k with
        | some mk => ap3 (fun ma ml mh => mSl3 ma ml mh mk) ((r c).e a) ((r c).o lo) ((r c).o hi)
        | none => none
    | ix => gd (plainIx ix) (ap2 (mBin opIx) ((r c).e a) ((r c).e ix))
  | .ListComp elt gs sc _ => rLc r c elt gs sc
  | .Call f as ks p => rCall r c f as ks p
  | _ => none
theorem rE_ok (hr : Sound r) (T : Tk X W c) {e : Expr} {m : ME} (h : rE r c e = some m) : GE X W e m := by
  have S := hr c X W T
  have hu := T.units
  cases e with
  | Constant v k p => exact rConst_ok h
  | Name x p => exact rName_ok T h
  | BinOp a op b p =>
    obtain ⟨f, ma, mb, e1, e2, e3, rfl⟩ := ap3_eq h
    exact ge_bin (rBin_ok e1) (S.e _ _ e2) (S.e _ _ e3)
  | UnaryOp op a p =>
    cases op with
    | Not =>
      obtain ⟨ma, e1, rfl⟩ := ap1_eq h
      exact ge_not (S.e _ _ e1)
    | USub =>
      obtain ⟨ma, e1, rfl⟩ := ap1_eq h
      exact ge_un opNeg_ok (S.e _ _ e1)
    | _ => cases h
  | BoolOp op es p =>
    cases es with
    | nil => cases h
    | cons a es =>
      cases es with
      | nil => exact ge_one (S.e _ _ h)
      | cons b es =>
        cases op with
        | And =>
          obtain ⟨ma, mb, e1, e2, rfl⟩ := ap2_eq h
          exact ge_and (S.e _ _ e1) (S.e _ _ e2)
        | Or =>
          obtain ⟨ma, mb, e1, e2, rfl⟩ := ap2_eq h
          exact ge_or (S.e _ _ e1) (S.e _ _ e2)
  | IfExp q a b p =>
    obtain ⟨mq, ma, mb, e1, e2, e3, rfl⟩ := ap3_eq h
    exact ge_if (S.t _ _ e1) (S.e _ _ e2) (S.e _ _ e3)
  | Compare a ops bs p =>
    simp only [rE] at h
    split at h
    · obtain ⟨h1, h2⟩ := gd_eq h
      obtain ⟨ma, mb, e1, e2, rfl⟩ := ap2_eq h2
      exact ge_cmp (rCmp_ok T _) (S.e _ _ e1) (S.e _ _ e2) (by simpa using h1)
    · obtain ⟨h1, h2⟩ := gd_eq h
      obtain ⟨ma, mb, md, e1, e2, e3, rfl⟩ := ap3_eq h2
      exact ge_chain (rCmp_ok T _) (rCmp_ok T _) (S.e _ _ e1) (S.e _ _ e2) (S.e _ _ e3) (by simpa using h1)
    · cases h
  | Tuple es k p =>
    obtain ⟨ra, e1, rfl⟩ := ap1_eq h
    exact ge_tup (S.a _ _ e1)
  | List es p =>
    obtain ⟨ra, e1, rfl⟩ := ap1_eq h
    exact ge_lst (S.a _ _ e1)
  | Dict ks vs p =>
    simp only [rE] at h
    split at h
    · cases h; exact ge_dict0
    · cases h
  | Subscript a ix p =>
    simp only [rE] at h
    split at h
    · split at h
      · obtain ⟨ma, ml, mh, e1, e2, e3, rfl⟩ := ap3_eq h
        exact ge_slice (S.e _ _ e1) (S.o _ _ e2) (S.o _ _ e3)
      · split at h
        · rename_i mk ek
          obtain ⟨ma, ml, mh, e1, e2, e3, rfl⟩ := ap3_eq h
          exact ge_slice3 (S.e _ _ e1) (S.o _ _ e2) (S.o _ _ e3) (S.e _ _ ek)
        · cases h
    · obtain ⟨h1, h2⟩ := gd_eq h
      obtain ⟨ma, mb, e1, e2, rfl⟩ := ap2_eq h2
      exact ge_ix (by omega) (S.e _ _ e1) (S.e _ _ e2) (plainIx_ok h1)
  | ListComp elt gs sc p => exact rLc_ok hr T h
  | Call f as ks p => exact rCall_ok T S h
  | _ => cases h
/-! ### tests -/
def rT (v : Ev) (e : Expr) : Option MT := match e with
  | .Compare a ops bs _ => match ops, bs with
    | [op], [b] => gd (!behindInMarks op b) (ap2 (fun ma mb => mBl (mBin (rCmp op) ma mb)) (v.e a) (v.e b))
    | [op, op2], [b, d] => gd (!lastMarks [op, op2] [b, d]) (ap3 (fun ma mb md => mBl (mChain (rCmp op) (rCmp op2) ma mb md)) (v.e a) (v.e b) (v.e d))
    | _, _ => none
  | .BoolOp op es p => v.w (.BoolOp op es p)
  | .UnaryOp .Not a _ => ap1 tNt (v.t a)
  | e => gd (plainT e) (ap1 mTru (v.e e))
theorem rT_ok (T : Tk X W c) {v : Ev} (S : Snd X W v) {e : Expr} {m : MT} (h : rT v e = some m) : GT X W e m := by
  have plain : ∀ {e : Expr} {m : MT}, gd (plainT e) (ap1 mTru (v.e e)) = some m → GT X W e m := fun {e m} h => by
    obtain ⟨h1, h2⟩ := gd_eq h
    obtain ⟨ma, e1, rfl⟩ := ap1_eq h2
    exact gt_truth (S.e _ _ e1) (isTrue_plain h1)
  cases e with
  | Compare a ops bs p =>
    simp only [rT] at h
    split at h
    · obtain ⟨h1, h2⟩ := gd_eq h
      obtain ⟨ma, mb, e1, e2, rfl⟩ := ap2_eq h2
      exact gt_cmp (rCmp_ok T _) (S.e _ _ e1) (S.e _ _ e2) (by simpa using h1)
    · obtain ⟨h1, h2⟩ := gd_eq h
      obtain ⟨ma, mb, md, e1, e2, e3, rfl⟩ := ap3_eq h2
      exact gt_chain (rCmp_ok T _) (rCmp_ok T _) (S.e _ _ e1) (S.e _ _ e2) (S.e _ _ e3) (by simpa using h1)
    · cases h
  | BoolOp op es p => exact (S.w _ _ h).pt
  | UnaryOp op a p =>
    cases op with
    | Not =>
      obtain ⟨ma, e1, rfl⟩ := ap1_eq h
      exact gt_not (S.t _ _ e1)
    | _ => exact plain h
  | _ => exact plain h
def rW (v : Ev) (e : Expr) : Option MT := match e with
  | .BoolOp op es p => match es with
    | [] => none
    | [a] => v.t a
    | a :: b :: es => match op with
      | .And => ap2 tAn (v.t a) (v.w (.BoolOp .And (b :: es) p))
      | .Or => ap2 tOo (v.t a) (v.w (.BoolOp .Or (b :: es) p))
  | _ => none
theorem rW_ok {v : Ev} (S : Snd X W v) {e : Expr} {m : MT} (h : rW v e = some m) : GW X W e m := by
  cases e with
  | BoolOp op es p =>
    cases es with
    | nil => cases h
    | cons a es =>
      cases es with
      | nil => cases op with
        | And => exact gw_and1 (S.t _ _ h)
        | Or => exact gw_or1 (S.t _ _ h)
      | cons b es =>
        cases op with
        | And =>
          obtain ⟨ma, mb, e1, e2, rfl⟩ := ap2_eq h
          exact gw_and (S.t _ _ e1) (S.w _ _ e2)
        | Or =>
          obtain ⟨ma, mb, e1, e2, rfl⟩ := ap2_eq h
          exact gw_or (S.t _ _ e1) (S.w _ _ e2)
  | _ => cases h
/-! ### lists of expressions, what is walked, targets -/
def rA (v : Ev) (es : List Expr) : Option MA := match es with
  | [] => some aNil
  | e :: es => gd (plainE e) (ap2 aCons (v.e e) (v.a es))
theorem rA_ok {v : Ev} (S : Snd X W v) {es : List Expr} {m : MA} (h : rA v es = some m) : GA X W es m := by
  cases es with
  | nil => cases h; exact ga_nil
  | cons e es =>
    obtain ⟨h1, h2⟩ := gd_eq h
    obtain ⟨ma, ra, e1, e2, rfl⟩ := ap2_eq h2
    exact ga_cons (S.e _ _ e1) (S.a _ _ e2) (star_cons h1)
def rO (v : Ev) (o : Option Expr) : Option MO := match o with
  | none => some oNone
  | some e => ap1 oSome (v.e e)
theorem rO_ok {v : Ev} (S : Snd X W v) {o : Option Expr} {m : MO} (h : rO v o = some m) : GO X W o m := by
  cases o with
  | none => cases h; exact go_none
  | some e =>
    obtain ⟨ma, e1, rfl⟩ := ap1_eq h
    exact go_some (S.e _ _ e1)
def rKw (v : Ev) (ks : List Keyword) : Option MA := match ks with
  | [] => some aNil
  | ⟨_, e, _⟩ :: ks => ap2 aCons (v.e e) (v.kw ks)
theorem rKw_ok {v : Ev} (S : Snd X W v) {ks : List Keyword} {m : MA} (h : rKw v ks = some m) : PK X ks (tMA X W m) := by
  cases ks with
  | nil => cases h; exact gk_nil
  | cons k ks =>
    obtain ⟨n, e, p⟩ := k
    obtain ⟨ma, ra, e1, e2, rfl⟩ := ap2_eq h
    exact gk_cons (S.e _ _ e1) (S.kw _ _ e2)
def isTup : Expr → Bool
  | .Tuple _ _ _ => true
  | _ => false
/-- the run of range, enumerate, zip -/
def rIt (v : Ev) (tg : Expr) (x : Str) (as : List Expr) : Option MI := gd (as.all plainE) (match as with
  | [a] => if x = "range" then ap1 iRng1 (v.a [a]) else if x = "enumerate" then gd (isTup tg) (ap1 iEnm (v.a [a])) else none
  | [a, b] => if x = "range" then ap1 iRng2 (v.a [a, b]) else if x = "zip" then gd (isTup tg) (ap1 iZip (v.a [a, b])) else none
  | _ => none)
theorem rIt_ok (T : Tk X W c) {v : Ev} (S : Snd X W v) {tg : Expr} {x : Str} {as : List Expr} {m : MI} {p pos : Pos} (hk : c.sc.names.lookup x = some .globalImplicit) (hb : c.blt.contains x = true) (h : rIt v tg x as = some m) : GI X W tg (.Call (.Name x p) as [] pos) m := by
  have hg := T.gl hk
  have hm := T.blt x hb
  have z0 := gd_eq h
  clear h
  obtain ⟨h0, h⟩ := z0
  split at h
  · rename_i a
    have ha : plainE a = true := by simpa using h0
    split at h
    · rename_i e
      subst e
      obtain ⟨ra, e1, rfl⟩ := ap1_eq h
      exact gi_range1 hg hm (S.a _ _ e1) (star_cons ha)
    · split at h
      · rename_i e
        subst e
        obtain ⟨h1, h2⟩ := gd_eq h
        obtain ⟨ra, e1, rfl⟩ := ap1_eq h2
        cases tg with
        | Tuple es k tp => exact gi_enum hg hm (S.a _ _ e1) (star_cons ha)
        | _ => cases h1
      · cases h
  · rename_i a b
    have hab : plainE a = true ∧ plainE b = true := by simpa using h0
    split at h
    · rename_i e
      subst e
      obtain ⟨ra, e1, rfl⟩ := ap1_eq h
      have sb : starEach [b] X.env = [(false, eval b X.env)] := star_cons hab.2
      exact gi_range2 hg hm (S.a _ _ e1) (by rw [star_cons hab.1, sb]) sb
    · split at h
      · rename_i e
        subst e
        obtain ⟨h1, h2⟩ := gd_eq h
        obtain ⟨ra, e1, rfl⟩ := ap1_eq h2
        cases tg with
        | Tuple es k tp => exact gi_zip hg hm (S.a _ _ e1) (star_cons hab.1) (star_back (by simpa using hab.2))
        | _ => cases h1
      · cases h
  · cases h
def isIt (x : Str) : Bool := x == "range" || x == "enumerate" || x == "zip"
def rI (r : Ctx → Ev) (c : Ctx) (tg e : Expr) : Option MI := match e with
  | .Call (.Name x _) as [] _ => match c.sc.names.lookup x with
    | some .globalImplicit => match isIt x && c.blt.contains x with
      | true => rIt (r c) tg x as
      | false => ap1 iAny ((r c).e e)
    | _ => ap1 iAny ((r c).e e)
  | e => ap1 iAny ((r c).e e)
theorem rI_ok (T : Tk X W c) (S : Snd X W (r c)) {tg e : Expr} {m : MI} (h : rI r c tg e = some m) : GI X W tg e m := by
  have any : ∀ {e : Expr} {m : MI}, ap1 iAny ((r c).e e) = some m → GI X W tg e m := fun {e m} h => by
    obtain ⟨ma, e1, rfl⟩ := ap1_eq h
    exact gi_any (S.e _ _ e1)
  unfold rI at h
  split at h
  · split at h
    · rename_i hk
      split at h
      · rename_i hb
        rw [Bool.and_eq_true] at hb
        exact rIt_ok T S hk hb.2 h
      · exact any h
    · exact any h
  · exact any h
def rG (r : Ctx → Ev) (c : Ctx) (e : Expr) : Option MG := match e with
  | .Name x _ => ap1 gNm (stName c x)
  | .Tuple es _ _ => gd (es.all plainE) (ap1 (gTp es.length) ((r c).gs es))
  | .Subscript a b _ => gd (plainIx b) (ap2 gSb ((r c).e a) ((r c).e b))
  | _ => none
theorem assign_len {env : Env} : ∀ {es : List Expr}, (assignEach es env).length = es.length
  | [] => rfl
  | e :: es => by
    cases e <;> (show _ + 1 = _ + 1; rw [assign_len])
theorem assign_cons {e : Expr} {es : List Expr} {env : Env} (h : plainE e = true) : assignEach (e :: es) env = (false, assign e env) :: assignEach es env := by
  cases e <;> first | rfl | cases h
theorem assign_star {env : Env} : ∀ {es : List Expr}, es.all plainE = true → (assignEach es env).findIdx? (·.1) = none
  | [], _ => rfl
  | e :: es, h => by
    rw [List.all_cons, Bool.and_eq_true] at h
    rw [assign_cons h.1, List.findIdx?_cons, assign_star h.2]
    rfl
theorem assign_sub {a b : Expr} {p : Pos} {env : Env} (h : plainIx b = true) : ∀ v, assign (.Subscript a b p) env v = (do
      let ov ← holding [v] (eval a env)
      let iv ← holding [v, ov] (eval b env)
      standAt p
      holding [v, ov, iv] (setItem ov iv v)
      release [v, ov, iv] []) := by
  intro v
  cases b <;> first | rfl | cases h
theorem rG_ok (T : Tk X W c) (S : Snd X W (r c)) {e : Expr} {m : MG} (h : rG r c e = some m) : GG X W e m := by
  have hu := T.units
  cases e with
  | Name x p =>
    obtain ⟨i, e1, rfl⟩ := ap1_eq h
    exact gg_name (stName_ok T e1)
  | Tuple es k p =>
    obtain ⟨h1, h2⟩ := gd_eq h
    obtain ⟨gs, e1, rfl⟩ := ap1_eq h2
    exact gg_tup T.calm (S.gs _ _ e1) assign_len (assign_star h1)
  | Subscript a b p =>
    obtain ⟨h1, h2⟩ := gd_eq h
    obtain ⟨ma, mb, e1, e2, rfl⟩ := ap2_eq h2
    exact gg_sub (by omega) (S.e _ _ e1) (S.e _ _ e2) (assign_sub h1)
  | _ => cases h
def rGs (v : Ev) (es : List Expr) : Option MGs := match es with
  | [] => some gNl
  | e :: es => gd (plainE e) (ap2 gCn (v.g e) (v.gs es))
theorem rGs_ok {v : Ev} (S : Snd X W v) {es : List Expr} {m : MGs} (h : rGs v es = some m) : GGs X W es m := by
  cases es with
  | nil => cases h; exact ggs_nil
  | cons e es =>
    obtain ⟨h1, h2⟩ := gd_eq h
    obtain ⟨g, gs, e1, e2, rfl⟩ := ap2_eq h2
    exact ggs_cons (S.g _ _ e1) (S.gs _ _ e2) (by rw [assign_cons h1]; rfl)

/-! ### statements -/
def locNm (c : Ctx) (x : Str) : Option Nat := gd (c.sc.names.lookup x == some .local) (slotOf c.N x)
theorem locNm_ok (T : Tk X W c) {x : Str} {i : Nat} (h : locNm c x = some i) : X.env.scope.names.lookup x = some .local ∧ X.N[i]? = some x := by
  obtain ⟨h1, h2⟩ := gd_eq h
  exact ⟨by rw [T.sc]; simpa using h1, by rw [T.N]; exact slotOf_ok h2⟩
def rPar (v : Ev) (c : Ctx) (ns : List Str) (t e : Expr) : Option SS := match t, e with
  | .Tuple [.Name x _, .Name y _] _ _, .Tuple [a, b] _ _ => match locNm c x, locNm c y with
    | some i, some j => gd (decide (i ≠ j) && decide (ns = [x, y])) (ap1 (sPar2 i j) (v.a [a, b]))
    | _, _ => none
  | .Tuple [.Name x _, .Name y _, .Name z _] _ _, .Tuple [a, b, d] _ _ => match locNm c x, locNm c y, locNm c z with
    | some i, some j, some k => gd (decide (i ≠ j) && decide (i ≠ k) && decide (j ≠ k) && decide (ns = [x, y, z])) (ap1 (sPar3 i j k) (v.a [a, b, d]))
    | _, _, _ => none
  | _, _ => none
theorem rPar_ok (T : Tk X W c) {v : Ev} (S : Snd X W v) {ns : List Str} {t e : Expr} {m : SS} {pos : Pos} (hw : swappedStores [t] e X.env = pure (some ns)) (h : rPar v c ns t e = some m) : HS X W (.Assign [t] e pos) m := by
  have nd : X.N.Nodup := by rw [T.N]; exact T.nd
  unfold rPar at h
  split at h
  · split at h
    · rename_i e1 e2
      obtain ⟨h1, h2⟩ := gd_eq h
      obtain ⟨ra, e3, rfl⟩ := ap1_eq h2
      simp only [Bool.and_eq_true, decide_eq_true_eq] at h1
      obtain ⟨h1, rfl⟩ := h1
      obtain ⟨l1, n1⟩ := locNm_ok T e1
      obtain ⟨l2, n2⟩ := locNm_ok T e2
      exact hs_par T.calm nd n1 n2 h1 l1 l2 (S.a _ _ e3) hw
    · cases h
  · split at h
    · rename_i e1 e2 e4
      obtain ⟨h1, h2⟩ := gd_eq h
      obtain ⟨ra, e3, rfl⟩ := ap1_eq h2
      simp only [Bool.and_eq_true, decide_eq_true_eq] at h1
      obtain ⟨⟨⟨h1, h3⟩, h4⟩, rfl⟩ := h1
      obtain ⟨l1, n1⟩ := locNm_ok T e1
      obtain ⟨l2, n2⟩ := locNm_ok T e2
      obtain ⟨l3, n3⟩ := locNm_ok T e4
      exact hs_par3 T.calm nd n1 n2 n3 h1 h3 h4 l1 l2 l3 (S.a _ _ e3) hw
    · cases h
  · cases h
def rAsg (r : Ctx → Ev) (c : Ctx) (t e : Expr) : Option SS := match t with
  | .Name x py => match e with
    | .ListComp elt gs sc pos => gd (py.line == pos.line && c.sc.names.lookup x == some .local && !(sc.names.any fun (n, k) => n == x && (k == .local || k == .cell))) (match slotOf c.N x with
      | some i => ap1 (fun m => sAsg m (gNm i)) (rLc r c elt gs sc)
      | none => none)
    | e => gd (noComp e) (ap2 sAsg ((r c).e e) ((r c).g (.Name x py)))
  | t => match swapOf c.sc t e with
    | some none => gd (plainE t) (ap2 sAsg ((r c).e e) ((r c).g t))
    | some (some ns) => rPar (r c) c ns t e
    | none => none
theorem rAsg_ok (hr : Sound r) (T : Tk X W c) {t e : Expr} {m : SS} {pos : Pos} (h : rAsg r c t e = some m) : HS X W (.Assign [t] e pos) m := by
  have S := hr c X W T
  have hk : X.env.scope.kind = .function := by rw [T.sc]; exact T.kind
  have other : ∀ {t e : Expr} {m : SS}, notName t = true → (match swapOf c.sc t e with
      | some none => gd (plainE t) (ap2 sAsg ((r c).e e) ((r c).g t))
      | some (some ns) => rPar (r c) c ns t e
      | none => none) = some m → HS X W (.Assign [t] e pos) m := fun {t e m} hn h => by
    split at h
    · rename_i hw
      obtain ⟨h1, h2⟩ := gd_eq h
      obtain ⟨ma, g, e1, e2, rfl⟩ := ap2_eq h2
      exact hs_asg (S.e _ _ e1) (S.g _ _ e2) (swaps_notName hn) (swapOf_ok hk (by rw [T.sc]; exact hw)) (by rw [assign_cons h1]; rfl)
    · rename_i ns hw
      exact rPar_ok T S (swapOf_ok hk (by rw [T.sc]; exact hw)) h
    · cases h
  cases t with
  | Name x py =>
    have gen : ∀ {e : Expr} {m : SS}, gd (noComp e) (ap2 sAsg ((r c).e e) ((r c).g (.Name x py))) = some m → HS X W (.Assign [.Name x py] e pos) m := fun {e m} h => by
      obtain ⟨h1, h2⟩ := gd_eq h
      obtain ⟨ma, g, e1, e2, rfl⟩ := ap2_eq h2
      exact hs_asg (S.e _ _ e1) (S.g _ _ e2) (show swapsWith e (some (.Name x py)) pos.line X.env = pure false from swaps_no h1) (swapOf_ok hk rfl) rfl
    cases e with
    | ListComp elt gs sc p2 =>
      obtain ⟨h1, h2⟩ := gd_eq h
      simp only [Bool.and_eq_true, Bool.not_eq_true'] at h1
      obtain ⟨⟨b1, b2⟩, b3⟩ := h1
      have hl : X.env.scope.names.lookup x = some .local := by rw [T.sc]; simpa using b2
      split at h2
      · rename_i i hi
        obtain ⟨me, e1, rfl⟩ := ap1_eq h2
        obtain ⟨tg, it, ifs, t, mi, tt, me, rfl, rfl, h1, h2, h3, h4, h5⟩ := rLc_parts hr T e1
        exact hs_setLc T.calm (by rw [T.N]; exact T.nd) (by rw [T.N]; exact slotOf_ok hi) hl (sw_true hk hl b1 b3) h1 h2 h3 h4 h5
      · cases h2
    | _ => exact gen h
  | _ => exact other rfl h
def rS (r : Ctx → Ev) (c : Ctx) (s : Stmt) : Option SS := match s with
  | .Pass _ => some sNx
  | .Break _ => some sBk
  | .Continue _ => some sCt
  | .Return o _ => match o with
    | none => some (sRet (mC .non))
    | some e => ap1 sRet ((r c).e e)
  | .Expr e _ => match e with
    | .Constant (.str _) _ _ => some sNx
    | e => gd (noComp e) (ap1 sExpr ((r c).e e))
  | .If q a b _ => ap3 sIf ((r c).t q) ((r c).b a) ((r c).b b)
  | .While q a b _ => match b with
    | [] => gd c.cells.isNone (ap2 sWhile ((r c).t q) ((r c).b a))
    | _ => none
  | .For tg it a b _ => match b with
    | [] => gd (c.cells.isNone && noSet it) (ap3 sFor ((r c).i tg it) ((r c).g tg) ((r c).b a))
    | _ => none
  | .AugAssign t op e _ => match t with
    | .Name x _ => match stName c x with
      | some i => ap2 (sAug i) (rAug op) ((r c).e e)
      | none => none
    | _ => none
  | .Assign ts e _ => match ts with
    | [t] => rAsg r c t e
    | _ => none
  | _ => none
theorem rS_ok (hr : Sound r) (T : Tk X W c) {s : Stmt} {m : SS} (h : rS r c s = some m) : HS X W s m := by
  have S := hr c X W T
  cases s with
  | Pass p => cases h; exact hs_pass
  | Break p => cases h; exact hs_break
  | Continue p => cases h; exact hs_continue
  | Return o p =>
    cases o with
    | none => cases h; exact hs_retN
    | some e =>
      obtain ⟨ma, e1, rfl⟩ := ap1_eq h
      exact hs_ret (S.e _ _ e1)
  | Expr e p =>
    simp only [rS] at h
    split at h
    · cases h; exact hs_doc
    · obtain ⟨h1, h2⟩ := gd_eq h
      obtain ⟨ma, e1, rfl⟩ := ap1_eq h2
      exact hs_expr (S.e _ _ e1) (swaps_no h1)
  | If q a b p =>
    obtain ⟨mq, ma, mb, e1, e2, e3, rfl⟩ := ap3_eq h
    exact hs_if (S.t _ _ e1) (S.b _ _ e2) (S.b _ _ e3)
  | While q a b p =>
    simp only [rS] at h
    split at h
    · obtain ⟨h1, h2⟩ := gd_eq h
      obtain ⟨mq, ma, e1, e2, rfl⟩ := ap2_eq h2
      exact hs_while (T.own (by simpa using h1)) (S.t _ _ e1) (S.b _ _ e2)
    · cases h
  | For tg it a b p =>
    simp only [rS] at h
    split at h
    · obtain ⟨h1, h2⟩ := gd_eq h
      obtain ⟨mi, g, ma, e1, e2, e3, rfl⟩ := ap3_eq h2
      rw [Bool.and_eq_true] at h1
      exact hs_for (T.own (by simpa using h1.1)) T.calm (S.i _ _ _ e1) (S.g _ _ e2) (S.b _ _ e3) (noSet_ok h1.2)
    · cases h
  | AugAssign t op e p =>
    cases t with
    | Name x p2 =>
      simp only [rS] at h
      split at h
      · rename_i i hi
        obtain ⟨f, ma, e1, e2, rfl⟩ := ap2_eq h
        obtain ⟨h1, h2⟩ := gd_eq hi
        rw [Bool.and_eq_true] at h1
        refine hs_aug (by rw [T.N]; exact T.nd) (by rw [T.N]; exact slotOf_ok h2) ?_ (S.e _ _ e2) (rAug_ok e1) (T.fnl h1.2)
        unfold L2.Loc
        rw [T.sc]
        simpa using h1.1
      · cases h
    | _ => cases h
  | Assign ts e p =>
    simp only [rS] at h
    split at h
    · exact rAsg_ok hr T h
    · cases h
  | _ => cases h
def rB (v : Ev) (ss : List Stmt) : Option SS := match ss with
  | [] => some sNx
  | s :: ss => match ss with
    | [] => v.s s
    | s2 :: ss => ap2 sSeq (v.s s) (v.b (s2 :: ss))
theorem rB_ok {v : Ev} (S : Snd X W v) {ss : List Stmt} {m : SS} (h : rB v ss = some m) : HSs X W ss m := by
  cases ss with
  | nil => cases h; exact hss_nil
  | cons s ss =>
    cases ss with
    | nil => exact hss_one (S.s _ _ h)
    | cons s2 ss =>
      obtain ⟨m1, m2, e1, e2, rfl⟩ := ap2_eq h
      exact hss_cons (S.s _ _ e1) (S.b _ _ e2)
end

/-! ### the reader -/
def step (r : Ctx → Ev) (c : Ctx) : Ev where
  e := rE r c
  t := rT (r c)
  w := rW (r c)
  a := rA (r c)
  o := rO (r c)
  i := rI r c
  g := rG r c
  gs := rGs (r c)
  kw := rKw (r c)
  s := rS r c
  b := rB (r c)
def ev : Nat → Ctx → Ev
  | 0 => fun _ => ⟨fun _ => none, fun _ => none, fun _ => none, fun _ => none, fun _ => none, fun _ _ => none, fun _ => none, fun _ => none, fun _ => none, fun _ => none, fun _ => none⟩
  | n + 1 => step (ev n)
theorem step_ok {r : Ctx → Ev} (hr : Sound r) : Sound (step r) := fun c X W T =>
  have S := hr c X W T
  ⟨fun _ _ h => rE_ok hr T h, fun _ _ h => rT_ok T S h, fun _ _ h => rW_ok S h, fun _ _ h => rA_ok S h, fun _ _ h => rO_ok S h, fun _ _ _ h => rI_ok T S h, fun _ _ h => rG_ok T S h, fun _ _ h => rGs_ok S h, fun _ _ h => rKw_ok S h, fun _ _ h => rS_ok hr T h, fun _ _ h => rB_ok S h⟩
theorem ev_ok : ∀ n, Sound (ev n)
  | 0 => fun _ _ _ _ => ⟨fun _ _ h => (nomatch h), fun _ _ h => (nomatch h), fun _ _ h => (nomatch h), fun _ _ h => (nomatch h), fun _ _ h => (nomatch h), fun _ _ _ h => (nomatch h), fun _ _ h => (nomatch h), fun _ _ h => (nomatch h), fun _ _ h => (nomatch h), fun _ _ h => (nomatch h), fun _ _ h => (nomatch h)⟩
  | n + 1 => step_ok (ev_ok n)
end G

/-! G21: a program's defs as runs, all at once. -/
namespace G
open PySem L2 PySem.Spec PyProof.Rows RZ

abbrev CallF := Str → List D → Store → R D
structure DefE where
  name : Str
  st : Stmt
  N : List Str
  ps : List Str
  pats : List (Nat × List Str × List Nat)
  body : CallF → SS
def findD : List DefE → Str → Option DefE
  | [], _ => none
  | d :: l, x => if d.name = x then some d else findD l x
theorem findD_mem : ∀ {T : List DefE} {x : Str} {d : DefE}, findD T x = some d → d ∈ T ∧ d.name = x
  | d :: l, x, e, h => by
    unfold findD at h
    split at h
    · rename_i hx
      cases h
      exact ⟨List.mem_cons_self, hx⟩
    · obtain ⟨a, b⟩ := findD_mem (T := l) h
      exact ⟨List.mem_cons_of_mem _ a, b⟩
/-- the program's calls, to the depth n -/
def runT (T : List DefE) : Nat → CallF
  | 0, _ => fun _ _ => .fail
  | n + 1, x => match findD T x with
    | some d => runF d.N.length (d.body (runT T n))
    | none => fun _ _ => .fail
def fnsOf : List DefE → List (Str × FnE)
  | [] => []
  | d :: l => (d.name, ⟨d.ps, d.pats⟩) :: fnsOf l
theorem fnsOf_look : ∀ {T : List DefE} {x : Str} {fe : FnE}, (fnsOf T).lookup x = some fe → ∃ d, findD T x = some d ∧ fe = ⟨d.ps, d.pats⟩
  | d :: l, x, fe, h => by
    unfold fnsOf at h
    rw [List.lookup_cons] at h
    unfold findD
    split at h
    · rename_i e
      cases h
      rw [if_pos (by simpa using (beq_iff_eq.mp e).symm)]
      exact ⟨d, rfl, rfl⟩
    · rename_i e
      have hn : ¬ d.name = x := fun z => by
        rw [z] at e
        simp at e
      rw [if_neg hn]
      exact fnsOf_look h
def ctxOf (fs : List (Str × FnE)) (blt : List Str) (N : List Str) (sc : Scope) (k : Nat) (call : CallF) : Ctx := ⟨N, sc, none, k, blt, fs, call⟩
/-- what is known of a def's object -/
structure Fact (K : PySem.W.Frag) (mg : Str → Option Value) (d : DefE) : Prop where
  ex : ∃ f fd, L2.Fun K d.name d.name d.st f fd ∧ mg d.name = some (.ref f) ∧ Binds K fd d.ps [] ∧ ∀ n ks perm, (n, ks, perm) ∈ d.pats → perm.length = d.ps.length ∧ BindP K fd d.ps n ks perm
def scopeC (N ps : List Str) (sc : Scope) : Bool :=
  decide (sc.kind = .function) && !sc.isCoroutine && !sc.isGenerator && decide N.Nodup && decide (N.take ps.length = ps) && ps.all (fun x => sc.names.lookup x == some .local || sc.names.lookup x == some .cell) && sc.names.all (fun y => y.2 != .free)
theorem scopeC_ok {N ps : List Str} {sc : Scope} (h : scopeC N ps sc = true) : FnScope N ps sc := by
  unfold scopeC at h
  simp only [Bool.and_eq_true, decide_eq_true_eq, Bool.not_eq_true', List.all_eq_true, Bool.or_eq_true, beq_iff_eq, bne_iff_ne, ne_eq] at h
  obtain ⟨⟨⟨⟨⟨⟨h1, h2⟩, h3⟩, h4⟩, h5⟩, h6⟩, h7⟩ := h
  exact ⟨h1, h2, h3, h4, h5, h6, h7⟩
/-- the text of a def reads as its run -/
structure Reads1 (fs : List (Str × FnE)) (blt : List Str) (d : DefE) : Prop where
  sc : scopeC d.N d.ps (defScope d.st) = true
  body : ∃ n, ∀ k call, (ev n (ctxOf fs blt d.N (defScope d.st) k call)).b (defBody d.st) = some (d.body call)
section
variable {P : Program} {w : World} {K : PySem.W.Frag} {mg : Str → Option Value} {base : Heap} {T : List DefE} {blt : List Str}
theorem tab_ok (hT : ∀ d ∈ T, Fact K mg d ∧ Reads1 (fnsOf T) blt d) (hb : ∀ x, blt.contains x = true → mg x = none) : ∀ (n : Nat) (x : Str) (d : DefE), findD T x = some d →
    ∃ f fd, FnG P w K mg base n f fd d.ps (spG K mg d.ps.length (runT T n x)) ∧ mg x = some (.ref f) ∧ PySem.W.keepIn K (.ref f) = true ∧ Binds K fd d.ps [] ∧ ∀ m ks perm, (m, ks, perm) ∈ d.pats → perm.length = d.ps.length ∧ BindP K fd d.ps m ks perm
  | 0, x, d, h => by
    obtain ⟨hm, rfl⟩ := findD_mem h
    obtain ⟨⟨f, fd, F, g, b, p⟩⟩ := (hT d hm).1
    refine ⟨f, fd, ⟨fun _ _ _ _ z => z.1, fun A out s H ar us vs Q E _ _ _ _ _ ⟨_, _, _, _, _, _, z⟩ => ?_⟩, g, F.kp, b, p⟩
    exact z.elim
  | n + 1, x, d, h => by
    have ih := tab_ok hT hb n
    obtain ⟨hm, hx⟩ := findD_mem h
    subst hx
    obtain ⟨⟨f, fd, F, g, b, p⟩, R⟩ := hT d hm
    refine ⟨f, fd, ?_, g, F.kp, b, p⟩
    obtain ⟨oc, od, kV, doc, pm, an, cdv, ct, osl, rfl, lk, hcd⟩ := F.ex
    obtain ⟨sc, nn, bd⟩ := R
    have S := scopeC_ok sc
    show FnG P w K mg base (n + 1) f _ d.ps (spG K mg d.ps.length (match findD T d.name with
      | some d => runF d.N.length (d.body (runT T n))
      | none => fun _ _ => .fail))
    rw [h]
    refine fnG_run lk hcd S fun A out s H E hg room => ?_
    refine (ev_ok nn (ctxOf (fnsOf T) blt d.N (defScope d.st) n (runT T n)) _ (fun c d _ H => E c d H) ?_).b _ _ (bd n (runT T n))
    exact {
      calm := rfl
      N := rfl
      nd := S.nd
      sc := rfl
      kind := S.kind
      guards := hg
      room := room
      takes := takes_of rfl rfl rfl rfl
      fn := fun _ => rfl
      own := fun _ => passes_of rfl
      blt := hb
      fns := fun x fe hf => by
        obtain ⟨d', h1, rfl⟩ := fnsOf_look hf
        exact ⟨ih x d' h1⟩ }
end
/-- how keywords bind, by a computation -/
theorem bindP_of {K : PySem.W.Frag} {x : Str} {st : Stmt} {f : Addr} {fd : FuncData} {ps ks : List Str} {n : Nat} {perm : List Nat} (F : L2.Fun K x x st f fd)
    (h : ∀ (kV doc pm : Value) (an : Option Addr) (cdv ct : Value) (us ws : List Value), us.length = n → ws.length = ks.length →
      bindArgs (PySem.W.fnOf x x (defArgs st) (defBody st) (defScope st) .none kV doc pm an cdv ct) ⟨us, ks.zip ws⟩ = pure (ps.zip (pick perm (us ++ ws)))) : BindP K fd ps n ks perm := by
  obtain ⟨oc, od, kV, doc, pm, an, cdv, ct, osl, rfl, lk, hcd⟩ := F.ex
  exact fun s us ws _ h1 h2 => .of_eq (h kV doc pm an cdv ct us ws h1 h2)
end G

/-! M1: how runs are reasoned about: what is wanted, taken backwards through a run. No program in sight. -/
namespace G
open PySem

section
variable {α β : Type}
/-- the run ends well with Q, or in an exception with E -/
def Go (r : R α) (Q : α → Store → Prop) (E : Exn → Store → Prop) : Prop := match r with
  | .ok a st => Q a st
  | .exc e st => E e st
  | .fail => False
def GoS (r : R FL) (Q : FL → Store → Prop) : Prop := match r with
  | .ok f st => Q f st
  | _ => False
def GoO (o : Option (D × Store)) (Q : D → Store → Prop) : Prop := match o with
  | some p => Q p.1 p.2
  | none => False
/-- what an option holds -/
def GoV (o : Option α) (Q : α → Prop) : Prop := match o with
  | some a => Q a
  | none => False
theorem go_ok {a : α} {st : Store} {Q : α → Store → Prop} {E : Exn → Store → Prop} : Go (.ok a st) Q E = Q a st := rfl
theorem go_exc {e : Exn} {st : Store} {Q : α → Store → Prop} {E : Exn → Store → Prop} : Go (.exc e st) Q E = E e st := rfl
theorem goF {Q : α → Store → Prop} {E : Exn → Store → Prop} : Go .fail Q E = False := rfl
theorem go_bind {r : R α} {k : α → Store → R β} {Q : β → Store → Prop} {E : Exn → Store → Prop} : Go (r.bind k) Q E = Go r (fun a st => Go (k a st) Q E) E := by
  cases r <;> rfl
theorem go_lift {o : Option (D × Store)} {Q : D → Store → Prop} {E : Exn → Store → Prop} : Go (lift o) Q E = GoO o Q := by
  cases o <;> rfl
theorem goO_some {d : D} {st : Store} {Q : D → Store → Prop} : GoO (some (d, st)) Q = Q d st := rfl
theorem goV_some {a : α} {Q : α → Prop} : GoV (some a) Q = Q a := rfl
theorem goS_ok {f : FL} {st : Store} {Q : FL → Store → Prop} : GoS (.ok f st) Q = Q f st := rfl
theorem goS_eb {r : R α} {σ : Sig} {k : α → Store → R FL} {Q : FL → Store → Prop} : GoS (eb r σ k) Q = Go r (fun a st => GoS (k a st) Q) (fun e st => Q (.xc e σ) st) := by
  cases r <;> rfl
theorem Go.mono {r : R α} {Q Q' : α → Store → Prop} {E E' : Exn → Store → Prop} (h : Go r Q E) (q : ∀ a st, Q a st → Q' a st) (x : ∀ e st, E e st → E' e st) : Go r Q' E' := by
  cases r with
  | ok a st => exact q a st h
  | exc e st => exact x e st h
  | fail => exact h
/-- no exception -/
def NoE : Exn → Store → Prop := fun _ _ => False
theorem Go.to {r : R α} {Q Q' : α → Store → Prop} {E : Exn → Store → Prop} (h : Go r Q NoE) (q : ∀ a st, Q a st → Q' a st) : Go r Q' E := h.mono q fun _ _ z => z.elim
theorem GoS.mono {r : R FL} {Q Q' : FL → Store → Prop} (h : GoS r Q) (q : ∀ f st, Q f st → Q' f st) : GoS r Q' := by
  cases r with
  | ok a st => exact q a st h
  | exc e st => exact h
  | fail => exact h
theorem GoO.mono {o : Option (D × Store)} {Q Q' : D → Store → Prop} (h : GoO o Q) (q : ∀ d st, Q d st → Q' d st) : GoO o Q' := by
  cases o with
  | none => exact h
  | some p => exact q _ _ h
theorem Go.of_run {r : R α} {Q : α → Store → Prop} (h : Go r Q NoE) : ∃ a st, r = .ok a st ∧ Q a st := by
  cases r with
  | ok a st => exact ⟨a, st, rfl, h⟩
  | exc e st => exact h.elim
  | fail => exact h.elim
end

/-! ### expressions, backwards -/
section
variable {σ : Sig} {st : Store} {Q : D → Store → Prop} {E : Exn → Store → Prop} {a b c : ME} {i : Nat}
theorem go_c {d : D} : Go (mC d σ st) Q E = Q d st := rfl
theorem go_var : Go (mVar i σ st) Q E = GoV σ[i]? fun o => GoV o fun d => Q d st := by
  unfold mVar GoV
  split
  · rename_i d h
    rw [h]; rfl
  · rename_i h
    cases e : σ[i]? with
    | none => rfl
    | some o => cases o with
      | none => rfl
      | some d => exact (h d e).elim
theorem go_bin {f : Op2} : Go (mBin f a b σ st) Q E = Go (a σ st) (fun x st1 => Go (b σ st1) (fun y st2 => GoO (f x y st2) Q) E) E := by
  unfold mBin
  simp only [go_bind, go_lift]
theorem go_un {f : Op1} : Go (mUn f a σ st) Q E = Go (a σ st) (fun x st1 => GoO (f x st1) Q) E := by
  unfold mUn
  simp only [go_bind, go_lift]
theorem go_bl {Q : Bool → Store → Prop} : Go (mBl a σ st) Q E = Go (a σ st) (fun d st1 => match d with | .bl k => Q k st1 | _ => False) E := by
  unfold mBl
  rw [go_bind]
  congr 1
  funext d st1
  cases d <;> rfl
theorem go_tru {Q : Bool → Store → Prop} : Go (mTru a σ st) Q E = Go (a σ st) (fun d st1 => GoV (truD d st1) fun k => Q k st1) E := by
  unfold mTru
  rw [go_bind]
  congr 1
  funext d st1
  cases truD d st1 <;> rfl
theorem go_nt {t : MT} {Q : Bool → Store → Prop} : Go (tNt t σ st) Q E = Go (t σ st) (fun k st1 => Q (!k) st1) E := by
  unfold tNt
  rw [go_bind]; rfl
theorem go_an {t u : MT} {Q : Bool → Store → Prop} : Go (tAn t u σ st) Q E = Go (t σ st) (fun k st1 => cond k (Go (u σ st1) Q E) (Q false st1)) E := by
  unfold tAn
  rw [go_bind]
  congr 1
  funext k st1
  cases k <;> rfl
theorem go_oo {t u : MT} {Q : Bool → Store → Prop} : Go (tOo t u σ st) Q E = Go (t σ st) (fun k st1 => cond k (Q true st1) (Go (u σ st1) Q E)) E := by
  unfold tOo
  rw [go_bind]
  congr 1
  funext k st1
  cases k <;> rfl
theorem go_mAn : Go (mAn a b σ st) Q E = Go (a σ st) (fun d st1 => GoV (truD d st1) fun k => cond k (Go (b σ st1) Q E) (Q d st1)) E := by
  unfold mAn
  rw [go_bind]
  congr 1
  funext d st1
  cases truD d st1 with
  | none => rfl
  | some k => cases k <;> rfl
theorem go_mOo : Go (mOo a b σ st) Q E = Go (a σ st) (fun d st1 => GoV (truD d st1) fun k => cond k (Q d st1) (Go (b σ st1) Q E)) E := by
  unfold mOo
  rw [go_bind]
  congr 1
  funext d st1
  cases truD d st1 with
  | none => rfl
  | some k => cases k <;> rfl
theorem go_mNt : Go (mNt a σ st) Q E = Go (a σ st) (fun d st1 => GoV (truD d st1) fun k => Q (.bl (!k)) st1) E := by
  unfold mNt
  rw [go_bind]
  congr 1
  funext d st1
  cases truD d st1 <;> rfl
theorem go_if {t : MT} : Go (mIf t a b σ st) Q E = Go (t σ st) (fun k st1 => cond k (Go (a σ st1) Q E) (Go (b σ st1) Q E)) E := by
  unfold mIf
  rw [go_bind]
  congr 1
  funext k st1
  cases k <;> rfl
theorem go_chain {f g : Op2} : Go (mChain f g a b c σ st) Q E = Go (a σ st) (fun x st1 => Go (b σ st1) (fun y st2 => GoO (f x y st2) fun z st3 => match z with
    | .bl true => Go (c σ st3) (fun z st4 => GoO (g y z st4) Q) E
    | .bl false => Q (.bl false) st3
    | _ => False) E) E := by
  unfold mChain
  rw [go_bind]
  congr 1
  funext x st1
  rw [go_bind]
  congr 1
  funext y st2
  cases f x y st2 with
  | none => rfl
  | some p =>
    obtain ⟨z, st3⟩ := p
    cases z with
    | bl k => cases k with
      | true =>
        show Go ((c σ st3).bind fun z st4 => lift (g y z st4)) Q E = Go (c σ st3) (fun z st4 => GoO (g y z st4) Q) E
        simp only [go_bind, go_lift]
      | false => rfl
    | _ => rfl
theorem go_aNil {Q : List D → Store → Prop} : Go (aNil σ st) Q E = Q [] st := rfl
theorem go_aCons {r : MA} {Q : List D → Store → Prop} : Go (aCons a r σ st) Q E = Go (a σ st) (fun d st1 => Go (r σ st1) (fun ds st2 => Q (d :: ds) st2) E) E := by
  unfold aCons
  simp only [go_bind, go_ok]
theorem go_tup {r : MA} : Go (mTup r σ st) Q E = Go (r σ st) (fun ds st1 => ds.length ≤ sizeLine ∧ Q (.tup ds) st1) E := by
  unfold mTup
  rw [go_bind]
  congr 1
  funext ds st1
  by_cases h : ds.length ≤ sizeLine
  · rw [if_pos h]; simp [h, go_ok]
  · rw [if_neg h]; simp [h, goF]
theorem go_lst {r : MA} : Go (mLst r σ st) Q E = Go (r σ st) (fun ds st1 => ds.length ≤ sizeLine ∧ Q (.loc st1.length) (st1 ++ [.lst ds])) E := by
  unfold mLst
  rw [go_bind]
  congr 1
  funext ds st1
  by_cases h : ds.length ≤ sizeLine
  · rw [if_pos h]; simp [h, go_ok]
  · rw [if_neg h]; simp [h, goF]
theorem go_dict0 : Go (mDict0 σ st) Q E = Q (.loc st.length) (st ++ [.dct []]) := rfl
theorem go_cb {g : OpN} {r : MA} : Go (mCB g r σ st) Q E = Go (r σ st) (fun ds st1 => GoO (g ds st1) Q) E := by
  unfold mCB
  simp only [go_bind, go_lift]
theorem go_bm {T : Ty} {g : D → OpN} {r : MA} : Go (mBM T g a r σ st) Q E = Go (a σ st) (fun x st1 => (tyD x st1 = some T ∧ (T = .str ∨ T = .lst ∨ T = .dct)) ∧ Go (r σ st1) (fun ds st2 => GoO (g x ds st2) Q) E) E := by
  unfold mBM
  rw [go_bind]
  congr 1
  funext x st1
  by_cases h : tyD x st1 = some T ∧ (T = .str ∨ T = .lst ∨ T = .dct)
  · rw [if_pos h]; simp [h, go_bind, go_lift]
  · rw [if_neg h]; simp [h, goF]
theorem go_sl {l h : MO} : Go (mSl a l h σ st) Q E = Go (a σ st) (fun x st1 => Go (l σ st1) (fun lo st2 => Go (h σ st2) (fun hi st3 => GoO (slD x lo hi st3) Q) E) E) E := by
  unfold mSl
  simp only [go_bind, go_lift]
theorem go_sl3 {l h : MO} {k : ME} : Go (mSl3 a l h k σ st) Q E = Go (a σ st) (fun x st1 => Go (l σ st1) (fun lo st2 => Go (h σ st2) (fun hi st3 => Go (k σ st3) (fun k st4 => match k with
    | .int k => GoO (sl3D x lo hi k st4) Q
    | _ => False) E) E) E) E := by
  unfold mSl3
  simp only [go_bind]
  congr 1
  funext x st1
  congr 1
  funext lo st2
  congr 1
  funext hi st3
  congr 1
  funext k st4
  cases k <;> first | rfl | exact go_lift
theorem go_oNone {Q : Option Int → Store → Prop} : Go (oNone σ st) Q E = Q none st := rfl
theorem go_oSome {Q : Option Int → Store → Prop} : Go (oSome a σ st) Q E = Go (a σ st) (fun d st1 => match d with | .int i => Q (some i) st1 | _ => False) E := by
  unfold oSome
  rw [go_bind]
  congr 1
  funext d st1
  cases d <;> rfl
theorem go_callP {n : Nat} {F : List D → Store → R D} {r : MA} : Go (mCallP n F r σ st) Q E = Go (r σ st) (fun ds st1 => ds.length = n ∧ Go (F ds st1) Q E) E := by
  unfold mCallP
  rw [go_bind]
  congr 1
  funext ds st1
  by_cases h : ds.length = n
  · rw [if_pos h]; simp [h]
  · rw [if_neg h]; simp [h, goF]
theorem go_call {n q : Nat} {perm : List Nat} {F : List D → Store → R D} {r s : MA} : Go (mCall n q perm F r s σ st) Q E = Go (r σ st) (fun ds st1 => Go (s σ st1) (fun es st2 => (ds.length = n ∧ es.length = q ∧ (pick perm (ds ++ es)).length = perm.length) ∧ Go (F (pick perm (ds ++ es)) st2) Q E) E) E := by
  unfold mCall
  simp only [go_bind]
  congr 1
  funext ds st1
  congr 1
  funext es st2
  by_cases h : ds.length = n ∧ es.length = q ∧ (pick perm (ds ++ es)).length = perm.length
  · rw [if_pos h]; simp [h]
  · rw [if_neg h]; simp [h, goF]
theorem go_lc {mi : MI} {t : Tg1} {tt : MT} {te : ME} {vs : List Nat} : Go (mLc mi t tt te vs σ st) Q E = Go (mi σ st) (fun it st1 => GoV (lcM it t tt te st1.length (wipeD σ vs) LF 0 (st1 ++ [.lst []])) fun st2 => Q (.loc st1.length) st2) E := by
  unfold mLc
  rw [go_bind]
  congr 1
  funext it st1
  cases lcM it t tt te st1.length (wipeD σ vs) LF 0 (st1 ++ [.lst []]) <;> rfl
theorem go_tTrue {Q : Bool → Store → Prop} : Go (tTrue σ st) Q E = Q true st := rfl
/-! walks -/
theorem go_iAny {Q : ItD → Store → Prop} : Go (iAny a σ st) Q E = Go (a σ st) (fun d st1 => GoV (iterD d st1) fun it => Q it st1) E := by
  unfold iAny
  rw [go_bind]
  congr 1
  funext d st1
  cases iterD d st1 <;> rfl
theorem go_iRng1 {r : MA} {Q : ItD → Store → Prop} : Go (iRng1 r σ st) Q E = Go (r σ st) (fun ds st1 => match ds with
    | [.int j] => (-(2 ^ 62) ≤ j ∧ j < 2 ^ 62) ∧ Q (.rng 0 j.toNat) st1
    | _ => False) E := by
  unfold iRng1
  rw [go_bind]
  congr 1
  funext ds st1
  split
  · rename_i j
    by_cases h : -(2 ^ 62) ≤ j ∧ j < 2 ^ 62
    · rw [if_pos h]; simp only [h, go_ok, true_and, and_self]
    · rw [if_neg h]; simp only [h, goF, false_and]
  · rename_i h
    first
      | rfl
      | (split
         · exact (h _ rfl).elim
         · rfl)
theorem go_iRng2 {r : MA} {Q : ItD → Store → Prop} : Go (iRng2 r σ st) Q E = Go (r σ st) (fun ds st1 => match ds with
    | [.int i, .int j] => (-(2 ^ 62) ≤ i ∧ i < 2 ^ 62 ∧ -(2 ^ 62) ≤ j ∧ j < 2 ^ 62) ∧ Q (.rng i (j - i).toNat) st1
    | _ => False) E := by
  unfold iRng2
  rw [go_bind]
  congr 1
  funext ds st1
  split
  · rename_i i j
    by_cases h : -(2 ^ 62) ≤ i ∧ i < 2 ^ 62 ∧ -(2 ^ 62) ≤ j ∧ j < 2 ^ 62
    · rw [if_pos h]; simp only [h, go_ok, true_and, and_self]
    · rw [if_neg h]; simp only [h, goF, false_and]
  · rename_i h
    first
      | rfl
      | (split
         · exact (h _ _ rfl).elim
         · rfl)
theorem go_iEnm {r : MA} {Q : ItD → Store → Prop} : Go (iEnm r σ st) Q E = Go (r σ st) (fun ds st1 => match ds with
    | [.loc n] => GoV (lstAt st1 n) fun _ => Q (.enm n) st1
    | _ => False) E := by
  unfold iEnm
  rw [go_bind]
  congr 1
  funext ds st1
  split
  · rename_i n
    try dsimp only
    cases lstAt st1 n <;> rfl
  · rename_i h
    first
      | rfl
      | (split
         · exact (h _ rfl).elim
         · rfl)
theorem go_iZip {r : MA} {Q : ItD → Store → Prop} : Go (iZip r σ st) Q E = Go (r σ st) (fun ds st1 => match ds with
    | [.loc m, .loc n] => GoV (lstAt st1 m) fun _ => GoV (lstAt st1 n) fun _ => Q (.zll m n) st1
    | [.tup xs, .tup ys] => Q (.ztt xs ys) st1
    | _ => False) E := by
  unfold iZip
  rw [go_bind]
  congr 1
  funext ds st1
  split
  · rename_i m n
    try dsimp only
    cases lstAt st1 m with
    | none => rfl
    | some xs => cases lstAt st1 n <;> rfl
  · rfl
  · rename_i h h'
    first
      | rfl
      | (split
         · exact (h _ _ rfl).elim
         · exact (h' _ _ rfl).elim
         · rfl)
/-! targets -/
theorem go_gNm {d : D} {Q : Sig → Store → Prop} : Go (gNm i d σ st) Q E = Q (σ.set i (some d)) st := rfl
theorem go_gTp {n : Nat} {gs : MGs} {d : D} {Q : Sig → Store → Prop} : Go (gTp n gs d σ st) Q E = (match d with
    | .tup ds => ds.length = n ∧ Go (gs ds σ st) Q E
    | _ => False) := by
  cases d with
  | tup ds =>
    show Go (if ds.length = n then gs ds σ st else .fail) Q E = (ds.length = n ∧ Go (gs ds σ st) Q E)
    by_cases h : ds.length = n
    · rw [if_pos h]; simp [h]
    · rw [if_neg h]; simp [h, goF]
  | _ => rfl
theorem go_gNl {Q : Sig → Store → Prop} : Go (gNl [] σ st) Q E = Q σ st := rfl
theorem go_gCn1 {g : MG} {gs : MGs} {d : D} {ds : List D} {Q : Sig → Store → Prop} (hQ : ∀ e st, E e st → False) : Go (g d σ st) (fun σ1 st1 => Go (gs ds σ1 st1) Q E) E → Go (gCn g gs (d :: ds) σ st) Q E := fun h => by
  unfold gCn
  rw [go_bind]
  refine h.mono (fun σ1 st1 h1 => ?_) fun _ _ z => z
  cases e : gs ds σ1 st1 with
  | ok σ2 st2 => rw [e] at h1; exact h1
  | exc x y => rw [e] at h1; exact (hQ _ _ h1).elim
  | fail => rw [e] at h1; exact h1
theorem go_gSb {x : D} {Q : Sig → Store → Prop} : Go (gSb a b x σ st) Q E = Go (a σ st) (fun o st1 => Go (b σ st1) (fun k st2 => GoV (setD o k x st2) fun st3 => Q σ st3) E) E := by
  unfold gSb
  simp only [go_bind]
  congr 1
  funext o st1
  congr 1
  funext k st2
  cases setD o k x st2 <;> rfl
/-- a tuple's names -/
theorem go_gCn {g : Nat} {gs : MGs} {d : D} {ds : List D} {Q : Sig → Store → Prop} : Go (gCn (gNm g) gs (d :: ds) σ st) Q E = Go (match gs ds (σ.set g (some d)) st with
    | .ok σ2 st2 => (.ok σ2 st2 : R Sig)
    | _ => .fail) Q E := rfl
end

/-! ### statements, backwards -/
section
variable {σ : Sig} {st : Store} {Q : FL → Store → Prop} {a : ME} {m n : SS} {i j k : Nat}
theorem gs_nx : GoS (sNx σ st) Q = Q (.nx σ) st := rfl
theorem gs_bk : GoS (sBk σ st) Q = Q (.bk σ) st := rfl
theorem gs_ct : GoS (sCt σ st) Q = Q (.ct σ) st := rfl
/-- what comes behind a statement -/
def thenQ (n : SS) (Q : FL → Store → Prop) : FL → Store → Prop := fun f st1 => match f with
  | .nx σ1 => GoS (n σ1 st1) Q
  | f => Q f st1
theorem gs_seq : GoS (sSeq m n σ st) Q = GoS (m σ st) (thenQ n Q) := by
  unfold sSeq
  cases m σ st with
  | fail => rfl
  | exc e s => rfl
  | ok f s => cases f <;> rfl
theorem thenQ_nx : thenQ n Q (.nx σ) st = GoS (n σ st) Q := rfl
theorem thenQ_rt {d : D} : thenQ n Q (.rt d) st = Q (.rt d) st := rfl
theorem thenQ_bk : thenQ n Q (.bk σ) st = Q (.bk σ) st := rfl
theorem thenQ_ct : thenQ n Q (.ct σ) st = Q (.ct σ) st := rfl
theorem thenQ_xc {e : Exn} : thenQ n Q (.xc e σ) st = Q (.xc e σ) st := rfl
theorem gs_ret : GoS (sRet a σ st) Q = Go (a σ st) (fun d st1 => Q (.rt d) st1) (fun e st1 => Q (.xc e σ) st1) := by
  unfold sRet
  rw [goS_eb]; rfl
theorem gs_expr : GoS (sExpr a σ st) Q = Go (a σ st) (fun _ st1 => Q (.nx σ) st1) (fun e st1 => Q (.xc e σ) st1) := by
  unfold sExpr
  rw [goS_eb]; rfl
theorem gs_if {t : MT} : GoS (sIf t m n σ st) Q = Go (t σ st) (fun k st1 => cond k (GoS (m σ st1) Q) (GoS (n σ st1) Q)) (fun e st1 => Q (.xc e σ) st1) := by
  unfold sIf
  rw [goS_eb]
  congr 1
  funext k st1
  cases k <;> rfl
theorem gs_asg {g : MG} : GoS (sAsg a g σ st) Q = Go (a σ st) (fun d st1 => Go (g d σ st1) (fun σ1 st2 => Q (.nx σ1) st2) (fun e st2 => Q (.xc e σ) st2)) (fun e st1 => Q (.xc e σ) st1) := by
  unfold sAsg
  simp only [goS_eb, goS_ok]
theorem gs_par2 {r : MA} : GoS (sPar2 i j r σ st) Q = Go (r σ st) (fun ds st1 => match ds with
    | [x, y] => Q (.nx ((σ.set i (some x)).set j (some y))) st1
    | _ => False) (fun e st1 => Q (.xc e σ) st1) := by
  unfold sPar2
  rw [goS_eb]
  congr 1
  funext ds st1
  split
  · rfl
  · rename_i h
    first
      | rfl
      | (split
         · exact (h _ _ rfl).elim
         · rfl)
theorem gs_par3 {r : MA} : GoS (sPar3 i j k r σ st) Q = Go (r σ st) (fun ds st1 => match ds with
    | [x, y, z] => Q (.nx (((σ.set i (some x)).set j (some y)).set k (some z))) st1
    | _ => False) (fun e st1 => Q (.xc e σ) st1) := by
  unfold sPar3
  rw [goS_eb]
  congr 1
  funext ds st1
  split
  · rfl
  · rename_i h
    first
      | rfl
      | (split
         · exact (h _ _ _ rfl).elim
         · rfl)
theorem gs_aug {f : Op2} : GoS (sAug i f a σ st) Q = GoV σ[i]? fun o => GoV o fun x => Go (a σ st) (fun y st1 => GoO (f x y st1) fun z st2 => Q (.nx (σ.set i (some z))) st2) (fun e st1 => Q (.xc e σ) st1) := by
  unfold sAug
  cases e : σ[i]? with
  | none => rfl
  | some o => cases o with
    | none => rfl
    | some x =>
      dsimp only [GoV]
      rw [goS_eb]
      congr 1
      funext y st1
      cases f x y st1 <;> rfl
/-- a def's end -/
def retQ (Q : D → Store → Prop) (E : Exn → Store → Prop) : FL → Store → Prop := fun f st1 => match f with
  | .rt d => Q d st1
  | .nx _ => Q .non st1
  | .xc e _ => E e st1
  | _ => False
theorem go_runF {n : Nat} {ds : List D} {Q : D → Store → Prop} {E : Exn → Store → Prop} : Go (runF n m ds st) Q E = GoS (m (startD n ds) st) (retQ Q E) := by
  unfold runF
  cases m (startD n ds) st with
  | fail => rfl
  | exc e s => rfl
  | ok f s => cases f <;> rfl
theorem retQ_rt {d : D} {Q : D → Store → Prop} {E : Exn → Store → Prop} : retQ Q E (.rt d) st = Q d st := rfl
theorem retQ_nx {Q : D → Store → Prop} {E : Exn → Store → Prop} : retQ Q E (.nx σ) st = Q .non st := rfl
theorem retQ_xc {e : Exn} {Q : D → Store → Prop} {E : Exn → Store → Prop} : retQ Q E (.xc e σ) st = E e st := rfl

/-! ### loops -/
/-- what comes behind a turn: on with the next, out, or away -/
def turnQ (I : Sig → Store → Prop) (Q : FL → Store → Prop) : FL → Store → Prop := fun f st1 => match f with
  | .nx σ1 => I σ1 st1
  | .ct σ1 => I σ1 st1
  | .bk σ1 => Q (.nx σ1) st1
  | f => Q f st1
theorem turnQ_nx {I : Sig → Store → Prop} : turnQ I Q (.nx σ) st = I σ st := rfl
theorem turnQ_ct {I : Sig → Store → Prop} : turnQ I Q (.ct σ) st = I σ st := rfl
theorem turnQ_bk {I : Sig → Store → Prop} : turnQ I Q (.bk σ) st = Q (.nx σ) st := rfl
theorem turnQ_rt {I : Sig → Store → Prop} {d : D} : turnQ I Q (.rt d) st = Q (.rt d) st := rfl
theorem turnQ_xc {I : Sig → Store → Prop} {e : Exn} : turnQ I Q (.xc e σ) st = Q (.xc e σ) st := rfl
/-- for, by an invariant that knows the turn's number; N: turns enough -/
theorem forM_go {it : ItD} {g : MG} {b : SS} (I : Nat → Sig → Store → Prop) (N : Nat) (hN : ∀ i σ st, I i σ st → i ≤ N)
    (step : ∀ i σ st, I i σ st → GoV (itGet it i st) fun o => match o with
      | none => Q (.nx σ) st
      | some d => Go (g d σ st) (fun σ1 st1 => GoS (b σ1 st1) (turnQ (I (i + 1)) Q)) (fun e st1 => Q (.xc e σ) st1)) :
    ∀ (k i : Nat) (σ : Sig) (st : Store), I i σ st → N < i + k → GoS (forM it g b k i σ st) Q
  | 0, i, σ, st, h, hk => by have := hN i σ st h; omega
  | k + 1, i, σ, st, h, hk => by
    have s := step i σ st h
    have ih := forM_go I N hN step k (i + 1)
    show GoS (match itGet it i st with
      | none => .fail
      | some none => .ok (.nx σ) st
      | some (some d) => eb (g d σ st) σ fun σ1 st1 => match b σ1 st1 with
        | .ok (.nx σ2) st2 => forM it g b k (i + 1) σ2 st2
        | .ok (.ct σ2) st2 => forM it g b k (i + 1) σ2 st2
        | .ok (.bk σ2) st2 => .ok (.nx σ2) st2
        | r => r) Q
    cases e : itGet it i st with
    | none => rw [e] at s; exact s
    | some o =>
      rw [e] at s
      cases o with
      | none => exact s
      | some d =>
        show GoS (eb (g d σ st) σ _) Q
        rw [goS_eb]
        refine Go.mono s (fun σ1 st1 s1 => ?_) fun _ _ z => z
        cases e1 : b σ1 st1 with
        | fail => rw [e1] at s1; exact s1
        | exc x y => rw [e1] at s1; exact s1
        | ok f st2 =>
          rw [e1] at s1
          cases f with
          | nx σ2 => exact ih σ2 st2 s1 (by omega)
          | ct σ2 => exact ih σ2 st2 s1 (by omega)
          | bk σ2 => exact s1
          | rt d => exact s1
          | xc x σ2 => exact s1
theorem gs_for {mi : MI} {g : MG} {b : SS} : GoS (sFor mi g b σ st) Q = Go (mi σ st) (fun it st1 => GoS (forM it g b LF 0 σ st1) Q) (fun e st1 => Q (.xc e σ) st1) := by
  unfold sFor
  rw [goS_eb]
/-- while, by an invariant that knows how many turns are left at most -/
theorem whileM_go {t : MT} {b : SS} (I : Nat → Sig → Store → Prop)
    (step : ∀ m σ st, I m σ st → Go (t σ st) (fun k st1 => cond k (GoS (b σ st1) (turnQ (fun σ2 st2 => ∃ m', m' < m ∧ I m' σ2 st2) Q)) (Q (.nx σ) st1)) (fun e st1 => Q (.xc e σ) st1)) :
    ∀ (k m : Nat) (σ : Sig) (st : Store), I m σ st → m < k → GoS (whileM t b k σ st) Q
  | 0, m, σ, st, h, hk => by omega
  | k + 1, m, σ, st, h, hk => by
    have s := step m σ st h
    have ih := whileM_go I step k
    show GoS (eb (t σ st) σ _) Q
    rw [goS_eb]
    refine Go.mono s (fun c st1 s1 => ?_) fun _ _ z => z
    cases c with
    | false => exact s1
    | true =>
      show GoS (match b σ st1 with
        | .ok (.nx σ1) st2 => whileM t b k σ1 st2
        | .ok (.ct σ1) st2 => whileM t b k σ1 st2
        | .ok (.bk σ1) st2 => .ok (.nx σ1) st2
        | r => r) Q
      cases e1 : b σ st1 with
      | fail => rw [e1] at s1; exact s1
      | exc x y => rw [e1] at s1; exact s1
      | ok f st2 =>
        rw [e1] at s1
        cases f with
        | nx σ2 => obtain ⟨m', hm, h'⟩ := s1; exact ih m' σ2 st2 h' (by omega)
        | ct σ2 => obtain ⟨m', hm, h'⟩ := s1; exact ih m' σ2 st2 h' (by omega)
        | bk σ2 => exact s1
        | rt d => exact s1
        | xc x σ2 => exact s1
theorem gs_while {t : MT} {b : SS} : GoS (sWhile t b σ st) Q = GoS (whileM t b LF σ st) Q := rfl
/-- a comprehension, by an invariant that knows the turn's number and the list so far -/
theorem lcM_go {it : ItD} {t : Tg1} {tt : MT} {te : ME} {dn : Nat} {w : Sig} {P : Store → Prop} (I : Nat → List D → Store → Prop) (N : Nat) (hN : ∀ i acc st, I i acc st → i ≤ N ∧ lstAt st dn = some acc)
    (step : ∀ i acc st, I i acc st → GoV (itGet it i st) fun o => match o with
      | none => P st
      | some d => GoV (bindT t d w) fun σ2 => Go (tt σ2 st) (fun k st3 => cond k (Go (te σ2 st3) (fun y st4 => lstAt st4 dn = some acc ∧ acc.length < sizeLine ∧ I (i + 1) (acc ++ [y]) (st4.set dn (.lst (acc ++ [y])))) NoE) (I (i + 1) acc st3)) NoE) :
    ∀ (k i : Nat) (acc : List D) (st : Store), I i acc st → N < i + k → GoV (lcM it t tt te dn w k i st) P
  | 0, i, acc, st, h, hk => by have := (hN i acc st h).1; omega
  | k + 1, i, acc, st, h, hk => by
    have s := step i acc st h
    have ih := lcM_go I N hN step k (i + 1)
    cases e : itGet it i st with
    | none => rw [e] at s; exact s.elim
    | some o =>
      rw [e] at s
      cases o with
      | none => simp only [lcM, e]; exact s
      | some d =>
        have s : GoV (bindT t d w) _ := s
        cases e1 : bindT t d w with
        | none => rw [e1] at s; exact s.elim
        | some σ2 =>
          rw [e1] at s
          have s : Go (tt σ2 st) _ NoE := s
          cases e2 : tt σ2 st with
          | fail => rw [e2] at s; exact s.elim
          | exc x y => rw [e2] at s; exact s.elim
          | ok c st3 =>
            rw [e2] at s
            cases c with
            | false =>
              simp only [lcM, e, e1, e2]
              exact ih acc st3 s (by omega)
            | true =>
              have s : Go (te σ2 st3) _ NoE := s
              cases e3 : te σ2 st3 with
              | fail => rw [e3] at s; exact s.elim
              | exc x y => rw [e3] at s; exact s.elim
              | ok y st4 =>
                rw [e3] at s
                obtain ⟨h1, h2, h3⟩ := (s : lstAt st4 dn = some acc ∧ acc.length < sizeLine ∧ _)
                simp only [lcM, e, e1, e2, e3, h1, if_pos h2]
                exact ih _ _ h3 (by omega)
end
theorem gCn_eq {g : MG} {gs : MGs} {d : D} {ds : List D} {σ : Sig} {st : Store} : gCn g gs (d :: ds) σ st = (g d σ st).bind fun σ1 st1 => match gs ds σ1 st1 with
    | .ok σ2 st2 => .ok σ2 st2
    | _ => .fail := rfl
theorem gNm_eq {i : Nat} {d : D} {σ : Sig} {st : Store} : gNm i d σ st = .ok (σ.set i (some d)) st := rfl
theorem gNl_nil {σ : Sig} {st : Store} : gNl [] σ st = .ok σ st := rfl
theorem gTp_tup {n : Nat} {gs : MGs} {ds : List D} {σ : Sig} {st : Store} : gTp n gs (.tup ds) σ st = if ds.length = n then gs ds σ st else .fail := rfl
theorem goO_none {Q : D → Store → Prop} : GoO none Q = False := rfl
theorem goV_none {α : Type} {Q : α → Prop} : GoV none Q = False := rfl
theorem GoV.mono {α : Type} {o : Option α} {Q Q' : α → Prop} (h : GoV o Q) (q : ∀ a, Q a → Q' a) : GoV o Q' := by
  cases o with
  | none => exact h
  | some a => exact q a h
theorem goO_ite {c : Prop} [Decidable c] {d : D} {st : Store} {Q : D → Store → Prop} : GoO (if c then some (d, st) else none) Q = (c ∧ Q d st) := by
  by_cases h : c
  · rw [if_pos h]; simp [h, goO_some]
  · rw [if_neg h]; simp [h, GoO]
theorem goV_ite {α : Type} {c : Prop} [Decidable c] {a : α} {Q : α → Prop} : GoV (if c then some a else none) Q = (c ∧ Q a) := by
  by_cases h : c
  · rw [if_pos h]; simp [h, goV_some]
  · rw [if_neg h]; simp [h, GoV]
theorem goO_map {α : Type} {o : Option α} {f : α → D × Store} {Q : D → Store → Prop} : GoO (o.map f) Q = GoV o fun a => Q (f a).1 (f a).2 := by
  cases o <;> rfl
theorem goV_map {α β : Type} {o : Option α} {f : α → β} {Q : β → Prop} : GoV (o.map f) Q = GoV o fun a => Q (f a) := by
  cases o <;> rfl
theorem goV_bind {α β : Type} {o : Option α} {f : α → Option β} {Q : β → Prop} : GoV (o.bind f) Q = GoV o fun a => GoV (f a) Q := by
  cases o <;> rfl
end G

/-! M2: stores, frames; the hand that draws. -/
namespace G
open PySem L2

/-! ### lists in the store -/
theorem lstAt_lt {st : Store} {n : Nat} {xs : List D} (h : lstAt st n = some xs) : n < st.length := (List.getElem?_eq_some_iff.mp (lstAt_eq h)).1
theorem lstAt_of {st : Store} {n : Nat} {xs : List D} (h : st[n]? = some (.lst xs)) : lstAt st n = some xs := by
  unfold lstAt
  rw [h]
theorem lstAt_push {st : Store} {n : Nat} {c : Cell} {xs : List D} (h : lstAt st n = some xs) : lstAt (st ++ [c]) n = some xs :=
  lstAt_of (by rw [List.getElem?_append_left (lstAt_lt h)]; exact lstAt_eq h)
theorem lstAt_new {st : Store} {xs : List D} : lstAt (st ++ [.lst xs]) st.length = some xs := lstAt_of (by simp)
theorem lstAt_set {st : Store} {n : Nat} {xs : List D} (h : n < st.length) : lstAt (st.set n (.lst xs)) n = some xs := lstAt_of (by rw [List.getElem?_set_self h])
theorem lstAt_setNe {st : Store} {n m : Nat} {c : Cell} (h : n ≠ m) : lstAt (st.set n c) m = lstAt st m := by
  unfold lstAt
  rw [List.getElem?_set_ne h]
theorem lstD_loc {st : Store} {n : Nat} {xs : List D} (h : lstAt st n = some xs) : lstD (.loc n) st = some xs := by
  unfold lstD
  simp only [lstAt_eq h]
theorem dctW_lst {st : Store} {n : Nat} {xs : List D} (h : lstAt st n = some xs) : dctW st n = none := by
  unfold dctW
  simp only [lstAt_eq h]
theorem tyD_lst {st : Store} {n : Nat} {xs : List D} (h : lstAt st n = some xs) : tyD (.loc n) st = some .lst := by
  unfold tyD
  simp only [lstAt_eq h]
theorem opIx_lst {st : Store} {n : Nat} {xs : List D} {i : Int} (h : lstAt st n = some xs) : opIx (.loc n) (.int i) st = (atI xs i).map fun d => (d, st) := by
  simp only [opIx, dctW_lst h, lstD_loc h]
theorem setD_lst {st : Store} {n : Nat} {xs : List D} {i : Int} {v : D} (h : lstAt st n = some xs) : setD (.loc n) (.int i) v st = (ixN xs.length i).map fun j => st.set n (.lst (xs.set j v)) := by
  simp only [setD, h]
theorem truD_lst {st : Store} {n : Nat} {xs : List D} (h : lstAt st n = some xs) : truD (.loc n) st = some !xs.isEmpty := by
  simp only [truD, lstD_loc h, Option.map_some]
theorem bLen_lst {st : Store} {n : Nat} {xs : List D} (h : lstAt st n = some xs) : bLen [.loc n] st = some (.int xs.length, st) := by
  simp only [bLen, h]
theorem iterD_lst {st : Store} {n : Nat} {xs : List D} (h : lstAt st n = some xs) : iterD (.loc n) st = some (.lst n) := by
  simp only [iterD, h, Option.map_some]

theorem itGet_lst {st : Store} {n i : Nat} {xs : List D} (h : lstAt st n = some xs) : itGet (.lst n) i st = some xs[i]? := by
  show (lstAt st n).map _ = _
  rw [h]; rfl
theorem itGet_enm {st : Store} {n i : Nat} {xs : List D} (h : lstAt st n = some xs) : itGet (.enm n) i st = some ((xs[i]?).map fun d => .tup [.int i, d]) := by
  show (lstAt st n).map _ = _
  rw [h]; rfl
theorem itGet_rng {st : Store} {lo : Int} {n i : Nat} : itGet (.rng lo n) i st = some (if i < n then some (.int (lo + i)) else none) := rfl
theorem itGet_seq {st : Store} {xs : List D} {i : Nat} : itGet (.seq xs) i st = some xs[i]? := rfl

/-! ### frames -/
structure Fr (F : Nat → Prop) (st st' : Store) : Prop where
  le : st.length ≤ st'.length
  keep : ∀ n, n < st.length → ¬ F n → st'[n]? = st[n]?
theorem Fr.refl {F : Nat → Prop} {st : Store} : Fr F st st := ⟨Nat.le_refl _, fun _ _ _ => rfl⟩
theorem Fr.trans {F : Nat → Prop} {a b c : Store} (h : Fr F a b) (k : Fr F b c) : Fr F a c :=
  ⟨Nat.le_trans h.le k.le, fun n hn hf => (k.keep n (Nat.lt_of_lt_of_le hn h.le) hf).trans (h.keep n hn hf)⟩
theorem Fr.push {F : Nat → Prop} {st : Store} {c : Cell} : Fr F st (st ++ [c]) := ⟨by simp, fun n hn _ => by rw [List.getElem?_append_left hn]⟩
theorem Fr.put {F : Nat → Prop} {st : Store} {n : Nat} {c : Cell} (h : F n) : Fr F st (st.set n c) := ⟨by simp, fun m hm hf => by
  rw [List.getElem?_set_ne (show n ≠ m from fun z => hf (z ▸ h))]⟩
theorem Fr.imp {F F' : Nat → Prop} {a b : Store} (h : Fr F a b) (i : ∀ n, n < a.length → F n → F' n) : Fr F' a b := ⟨h.le, fun n hn hf => h.keep n hn fun z => hf (i n hn z)⟩
/-- what is new to the first store may have been changed -/
theorem Fr.new {F : Nat → Prop} {a b c : Store} (h : Fr F a b) (k : Fr (fun n => F n ∨ a.length ≤ n) b c) : Fr F a c :=
  ⟨Nat.le_trans h.le k.le, fun n hn hf => (k.keep n (Nat.lt_of_lt_of_le hn h.le) (fun z => z.elim hf fun z => by omega)).trans (h.keep n hn hf)⟩
theorem Fr.lst {F : Nat → Prop} {st st' : Store} (h : Fr F st st') {n : Nat} {xs : List D} (hf : ¬ F n) (e : lstAt st n = some xs) : lstAt st' n = some xs :=
  lstAt_of (by rw [h.keep n (lstAt_lt e) hf]; exact lstAt_eq e)

/-! ### one step after another -/
theorem atI_nat {α : Type} {xs : List α} {k : Nat} (h : k < xs.length) : atI xs (k : Int) = xs[k]? := by
  unfold atI ixN
  rw [if_pos (by omega), if_pos (by omega)]
  rfl
theorem ixN_nat {n k : Nat} (h : k < n) : ixN n (k : Int) = some k := by
  unfold ixN
  rw [if_pos (by omega), if_pos (by omega)]
  rfl
theorem atI_in {α : Type} {xs : List α} {i : Int} (h0 : 0 ≤ i) (h : i < xs.length) : ∃ d, atI xs i = some d ∧ xs[i.toNat]? = some d ∧ d ∈ xs := by
  have h1 : i.toNat < xs.length := by omega
  refine ⟨xs[i.toNat], ?_, by simp [h1], List.getElem_mem h1⟩
  unfold atI ixN
  rw [if_pos h0, if_pos h]
  simp [h1]
/-- arithmetic's operations on whole numbers -/
theorem opAdd_int {i j : Int} {st : Store} : opAdd (.int i) (.int j) st = some (.int (i + j), st) := rfl
theorem opSub_int {i j : Int} {st : Store} : opSub (.int i) (.int j) st = some (.int (i - j), st) := rfl
theorem opMod_int {i j : Int} {st : Store} : opMod (.int i) (.int j) st = if 0 < j then some (.int (i % j), st) else none := rfl
theorem opDiv_int {i j : Int} {st : Store} : opDiv (.int i) (.int j) st = if 0 < j ∧ j < 1073741824 then some (.int (i / j), st) else none := rfl
theorem opPow_int {i j : Int} {st : Store} : opPow (.int i) (.int j) st = if 0 ≤ j ∧ j ≤ 1000000 ∧ i.natAbs < 2 ^ 64 then some (.int (i ^ j.toNat), st) else none := rfl
theorem opMul_int {i j : Int} {st : Store} : opMul (.int i) (.int j) st = if ((-(2 ^ 64) < i ∧ i < 2 ^ 64) ∨ (-(2 ^ 64) < j ∧ j < 2 ^ 64)) ∨ i.natAbs.log2 + j.natAbs.log2 < 1000000 then some (.int (i * j), st) else none := rfl
theorem opLt_int {i j : Int} {st : Store} : opLt (.int i) (.int j) st = some (.bl (decide (i < j)), st) := rfl
theorem opGt_int {i j : Int} {st : Store} : opGt (.int i) (.int j) st = some (.bl (decide (j < i)), st) := rfl
theorem opLe_int {i j : Int} {st : Store} : opLe (.int i) (.int j) st = some (.bl (decide (i ≤ j)), st) := rfl
theorem opGe_int {i j : Int} {st : Store} : opGe (.int i) (.int j) st = some (.bl (decide (j ≤ i)), st) := rfl

/-! ### the hand -/
def HandAt (st : Store) (h : Nat) (b : Int) : Prop := ∃ g m c : Int, lstAt st h = some [.int g, .int m, .int c] ∧ 0 ≤ g ∧ 0 ≤ m ∧ m < 2147483648 ∧ 0 ≤ c ∧ c ≤ b
theorem HandAt.mono {st : Store} {h : Nat} {b b' : Int} (H : HandAt st h b) (hb : b ≤ b') : HandAt st h b' := by
  obtain ⟨g, m, c, e, h1, h2, h3, h4, h5⟩ := H
  exact ⟨g, m, c, e, h1, h2, h3, h4, by omega⟩
theorem HandAt.fr {F : Nat → Prop} {st st' : Store} {h : Nat} {b : Int} (H : HandAt st h b) (f : Fr F st st') (hf : ¬ F h) : HandAt st' h b := by
  obtain ⟨g, m, c, e, r⟩ := H
  exact ⟨g, m, c, f.lst hf e, r⟩
theorem HandAt.lt {st : Store} {h : Nat} {b : Int} (H : HandAt st h b) : h < st.length := by
  obtain ⟨g, m, c, e, r⟩ := H
  exact lstAt_lt e
def sh_take : SS :=
  (sSeq (sIf (mBl (mBin opGt (mBin opIx (mVar 0) (mC (.int 0))) (mC (.int 0)))) (sSeq (sAsg (mBin opMod (mBin opIx (mVar 0) (mC (.int 0))) (mVar 1)) (gNm 4))
  (sSeq (sAsg (mBin opDiv (mBin opIx (mVar 0) (mC (.int 0))) (mVar 1)) (gSb (mVar 0) (mC (.int 0))))
  (sRet (mVar 4)))) sNx)
  (sSeq (sAsg (mBin opAdd (mBin opIx (mVar 0) (mC (.int 2))) (mC (.int 1))) (gSb (mVar 0) (mC (.int 2))))
  (sSeq (sAsg (mBin opIx (mLst (aCons (mC (.int 2147483647)) (aCons (mC (.int 2147483629)) (aCons (mC (.int 2147483587)) (aCons (mC (.int 2147483579)) (aCons (mC (.int 2147483563)) aNil)))))) (mBin opMod (mBin opIx (mVar 0) (mC (.int 2))) (mC (.int 5)))) (gNm 2))
  (sSeq (sAsg (mBin opMod (mBin opPow (mBin opAdd (mBin opIx (mVar 0) (mC (.int 1))) (mBin opMul (mC (.int 7919)) (mBin opIx (mVar 0) (mC (.int 2))))) (mC (.int 3))) (mVar 2)) (gNm 3))
  (sRet (mBin opMod (mBin opDiv (mBin opMod (mBin opMul (mVar 3) (mBin opAdd (mBin opMod (mVar 3) (mC (.int 1009))) (mBin opIx (mVar 0) (mC (.int 2))))) (mVar 2)) (mC (.int 11))) (mVar 1)))))))
def TakeSpec (F : List D → Store → R D) : Prop := ∀ (h : Nat) (m : Int) (st : Store) (b : Int), HandAt st h b → b < 1099511627776 → 0 < m → m < 1073741824 →
  Go (F [.loc h, .int m] st) (fun d st' => (∃ k, d = .int k ∧ 0 ≤ k ∧ k < m) ∧ HandAt st' h (b + 1) ∧ Fr (· = h) st st') NoE
theorem at3_0 {a b c : D} : atI [a, b, c] 0 = some a := rfl
theorem at3_1 {a b c : D} : atI [a, b, c] 1 = some b := rfl
theorem at3_2 {a b c : D} : atI [a, b, c] 2 = some c := rfl
theorem ix3_0 : ixN 3 0 = some 0 := rfl
theorem ix3_2 : ixN 3 2 = some 2 := rfl
theorem size5 : 5 ≤ sizeLine := by decide
theorem take_ok : TakeSpec (runF 5 sh_take) := by
  intro h m st b ⟨g, md, c, e, h1, h2, h3, h4, h5⟩ hb hm hm2
  have hlt := lstAt_lt e
  unfold sh_take
  simp only [go_runF, go_ok, go_c, go_var, go_bin, go_un, go_bl, go_tru, go_nt, go_an, go_oo, go_mAn, go_mOo, go_mNt, go_if, go_chain, go_aNil, go_aCons, go_tup, go_lst, go_dict0, go_cb, go_bm, go_sl, go_sl3, go_oNone, go_oSome, go_callP, go_call, go_lc, go_tTrue, go_iAny, go_iRng1, go_iRng2, go_iEnm, go_iZip, go_gNm, go_gTp, go_gNl, go_gSb, gCn_eq, gNm_eq, gNl_nil, gTp_tup, R.bind_ok, if_true, gs_nx, gs_bk, gs_ct, gs_seq, thenQ_nx, thenQ_rt, thenQ_bk, thenQ_ct, thenQ_xc, gs_ret, gs_expr, gs_if, gs_asg, gs_par2, gs_par3, gs_aug, retQ_rt, retQ_nx, retQ_xc, gs_for, gs_while, turnQ_nx, turnQ_ct, turnQ_bk, turnQ_rt, turnQ_xc, goO_some, goV_some, goO_none, goV_none, goO_ite, goV_ite, goO_map, goV_map, goV_bind, Bool.cond_decide, cond_true, cond_false, Bool.cond_not, startD, List.map_cons, List.map_nil, List.length_cons, List.length_nil, List.replicate_succ, List.replicate_zero, List.cons_append, List.nil_append, List.append_nil, Nat.reduceSub, Nat.reduceAdd, List.getElem?_cons_zero, List.getElem?_cons_succ, List.set_cons_zero, List.set_cons_succ, Nat.zero_add, true_and, and_true, true_or, or_true, opIx_lst e, opGt_int, at3_0]
  split
  · rename_i hg
    simp only [go_runF, go_ok, go_c, go_var, go_bin, go_un, go_bl, go_tru, go_nt, go_an, go_oo, go_mAn, go_mOo, go_mNt, go_if, go_chain, go_aNil, go_aCons, go_tup, go_lst, go_dict0, go_cb, go_bm, go_sl, go_sl3, go_oNone, go_oSome, go_callP, go_call, go_lc, go_tTrue, go_iAny, go_iRng1, go_iRng2, go_iEnm, go_iZip, go_gNm, go_gTp, go_gNl, go_gSb, gCn_eq, gNm_eq, gNl_nil, gTp_tup, R.bind_ok, if_true, gs_nx, gs_bk, gs_ct, gs_seq, thenQ_nx, thenQ_rt, thenQ_bk, thenQ_ct, thenQ_xc, gs_ret, gs_expr, gs_if, gs_asg, gs_par2, gs_par3, gs_aug, retQ_rt, retQ_nx, retQ_xc, gs_for, gs_while, turnQ_nx, turnQ_ct, turnQ_bk, turnQ_rt, turnQ_xc, goO_some, goV_some, goO_none, goV_none, goO_ite, goV_ite, goO_map, goV_map, goV_bind, Bool.cond_decide, cond_true, cond_false, Bool.cond_not, startD, List.map_cons, List.map_nil, List.length_cons, List.length_nil, List.replicate_succ, List.replicate_zero, List.cons_append, List.nil_append, List.append_nil, Nat.reduceSub, Nat.reduceAdd, List.getElem?_cons_zero, List.getElem?_cons_succ, List.set_cons_zero, List.set_cons_succ, Nat.zero_add, true_and, and_true, true_or, or_true, opIx_lst e, opMod_int, opDiv_int, at3_0, setD_lst e, ix3_0]
    refine ⟨hm, ⟨hm, hm2⟩, ⟨_, rfl, Int.emod_nonneg _ (by omega), Int.emod_lt_of_pos _ hm⟩, ⟨g / m, md, c, lstAt_set hlt, Int.ediv_nonneg h1 (by omega), h2, h3, h4, by omega⟩, Fr.put rfl⟩
  · simp only [go_runF, go_ok, go_c, go_var, go_bin, go_un, go_bl, go_tru, go_nt, go_an, go_oo, go_mAn, go_mOo, go_mNt, go_if, go_chain, go_aNil, go_aCons, go_tup, go_lst, go_dict0, go_cb, go_bm, go_sl, go_sl3, go_oNone, go_oSome, go_callP, go_call, go_lc, go_tTrue, go_iAny, go_iRng1, go_iRng2, go_iEnm, go_iZip, go_gNm, go_gTp, go_gNl, go_gSb, gCn_eq, gNm_eq, gNl_nil, gTp_tup, R.bind_ok, if_true, gs_nx, gs_bk, gs_ct, gs_seq, thenQ_nx, thenQ_rt, thenQ_bk, thenQ_ct, thenQ_xc, gs_ret, gs_expr, gs_if, gs_asg, gs_par2, gs_par3, gs_aug, retQ_rt, retQ_nx, retQ_xc, gs_for, gs_while, turnQ_nx, turnQ_ct, turnQ_bk, turnQ_rt, turnQ_xc, goO_some, goV_some, goO_none, goV_none, goO_ite, goV_ite, goO_map, goV_map, goV_bind, Bool.cond_decide, cond_true, cond_false, Bool.cond_not, startD, List.map_cons, List.map_nil, List.length_cons, List.length_nil, List.replicate_succ, List.replicate_zero, List.cons_append, List.nil_append, List.append_nil, Nat.reduceSub, Nat.reduceAdd, List.getElem?_cons_zero, List.getElem?_cons_succ, List.set_cons_zero, List.set_cons_succ, Nat.zero_add, true_and, and_true, true_or, or_true, opIx_lst e, opAdd_int, at3_2, setD_lst e, ix3_2]
    generalize hs : st.set h _ = st1
    have e1 : lstAt st1 h = some [.int g, .int md, .int (c + 1)] := by rw [← hs]; exact lstAt_set hlt
    have f1 : Fr (· = h) st st1 := by rw [← hs]; exact Fr.put rfl
    have e2 := lstAt_push (c := .lst [.int 2147483647, .int 2147483629, .int 2147483587, .int 2147483579, .int 2147483563]) e1
    have e3 : lstAt (st1 ++ [.lst [.int 2147483647, .int 2147483629, .int 2147483587, .int 2147483579, .int 2147483563]]) st1.length = _ := lstAt_new
    have f2 : Fr (· = h) st (st1 ++ [.lst [.int 2147483647, .int 2147483629, .int 2147483587, .int 2147483579, .int 2147483563]]) := f1.trans Fr.push
    refine ⟨size5, ?_⟩
    generalize st1 ++ [.lst [.int 2147483647, .int 2147483629, .int 2147483587, .int 2147483579, .int 2147483563]] = st2 at e2 e3 f2 ⊢
    have hp : ∃ p : Int, atI [D.int 2147483647, .int 2147483629, .int 2147483587, .int 2147483579, .int 2147483563] ((c + 1) % 5) = some (.int p) ∧ 0 < p ∧ p ≤ 2147483647 := by
      have h6 : 0 ≤ (c + 1) % 5 := Int.emod_nonneg _ (by decide)
      have h7 : (c + 1) % 5 < 5 := Int.emod_lt_of_pos _ (by decide)
      rcases (by omega : (c + 1) % 5 = 0 ∨ (c + 1) % 5 = 1 ∨ (c + 1) % 5 = 2 ∨ (c + 1) % 5 = 3 ∨ (c + 1) % 5 = 4) with z | z | z | z | z <;> rw [z]
      · exact ⟨2147483647, rfl, by decide, by decide⟩
      · exact ⟨2147483629, rfl, by decide, by decide⟩
      · exact ⟨2147483587, rfl, by decide, by decide⟩
      · exact ⟨2147483579, rfl, by decide, by decide⟩
      · exact ⟨2147483563, rfl, by decide, by decide⟩
    obtain ⟨p, hp, p0, p1⟩ := hp
    simp only [go_runF, go_ok, go_c, go_var, go_bin, go_un, go_bl, go_tru, go_nt, go_an, go_oo, go_mAn, go_mOo, go_mNt, go_if, go_chain, go_aNil, go_aCons, go_tup, go_lst, go_dict0, go_cb, go_bm, go_sl, go_sl3, go_oNone, go_oSome, go_callP, go_call, go_lc, go_tTrue, go_iAny, go_iRng1, go_iRng2, go_iEnm, go_iZip, go_gNm, go_gTp, go_gNl, go_gSb, gCn_eq, gNm_eq, gNl_nil, gTp_tup, R.bind_ok, if_true, gs_nx, gs_bk, gs_ct, gs_seq, thenQ_nx, thenQ_rt, thenQ_bk, thenQ_ct, thenQ_xc, gs_ret, gs_expr, gs_if, gs_asg, gs_par2, gs_par3, gs_aug, retQ_rt, retQ_nx, retQ_xc, gs_for, gs_while, turnQ_nx, turnQ_ct, turnQ_bk, turnQ_rt, turnQ_xc, goO_some, goV_some, goO_none, goV_none, goO_ite, goV_ite, goO_map, goV_map, goV_bind, Bool.cond_decide, cond_true, cond_false, Bool.cond_not, startD, List.map_cons, List.map_nil, List.length_cons, List.length_nil, List.replicate_succ, List.replicate_zero, List.cons_append, List.nil_append, List.append_nil, Nat.reduceSub, Nat.reduceAdd, List.getElem?_cons_zero, List.getElem?_cons_succ, List.set_cons_zero, List.set_cons_succ, Nat.zero_add, true_and, and_true, true_or, or_true, opIx_lst e2, opIx_lst e3, opAdd_int, opMod_int, opMul_int, opPow_int, opDiv_int, at3_2, at3_1, hp]
    refine ⟨by decide, .inl (.inl (by decide)), ⟨by decide, by decide, ?_⟩, p0, by decide, .inl (.inl ?_), p0, by decide, hm, ⟨_, rfl, Int.emod_nonneg _ (by omega), Int.emod_lt_of_pos _ hm⟩, ⟨g, md, c + 1, e2, h1, h2, h3, by omega, by omega⟩, f2⟩
    · omega
    · have h6 := Int.emod_nonneg ((md + 7919 * (c + 1)) ^ Int.toNat 3) (show p ≠ 0 by omega)
      have h7 := Int.emod_lt_of_pos ((md + 7919 * (c + 1)) ^ Int.toNat 3) p0
      omega
end G

/-! M3: values as data, for ==, in and repr; law_of, law_hand. -/
namespace G
open PySem L2

/-! ### values as data -/
def nL : Nat → Option PyData := fun _ => none
mutual
theorem pdW_mono {f : Nat → Option PyData} : ∀ {d : D} {p : PyData}, pdW nL d = some p → pdW f d = some p
  | .non, _, h => by unfold pdW at h ⊢; exact h
  | .bl _, _, h => by unfold pdW at h ⊢; exact h
  | .int _, _, h => by unfold pdW at h ⊢; exact h
  | .str _, _, h => by unfold pdW at h ⊢; exact h
  | .tup xs, p, h => by
    unfold pdW at h ⊢
    cases e : pdsW nL xs with
    | none => rw [e] at h; cases h
    | some ps => rw [e] at h; rw [pdsW_mono e]; exact h
  | .rol xs, p, h => by
    unfold pdW at h ⊢
    cases e : pdsW nL xs with
    | none => rw [e] at h; cases h
    | some ps => rw [e] at h; rw [pdsW_mono e]; exact h
  | .loc _, _, h => by unfold pdW at h; cases h
  | .fn _, _, h => by unfold pdW at h; cases h
  | .ty _, _, h => by unfold pdW at h; cases h
theorem pdsW_mono {f : Nat → Option PyData} : ∀ {ds : List D} {ps : List PyData}, pdsW nL ds = some ps → pdsW f ds = some ps
  | [], _, h => by unfold pdsW at h ⊢; exact h
  | d :: ds, ps, h => by
    unfold pdsW at h ⊢
    cases e : pdW nL d with
    | none => rw [e] at h; cases h
    | some p =>
      rw [e] at h
      cases e2 : pdsW nL ds with
      | none => rw [e2] at h; cases h
      | some qs =>
        rw [e2] at h
        rw [pdW_mono e, pdsW_mono e2]
        exact h
end
theorem toP_pure {d : D} {p : PyData} {st : Store} (h : pdW nL d = some p) : toP st d = some p := pdW_mono h
theorem pdS_lst {k n : Nat} {st : Store} {xs : List D} {ps : List PyData} (h : lstAt st n = some xs) (e : pdsW (pdS k st) xs = some ps) : pdS (k + 1) st n = some (.list ps) := by
  unfold pdS
  simp only [h, e]
  rfl
/-- a list of data -/
theorem toP_lst {n : Nat} {st : Store} {xs : List D} {ps : List PyData} (h : lstAt st n = some xs) (e : pdsW nL xs = some ps) : toP st (.loc n) = some (.list ps) := by
  unfold toP pdW
  exact pdS_lst h (pdsW_mono e)
theorem pdsW_cons {f : Nat → Option PyData} {d : D} {ds : List D} {p : PyData} {ps : List PyData} (h : pdW f d = some p) (e : pdsW f ds = some ps) : pdsW f (d :: ds) = some (p :: ps) := by
  unfold pdsW
  rw [h, e]
theorem pdsW_app {f : Nat → Option PyData} : ∀ {ds es : List D} {ps qs : List PyData}, pdsW f ds = some ps → pdsW f es = some qs → pdsW f (ds ++ es) = some (ps ++ qs)
  | [], es, ps, qs, h, e => by unfold pdsW at h; cases h; exact e
  | d :: ds, es, ps, qs, h, e => by
    unfold pdsW at h
    cases e1 : pdW f d with
    | none => rw [e1] at h; cases h
    | some p =>
      rw [e1] at h
      cases e2 : pdsW f ds with
      | none => rw [e2] at h; cases h
      | some rs =>
        rw [e2] at h
        cases h
        exact pdsW_cons e1 (pdsW_app e2 e)
theorem pdsW_strs {f : Nat → Option PyData} : ∀ ss : List Str, pdsW f (ss.map D.str) = some (ss.map PyData.str)
  | [] => by unfold pdsW; rfl
  | s :: ss => pdsW_cons (by unfold pdW; rfl) (pdsW_strs ss)
/-- data that may be compared and shown: signs, short numbers, so deep at most -/
structure Sm (p : PyData) (w k : Nat) : Prop where
  lay : p.canLay0 = true
  shw : p.showable = true
  short : p.intsShort 13 = true
  dp : p.depth ≤ k
  wt : p.weight ≤ w
structure SmA (ps : List PyData) (w k : Nat) : Prop where
  lay : PyData.canLayAll0 ps = true
  shw : PyData.showableAll ps = true
  short : PyData.intsShortAll 13 ps = true
  dp : PyData.depthAll ps ≤ k
  wt : PyData.weightAll ps ≤ w
theorem Sm.mono {p : PyData} {w k w' k' : Nat} (h : Sm p w k) (hw : w ≤ w') (hk : k ≤ k') : Sm p w' k' := ⟨h.lay, h.shw, h.short, Nat.le_trans h.dp hk, Nat.le_trans h.wt hw⟩
theorem SmA.mono {p : List PyData} {w k w' k' : Nat} (h : SmA p w k) (hw : w ≤ w') (hk : k ≤ k') : SmA p w' k' := ⟨h.lay, h.shw, h.short, Nat.le_trans h.dp hk, Nat.le_trans h.wt hw⟩
theorem SmA.nil {k : Nat} : SmA [] 0 k := ⟨by unfold PyData.canLayAll0; rfl, by unfold PyData.showableAll; rfl, by unfold PyData.intsShortAll; rfl, by unfold PyData.depthAll; omega, by unfold PyData.weightAll; omega⟩
theorem SmA.cons {p : PyData} {ps : List PyData} {w k w' : Nat} (h : Sm p w k) (h' : SmA ps w' k) : SmA (p :: ps) (w + 1 + w') k :=
  ⟨by unfold PyData.canLayAll0; rw [h.lay, h'.lay]; rfl, by unfold PyData.showableAll; rw [h.shw, h'.shw]; rfl, by unfold PyData.intsShortAll; rw [h.short, h'.short]; rfl, by unfold PyData.depthAll; have := h.dp; have := h'.dp; omega, by unfold PyData.weightAll; have := h.wt; have := h'.wt; omega⟩
theorem Sm.tup {ps : List PyData} {w k : Nat} (h : SmA ps w k) : Sm (.tuple ps) w (k + 1) :=
  ⟨by unfold PyData.canLay0; exact h.lay, by unfold PyData.showable; exact h.shw, by unfold PyData.intsShort; exact h.short, by unfold PyData.depth; have := h.dp; omega, by unfold PyData.weight; exact h.wt⟩
theorem Sm.lst {ps : List PyData} {w k : Nat} (h : SmA ps w k) : Sm (.list ps) w (k + 1) :=
  ⟨by unfold PyData.canLay0; exact h.lay, by unfold PyData.showable; exact h.shw, by unfold PyData.intsShort; exact h.short, by unfold PyData.depth; have := h.dp; omega, by unfold PyData.weight; exact h.wt⟩
def Chars (s : Str) : Prop := ∀ c ∈ s.cps.toList, c < 128
theorem Sm.str {s : Str} {k : Nat} (h : Chars s) : Sm (.str s) s.length k := by
  refine ⟨?_, by unfold PyData.showable; rfl, by unfold PyData.intsShort; rfl, by unfold PyData.depth; omega, by unfold PyData.weight; exact Nat.le_refl _⟩
  unfold PyData.canLay0 PyData.strOk
  rw [← Array.all_toList]
  rw [List.all_eq_true]
  intro c hc
  have := h c hc
  simp only [decide_eq_true_eq]
  omega
theorem Sm.bl {b : Bool} {k : Nat} : Sm (.bool b) 0 k := ⟨by unfold PyData.canLay0; rfl, by unfold PyData.showable; rfl, by unfold PyData.intsShort; rfl, by unfold PyData.depth; omega, by unfold PyData.weight; omega⟩
theorem Sm.non {k : Nat} : Sm .none 0 k := ⟨by unfold PyData.canLay0; rfl, by unfold PyData.showable; rfl, by unfold PyData.intsShort; rfl, by unfold PyData.depth; omega, by unfold PyData.weight; omega⟩
theorem Sm.shaped {p : PyData} {w k : Nat} (h : Sm p w k) (hk : k ≤ 64) : SeqAt.shaped p = true := by
  unfold SeqAt.shaped
  rw [h.lay, Bool.true_and]
  have := h.dp
  simp only [decide_eq_true_eq]
  omega
theorem noDict_of {w k : Nat} {p : PyData} (h : Sm p w k) : p.hasDict = false := aux p h.lay
where
  aux : ∀ p : PyData, p.canLay0 = true → p.hasDict = false
    | .none, _ => by unfold PyData.hasDict; rfl
    | .bool _, _ => by unfold PyData.hasDict; rfl
    | .int _, _ => by unfold PyData.hasDict; rfl
    | .str _, _ => by unfold PyData.hasDict; rfl
    | .list xs, h => by unfold PyData.hasDict; unfold PyData.canLay0 at h; exact auxs xs h
    | .tuple xs, h => by unfold PyData.hasDict; unfold PyData.canLay0 at h; exact auxs xs h
    | .dict _, h => by unfold PyData.canLay0 at h; cases h
  auxs : ∀ ps : List PyData, PyData.canLayAll0 ps = true → PyData.hasDictAll ps = false
    | [], _ => by unfold PyData.hasDictAll; rfl
    | x :: xs, h => by
      unfold PyData.canLayAll0 at h
      rw [Bool.and_eq_true] at h
      unfold PyData.hasDictAll
      rw [aux x h.1, auxs xs h.2]
      rfl
theorem Sm.int {i : Int} {k : Nat} (h : i.natAbs < 10 ^ 12) : Sm (.int i) 40 k := by
  have hl : i.natAbs.log2 < 40 := by
    by_cases z : i.natAbs = 0
    · rw [z]; decide
    · exact (Nat.log2_lt z).mpr (Nat.lt_trans h (by decide))
  refine ⟨by unfold PyData.canLay0; rfl, by unfold PyData.showable; simp only [decide_eq_true_eq]; omega, ?_, by unfold PyData.depth; omega, ?_⟩
  · unfold PyData.intsShort PyData.shown
    simp only [decide_eq_true_eq]
    have := PySem.int_text_length_le10 (a := i) (k := 12) (by decide) h
    show (Str.ofString (toString i)).length ≤ 13
    rw [PySem.ofString_length]
    exact this
  · unfold PyData.weight
    split <;> omega
theorem shown_of {p : PyData} {w k : Nat} (h : Sm p w k) (hw : w ≤ 1048576) (hk : k ≤ 120) : p.hasDict = false ∧ shownOk p = true := by
  refine ⟨noDict_of h, ?_⟩
  have h2 := PyData.shown_le 13 (by decide) p (PyData.leavesShort_of_canLay0 13 p h.lay h.short)
  have h3 := h.wt
  have h4 := h.dp
  unfold shownOk
  rw [h.shw]
  simp only [Bool.true_and, Bool.and_eq_true, decide_eq_true_eq]
  refine ⟨by omega, ?_⟩
  have e : sizeLine = 16777216 := rfl
  rw [e]
  omega
/-- repr of data -/
theorem bRepr_data {d : D} {st : Store} {p : PyData} {w k : Nat} (e : toP st d = some p) (h : Sm p w k) (hw : w ≤ 1048576) (hk : k ≤ 120) : bRepr [d] st = some (.str p.shown, st) := by
  obtain ⟨h1, h2⟩ := shown_of h hw hk
  simp only [bRepr, reprD, e, h1, h2]
  rfl
theorem opEq_str {a b : Str} {neg : Bool} {st : Store} : opEq neg (.str a) (.str b) st = some (.bl ((a == b) != neg), st) := rfl
theorem opEq_int {i j : Int} {neg : Bool} {st : Store} : opEq neg (.int i) (.int j) st = some (.bl ((i == j) != neg), st) := by
  have e : ∀ i : Int, toP st (.int i) = some (.int i) := fun i => toP_pure (by unfold pdW; rfl)
  have s : ∀ i : Int, SeqAt.shaped (.int i) = true := fun i => by
    unfold SeqAt.shaped PyData.canLay0 PyData.depth
    rfl
  simp only [opEq, eqD, e, s]
  unfold PyData.eqv
  rfl
theorem opEq_data {x y : D} {neg : Bool} {st : Store} {p q : PyData} {w k w' k' : Nat} (hx : ∀ a, x ≠ .str a) (e : toP st x = some p) (e' : toP st y = some q) (h : Sm p w k) (h' : Sm q w' k') (hk : k ≤ 64) (hk' : k' ≤ 64) : opEq neg x y st = some (.bl ((PyData.eqv p q) != neg), st) := by
  have s := h.shaped hk
  have s' := h'.shaped hk'
  unfold opEq
  split
  · exact (hx _ rfl).elim
  · simp only [eqD, e, e', s, s']
    rfl
theorem eqv_strs : ∀ {ss : List Str} {x : Str}, ((ss.map PyData.str).any fun z => PyData.eqv z (.str x)) = decide (x ∈ ss)
  | [], x => by simp
  | s :: ss, x => by
    rw [List.map_cons, List.any_cons, eqv_strs]
    unfold PyData.eqv
    rw [Bool.eq_iff_iff]
    simp only [Bool.or_eq_true, beq_iff_eq, decide_eq_true_eq, List.mem_cons]
    constructor
    · rintro (h | h)
      · exact .inl h.symm
      · exact .inr h
    · rintro (h | h)
      · exact .inl h.symm
      · exact .inr h
theorem SmA.strs {w k : Nat} : ∀ {ss : List Str}, (∀ s ∈ ss, Chars s ∧ s.length ≤ w) → SmA (ss.map PyData.str) (ss.length * (w + 1)) k
  | [], _ => SmA.nil.mono (by simp) (Nat.le_refl _)
  | s :: ss, h => by
    have h1 := h s List.mem_cons_self
    refine (SmA.cons ((Sm.str (k := k) h1.1).mono h1.2 (Nat.le_refl _)) (SmA.strs fun x hx => h x (List.mem_cons_of_mem _ hx))).mono ?_ (Nat.le_refl _)
    rw [List.length_cons, Nat.succ_mul]
    omega
/-- a text among a list's texts -/
theorem opIn_strs {neg : Bool} {x : Str} {n : Nat} {ss : List Str} {st : Store} {w : Nat} (h : lstAt st n = some (ss.map D.str)) (hx : Chars x) (hs : ∀ s ∈ ss, Chars s ∧ s.length ≤ w) : opIn neg (.str x) (.loc n) st = some (.bl (decide (x ∈ ss) != neg), st) := by
  have e1 : toP st (.str x) = some (.str x) := toP_pure (by unfold pdW; rfl)
  have e2 : toP st (.loc n) = some (.list (ss.map .str)) := toP_lst h (pdsW_strs ss)
  have s1 := (Sm.str (k := 0) hx).shaped (by decide)
  have s2 := (Sm.lst (SmA.strs (k := 0) hs)).shaped (by decide)
  simp only [opIn, inD, dctW_lst h, e1, e2, s1, s2, Bool.and_self, if_true, Option.map_some, eqv_strs]
theorem opIn_str {neg : Bool} {a b : Str} {st : Store} : opIn neg (.str a) (.str b) st = some (.bl (inStr a b != neg), st) := rfl

/-! ### law_of, law_hand -/
def nTake : Str := Str.ofString "_law_take"
def nOf : Str := Str.ofString "_law_of"
def sh_of (call : CallF) : SS :=
  (sRet (mBin opIx (mVar 1) (mCallP 2 (call (Str.ofString "_law_take")) (aCons (mVar 0) (aCons (mCB bLen (aCons (mVar 1) aNil)) aNil)))))
/-- one of a list, a tuple, a text's signs -/
structure OfSpec (F : List D → Store → R D) : Prop where
  lst : ∀ (h l : Nat) (xs : List D) (st : Store) (b : Int), HandAt st h b → b < 1099511627776 → lstAt st l = some xs → l ≠ h → xs ≠ [] → xs.length < 1073741824 →
    Go (F [.loc h, .loc l] st) (fun d st' => d ∈ xs ∧ HandAt st' h (b + 1) ∧ Fr (· = h) st st') NoE
  tup : ∀ (h : Nat) (xs : List D) (st : Store) (b : Int), HandAt st h b → b < 1099511627776 → xs ≠ [] → xs.length < 1073741824 →
    Go (F [.loc h, .tup xs] st) (fun d st' => d ∈ xs ∧ HandAt st' h (b + 1) ∧ Fr (· = h) st st') NoE
  str : ∀ (h : Nat) (z : Str) (st : Store) (b : Int), HandAt st h b → b < 1099511627776 → z.cps.toList ≠ [] → z.length ≤ sizeLine →
    Go (F [.loc h, .str z] st) (fun d st' => (∃ c ∈ z.cps.toList, d = .str ⟨#[c]⟩) ∧ HandAt st' h (b + 1) ∧ Fr (· = h) st st') NoE
theorem of_ok {call : CallF} (T : TakeSpec (call (Str.ofString "_law_take"))) : OfSpec (runF 2 (sh_of call)) := by
  constructor
  · intro h l xs st b H hb e hl hx hn
    have hp : 0 < xs.length := List.length_pos_iff.mpr hx
    unfold sh_of
    simp only [go_runF, go_ok, go_c, go_var, go_bin, go_un, go_bl, go_tru, go_nt, go_an, go_oo, go_mAn, go_mOo, go_mNt, go_if, go_chain, go_aNil, go_aCons, go_tup, go_lst, go_dict0, go_cb, go_bm, go_sl, go_sl3, go_oNone, go_oSome, go_callP, go_call, go_lc, go_tTrue, go_iAny, go_iRng1, go_iRng2, go_iEnm, go_iZip, go_gNm, go_gTp, go_gNl, go_gSb, gCn_eq, gNm_eq, gNl_nil, gTp_tup, R.bind_ok, if_true, gs_nx, gs_bk, gs_ct, gs_seq, thenQ_nx, thenQ_rt, thenQ_bk, thenQ_ct, thenQ_xc, gs_ret, gs_expr, gs_if, gs_asg, gs_par2, gs_par3, gs_aug, retQ_rt, retQ_nx, retQ_xc, gs_for, gs_while, turnQ_nx, turnQ_ct, turnQ_bk, turnQ_rt, turnQ_xc, goO_some, goV_some, goO_none, goV_none, goO_ite, goV_ite, goO_map, goV_map, goV_bind, Bool.cond_decide, cond_true, cond_false, Bool.cond_not, startD, List.map_cons, List.map_nil, List.length_cons, List.length_nil, List.replicate_succ, List.replicate_zero, List.cons_append, List.nil_append, List.append_nil, Nat.reduceSub, Nat.reduceAdd, List.getElem?_cons_zero, List.getElem?_cons_succ, List.set_cons_zero, List.set_cons_succ, Nat.zero_add, true_and, and_true, true_or, or_true, bLen_lst e]
    refine (T h xs.length st b H hb (by omega) (by omega)).to fun d st1 ⟨⟨k, hk, k0, k1⟩, H1, f1⟩ => ?_
    subst hk
    have e1 := f1.lst hl e
    obtain ⟨d, h1, _, h3⟩ := atI_in k0 k1
    simp only [go_runF, go_ok, go_c, go_var, go_bin, go_un, go_bl, go_tru, go_nt, go_an, go_oo, go_mAn, go_mOo, go_mNt, go_if, go_chain, go_aNil, go_aCons, go_tup, go_lst, go_dict0, go_cb, go_bm, go_sl, go_sl3, go_oNone, go_oSome, go_callP, go_call, go_lc, go_tTrue, go_iAny, go_iRng1, go_iRng2, go_iEnm, go_iZip, go_gNm, go_gTp, go_gNl, go_gSb, gCn_eq, gNm_eq, gNl_nil, gTp_tup, R.bind_ok, if_true, gs_nx, gs_bk, gs_ct, gs_seq, thenQ_nx, thenQ_rt, thenQ_bk, thenQ_ct, thenQ_xc, gs_ret, gs_expr, gs_if, gs_asg, gs_par2, gs_par3, gs_aug, retQ_rt, retQ_nx, retQ_xc, gs_for, gs_while, turnQ_nx, turnQ_ct, turnQ_bk, turnQ_rt, turnQ_xc, goO_some, goV_some, goO_none, goV_none, goO_ite, goV_ite, goO_map, goV_map, goV_bind, Bool.cond_decide, cond_true, cond_false, Bool.cond_not, startD, List.map_cons, List.map_nil, List.length_cons, List.length_nil, List.replicate_succ, List.replicate_zero, List.cons_append, List.nil_append, List.append_nil, Nat.reduceSub, Nat.reduceAdd, List.getElem?_cons_zero, List.getElem?_cons_succ, List.set_cons_zero, List.set_cons_succ, Nat.zero_add, true_and, and_true, true_or, or_true, opIx_lst e1, h1]
    exact ⟨h3, H1, f1⟩
  · intro h xs st b H hb hx hn
    have hp : 0 < xs.length := List.length_pos_iff.mpr hx
    unfold sh_of
    simp only [go_runF, go_ok, go_c, go_var, go_bin, go_un, go_bl, go_tru, go_nt, go_an, go_oo, go_mAn, go_mOo, go_mNt, go_if, go_chain, go_aNil, go_aCons, go_tup, go_lst, go_dict0, go_cb, go_bm, go_sl, go_sl3, go_oNone, go_oSome, go_callP, go_call, go_lc, go_tTrue, go_iAny, go_iRng1, go_iRng2, go_iEnm, go_iZip, go_gNm, go_gTp, go_gNl, go_gSb, gCn_eq, gNm_eq, gNl_nil, gTp_tup, R.bind_ok, if_true, gs_nx, gs_bk, gs_ct, gs_seq, thenQ_nx, thenQ_rt, thenQ_bk, thenQ_ct, thenQ_xc, gs_ret, gs_expr, gs_if, gs_asg, gs_par2, gs_par3, gs_aug, retQ_rt, retQ_nx, retQ_xc, gs_for, gs_while, turnQ_nx, turnQ_ct, turnQ_bk, turnQ_rt, turnQ_xc, goO_some, goV_some, goO_none, goV_none, goO_ite, goV_ite, goO_map, goV_map, goV_bind, Bool.cond_decide, cond_true, cond_false, Bool.cond_not, startD, List.map_cons, List.map_nil, List.length_cons, List.length_nil, List.replicate_succ, List.replicate_zero, List.cons_append, List.nil_append, List.append_nil, Nat.reduceSub, Nat.reduceAdd, List.getElem?_cons_zero, List.getElem?_cons_succ, List.set_cons_zero, List.set_cons_succ, Nat.zero_add, true_and, and_true, true_or, or_true, bLen]
    refine (T h xs.length st b H hb (by omega) (by omega)).to fun d st1 ⟨⟨k, hk, k0, k1⟩, H1, f1⟩ => ?_
    subst hk
    obtain ⟨d, h1, _, h3⟩ := atI_in k0 k1
    simp only [go_runF, go_ok, go_c, go_var, go_bin, go_un, go_bl, go_tru, go_nt, go_an, go_oo, go_mAn, go_mOo, go_mNt, go_if, go_chain, go_aNil, go_aCons, go_tup, go_lst, go_dict0, go_cb, go_bm, go_sl, go_sl3, go_oNone, go_oSome, go_callP, go_call, go_lc, go_tTrue, go_iAny, go_iRng1, go_iRng2, go_iEnm, go_iZip, go_gNm, go_gTp, go_gNl, go_gSb, gCn_eq, gNm_eq, gNl_nil, gTp_tup, R.bind_ok, if_true, gs_nx, gs_bk, gs_ct, gs_seq, thenQ_nx, thenQ_rt, thenQ_bk, thenQ_ct, thenQ_xc, gs_ret, gs_expr, gs_if, gs_asg, gs_par2, gs_par3, gs_aug, retQ_rt, retQ_nx, retQ_xc, gs_for, gs_while, turnQ_nx, turnQ_ct, turnQ_bk, turnQ_rt, turnQ_xc, goO_some, goV_some, goO_none, goV_none, goO_ite, goV_ite, goO_map, goV_map, goV_bind, Bool.cond_decide, cond_true, cond_false, Bool.cond_not, startD, List.map_cons, List.map_nil, List.length_cons, List.length_nil, List.replicate_succ, List.replicate_zero, List.cons_append, List.nil_append, List.append_nil, Nat.reduceSub, Nat.reduceAdd, List.getElem?_cons_zero, List.getElem?_cons_succ, List.set_cons_zero, List.set_cons_succ, Nat.zero_add, true_and, and_true, true_or, or_true, opIx, h1]
    exact ⟨h3, H1, f1⟩
  · intro h z st b H hb hx hn
    have e : z.cps.toList.length = z.length := by simp [Str.length]
    have hp : 0 < z.cps.toList.length := List.length_pos_iff.mpr hx
    have hs : sizeLine = 16777216 := rfl
    unfold sh_of
    simp only [go_runF, go_ok, go_c, go_var, go_bin, go_un, go_bl, go_tru, go_nt, go_an, go_oo, go_mAn, go_mOo, go_mNt, go_if, go_chain, go_aNil, go_aCons, go_tup, go_lst, go_dict0, go_cb, go_bm, go_sl, go_sl3, go_oNone, go_oSome, go_callP, go_call, go_lc, go_tTrue, go_iAny, go_iRng1, go_iRng2, go_iEnm, go_iZip, go_gNm, go_gTp, go_gNl, go_gSb, gCn_eq, gNm_eq, gNl_nil, gTp_tup, R.bind_ok, if_true, gs_nx, gs_bk, gs_ct, gs_seq, thenQ_nx, thenQ_rt, thenQ_bk, thenQ_ct, thenQ_xc, gs_ret, gs_expr, gs_if, gs_asg, gs_par2, gs_par3, gs_aug, retQ_rt, retQ_nx, retQ_xc, gs_for, gs_while, turnQ_nx, turnQ_ct, turnQ_bk, turnQ_rt, turnQ_xc, goO_some, goV_some, goO_none, goV_none, goO_ite, goV_ite, goO_map, goV_map, goV_bind, Bool.cond_decide, cond_true, cond_false, Bool.cond_not, startD, List.map_cons, List.map_nil, List.length_cons, List.length_nil, List.replicate_succ, List.replicate_zero, List.cons_append, List.nil_append, List.append_nil, Nat.reduceSub, Nat.reduceAdd, List.getElem?_cons_zero, List.getElem?_cons_succ, List.set_cons_zero, List.set_cons_succ, Nat.zero_add, true_and, and_true, true_or, or_true, bLen]
    refine ⟨hn, (T h z.length st b H hb (by omega) (by omega)).to fun d st1 ⟨⟨k, hk, k0, k1⟩, H1, f1⟩ => ?_⟩
    subst hk
    obtain ⟨d, h1, _, h3⟩ := atI_in (xs := z.cps.toList) k0 (by omega)
    simp only [go_runF, go_ok, go_c, go_var, go_bin, go_un, go_bl, go_tru, go_nt, go_an, go_oo, go_mAn, go_mOo, go_mNt, go_if, go_chain, go_aNil, go_aCons, go_tup, go_lst, go_dict0, go_cb, go_bm, go_sl, go_sl3, go_oNone, go_oSome, go_callP, go_call, go_lc, go_tTrue, go_iAny, go_iRng1, go_iRng2, go_iEnm, go_iZip, go_gNm, go_gTp, go_gNl, go_gSb, gCn_eq, gNm_eq, gNl_nil, gTp_tup, R.bind_ok, if_true, gs_nx, gs_bk, gs_ct, gs_seq, thenQ_nx, thenQ_rt, thenQ_bk, thenQ_ct, thenQ_xc, gs_ret, gs_expr, gs_if, gs_asg, gs_par2, gs_par3, gs_aug, retQ_rt, retQ_nx, retQ_xc, gs_for, gs_while, turnQ_nx, turnQ_ct, turnQ_bk, turnQ_rt, turnQ_xc, goO_some, goV_some, goO_none, goV_none, goO_ite, goV_ite, goO_map, goV_map, goV_bind, Bool.cond_decide, cond_true, cond_false, Bool.cond_not, startD, List.map_cons, List.map_nil, List.length_cons, List.length_nil, List.replicate_succ, List.replicate_zero, List.cons_append, List.nil_append, List.append_nil, Nat.reduceSub, Nat.reduceAdd, List.getElem?_cons_zero, List.getElem?_cons_succ, List.set_cons_zero, List.set_cons_succ, Nat.zero_add, true_and, and_true, true_or, or_true, opIx, h1, hn, if_true]
    exact ⟨⟨d, h3, rfl⟩, H1, f1⟩
def sh_hand2 : SS :=
  (sSeq (sAsg (mBin opMul (mBin opMod (mCB bAbs (aCons (mVar 2) aNil)) (mBin opMul (mBin opMul (mBin opPow (mC (.int 10)) (mC (.int 60))) (mBin opPow (mC (.int 10)) (mC (.int 60)))) (mBin opPow (mC (.int 10)) (mC (.int 60))))) (mCB bInt (aCons (mBin opGe (mCB bAbs (aCons (mVar 2) aNil)) (mBin opPow (mC (.int 10)) (mC (.int 18)))) aNil))) (gNm 3))
  (sRet (mLst (aCons (mVar 3) (aCons (mBin opMod (mBin opMul (mBin opAdd (mBin opAdd (mBin opMod (mVar 2) (mC (.int 2147483629))) (mBin opMul (mC (.int 7919)) (mVar 1))) (mC (.int 13))) (mC (.int 48271))) (mC (.int 2147483647))) (aCons (mC (.int 0)) aNil))))))
def sh_handz (z : Int) : SS :=
  (sSeq (sAsg (mIf (mBl (mBin opLt (mVar 1) (mCB bLen (aCons (mVar 0) aNil)))) (mBin opIx (mVar 0) (mVar 1)) (mC (.int z))) (gNm 2)) sh_hand2)
def sh_hand : SS := sh_handz 0
def HandSpec (F : List D → Store → R D) : Prop := ∀ (ns : List Int) (k : Nat) (st : Store), k ≤ 100 →
  Go (F [.rol (ns.map D.int), .int k] st) (fun d st' => ∃ h, d = .loc h ∧ h = st.length ∧ HandAt st' h 0 ∧ Fr (fun _ => False) st st') NoE
theorem pow_10 (k : Nat) (hk : k ≤ 60) : ∃ A : Int, 0 < A ∧ A.natAbs.log2 < 300 ∧ ∀ st, opPow (.int 10) (.int k) st = some (.int A, st) := by
  refine ⟨10 ^ k, Int.pow_pos (by decide), ?_, fun st => ?_⟩
  · have h1 : ((10 : Int) ^ k).natAbs = 10 ^ k := by
      rw [Int.natAbs_pow]
      rfl
    rw [h1]
    refine (Nat.log2_lt (by have := Nat.pow_pos (n := k) (show 0 < 10 by decide); omega)).mpr ?_
    refine Nat.lt_of_le_of_lt (Nat.pow_le_pow_right (by decide) hk) ?_
    decide +kernel
  · rw [opPow_int, if_pos ⟨by omega, by omega, by decide⟩]
    rfl
theorem log_mul {a b : Nat} {x y : Nat} (ha : a.log2 < x) (hb : b.log2 < y) : (a * b).log2 < x + y := by
  by_cases h : a * b = 0
  · rw [h]
    have : Nat.log2 0 = 0 := by decide
    omega
  · have h0 : a ≠ 0 := fun z => h (by rw [z]; simp)
    have h1 : b ≠ 0 := fun z => h (by rw [z]; simp)
    refine (Nat.log2_lt h).mpr ?_
    rw [Nat.pow_add]
    exact Nat.mul_lt_mul'' ((Nat.log2_lt h0).mp ha) ((Nat.log2_lt h1).mp hb)
theorem handz_ok (z : Int) : HandSpec (runF 4 (sh_handz z)) := by
  intro ns k st hk
  unfold sh_handz
  obtain ⟨A, a0, a1, pa⟩ := pow_10 60 (by decide)
  obtain ⟨B, b0, b1, pb⟩ := pow_10 18 (by decide)
  have pa : ∀ st, opPow (.int 10) (.int 60) st = some (.int A, st) := pa
  have pb : ∀ st, opPow (.int 10) (.int 18) st = some (.int B, st) := pb
  have rest : ∀ cell : Int, GoS (sh_hand2 [some (.rol (ns.map D.int)), some (.int k), some (.int cell), none] st)
      (retQ (fun d st' => ∃ h, d = .loc h ∧ h = st.length ∧ HandAt st' h 0 ∧ Fr (fun _ => False) st st') NoE) := by
    intro cell
    unfold sh_hand2
    simp only [go_runF, go_ok, go_c, go_var, go_bin, go_un, go_bl, go_tru, go_nt, go_an, go_oo, go_mAn, go_mOo, go_mNt, go_if, go_chain, go_aNil, go_aCons, go_tup, go_lst, go_dict0, go_cb, go_bm, go_sl, go_sl3, go_oNone, go_oSome, go_callP, go_call, go_lc, go_tTrue, go_iAny, go_iRng1, go_iRng2, go_iEnm, go_iZip, go_gNm, go_gTp, go_gNl, go_gSb, gCn_eq, gNm_eq, gNl_nil, gTp_tup, R.bind_ok, if_true, gs_nx, gs_bk, gs_ct, gs_seq, thenQ_nx, thenQ_rt, thenQ_bk, thenQ_ct, thenQ_xc, gs_ret, gs_expr, gs_if, gs_asg, gs_par2, gs_par3, gs_aug, retQ_rt, retQ_nx, retQ_xc, gs_for, gs_while, turnQ_nx, turnQ_ct, turnQ_bk, turnQ_rt, turnQ_xc, goO_some, goV_some, goO_none, goV_none, goO_ite, goV_ite, goO_map, goV_map, goV_bind, Bool.cond_decide, cond_true, cond_false, Bool.cond_not, startD, List.map_cons, List.map_nil, List.length_cons, List.length_nil, List.replicate_succ, List.replicate_zero, List.cons_append, List.nil_append, List.append_nil, Nat.reduceSub, Nat.reduceAdd, List.getElem?_cons_zero, List.getElem?_cons_succ, List.set_cons_zero, List.set_cons_succ, Nat.zero_add, true_and, and_true, true_or, or_true, bAbs, bInt, opAdd_int, opMod_int, opMul_int, opGe_int, pa, pb]
    have b01 : (0 : Int) ≤ (if decide (B ≤ if cell < 0 then -cell else cell) = true then 1 else 0) ∧ (if decide (B ≤ if cell < 0 then -cell else cell) = true then 1 else 0 : Int) ≤ 1 := by
      by_cases h : B ≤ if cell < 0 then -cell else cell <;> simp [h]
    generalize (if decide (B ≤ if cell < 0 then -cell else cell) = true then 1 else 0 : Int) = C at b01
    have a2 : (A * A).natAbs.log2 < 600 := by rw [Int.natAbs_mul]; exact log_mul a1 a1
    have a3 : 0 < A * A * A := Int.mul_pos (Int.mul_pos a0 a0) a0
    refine ⟨.inr (by omega), .inr (by omega), a3, .inl (.inr ⟨by omega, by omega⟩), by decide, .inl (.inl (by decide)), .inl (.inr (by decide)), by decide, by decide, st.length, rfl, rfl, ⟨_, _, _, lstAt_new, ?_, Int.emod_nonneg _ (by decide), ?_, by decide, by decide⟩, Fr.push⟩
    · exact Int.mul_nonneg (Int.emod_nonneg _ (by omega)) b01.1
    · have := Int.emod_lt_of_pos ((cell % 2147483629 + 7919 * (k : Int) + 13) * 48271) (show (0 : Int) < 2147483647 by decide)
      omega
  simp only [go_runF, go_ok, go_c, go_var, go_bin, go_un, go_bl, go_tru, go_nt, go_an, go_oo, go_mAn, go_mOo, go_mNt, go_if, go_chain, go_aNil, go_aCons, go_tup, go_lst, go_dict0, go_cb, go_bm, go_sl, go_sl3, go_oNone, go_oSome, go_callP, go_call, go_lc, go_tTrue, go_iAny, go_iRng1, go_iRng2, go_iEnm, go_iZip, go_gNm, go_gTp, go_gNl, go_gSb, gCn_eq, gNm_eq, gNl_nil, gTp_tup, R.bind_ok, if_true, gs_nx, gs_bk, gs_ct, gs_seq, thenQ_nx, thenQ_rt, thenQ_bk, thenQ_ct, thenQ_xc, gs_ret, gs_expr, gs_if, gs_asg, gs_par2, gs_par3, gs_aug, retQ_rt, retQ_nx, retQ_xc, gs_for, gs_while, turnQ_nx, turnQ_ct, turnQ_bk, turnQ_rt, turnQ_xc, goO_some, goV_some, goO_none, goV_none, goO_ite, goV_ite, goO_map, goV_map, goV_bind, Bool.cond_decide, cond_true, cond_false, Bool.cond_not, startD, List.map_cons, List.map_nil, List.length_cons, List.length_nil, List.replicate_succ, List.replicate_zero, List.cons_append, List.nil_append, List.append_nil, Nat.reduceSub, Nat.reduceAdd, List.getElem?_cons_zero, List.getElem?_cons_succ, List.set_cons_zero, List.set_cons_succ, Nat.zero_add, true_and, and_true, true_or, or_true, bLen, opLt_int]
  split
  · rename_i h
    have hl : k < (ns.map D.int).length := by omega
    have e : atI (ns.map D.int) (k : Int) = some (.int (ns[k]'(by simpa using hl))) := by
      rw [atI_nat hl]
      simp [(by simpa using hl : k < ns.length)]
    simp only [go_runF, go_ok, go_c, go_var, go_bin, go_un, go_bl, go_tru, go_nt, go_an, go_oo, go_mAn, go_mOo, go_mNt, go_if, go_chain, go_aNil, go_aCons, go_tup, go_lst, go_dict0, go_cb, go_bm, go_sl, go_sl3, go_oNone, go_oSome, go_callP, go_call, go_lc, go_tTrue, go_iAny, go_iRng1, go_iRng2, go_iEnm, go_iZip, go_gNm, go_gTp, go_gNl, go_gSb, gCn_eq, gNm_eq, gNl_nil, gTp_tup, R.bind_ok, if_true, gs_nx, gs_bk, gs_ct, gs_seq, thenQ_nx, thenQ_rt, thenQ_bk, thenQ_ct, thenQ_xc, gs_ret, gs_expr, gs_if, gs_asg, gs_par2, gs_par3, gs_aug, retQ_rt, retQ_nx, retQ_xc, gs_for, gs_while, turnQ_nx, turnQ_ct, turnQ_bk, turnQ_rt, turnQ_xc, goO_some, goV_some, goO_none, goV_none, goO_ite, goV_ite, goO_map, goV_map, goV_bind, Bool.cond_decide, cond_true, cond_false, Bool.cond_not, startD, List.map_cons, List.map_nil, List.length_cons, List.length_nil, List.replicate_succ, List.replicate_zero, List.cons_append, List.nil_append, List.append_nil, Nat.reduceSub, Nat.reduceAdd, List.getElem?_cons_zero, List.getElem?_cons_succ, List.set_cons_zero, List.set_cons_succ, Nat.zero_add, true_and, and_true, true_or, or_true, opIx, lstD, e]
    exact rest _
  · exact rest z
theorem hand_ok : HandSpec (runF 4 sh_hand) := handz_ok 0
end G

/-! M4: words, trees, holes as the laws draw them. -/
namespace G
open PySem L2

/-! ### names -/
def Low (l : List Nat) : Prop := l ≠ [] ∧ l.length ≤ 8 ∧ ∀ c ∈ l, 97 ≤ c ∧ c ≤ 122
def NameOk (s : Str) : Prop := Low s.cps.toList
def FullOk (f : Str) : Prop := ∃ a b, f.cps.toList = a ++ 46 :: b ∧ Low a ∧ Low b
theorem Low.low {l : List Nat} (h : Low l) {c : Nat} (hc : c ∈ l) : c < 128 := by have := h.2.2 c hc; omega
theorem NameOk.chars {s : Str} (h : NameOk s) : Chars s := fun c hc => Low.low h hc
theorem NameOk.len {s : Str} (h : NameOk s) : s.length ≤ 8 := by
  have := h.2.1
  simpa [Str.length] using this
theorem FullOk.chars {s : Str} (h : FullOk s) : Chars s := fun c hc => by
  obtain ⟨a, b, e, ha, hb⟩ := h
  rw [e] at hc
  rcases List.mem_append.mp hc with z | z
  · exact ha.low z
  · rcases List.mem_cons.mp z with z | z
    · omega
    · exact hb.low z
theorem FullOk.len {s : Str} (h : FullOk s) : s.length ≤ 17 := by
  obtain ⟨a, b, e, ha, hb⟩ := h
  have h1 : s.length = s.cps.toList.length := by simp [Str.length]
  rw [h1, e, List.length_append, List.length_cons]
  have := ha.2.1
  have := hb.2.1
  omega
theorem append_cps {a b : Str} : (a ++ b).cps.toList = a.cps.toList ++ b.cps.toList := by
  show (a.cps ++ b.cps).toList = _
  simp
theorem strMul_one {c : Nat} {k : Int} : (strMul ⟨#[c]⟩ k).cps.toList = List.replicate k.toNat c := by
  unfold strMul
  show (List.replicate k.toNat [c]).flatten = _
  induction k.toNat with
  | zero => rfl
  | succ n ih => rw [List.replicate_succ, List.flatten_cons, ih]; rfl
theorem low_rep {c n : Nat} (h0 : 0 < n) (h1 : n ≤ 8) (hc : 97 ≤ c ∧ c ≤ 122) : Low (List.replicate n c) := by
  refine ⟨fun z => ?_, by rw [List.length_replicate]; exact h1, fun x hx => ?_⟩
  · have := congrArg List.length z
    rw [List.length_replicate] at this
    simp at this
    omega
  · rw [(List.mem_replicate.mp hx).2]; exact hc
/-- where the dot stands -/
theorem dot_inj {a b a' b' : List Nat} (ha : 46 ∉ a) (ha' : 46 ∉ a') (e : a ++ 46 :: b = a' ++ 46 :: b') : a = a' ∧ b = b' := by
  induction a generalizing a' with
  | nil =>
    cases a' with
    | nil => simp at e; exact ⟨rfl, e⟩
    | cons x r => simp at e; exact (ha' (by rw [← e.1]; exact List.mem_cons_self)).elim
  | cons x r ih =>
    cases a' with
    | nil => simp at e; exact (ha (by rw [e.1]; exact List.mem_cons_self)).elim
    | cons y s =>
      simp only [List.cons_append, List.cons.injEq] at e
      obtain ⟨h1, h2⟩ := ih (fun z => ha (List.mem_cons_of_mem _ z)) (fun z => ha' (List.mem_cons_of_mem _ z)) e.2
      exact ⟨by rw [e.1, h1], h2⟩
theorem Low.nodot {a : List Nat} (h : Low a) : 46 ∉ a := fun z => by have := h.2.2 _ z; omega

/-! ### trees -/
inductive Tree where
  | hole (s : Str) | node (f : Str) (cs : List Tree)
mutual
def Tree.toD : Tree → D
  | .hole s => .str s
  | .node f cs => .tup (.str f :: toDs cs)
def toDs : List Tree → List D
  | [] => []
  | t :: ts => t.toD :: toDs ts
end
mutual
def Tree.syms : Tree → List Str
  | .hole s => [s]
  | .node f cs => f :: symsL cs
def symsL : List Tree → List Str
  | [] => []
  | t :: ts => t.syms ++ symsL ts
end
mutual
def Tree.dep : Tree → Nat
  | .hole _ => 0
  | .node _ cs => depL cs + 1
def depL : List Tree → Nat
  | [] => 0
  | t :: ts => max t.dep (depL ts)
end
mutual
/-- of these names with so many parts, of these holes -/
def Tree.In (ws : List (Str × Nat)) (hs : List Str) : Tree → Prop
  | .hole s => s ∈ hs
  | .node f cs => (f, cs.length) ∈ ws ∧ InL ws hs cs
def InL (ws : List (Str × Nat)) (hs : List Str) : List Tree → Prop
  | [] => True
  | t :: ts => t.In ws hs ∧ InL ws hs ts
end
theorem toDs_length : ∀ ts : List Tree, (toDs ts).length = ts.length
  | [] => by unfold toDs; rfl
  | t :: ts => by unfold toDs; simp [toDs_length ts]
theorem toDs_app : ∀ ts us : List Tree, toDs (ts ++ us) = toDs ts ++ toDs us
  | [], us => by simp [toDs]
  | t :: ts, us => by simp [toDs, toDs_app ts us]
theorem depL_app : ∀ ts us : List Tree, depL (ts ++ us) = max (depL ts) (depL us)
  | [], us => by simp [depL]
  | t :: ts, us => by simp only [List.cons_append, depL, depL_app ts us]; omega
theorem InL_app {ws : List (Str × Nat)} {hs : List Str} : ∀ ts us : List Tree, InL ws hs (ts ++ us) ↔ InL ws hs ts ∧ InL ws hs us
  | [], us => by simp [InL]
  | t :: ts, us => by simp [InL, InL_app ts us, and_assoc]
def wordD (w : Str × Nat) : D := .tup [.str w.1, .int w.2]
structure WordsOk (ws : List (Str × Nat)) : Prop where
  full : ∀ w ∈ ws, FullOk w.1 ∧ w.2 ≤ 3
  bare : ∃ w ∈ ws, w.2 = 0
  len : ws.length ≤ 100
def sh_tree_1 (call : CallF) : ME :=
  (mCallP 4 (call (Str.ofString "_law_tree")) (aCons (mVar 0) (aCons (mVar 1) (aCons (mVar 2) (aCons (mBin opSub (mVar 3) (mC (.int 1))) aNil)))))
def sh_tree_2 : MT :=
  (tOo (mBl (mBin (opEq false) (mBin opIx (mVar 6) (mC (.int 1))) (mC (.int 0)))) (mBl (mBin opGt (mVar 3) (mC (.int 0)))))
def sh_tree (call : CallF) : SS :=
  (sSeq (sIf (tAn (mBl (mBin (opEq true) (mVar 2) (mLst aNil))) (mBl (mBin (opEq false) (mCallP 2 (call (Str.ofString "_law_take")) (aCons (mVar 0) (aCons (mC (.int 3)) aNil))) (mC (.int 0))))) (sRet (mCallP 2 (call (Str.ofString "_law_of")) (aCons (mVar 0) (aCons (mVar 2) aNil)))) sNx)
  (sSeq (sAsg (mCallP 2 (call (Str.ofString "_law_of")) (aCons (mVar 0) (aCons (mLc (iAny (mVar 1)) (.nm 6) sh_tree_2 (mVar 6) [6]) aNil))) (gTp 2 (gCn (gNm 4) (gCn (gNm 5) gNl))))
  (sRet (mBin opAdd (mTup (aCons (mVar 4) aNil)) (mCB bTuple (aCons (mLc (iRng1 (aCons (mVar 5) aNil)) (.nm 7) tTrue (sh_tree_1 call) [7]) aNil))))))
def TreeSpec (F : List D → Store → R D) (deep : Nat) : Prop := ∀ (h nl hl : Nat) (ws : List (Str × Nat)) (hs : List Str) (st : Store) (b : Int),
  HandAt st h b → b + 4 ^ (deep + 1) < 1099511627776 → lstAt st nl = some (ws.map wordD) → WordsOk ws → lstAt st hl = some (hs.map D.str) → (∀ s ∈ hs, NameOk s) → hs.length ≤ 1000 → nl ≠ h → hl ≠ h →
  Go (F [.loc h, .loc nl, .loc hl, .int deep] st) (fun d st' => (∃ t : Tree, d = t.toD ∧ t.In ws hs ∧ t.dep ≤ deep + 1) ∧ HandAt st' h (b + 4 ^ (deep + 1)) ∧ Fr (· = h) st st') NoE
/-- names: those of no part, or all -/
def bareOr (deep : Nat) (w : Str × Nat) : Bool := w.2 == 0 || decide (0 < deep)
theorem opNe_nil {neg : Bool} {hl n : Nat} {hs : List Str} {st : Store} {w : Nat} (h : lstAt st hl = some (hs.map D.str)) (hc : ∀ s ∈ hs, Chars s ∧ s.length ≤ w) (e : lstAt st n = some []) : opEq neg (.loc hl) (.loc n) st = some (.bl (hs.isEmpty != neg), st) := by
  rw [opEq_data (by intro a z; cases z) (toP_lst h (pdsW_strs hs)) (toP_lst e (by unfold pdsW; rfl)) (Sm.lst (SmA.strs (k := 0) hc)) (Sm.lst (SmA.nil (k := 0))) (by decide) (by decide)]
  congr 3
  cases hs <;> (unfold PyData.eqv; rfl)
/-- the names that may be drawn: a comprehension's end -/
theorem tree_names {σ : Sig} {h nl hl deep : Nat} {ws : List (Str × Nat)} {st : Store} (e : lstAt st nl = some (ws.map wordD)) (hw : WordsOk ws) (hσ : σ = [some (.loc h), some (.loc nl), some (.loc hl), some (.int deep), none, none, none, none]) :
    GoV (lcM (.lst nl) (.nm 6) sh_tree_2 (mVar 6) st.length (wipeD σ [6]) LF 0 (st ++ [.lst []])) fun st2 => lstAt st2 st.length = some ((ws.filter (bareOr deep)).map wordD) ∧ Fr (fun _ => False) st st2 := by
  subst hσ
  have hlt := lstAt_lt e
  refine lcM_go (fun i acc st2 => i ≤ ws.length ∧ acc = ((ws.take i).filter (bareOr deep)).map wordD ∧ lstAt st2 st.length = some acc ∧ Fr (fun _ => False) st st2) ws.length
    (fun i acc st2 h => ⟨h.1, h.2.2.1⟩) (fun i acc st2 ⟨hi, ha, hl2, f⟩ => ?_) LF 0 [] (st ++ [.lst []]) ⟨Nat.zero_le _, by simp, lstAt_new, Fr.push⟩ (by have := hw.len; unfold LF; omega)
  have e2 := f.lst (by simp) e
  have it : itGet (.lst nl) i st2 = some ((ws[i]?).map wordD) := by
    rw [itGet_lst e2, List.getElem?_map]
  rw [it]
  cases eg : ws[i]? with
  | none =>
    have hl3 : ws.length ≤ i := List.getElem?_eq_none_iff.mp eg
    show lstAt st2 st.length = some ((ws.filter (bareOr deep)).map wordD) ∧ Fr (fun _ => False) st st2
    refine ⟨?_, f⟩
    rw [hl2, ha, List.take_of_length_le hl3]
  | some w =>
    have hi2 : i < ws.length := (List.getElem?_eq_some_iff.mp eg).1
    have hz : st.length < st2.length := lstAt_lt hl2
    have tk : ws.take (i + 1) = ws.take i ++ [w] := by rw [List.take_add_one, eg]; rfl
    have at1 : atI [D.str w.1, .int w.2] 1 = some (.int w.2) := rfl
    have hlen : acc.length < sizeLine := by
      have h1 : acc.length ≤ i := by rw [ha, List.length_map]; exact Nat.le_trans (List.length_filter_le _ _) (by rw [List.length_take]; omega)
      have h2 := hw.len
      have e3 : sizeLine = 16777216 := rfl
      omega
    unfold sh_tree_2
    simp only [go_runF, go_ok, go_c, go_var, go_bin, go_un, go_bl, go_tru, go_nt, go_an, go_oo, go_mAn, go_mOo, go_mNt, go_if, go_chain, go_aNil, go_aCons, go_tup, go_lst, go_dict0, go_cb, go_bm, go_sl, go_sl3, go_oNone, go_oSome, go_callP, go_call, go_lc, go_tTrue, go_iAny, go_iRng1, go_iRng2, go_iEnm, go_iZip, go_gNm, go_gTp, go_gNl, go_gSb, gCn_eq, gNm_eq, gNl_nil, gTp_tup, R.bind_ok, if_true, gs_nx, gs_bk, gs_ct, gs_seq, thenQ_nx, thenQ_rt, thenQ_bk, thenQ_ct, thenQ_xc, gs_ret, gs_expr, gs_if, gs_asg, gs_par2, gs_par3, gs_aug, retQ_rt, retQ_nx, retQ_xc, gs_for, gs_while, turnQ_nx, turnQ_ct, turnQ_bk, turnQ_rt, turnQ_xc, goO_some, goV_some, goO_none, goV_none, goO_ite, goV_ite, goO_map, goV_map, goV_bind, Bool.cond_decide, cond_true, cond_false, Bool.cond_not, startD, List.map_cons, List.map_nil, List.length_cons, List.length_nil, List.replicate_succ, List.replicate_zero, List.cons_append, List.nil_append, List.append_nil, Nat.reduceSub, Nat.reduceAdd, List.getElem?_cons_zero, List.getElem?_cons_succ, List.set_cons_zero, List.set_cons_succ, Nat.zero_add, true_and, and_true, true_or, or_true, Option.map_some, bindT, wipeD, wordD, opIx, at1, opEq_int, opGt_int]
    have next : bareOr deep w = true → lstAt st2 st.length = some acc ∧ acc.length < sizeLine ∧ i + 1 ≤ ws.length ∧ acc ++ [.tup [.str w.1, .int w.2]] = ((ws.take (i + 1)).filter (bareOr deep)).map wordD ∧ lstAt (st2.set st.length (.lst (acc ++ [.tup [.str w.1, .int w.2]]))) st.length = some (acc ++ [.tup [.str w.1, .int w.2]]) ∧ Fr (fun _ => False) st (st2.set st.length (.lst (acc ++ [.tup [.str w.1, .int w.2]]))) := fun hb =>
      ⟨hl2, hlen, hi2, by rw [tk, List.filter_append, List.map_append, ← ha]; simp [hb, wordD], lstAt_set hz, f.new (Fr.put (.inr (Nat.le_refl _)))⟩
    have skip : bareOr deep w = false → i + 1 ≤ ws.length ∧ acc = ((ws.take (i + 1)).filter (bareOr deep)).map wordD ∧ lstAt st2 st.length = some acc ∧ Fr (fun _ => False) st st2 := fun hb =>
      ⟨hi2, by rw [tk, List.filter_append, List.map_append, ← ha]; simp [hb], hl2, f⟩
    by_cases hz0 : w.2 = 0
    · have e3 : ((w.2 : Int) == 0) = true := by rw [hz0]; rfl
      simp only [e3, Bool.true_bne, Bool.not_false, cond_true]
      exact next (by simp [bareOr, hz0])
    · have e3 : ((w.2 : Int) == 0) = false := by simpa using hz0
      simp only [e3, bne_self_eq_false, cond_false]
      by_cases hd : 0 < deep
      · have e4 : (0 : Int) < (deep : Int) := by omega
        simp only [e4, if_true]
        exact next (by simp [bareOr, hd])
      · have e4 : ¬ (0 : Int) < (deep : Int) := by omega
        simp only [e4, if_false]
        exact skip (by simp [bareOr, hd, hz0])
/-- the limbs of a tree: a comprehension's end -/
theorem tree_limbs {call : CallF} {deep : Nat} (hT : ∀ d, deep = d + 1 → TreeSpec (call (Str.ofString "_law_tree")) d) {σ : Sig} {h nl hl : Nat} {ws : List (Str × Nat)} {hs : List Str} {st : Store} {b : Int} {n : Nat}
    (H : HandAt st h b) (hb : b + n * 4 ^ deep < 1099511627776) (en : lstAt st nl = some (ws.map wordD)) (hw : WordsOk ws) (eh : lstAt st hl = some (hs.map D.str)) (hhs : ∀ s ∈ hs, NameOk s) (hhl : hs.length ≤ 1000) (n1 : nl ≠ h) (n2 : hl ≠ h) (hn : n ≤ 3) (hd : n = 0 ∨ 0 < deep)
    {x y : Option D} (hσ : σ = [some (.loc h), some (.loc nl), some (.loc hl), some (.int deep), x, y, none, none]) :
    GoV (lcM (.rng 0 n) (.nm 7) tTrue (sh_tree_1 call) st.length (wipeD σ [7]) LF 0 (st ++ [.lst []])) fun st2 => (∃ ts : List Tree, lstAt st2 st.length = some (toDs ts) ∧ ts.length = n ∧ InL ws hs ts ∧ depL ts ≤ deep) ∧ HandAt st2 h (b + n * 4 ^ deep) ∧ Fr (· = h) st st2 := by
  subst hσ
  have hlt := H.lt
  have pos4 : (0 : Int) < 4 ^ deep := Int.pow_pos (by decide)
  refine lcM_go (fun i acc st2 => i ≤ n ∧ (∃ ts : List Tree, acc = toDs ts ∧ ts.length = i ∧ InL ws hs ts ∧ depL ts ≤ deep) ∧ lstAt st2 st.length = some acc ∧ HandAt st2 h (b + i * 4 ^ deep) ∧ Fr (· = h) st st2) n
    (fun i acc st2 h => ⟨h.1, h.2.2.1⟩) (fun i acc st2 ⟨hi, ⟨ts, ha, hl1, hin, hdp⟩, hl2, H2, f⟩ => ?_) LF 0 [] (st ++ [.lst []])
    ⟨Nat.zero_le _, ⟨[], by unfold toDs; rfl, rfl, by unfold InL; trivial, by unfold depL; omega⟩, lstAt_new, (H.fr (F := fun _ => False) Fr.push (by simp)).mono (by simp), Fr.push⟩ (by unfold LF; omega)
  rw [itGet_rng]
  by_cases hin2 : i < n
  · rw [if_pos hin2]
    have hdp0 : 0 < deep := by omega
    obtain ⟨d, rfl⟩ : ∃ d, deep = d + 1 := ⟨deep - 1, by omega⟩
    have T := hT d rfl
    have e1 : ((d + 1 : Nat) : Int) - 1 = (d : Int) := by omega
    unfold sh_tree_1
    simp only [go_runF, go_ok, go_c, go_var, go_bin, go_un, go_bl, go_tru, go_nt, go_an, go_oo, go_mAn, go_mOo, go_mNt, go_if, go_chain, go_aNil, go_aCons, go_tup, go_lst, go_dict0, go_cb, go_bm, go_sl, go_sl3, go_oNone, go_oSome, go_callP, go_call, go_lc, go_tTrue, go_iAny, go_iRng1, go_iRng2, go_iEnm, go_iZip, go_gNm, go_gTp, go_gNl, go_gSb, gCn_eq, gNm_eq, gNl_nil, gTp_tup, R.bind_ok, if_true, gs_nx, gs_bk, gs_ct, gs_seq, thenQ_nx, thenQ_rt, thenQ_bk, thenQ_ct, thenQ_xc, gs_ret, gs_expr, gs_if, gs_asg, gs_par2, gs_par3, gs_aug, retQ_rt, retQ_nx, retQ_xc, gs_for, gs_while, turnQ_nx, turnQ_ct, turnQ_bk, turnQ_rt, turnQ_xc, goO_some, goV_some, goO_none, goV_none, goO_ite, goV_ite, goO_map, goV_map, goV_bind, Bool.cond_decide, cond_true, cond_false, Bool.cond_not, startD, List.map_cons, List.map_nil, List.length_cons, List.length_nil, List.replicate_succ, List.replicate_zero, List.cons_append, List.nil_append, List.append_nil, Nat.reduceSub, Nat.reduceAdd, List.getElem?_cons_zero, List.getElem?_cons_succ, List.set_cons_zero, List.set_cons_succ, Nat.zero_add, true_and, and_true, true_or, or_true, bindT, wipeD, opSub_int, e1]
    have hle : (i : Int) * 4 ^ (d + 1) + 4 ^ (d + 1) ≤ n * 4 ^ (d + 1) := by
      have h1 : ((i : Int) + 1) * 4 ^ (d + 1) ≤ n * 4 ^ (d + 1) := Int.mul_le_mul_of_nonneg_right (by omega) (Int.le_of_lt pos4)
      rw [Int.add_mul, Int.one_mul] at h1
      exact h1
    refine (T h nl hl ws hs st2 _ H2 (by omega) (f.lst n1 en) hw (f.lst n2 eh) hhs hhl n1 n2).to fun dd st3 ⟨⟨t, hdd, ht1, ht2⟩, H3, f3⟩ => ?_
    have hne : st.length ≠ h := by omega
    have e3 := f3.lst hne hl2
    have hz : st.length < st3.length := lstAt_lt e3
    have hlen : acc.length < sizeLine := by
      rw [ha, toDs_length, hl1]
      have e3 : sizeLine = 16777216 := rfl
      omega
    refine ⟨e3, hlen, by omega, ⟨ts ++ [t], ?_, by simp [hl1], ?_, ?_⟩, lstAt_set hz, ?_, ?_⟩
    · rw [ha, hdd, toDs_app]; simp [toDs]
    · rw [InL_app]; exact ⟨hin, by unfold InL; exact ⟨ht1, by unfold InL; trivial⟩⟩
    · rw [depL_app]; simp only [depL]; omega
    · have H4 := H3.fr (F := (· = st.length)) (st' := st3.set st.length (.lst (acc ++ [dd]))) (Fr.put rfl) (by omega)
      refine H4.mono ?_
      have : ((i + 1 : Nat) : Int) * 4 ^ (d + 1) = i * 4 ^ (d + 1) + 4 ^ (d + 1) := by
        rw [Int.natCast_add, Int.add_mul]; simp
      omega
    · exact (f.trans f3).new (Fr.put (.inr (Nat.le_refl _)))
  · rw [if_neg hin2]
    have e : i = n := by omega
    subst e
    exact ⟨⟨ts, by rw [hl2, ha], hl1, hin, hdp⟩, H2, f⟩
theorem tree_ok {call : CallF} (T : TakeSpec (call (Str.ofString "_law_take"))) (O : OfSpec (call (Str.ofString "_law_of"))) {deep : Nat} (hT : ∀ d, deep = d + 1 → TreeSpec (call (Str.ofString "_law_tree")) d) : TreeSpec (runF 8 (sh_tree call)) deep := by
  intro h nl hl ws hs st b H hb en hw eh hhs hhl n1 n2
  have pos4 : (0 : Int) < 4 ^ deep := Int.pow_pos (by decide)
  have e4 : (4 : Int) ^ (deep + 1) = 4 * 4 ^ deep := by rw [Int.pow_succ]; omega
  rw [e4] at hb ⊢
  -- behind the holes' way out
  have rest : ∀ (st1 : Store), HandAt st1 h (b + 1) → Fr (· = h) st st1 → GoS (sSeq (sAsg (mCallP 2 (call (Str.ofString "_law_of")) (aCons (mVar 0) (aCons (mLc (iAny (mVar 1)) (.nm 6) sh_tree_2 (mVar 6) [6]) aNil))) (gTp 2 (gCn (gNm 4) (gCn (gNm 5) gNl))))
      (sRet (mBin opAdd (mTup (aCons (mVar 4) aNil)) (mCB bTuple (aCons (mLc (iRng1 (aCons (mVar 5) aNil)) (.nm 7) tTrue (sh_tree_1 call) [7]) aNil)))) [some (.loc h), some (.loc nl), some (.loc hl), some (.int deep), none, none, none, none] st1)
      (retQ (fun d st' => (∃ t : Tree, d = t.toD ∧ t.In ws hs ∧ t.dep ≤ deep + 1) ∧ HandAt st' h (b + 4 * 4 ^ deep) ∧ Fr (· = h) st st') NoE) := by
    intro st1 H1 f1
    have en1 := f1.lst n1 en
    simp only [go_runF, go_ok, go_c, go_var, go_bin, go_un, go_bl, go_tru, go_nt, go_an, go_oo, go_mAn, go_mOo, go_mNt, go_if, go_chain, go_aNil, go_aCons, go_tup, go_lst, go_dict0, go_cb, go_bm, go_sl, go_sl3, go_oNone, go_oSome, go_callP, go_call, go_lc, go_tTrue, go_iAny, go_iRng1, go_iRng2, go_iEnm, go_iZip, go_gNm, go_gTp, go_gNl, go_gSb, gCn_eq, gNm_eq, gNl_nil, gTp_tup, R.bind_ok, if_true, gs_nx, gs_bk, gs_ct, gs_seq, thenQ_nx, thenQ_rt, thenQ_bk, thenQ_ct, thenQ_xc, gs_ret, gs_expr, gs_if, gs_asg, gs_par2, gs_par3, gs_aug, retQ_rt, retQ_nx, retQ_xc, gs_for, gs_while, turnQ_nx, turnQ_ct, turnQ_bk, turnQ_rt, turnQ_xc, goO_some, goV_some, goO_none, goV_none, goO_ite, goV_ite, goO_map, goV_map, goV_bind, Bool.cond_decide, cond_true, cond_false, Bool.cond_not, startD, List.map_cons, List.map_nil, List.length_cons, List.length_nil, List.replicate_succ, List.replicate_zero, List.cons_append, List.nil_append, List.append_nil, Nat.reduceSub, Nat.reduceAdd, List.getElem?_cons_zero, List.getElem?_cons_succ, List.set_cons_zero, List.set_cons_succ, Nat.zero_add, true_and, and_true, true_or, or_true, iterD_lst en1]
    refine (tree_names (deep := deep) (hl := hl) en1 hw rfl).mono fun st2 ⟨el, f2⟩ => ?_
    have hne : (ws.filter (bareOr deep)).map wordD ≠ [] := by
      obtain ⟨w, hw1, hw2⟩ := hw.bare
      intro z
      have : w ∈ ws.filter (bareOr deep) := List.mem_filter.mpr ⟨hw1, by simp [bareOr, hw2]⟩
      rw [List.map_eq_nil_iff] at z
      rw [z] at this
      cases this
    have hll : ((ws.filter (bareOr deep)).map wordD).length < 1073741824 := by
      rw [List.length_map]
      have := List.length_filter_le (bareOr deep) ws
      have := hw.len
      omega
    have hlt1 := H1.lt
    refine (O.lst h st1.length _ st2 (b + 1) (H1.fr f2 (by simp)) (by omega) el (by omega) hne hll).to fun d st3 ⟨hd, H3, f3⟩ => ?_
    obtain ⟨w, hw1, rfl⟩ := List.mem_map.mp hd
    obtain ⟨hw2, hw3⟩ := List.mem_filter.mp hw1
    obtain ⟨hfull, hpar⟩ := hw.full w hw2
    have fa : Fr (· = h) st st3 := (f1.trans (f2.imp fun _ _ z => z.elim)).trans f3
    have one : 1 ≤ sizeLine := by decide
    simp only [go_runF, go_ok, go_c, go_var, go_bin, go_un, go_bl, go_tru, go_nt, go_an, go_oo, go_mAn, go_mOo, go_mNt, go_if, go_chain, go_aNil, go_aCons, go_tup, go_lst, go_dict0, go_cb, go_bm, go_sl, go_sl3, go_oNone, go_oSome, go_callP, go_call, go_lc, go_tTrue, go_iAny, go_iRng1, go_iRng2, go_iEnm, go_iZip, go_gNm, go_gTp, go_gNl, go_gSb, gCn_eq, gNm_eq, gNl_nil, gTp_tup, R.bind_ok, if_true, gs_nx, gs_bk, gs_ct, gs_seq, thenQ_nx, thenQ_rt, thenQ_bk, thenQ_ct, thenQ_xc, gs_ret, gs_expr, gs_if, gs_asg, gs_par2, gs_par3, gs_aug, retQ_rt, retQ_nx, retQ_xc, gs_for, gs_while, turnQ_nx, turnQ_ct, turnQ_bk, turnQ_rt, turnQ_xc, goO_some, goV_some, goO_none, goV_none, goO_ite, goV_ite, goO_map, goV_map, goV_bind, Bool.cond_decide, cond_true, cond_false, Bool.cond_not, startD, List.map_cons, List.map_nil, List.length_cons, List.length_nil, List.replicate_succ, List.replicate_zero, List.cons_append, List.nil_append, List.append_nil, Nat.reduceSub, Nat.reduceAdd, List.getElem?_cons_zero, List.getElem?_cons_succ, List.set_cons_zero, List.set_cons_succ, Nat.zero_add, true_and, and_true, true_or, or_true, wordD]
    refine ⟨one, ⟨by omega, by omega⟩, ?_⟩
    have e5 : Int.toNat (w.2 : Int) = w.2 := by simp
    rw [e5]
    have hd0 : w.2 = 0 ∨ 0 < deep := by
      simp only [bareOr, Bool.or_eq_true, beq_iff_eq, decide_eq_true_eq] at hw3
      exact hw3
    have hm : (w.2 : Int) * 4 ^ deep + 2 ≤ 4 * 4 ^ deep := by
      rcases hd0 with z | z
      · rw [z]; simp; omega
      · have h1 : (w.2 : Int) * 4 ^ deep ≤ 3 * 4 ^ deep := Int.mul_le_mul_of_nonneg_right (by omega) (Int.le_of_lt pos4)
        have h2 : (4 : Int) ≤ 4 ^ deep := by
          obtain ⟨k, rfl⟩ : ∃ k, deep = k + 1 := ⟨deep - 1, by omega⟩
          rw [Int.pow_succ]
          have : (0 : Int) < 4 ^ k := Int.pow_pos (by decide)
          omega
        omega
    refine (tree_limbs hT H3 (by omega) (fa.lst n1 en) hw (fa.lst n2 eh) hhs hhl n1 n2 hpar hd0 rfl).mono fun st4 ⟨⟨ts, ets, hts, hin, hdp⟩, H4, f4⟩ => ?_
    have ln : 1 + (toDs ts).length ≤ sizeLine := by
      rw [toDs_length, hts]
      have e3 : sizeLine = 16777216 := rfl
      omega
    have tp : bTuple [.loc st3.length] st4 = some (.tup (toDs ts), st4) := by
      simp only [bTuple, lstD_loc ets]
    simp only [go_runF, go_ok, go_c, go_var, go_bin, go_un, go_bl, go_tru, go_nt, go_an, go_oo, go_mAn, go_mOo, go_mNt, go_if, go_chain, go_aNil, go_aCons, go_tup, go_lst, go_dict0, go_cb, go_bm, go_sl, go_sl3, go_oNone, go_oSome, go_callP, go_call, go_lc, go_tTrue, go_iAny, go_iRng1, go_iRng2, go_iEnm, go_iZip, go_gNm, go_gTp, go_gNl, go_gSb, gCn_eq, gNm_eq, gNl_nil, gTp_tup, R.bind_ok, if_true, gs_nx, gs_bk, gs_ct, gs_seq, thenQ_nx, thenQ_rt, thenQ_bk, thenQ_ct, thenQ_xc, gs_ret, gs_expr, gs_if, gs_asg, gs_par2, gs_par3, gs_aug, retQ_rt, retQ_nx, retQ_xc, gs_for, gs_while, turnQ_nx, turnQ_ct, turnQ_bk, turnQ_rt, turnQ_xc, goO_some, goV_some, goO_none, goV_none, goO_ite, goV_ite, goO_map, goV_map, goV_bind, Bool.cond_decide, cond_true, cond_false, Bool.cond_not, startD, List.map_cons, List.map_nil, List.length_cons, List.length_nil, List.replicate_succ, List.replicate_zero, List.cons_append, List.nil_append, List.append_nil, Nat.reduceSub, Nat.reduceAdd, List.getElem?_cons_zero, List.getElem?_cons_succ, List.set_cons_zero, List.set_cons_succ, Nat.zero_add, true_and, and_true, true_or, or_true, tp, opAdd, ln]
    refine ⟨⟨.node w.1 ts, ?_, ?_, ?_⟩, H4.mono (by omega), fa.trans f4⟩
    · unfold Tree.toD; rfl
    · unfold Tree.In; rw [hts]; exact ⟨hw2, hin⟩
    · unfold Tree.dep; omega
  unfold sh_tree
  have hlh : hl < st.length := lstAt_lt eh
  have eh1 : lstAt (st ++ [.lst []]) hl = some (hs.map D.str) := lstAt_push eh
  have en0 : lstAt (st ++ [.lst ([] : List D)]) st.length = some [] := lstAt_new
  have H0 : HandAt (st ++ [.lst []]) h b := H.fr (F := fun _ => False) Fr.push (by simp)
  have zero : 0 ≤ sizeLine := by decide
  rw [go_runF, gs_seq]
  simp only [go_runF, go_ok, go_c, go_var, go_bin, go_un, go_bl, go_tru, go_nt, go_an, go_oo, go_mAn, go_mOo, go_mNt, go_if, go_chain, go_aNil, go_aCons, go_tup, go_lst, go_dict0, go_cb, go_bm, go_sl, go_sl3, go_oNone, go_oSome, go_callP, go_call, go_lc, go_tTrue, go_iAny, go_iRng1, go_iRng2, go_iEnm, go_iZip, go_gNm, go_gTp, go_gNl, go_gSb, gCn_eq, gNm_eq, gNl_nil, gTp_tup, R.bind_ok, if_true, gs_nx, gs_bk, gs_ct, gs_seq, thenQ_nx, thenQ_rt, thenQ_bk, thenQ_ct, thenQ_xc, gs_ret, gs_expr, gs_if, gs_asg, gs_par2, gs_par3, gs_aug, retQ_rt, retQ_nx, retQ_xc, gs_for, gs_while, turnQ_nx, turnQ_ct, turnQ_bk, turnQ_rt, turnQ_xc, goO_some, goV_some, goO_none, goV_none, goO_ite, goV_ite, goO_map, goV_map, goV_bind, Bool.cond_decide, cond_true, cond_false, Bool.cond_not, startD, List.map_cons, List.map_nil, List.length_cons, List.length_nil, List.replicate_succ, List.replicate_zero, List.cons_append, List.nil_append, List.append_nil, Nat.reduceSub, Nat.reduceAdd, List.getElem?_cons_zero, List.getElem?_cons_succ, List.set_cons_zero, List.set_cons_succ, Nat.zero_add, true_and, and_true, true_or, or_true, zero, opNe_nil eh1 (fun s hs' => ⟨(hhs s hs').chars, (hhs s hs').len⟩) en0]
  cases hs with
  | nil =>
    simp only [List.isEmpty_nil, bne_self_eq_false, cond_false]
    have r := rest _ (H0.mono (by omega)) Fr.push
    rw [gs_seq] at r
    simp only [go_runF, go_ok, go_c, go_var, go_bin, go_un, go_bl, go_tru, go_nt, go_an, go_oo, go_mAn, go_mOo, go_mNt, go_if, go_chain, go_aNil, go_aCons, go_tup, go_lst, go_dict0, go_cb, go_bm, go_sl, go_sl3, go_oNone, go_oSome, go_callP, go_call, go_lc, go_tTrue, go_iAny, go_iRng1, go_iRng2, go_iEnm, go_iZip, go_gNm, go_gTp, go_gNl, go_gSb, gCn_eq, gNm_eq, gNl_nil, gTp_tup, R.bind_ok, if_true, gs_nx, gs_bk, gs_ct, gs_seq, thenQ_nx, thenQ_rt, thenQ_bk, thenQ_ct, thenQ_xc, gs_ret, gs_expr, gs_if, gs_asg, gs_par2, gs_par3, gs_aug, retQ_rt, retQ_nx, retQ_xc, gs_for, gs_while, turnQ_nx, turnQ_ct, turnQ_bk, turnQ_rt, turnQ_xc, goO_some, goV_some, goO_none, goV_none, goO_ite, goV_ite, goO_map, goV_map, goV_bind, Bool.cond_decide, cond_true, cond_false, Bool.cond_not, startD, List.map_cons, List.map_nil, List.length_cons, List.length_nil, List.replicate_succ, List.replicate_zero, List.cons_append, List.nil_append, List.append_nil, Nat.reduceSub, Nat.reduceAdd, List.getElem?_cons_zero, List.getElem?_cons_succ, List.set_cons_zero, List.set_cons_succ, Nat.zero_add, true_and, and_true, true_or, or_true] at r
    exact r
  | cons s0 ss =>
    simp only [List.isEmpty_cons, Bool.false_bne, cond_true]
    refine (T h 3 _ b H0 (by omega) (by decide) (by decide)).to fun d st1 ⟨⟨k, hk, k0, k1⟩, H1, f1⟩ => ?_
    subst hk
    have f2 : Fr (· = h) st st1 := Fr.push.trans f1
    simp only [go_runF, go_ok, go_c, go_var, go_bin, go_un, go_bl, go_tru, go_nt, go_an, go_oo, go_mAn, go_mOo, go_mNt, go_if, go_chain, go_aNil, go_aCons, go_tup, go_lst, go_dict0, go_cb, go_bm, go_sl, go_sl3, go_oNone, go_oSome, go_callP, go_call, go_lc, go_tTrue, go_iAny, go_iRng1, go_iRng2, go_iEnm, go_iZip, go_gNm, go_gTp, go_gNl, go_gSb, gCn_eq, gNm_eq, gNl_nil, gTp_tup, R.bind_ok, if_true, gs_nx, gs_bk, gs_ct, gs_seq, thenQ_nx, thenQ_rt, thenQ_bk, thenQ_ct, thenQ_xc, gs_ret, gs_expr, gs_if, gs_asg, gs_par2, gs_par3, gs_aug, retQ_rt, retQ_nx, retQ_xc, gs_for, gs_while, turnQ_nx, turnQ_ct, turnQ_bk, turnQ_rt, turnQ_xc, goO_some, goV_some, goO_none, goV_none, goO_ite, goV_ite, goO_map, goV_map, goV_bind, Bool.cond_decide, cond_true, cond_false, Bool.cond_not, startD, List.map_cons, List.map_nil, List.length_cons, List.length_nil, List.replicate_succ, List.replicate_zero, List.cons_append, List.nil_append, List.append_nil, Nat.reduceSub, Nat.reduceAdd, List.getElem?_cons_zero, List.getElem?_cons_succ, List.set_cons_zero, List.set_cons_succ, Nat.zero_add, true_and, and_true, true_or, or_true, opEq_int]
    by_cases hk : k = 0
    · subst hk
      simp only [beq_self_eq_true, Bool.true_bne, Bool.not_false, cond_true]
      have eh2 := f2.lst n2 eh
      refine (O.lst h hl _ st1 (b + 1) H1 (by omega) eh2 n2 (by simp) (by rw [List.length_map]; omega)).to fun d st2 ⟨hd, H2, f3⟩ => ?_
      obtain ⟨s, hs1, rfl⟩ := List.mem_map.mp hd
      refine ⟨⟨.hole s, by unfold Tree.toD; rfl, by unfold Tree.In; exact hs1, by unfold Tree.dep; omega⟩, H2.mono (by omega), f2.trans f3⟩
    · have e6 : (k == 0) = false := by simpa using hk
      simp only [e6, bne_self_eq_false, cond_false]
      have r := rest _ H1 f2
      rw [gs_seq] at r
      simp only [go_runF, go_ok, go_c, go_var, go_bin, go_un, go_bl, go_tru, go_nt, go_an, go_oo, go_mAn, go_mOo, go_mNt, go_if, go_chain, go_aNil, go_aCons, go_tup, go_lst, go_dict0, go_cb, go_bm, go_sl, go_sl3, go_oNone, go_oSome, go_callP, go_call, go_lc, go_tTrue, go_iAny, go_iRng1, go_iRng2, go_iEnm, go_iZip, go_gNm, go_gTp, go_gNl, go_gSb, gCn_eq, gNm_eq, gNl_nil, gTp_tup, R.bind_ok, if_true, gs_nx, gs_bk, gs_ct, gs_seq, thenQ_nx, thenQ_rt, thenQ_bk, thenQ_ct, thenQ_xc, gs_ret, gs_expr, gs_if, gs_asg, gs_par2, gs_par3, gs_aug, retQ_rt, retQ_nx, retQ_xc, gs_for, gs_while, turnQ_nx, turnQ_ct, turnQ_bk, turnQ_rt, turnQ_xc, goO_some, goV_some, goO_none, goV_none, goO_ite, goV_ite, goO_map, goV_map, goV_bind, Bool.cond_decide, cond_true, cond_false, Bool.cond_not, startD, List.map_cons, List.map_nil, List.length_cons, List.length_nil, List.replicate_succ, List.replicate_zero, List.cons_append, List.nil_append, List.append_nil, Nat.reduceSub, Nat.reduceAdd, List.getElem?_cons_zero, List.getElem?_cons_succ, List.set_cons_zero, List.set_cons_succ, Nat.zero_add, true_and, and_true, true_or, or_true] at r
      exact r
end G

/-! M5: words and holes as the laws draw them. -/
namespace G
open PySem L2

/-! ### law_called -/
def sh_called (call : CallF) : SS :=
  (sSeq (sAsg (mLst (aCons (mLst (aCons (mC (.str (Str.ofString "x"))) (aCons (mC (.str (Str.ofString "y"))) (aCons (mC (.str (Str.ofString "z"))) aNil)))) (aCons (mLst (aCons (mC (.str (Str.ofString "a"))) (aCons (mC (.str (Str.ofString "b"))) (aCons (mC (.str (Str.ofString "c"))) aNil)))) (aCons (mLst (aCons (mC (.str (Str.ofString "b"))) (aCons (mC (.str (Str.ofString "a"))) aNil))) (aCons (mLst (aCons (mC (.str (Str.ofString "aa"))) (aCons (mC (.str (Str.ofString "a"))) (aCons (mC (.str (Str.ofString "ab"))) (aCons (mC (.str (Str.ofString "b"))) aNil))))) (aCons (mLst (aCons (mC (.str (Str.ofString "z"))) (aCons (mC (.str (Str.ofString "zzzzzzzz"))) (aCons (mC (.str (Str.ofString "y"))) aNil)))) (aCons (mLst (aCons (mC (.str (Str.ofString "c"))) aNil)) aNil))))))) (gNm 1))
  (sRet (mCallP 2 (call (Str.ofString "_law_of")) (aCons (mVar 0) (aCons (mVar 1) aNil)))))
def CalledSpec (F : List D → Store → R D) : Prop := ∀ (h : Nat) (st : Store) (b : Int), HandAt st h b → b < 1099511627776 →
  Go (F [.loc h] st) (fun d st' => (∃ l hs, d = .loc l ∧ st.length ≤ l ∧ lstAt st' l = some (hs.map D.str) ∧ (∀ s ∈ hs, NameOk s) ∧ hs ≠ [] ∧ hs.length ≤ 4) ∧ HandAt st' h (b + 1) ∧ Fr (· = h) st st') NoE
instance (l : List Nat) : Decidable (Low l) := by unfold Low; infer_instance
instance (s : Str) : Decidable (NameOk s) := by unfold NameOk; infer_instance
def lots : List (List Str) := [[Str.ofString "x", Str.ofString "y", Str.ofString "z"], [Str.ofString "a", Str.ofString "b", Str.ofString "c"], [Str.ofString "b", Str.ofString "a"], [Str.ofString "aa", Str.ofString "a", Str.ofString "ab", Str.ofString "b"], [Str.ofString "z", Str.ofString "zzzzzzzz", Str.ofString "y"], [Str.ofString "c"]]
theorem lots_ok : ∀ hs ∈ lots, (∀ s ∈ hs, NameOk s) ∧ hs ≠ [] ∧ hs.length ≤ 4 := by decide +kernel
theorem called_ok {call : CallF} (O : OfSpec (call (Str.ofString "_law_of"))) : CalledSpec (runF 2 (sh_called call)) := by
  intro h st b H hb
  unfold sh_called
  simp only [go_runF, go_ok, go_c, go_var, go_bin, go_un, go_bl, go_tru, go_nt, go_an, go_oo, go_mAn, go_mOo, go_mNt, go_if, go_chain, go_aNil, go_aCons, go_tup, go_lst, go_dict0, go_cb, go_bm, go_sl, go_sl3, go_oNone, go_oSome, go_callP, go_call, go_lc, go_tTrue, go_iAny, go_iRng1, go_iRng2, go_iEnm, go_iZip, go_gNm, go_gTp, go_gNl, go_gSb, gCn_eq, gNm_eq, gNl_nil, gTp_tup, R.bind_ok, if_true, gs_nx, gs_bk, gs_ct, gs_seq, thenQ_nx, thenQ_rt, thenQ_bk, thenQ_ct, thenQ_xc, gs_ret, gs_expr, gs_if, gs_asg, gs_par2, gs_par3, gs_aug, retQ_rt, retQ_nx, retQ_xc, gs_for, gs_while, turnQ_nx, turnQ_ct, turnQ_bk, turnQ_rt, turnQ_xc, goO_some, goV_some, goO_none, goV_none, goO_ite, goV_ite, goO_map, goV_map, goV_bind, Bool.cond_decide, cond_true, cond_false, Bool.cond_not, startD, List.map_cons, List.map_nil, List.length_cons, List.length_nil, List.replicate_succ, List.replicate_zero, List.cons_append, List.nil_append, List.append_nil, Nat.reduceSub, Nat.reduceAdd, List.getElem?_cons_zero, List.getElem?_cons_succ, List.set_cons_zero, List.set_cons_succ, Nat.zero_add, true_and, and_true, true_or, or_true]
  have s1 : 1 ≤ sizeLine := by decide
  have s2 : 2 ≤ sizeLine := by decide
  have s3 : 3 ≤ sizeLine := by decide
  have s4 : 4 ≤ sizeLine := by decide
  have s6 : 6 ≤ sizeLine := by decide
  refine ⟨s3, s3, s2, s4, s3, s1, s6, ?_⟩
  generalize e1 : st ++ [Cell.lst [D.str (Str.ofString "x"), .str (Str.ofString "y"), .str (Str.ofString "z")]] = st1
  generalize e2 : st1 ++ [Cell.lst [D.str (Str.ofString "a"), .str (Str.ofString "b"), .str (Str.ofString "c")]] = st2
  generalize e3 : st2 ++ [Cell.lst [D.str (Str.ofString "b"), .str (Str.ofString "a")]] = st3
  generalize e4 : st3 ++ [Cell.lst [D.str (Str.ofString "aa"), .str (Str.ofString "a"), .str (Str.ofString "ab"), .str (Str.ofString "b")]] = st4
  generalize e5 : st4 ++ [Cell.lst [D.str (Str.ofString "z"), .str (Str.ofString "zzzzzzzz"), .str (Str.ofString "y")]] = st5
  generalize e6 : st5 ++ [Cell.lst [D.str (Str.ofString "c")]] = st6
  generalize e7 : st6 ++ [Cell.lst [.loc st.length, .loc st1.length, .loc st2.length, .loc st3.length, .loc st4.length, .loc st5.length]] = st7
  have p : ∀ {F : Nat → Prop} {a b : Store} {c : Cell}, a ++ [c] = b → Fr F a b := fun {F a b c} e => e ▸ Fr.push
  have q : ∀ {a b : Store} {xs : List D}, a ++ [Cell.lst xs] = b → lstAt b a.length = some xs := fun {a b xs} e => e ▸ lstAt_new
  have f7 : Fr (fun _ => False) st6 st7 := p e7
  have f6 := (p (F := fun _ => False) e6).trans f7
  have f5 := (p (F := fun _ => False) e5).trans f6
  have f4 := (p (F := fun _ => False) e4).trans f5
  have f3 := (p (F := fun _ => False) e3).trans f4
  have f2 := (p (F := fun _ => False) e2).trans f3
  have f1 := (p (F := fun _ => False) e1).trans f2
  have hl := H.lt
  have h0 := f1.le; have h1 := f2.le; have h2 := f3.le; have h3 := f4.le; have h4 := f5.le; have h5 := f6.le; have h6 := f7.le
  have m1 := (p (F := fun _ => False) e1).le; have m2 := (p (F := fun _ => False) e2).le; have m3 := (p (F := fun _ => False) e3).le; have m4 := (p (F := fun _ => False) e4).le; have m5 := (p (F := fun _ => False) e5).le; have m6 := (p (F := fun _ => False) e6).le
  refine (O.lst h st6.length _ st7 b (H.fr f1 (by simp)) hb (q e7) (by omega) (by simp) (by simp)).to fun d st8 ⟨hd, H8, f8⟩ => ?_
  have fin : ∀ {a c : Store} {hs : List Str}, hs ∈ lots → st.length ≤ a.length → a ++ [Cell.lst (hs.map D.str)] = c → Fr (fun _ => False) c st7 → ∃ l hs, D.loc a.length = .loc l ∧ st.length ≤ l ∧ lstAt st8 l = some (hs.map D.str) ∧ (∀ s ∈ hs, NameOk s) ∧ hs ≠ [] ∧ hs.length ≤ 4 := fun {a c hs} hm ha e f =>
    ⟨a.length, hs, rfl, ha, f8.lst (by omega) (f.lst (by simp) (q e)), lots_ok hs hm⟩
  refine ⟨?_, H8, (f1.imp fun _ _ z => z.elim).trans f8⟩
  simp only [List.mem_cons, List.not_mem_nil, or_false] at hd
  rcases hd with rfl | rfl | rfl | rfl | rfl | rfl
  · exact fin (hs := [Str.ofString "x", Str.ofString "y", Str.ofString "z"]) (by unfold lots; simp) (by omega) e1 f2
  · exact fin (hs := [Str.ofString "a", Str.ofString "b", Str.ofString "c"]) (by unfold lots; simp) (by omega) e2 f3
  · exact fin (hs := [Str.ofString "b", Str.ofString "a"]) (by unfold lots; simp) (by omega) e3 f4
  · exact fin (hs := [Str.ofString "aa", Str.ofString "a", Str.ofString "ab", Str.ofString "b"]) (by unfold lots; simp) (by omega) e4 f5
  · exact fin (hs := [Str.ofString "z", Str.ofString "zzzzzzzz", Str.ofString "y"]) (by unfold lots; simp) (by omega) e5 f6
  · exact fin (hs := [Str.ofString "c"]) (by unfold lots; simp) (by omega) e6 f7

/-! ### law_words -/
def letters : Str := Str.ofString "abcdefghijklmnopqrstuvwxyz"
def sh_words_1 (call : CallF) : SS :=
  (sSeq (sAsg (mBin opMul (mBin opIx (mVar 1) (mBin opMod (mBin opAdd (mVar 3) (mVar 5)) (mC (.int 26)))) (mCallP 2 (call (Str.ofString "_law_of")) (aCons (mVar 0) (aCons (mLst (aCons (mC (.int 1)) (aCons (mC (.int 1)) (aCons (mC (.int 2)) (aCons (mC (.int 8)) aNil))))) aNil)))) (gNm 7))
  (sExpr (mBM .lst mAppend (mVar 4) (aCons (mTup (aCons (mBin opAdd (mBin opAdd (mCallP 2 (call (Str.ofString "_law_of")) (aCons (mVar 0) (aCons (mVar 2) aNil))) (mC (.str (Str.ofString ".")))) (mVar 7)) (aCons (mVar 6) aNil))) aNil))))
def sh_words_2 (call : CallF) : ME :=
  (mBin opMul (mCallP 2 (call (Str.ofString "_law_of")) (aCons (mVar 0) (aCons (mVar 1) aNil))) (mCallP 2 (call (Str.ofString "_law_of")) (aCons (mVar 0) (aCons (mLst (aCons (mC (.int 1)) (aCons (mC (.int 1)) (aCons (mC (.int 2)) (aCons (mC (.int 8)) aNil))))) aNil))))
def sh_words (call : CallF) : SS :=
  (sSeq (sAsg (mC (.str (Str.ofString "abcdefghijklmnopqrstuvwxyz"))) (gNm 1))
  (sSeq (sAsg (mLc (iRng1 (aCons (mC (.int 2)) aNil)) (.nm 8) tTrue (sh_words_2 call) [8]) (gNm 2))
  (sSeq (sPar2 3 4 (aCons (mCallP 2 (call (Str.ofString "_law_take")) (aCons (mVar 0) (aCons (mC (.int 26)) aNil))) (aCons (mLst aNil) aNil)))
  (sSeq (sFor (iEnm (aCons (mLst (aCons (mC (.int 0)) (aCons (mC (.int 0)) (aCons (mC (.int 1)) (aCons (mC (.int 2)) (aCons (mC (.int 3)) aNil)))))) aNil)) (gTp 2 (gCn (gNm 5) (gCn (gNm 6) gNl))) (sh_words_1 call))
  (sRet (mVar 4))))))
theorem letters_cps : letters.cps.toList = List.range' 97 26 := by decide +kernel
theorem letters_in {c : Nat} (h : c ∈ letters.cps.toList) : 97 ≤ c ∧ c ≤ 122 := by
  rw [letters_cps, List.mem_range'] at h
  obtain ⟨i, h1, rfl⟩ := h
  omega
/-- the k-th word: a line, the dot, the letter so often -/
def WordAt (first : Int) (k : Nat) (f : Str) : Prop := ∃ a n, f.cps.toList = a ++ 46 :: List.replicate n (97 + ((first + k) % 26).toNat) ∧ Low a ∧ 0 < n ∧ n ≤ 8
theorem WordAt.full {first : Int} {k : Nat} {f : Str} (h : WordAt first k f) : FullOk f := by
  obtain ⟨a, n, e, ha, h0, h1⟩ := h
  refine ⟨a, _, e, ha, low_rep h0 h1 ?_⟩
  have h2 := Int.emod_nonneg (first + k) (show (26 : Int) ≠ 0 by decide)
  have h3 := Int.emod_lt_of_pos (first + k) (show (0 : Int) < 26 by decide)
  omega
theorem WordAt.inj {first : Int} {k j : Nat} {f : Str} (hk : k < 5) (hj : j < 5) (h : WordAt first k f) (h' : WordAt first j f) : k = j := by
  obtain ⟨a, n, e, ha, h0, h1⟩ := h
  obtain ⟨a', n', e', ha', h0', h1'⟩ := h'
  obtain ⟨_, h2⟩ := dot_inj ha.nodot ha'.nodot (e.symm.trans e')
  obtain ⟨m, rfl⟩ : ∃ m, n = m + 1 := ⟨n - 1, by omega⟩
  obtain ⟨m', rfl⟩ : ∃ m, n' = m + 1 := ⟨n' - 1, by omega⟩
  rw [List.replicate_succ, List.replicate_succ] at h2
  have h3 := (List.cons.inj h2).1
  have h4 := Int.emod_nonneg (first + k) (show (26 : Int) ≠ 0 by decide)
  have h5 := Int.emod_nonneg (first + j) (show (26 : Int) ≠ 0 by decide)
  omega
def arities : List Nat := [0, 0, 1, 2, 3]
structure WordsDrawn (ws : List (Str × Nat)) : Prop where
  ok : WordsOk ws
  ar : ws.map (·.2) = arities
  nd : (ws.map (·.1)).Nodup
def WordsSpec (F : List D → Store → R D) : Prop := ∀ (h : Nat) (st : Store) (b : Int), HandAt st h b → b + 15 < 1099511627776 →
  Go (F [.loc h] st) (fun d st' => (∃ l ws, d = .loc l ∧ st.length ≤ l ∧ lstAt st' l = some (ws.map wordD) ∧ WordsDrawn ws) ∧ HandAt st' h (b + 15) ∧ Fr (· = h) st st') NoE
theorem opMul_str {z : Str} {k : Int} {st : Store} : opMul (.str z) (.int k) st = if -(2 ^ 63) ≤ k ∧ k < 2 ^ 63 ∧ z.length * k.toNat ≤ sizeLine then some (.str (strMul z k), st) else none := rfl
theorem opAdd_str {a b : Str} {st : Store} : opAdd (.str a) (.str b) st = if a.length + b.length ≤ sizeLine then some (.str (a ++ b), st) else none := rfl
theorem mAppend_lst {n : Nat} {y : D} {xs : List D} {st : Store} (h : lstAt st n = some xs) : mAppend (.loc n) [y] st = if xs.length < sizeLine then some (.non, st.set n (.lst (xs ++ [y]))) else none := by
  simp only [mAppend, h]
theorem of4 {d : D} (h : d ∈ [D.int 1, .int 1, .int 2, .int 8]) : ∃ k : Nat, d = .int k ∧ 0 < k ∧ k ≤ 8 := by
  simp only [List.mem_cons, List.not_mem_nil, or_false] at h
  rcases h with rfl | rfl | rfl | rfl
  · exact ⟨1, rfl, by decide, by decide⟩
  · exact ⟨1, rfl, by decide, by decide⟩
  · exact ⟨2, rfl, by decide, by decide⟩
  · exact ⟨8, rfl, by decide, by decide⟩
theorem rep_cond {c k : Nat} (hk : k ≤ 8) : -(2 ^ 63) ≤ (k : Int) ∧ (k : Int) < 2 ^ 63 ∧ Str.length ⟨#[c]⟩ * (k : Int).toNat ≤ sizeLine := by
  have e : sizeLine = 16777216 := rfl
  have e2 : Str.length ⟨#[c]⟩ = 1 := rfl
  have e3 : (k : Int).toNat = k := by simp
  rw [e, e2, e3]
  omega
theorem rep_name {c k : Nat} (h0 : 0 < k) (h1 : k ≤ 8) (hc : 97 ≤ c ∧ c ≤ 122) : NameOk (strMul ⟨#[c]⟩ (k : Int)) := by
  unfold NameOk
  rw [strMul_one]
  have e3 : (k : Int).toNat = k := by simp
  rw [e3]
  exact low_rep h0 h1 hc
/-- the lines: a comprehension's end -/
theorem words_lines {call : CallF} (O : OfSpec (call (Str.ofString "_law_of"))) {h : Nat} {st : Store} {b : Int} {z : Str} (hz : z = letters) (H : HandAt st h b) (hb : b + 4 < 1099511627776) {σ : Sig} (hσ : σ = [some (.loc h), some (.str z), none, none, none, none, none, none, none]) :
    GoV (lcM (.rng 0 2) (.nm 8) tTrue (sh_words_2 call) st.length (wipeD σ [8]) LF 0 (st ++ [.lst []])) fun st2 => (∃ ls : List Str, lstAt st2 st.length = some (ls.map D.str) ∧ ls.length = 2 ∧ ∀ s ∈ ls, NameOk s) ∧ HandAt st2 h (b + 4) ∧ Fr (· = h) st st2 := by
  subst hσ
  have hlt := H.lt
  have zne : z.cps.toList ≠ [] := by rw [hz, letters_cps]; simp [List.range']
  have zlen : z.length ≤ sizeLine := by
    have e : z.length = z.cps.toList.length := by simp [Str.length]
    rw [e, hz, letters_cps, List.length_range']
    have e3 : sizeLine = 16777216 := rfl
    omega
  refine lcM_go (fun i acc st2 => i ≤ 2 ∧ (∃ ls : List Str, acc = ls.map D.str ∧ ls.length = i ∧ ∀ s ∈ ls, NameOk s) ∧ lstAt st2 st.length = some acc ∧ HandAt st2 h (b + 2 * i) ∧ Fr (· = h) st st2) 2
    (fun i acc st2 h => ⟨h.1, h.2.2.1⟩) (fun i acc st2 ⟨hi, ⟨ls, ha, hl1, hok⟩, hl2, H2, f⟩ => ?_) LF 0 [] (st ++ [.lst []])
    ⟨Nat.zero_le _, ⟨[], rfl, rfl, by simp⟩, lstAt_new, (H.fr (F := fun _ => False) Fr.push (by simp)).mono (by simp), Fr.push⟩ (by unfold LF; omega)
  rw [itGet_rng]
  by_cases hin2 : i < 2
  · rw [if_pos hin2]
    have hne : st.length ≠ h := by omega
    unfold sh_words_2
    simp only [go_runF, go_ok, go_c, go_var, go_bin, go_un, go_bl, go_tru, go_nt, go_an, go_oo, go_mAn, go_mOo, go_mNt, go_if, go_chain, go_aNil, go_aCons, go_tup, go_lst, go_dict0, go_cb, go_bm, go_sl, go_sl3, go_oNone, go_oSome, go_callP, go_call, go_lc, go_tTrue, go_iAny, go_iRng1, go_iRng2, go_iEnm, go_iZip, go_gNm, go_gTp, go_gNl, go_gSb, gCn_eq, gNm_eq, gNl_nil, gTp_tup, R.bind_ok, if_true, gs_nx, gs_bk, gs_ct, gs_seq, thenQ_nx, thenQ_rt, thenQ_bk, thenQ_ct, thenQ_xc, gs_ret, gs_expr, gs_if, gs_asg, gs_par2, gs_par3, gs_aug, retQ_rt, retQ_nx, retQ_xc, gs_for, gs_while, turnQ_nx, turnQ_ct, turnQ_bk, turnQ_rt, turnQ_xc, goO_some, goV_some, goO_none, goV_none, goO_ite, goV_ite, goO_map, goV_map, goV_bind, Bool.cond_decide, cond_true, cond_false, Bool.cond_not, startD, List.map_cons, List.map_nil, List.length_cons, List.length_nil, List.replicate_succ, List.replicate_zero, List.cons_append, List.nil_append, List.append_nil, Nat.reduceSub, Nat.reduceAdd, List.getElem?_cons_zero, List.getElem?_cons_succ, List.set_cons_zero, List.set_cons_succ, Nat.zero_add, true_and, and_true, true_or, or_true, bindT, wipeD]
    refine (O.str h z st2 _ H2 (by omega) zne zlen).to fun d st3 ⟨⟨c, hc, hd⟩, H3, f3⟩ => ?_
    subst hd
    have four : 4 ≤ sizeLine := by decide
    refine ⟨four, ?_⟩
    have f4 : Fr (fun _ => False) st3 (st3 ++ [.lst [.int 1, .int 1, .int 2, .int 8]]) := Fr.push
    refine (O.lst h st3.length _ _ _ (H3.fr f4 (by simp)) (by omega) lstAt_new (by have := H3.lt; omega) (by simp) (by simp)).to fun d st5 ⟨hd, H5, f5⟩ => ?_
    obtain ⟨k, hk, k0, k1⟩ := of4 hd
    subst hk
    rw [hz] at hc
    have hname := rep_name (c := c) k0 k1 (letters_in hc)
    have fa : Fr (· = h) st2 st5 := f3.trans ((f4.imp fun _ _ z => z.elim).trans f5)
    have e5 := fa.lst hne hl2
    have hlen : acc.length < sizeLine := by
      rw [ha, List.length_map, hl1]
      have e3 : sizeLine = 16777216 := rfl
      omega
    simp only [go_runF, go_ok, go_c, go_var, go_bin, go_un, go_bl, go_tru, go_nt, go_an, go_oo, go_mAn, go_mOo, go_mNt, go_if, go_chain, go_aNil, go_aCons, go_tup, go_lst, go_dict0, go_cb, go_bm, go_sl, go_sl3, go_oNone, go_oSome, go_callP, go_call, go_lc, go_tTrue, go_iAny, go_iRng1, go_iRng2, go_iEnm, go_iZip, go_gNm, go_gTp, go_gNl, go_gSb, gCn_eq, gNm_eq, gNl_nil, gTp_tup, R.bind_ok, if_true, gs_nx, gs_bk, gs_ct, gs_seq, thenQ_nx, thenQ_rt, thenQ_bk, thenQ_ct, thenQ_xc, gs_ret, gs_expr, gs_if, gs_asg, gs_par2, gs_par3, gs_aug, retQ_rt, retQ_nx, retQ_xc, gs_for, gs_while, turnQ_nx, turnQ_ct, turnQ_bk, turnQ_rt, turnQ_xc, goO_some, goV_some, goO_none, goV_none, goO_ite, goV_ite, goO_map, goV_map, goV_bind, Bool.cond_decide, cond_true, cond_false, Bool.cond_not, startD, List.map_cons, List.map_nil, List.length_cons, List.length_nil, List.replicate_succ, List.replicate_zero, List.cons_append, List.nil_append, List.append_nil, Nat.reduceSub, Nat.reduceAdd, List.getElem?_cons_zero, List.getElem?_cons_succ, List.set_cons_zero, List.set_cons_succ, Nat.zero_add, true_and, and_true, true_or, or_true, opMul_str, rep_cond (c := c) k1]
    refine ⟨e5, hlen, by omega, ⟨ls ++ [strMul ⟨#[c]⟩ k], by rw [ha]; simp, by simp [hl1], ?_⟩, lstAt_set (lstAt_lt e5), ?_, (f.trans fa).new (Fr.put (.inr (Nat.le_refl _)))⟩
    · intro s hs
      rcases List.mem_append.mp hs with y | y
      · exact hok s y
      · rw [List.mem_singleton.mp y]; exact hname
    · exact (H5.fr (F := (· = st.length)) (Fr.put rfl) (by omega)).mono (by omega)
  · rw [if_neg hin2]
    have e : i = 2 := by omega
    subst e
    exact ⟨⟨ls, by rw [hl2, ha], hl1, hok⟩, H2, f⟩
theorem letters_at {i : Int} (h0 : 0 ≤ i) (h1 : i < 26) : atI letters.cps.toList i = some (97 + i.toNat) := by
  rw [letters_cps]
  obtain ⟨d, e1, e2, _⟩ := atI_in (xs := List.range' 97 26) h0 (by simp; omega)
  rw [e1, ← e2, List.getElem?_range' (by omega)]
  simp
theorem words_ok {call : CallF} (T : TakeSpec (call (Str.ofString "_law_take"))) (O : OfSpec (call (Str.ofString "_law_of"))) : WordsSpec (runF 9 (sh_words call)) := by
  intro h st0 b H hb
  unfold sh_words
  generalize hz : Str.ofString "abcdefghijklmnopqrstuvwxyz" = z
  have hz : z = letters := hz.symm
  have zlen : z.length ≤ sizeLine := by
    have e : z.length = z.cps.toList.length := by simp [Str.length]
    rw [e, hz, letters_cps, List.length_range']
    have e3 : sizeLine = 16777216 := rfl
    omega
  simp only [go_runF, go_ok, go_c, go_var, go_bin, go_un, go_bl, go_tru, go_nt, go_an, go_oo, go_mAn, go_mOo, go_mNt, go_if, go_chain, go_aNil, go_aCons, go_tup, go_lst, go_dict0, go_cb, go_bm, go_sl, go_sl3, go_oNone, go_oSome, go_callP, go_call, go_lc, go_tTrue, go_iAny, go_iRng1, go_iRng2, go_iEnm, go_iZip, go_gNm, go_gTp, go_gNl, go_gSb, gCn_eq, gNm_eq, gNl_nil, gTp_tup, R.bind_ok, if_true, gs_nx, gs_bk, gs_ct, gs_seq, thenQ_nx, thenQ_rt, thenQ_bk, thenQ_ct, thenQ_xc, gs_ret, gs_expr, gs_if, gs_asg, gs_par2, gs_par3, gs_aug, retQ_rt, retQ_nx, retQ_xc, gs_for, gs_while, turnQ_nx, turnQ_ct, turnQ_bk, turnQ_rt, turnQ_xc, goO_some, goV_some, goO_none, goV_none, goO_ite, goV_ite, goO_map, goV_map, goV_bind, Bool.cond_decide, cond_true, cond_false, Bool.cond_not, startD, List.map_cons, List.map_nil, List.length_cons, List.length_nil, List.replicate_succ, List.replicate_zero, List.cons_append, List.nil_append, List.append_nil, Nat.reduceSub, Nat.reduceAdd, List.getElem?_cons_zero, List.getElem?_cons_succ, List.set_cons_zero, List.set_cons_succ, Nat.zero_add, true_and, and_true, true_or, or_true]
  refine ⟨by decide, ?_⟩
  have e2 : Int.toNat 2 = 2 := rfl
  rw [e2]
  refine (words_lines O hz H (by omega) rfl).mono fun st1 ⟨⟨ls, el, hl2, hls⟩, H1, f1⟩ => ?_
  refine (T h 26 st1 _ H1 (by omega) (by decide) (by decide)).to fun d st2 ⟨⟨first, hd, d0, d1⟩, H2, f2⟩ => ?_
  subst hd
  have z0 : 0 ≤ sizeLine := by decide
  have z5 : 5 ≤ sizeLine := by decide
  refine ⟨z0, z5, ?_⟩
  have hlt := H.lt
  have l2 := H2.lt
  have el2 := f2.lst (by omega) el
  generalize e3 : st2 ++ [Cell.lst []] = st3
  have a3 : lstAt st3 st2.length = some [] := by rw [← e3]; exact lstAt_new
  have f3 : Fr (fun _ => False) st2 st3 := by rw [← e3]; exact Fr.push
  have n3 : st3.length = st2.length + 1 := by rw [← e3]; simp
  generalize e4 : st3 ++ [Cell.lst [D.int 0, .int 0, .int 1, .int 2, .int 3]] = st4
  have a4 : lstAt st4 st3.length = some [D.int 0, .int 0, .int 1, .int 2, .int 3] := by rw [← e4]; exact lstAt_new
  have f4 : Fr (fun _ => False) st3 st4 := by rw [← e4]; exact Fr.push
  simp only [go_runF, go_ok, go_c, go_var, go_bin, go_un, go_bl, go_tru, go_nt, go_an, go_oo, go_mAn, go_mOo, go_mNt, go_if, go_chain, go_aNil, go_aCons, go_tup, go_lst, go_dict0, go_cb, go_bm, go_sl, go_sl3, go_oNone, go_oSome, go_callP, go_call, go_lc, go_tTrue, go_iAny, go_iRng1, go_iRng2, go_iEnm, go_iZip, go_gNm, go_gTp, go_gNl, go_gSb, gCn_eq, gNm_eq, gNl_nil, gTp_tup, R.bind_ok, if_true, gs_nx, gs_bk, gs_ct, gs_seq, thenQ_nx, thenQ_rt, thenQ_bk, thenQ_ct, thenQ_xc, gs_ret, gs_expr, gs_if, gs_asg, gs_par2, gs_par3, gs_aug, retQ_rt, retQ_nx, retQ_xc, gs_for, gs_while, turnQ_nx, turnQ_ct, turnQ_bk, turnQ_rt, turnQ_xc, goO_some, goV_some, goO_none, goV_none, goO_ite, goV_ite, goO_map, goV_map, goV_bind, Bool.cond_decide, cond_true, cond_false, Bool.cond_not, startD, List.map_cons, List.map_nil, List.length_cons, List.length_nil, List.replicate_succ, List.replicate_zero, List.cons_append, List.nil_append, List.append_nil, Nat.reduceSub, Nat.reduceAdd, List.getElem?_cons_zero, List.getElem?_cons_succ, List.set_cons_zero, List.set_cons_succ, Nat.zero_add, true_and, and_true, true_or, or_true, a4]
  have l1 : st0.length < st1.length := lstAt_lt el
  have ne3 : st2.length ≠ st3.length := by omega
  have le1 := f1.le
  have le2 := f2.le
  have f14 : Fr (· = h) st0 st4 := (f1.trans f2).trans ((f3.trans f4).imp fun _ _ z => z.elim)
  refine forM_go (fun i σ st => i ≤ 5 ∧ ∃ (x5 x6 x7 : Option D) (done : List (Str × Nat)), σ = [some (.loc h), some (.str z), some (.loc st0.length), some (.int first), some (.loc st2.length), x5, x6, x7, none] ∧ lstAt st st3.length = some [D.int 0, .int 0, .int 1, .int 2, .int 3] ∧ lstAt st st0.length = some (ls.map D.str) ∧
      lstAt st st2.length = some (done.map wordD) ∧ done.length = i ∧ (∀ (k : Nat) (w : Str × Nat), done[k]? = some w → WordAt first k w.1 ∧ arities[k]? = some w.2) ∧ HandAt st h (b + 5 + 2 * i) ∧ Fr (· = h) st0 st) 5 (fun i σ st h => h.1) (fun i σ st ⟨hi, x5, x6, x7, done, hσ, ea, el, ed, hdl, hdone, HH, ff⟩ => ?_) LF 0 _ st4 ?_ (by unfold LF; omega)
  · subst hσ
    rw [itGet_enm ea]
    by_cases hi5 : i < 5
    · obtain ⟨ar, har⟩ : ∃ ar, arities[i]? = some ar := ⟨arities[i]'(by simpa [arities] using hi5), by simp [arities]⟩
      have hat : [D.int 0, .int 0, .int 1, .int 2, .int 3][i]? = some (.int ar) := by
        have e : [D.int 0, .int 0, .int 1, .int 2, .int 3] = arities.map fun (n : Nat) => D.int (n : Int) := rfl
        rw [e, List.getElem?_map, har]
        rfl
      rw [hat]
      have m0 := Int.emod_nonneg (first + i) (show (26 : Int) ≠ 0 by decide)
      have m1 := Int.emod_lt_of_pos (first + i) (show (0 : Int) < 26 by decide)
      have hch := letters_at m0 m1
      rw [← hz] at hch
      have four : 4 ≤ sizeLine := by decide
      unfold sh_words_1
      simp only [go_runF, go_ok, go_c, go_var, go_bin, go_un, go_bl, go_tru, go_nt, go_an, go_oo, go_mAn, go_mOo, go_mNt, go_if, go_chain, go_aNil, go_aCons, go_tup, go_lst, go_dict0, go_cb, go_bm, go_sl, go_sl3, go_oNone, go_oSome, go_callP, go_call, go_lc, go_tTrue, go_iAny, go_iRng1, go_iRng2, go_iEnm, go_iZip, go_gNm, go_gTp, go_gNl, go_gSb, gCn_eq, gNm_eq, gNl_nil, gTp_tup, R.bind_ok, if_true, gs_nx, gs_bk, gs_ct, gs_seq, thenQ_nx, thenQ_rt, thenQ_bk, thenQ_ct, thenQ_xc, gs_ret, gs_expr, gs_if, gs_asg, gs_par2, gs_par3, gs_aug, retQ_rt, retQ_nx, retQ_xc, gs_for, gs_while, turnQ_nx, turnQ_ct, turnQ_bk, turnQ_rt, turnQ_xc, goO_some, goV_some, goO_none, goV_none, goO_ite, goV_ite, goO_map, goV_map, goV_bind, Bool.cond_decide, cond_true, cond_false, Bool.cond_not, startD, List.map_cons, List.map_nil, List.length_cons, List.length_nil, List.replicate_succ, List.replicate_zero, List.cons_append, List.nil_append, List.append_nil, Nat.reduceSub, Nat.reduceAdd, List.getElem?_cons_zero, List.getElem?_cons_succ, List.set_cons_zero, List.set_cons_succ, Nat.zero_add, true_and, and_true, true_or, or_true, Option.map_some, opAdd_int, opMod_int, opIx, hch]
      refine ⟨by decide, zlen, four, ?_⟩
      have f5 : Fr (fun _ => False) st (st ++ [.lst [.int 1, .int 1, .int 2, .int 8]]) := Fr.push
      refine (O.lst h st.length _ _ _ (HH.fr f5 (by simp)) (by omega) lstAt_new (by have := HH.lt; omega) (by simp) (by simp)).to fun d st6 ⟨hd, H6, f6⟩ => ?_
      obtain ⟨k, hk, k0, k1⟩ := of4 hd
      subst hk
      have fa : Fr (· = h) st st6 := (f5.imp fun _ _ z => z.elim).trans f6
      have ed6 := fa.lst (by omega) ed
      have el6 := fa.lst (by omega) el
      simp only [go_runF, go_ok, go_c, go_var, go_bin, go_un, go_bl, go_tru, go_nt, go_an, go_oo, go_mAn, go_mOo, go_mNt, go_if, go_chain, go_aNil, go_aCons, go_tup, go_lst, go_dict0, go_cb, go_bm, go_sl, go_sl3, go_oNone, go_oSome, go_callP, go_call, go_lc, go_tTrue, go_iAny, go_iRng1, go_iRng2, go_iEnm, go_iZip, go_gNm, go_gTp, go_gNl, go_gSb, gCn_eq, gNm_eq, gNl_nil, gTp_tup, R.bind_ok, if_true, gs_nx, gs_bk, gs_ct, gs_seq, thenQ_nx, thenQ_rt, thenQ_bk, thenQ_ct, thenQ_xc, gs_ret, gs_expr, gs_if, gs_asg, gs_par2, gs_par3, gs_aug, retQ_rt, retQ_nx, retQ_xc, gs_for, gs_while, turnQ_nx, turnQ_ct, turnQ_bk, turnQ_rt, turnQ_xc, goO_some, goV_some, goO_none, goV_none, goO_ite, goV_ite, goO_map, goV_map, goV_bind, Bool.cond_decide, cond_true, cond_false, Bool.cond_not, startD, List.map_cons, List.map_nil, List.length_cons, List.length_nil, List.replicate_succ, List.replicate_zero, List.cons_append, List.nil_append, List.append_nil, Nat.reduceSub, Nat.reduceAdd, List.getElem?_cons_zero, List.getElem?_cons_succ, List.set_cons_zero, List.set_cons_succ, Nat.zero_add, true_and, and_true, true_or, or_true, opMul_str, tyD_lst ed6]
      refine ⟨rep_cond k1, ?_⟩
      refine (O.lst h st0.length _ st6 _ H6 (by omega) el6 (by omega) (by intro z; have := congrArg List.length z; simp [hl2] at this) (by simp; omega)).to fun d st7 ⟨hd, H7, f7⟩ => ?_
      obtain ⟨s, hs, rfl⟩ := List.mem_map.mp hd
      have hsn := hls s hs
      have ed7 := f7.lst (by omega) ed6
      have hsl := hsn.len
      have e3' : sizeLine = 16777216 := rfl
      have ld : (Str.ofString ".").length = 1 := by decide +kernel
      have cd : (Str.ofString ".").cps.toList = [46] := by decide +kernel
      have lo : (strMul ⟨#[97 + ((first + i) % 26).toNat]⟩ (k : Int)).length = k := by
        have e : ∀ x : Str, x.length = x.cps.toList.length := fun x => by simp [Str.length]
        rw [e, strMul_one, List.length_replicate]
        simp
      have la : (s ++ Str.ofString ".").length = s.length + 1 := by rw [Str.length_append, ld]
      have c1 : s.length + (Str.ofString ".").length ≤ sizeLine := by rw [ld]; omega
      have c2 : (s ++ Str.ofString ".").length + (strMul ⟨#[97 + ((first + i) % 26).toNat]⟩ (k : Int)).length ≤ sizeLine := by rw [la, lo]; omega
      have hlen : (done.map wordD).length < sizeLine := by rw [List.length_map, hdl]; omega
      have two : 2 ≤ sizeLine := by decide
      simp only [go_runF, go_ok, go_c, go_var, go_bin, go_un, go_bl, go_tru, go_nt, go_an, go_oo, go_mAn, go_mOo, go_mNt, go_if, go_chain, go_aNil, go_aCons, go_tup, go_lst, go_dict0, go_cb, go_bm, go_sl, go_sl3, go_oNone, go_oSome, go_callP, go_call, go_lc, go_tTrue, go_iAny, go_iRng1, go_iRng2, go_iEnm, go_iZip, go_gNm, go_gTp, go_gNl, go_gSb, gCn_eq, gNm_eq, gNl_nil, gTp_tup, R.bind_ok, if_true, gs_nx, gs_bk, gs_ct, gs_seq, thenQ_nx, thenQ_rt, thenQ_bk, thenQ_ct, thenQ_xc, gs_ret, gs_expr, gs_if, gs_asg, gs_par2, gs_par3, gs_aug, retQ_rt, retQ_nx, retQ_xc, gs_for, gs_while, turnQ_nx, turnQ_ct, turnQ_bk, turnQ_rt, turnQ_xc, goO_some, goV_some, goO_none, goV_none, goO_ite, goV_ite, goO_map, goV_map, goV_bind, Bool.cond_decide, cond_true, cond_false, Bool.cond_not, startD, List.map_cons, List.map_nil, List.length_cons, List.length_nil, List.replicate_succ, List.replicate_zero, List.cons_append, List.nil_append, List.append_nil, Nat.reduceSub, Nat.reduceAdd, List.getElem?_cons_zero, List.getElem?_cons_succ, List.set_cons_zero, List.set_cons_succ, Nat.zero_add, true_and, and_true, true_or, or_true, opAdd_str, c1, c2, two, mAppend_lst ed7, hlen]
      refine ⟨by omega, _, _, _, done ++ [(s ++ Str.ofString "." ++ strMul ⟨#[97 + ((first + i) % 26).toNat]⟩ (k : Int), ar)], rfl, ?_, ?_, ?_, by simp [hdl], ?_, ?_, ?_⟩
      · rw [lstAt_setNe ne3]; exact f7.lst (by omega) (fa.lst (by omega) ea)
      · rw [lstAt_setNe (show st2.length ≠ st0.length by omega)]; exact f7.lst (by omega) el6
      · rw [lstAt_set (lstAt_lt ed7)]; simp [wordD]
      · intro j w hw
        by_cases hj : j < done.length
        · rw [List.getElem?_append_left hj] at hw
          exact hdone j w hw
        · have hj2 : j = i := by
            have := (List.getElem?_eq_some_iff.mp hw).1
            simp at this
            omega
          subst hj2
          rw [List.getElem?_append_right (by omega), hdl] at hw
          simp at hw
          subst hw
          refine ⟨⟨s.cps.toList, k, ?_, hsn, k0, k1⟩, har⟩
          rw [append_cps, append_cps, strMul_one, cd]
          simp
      · exact (H7.fr (F := (· = st2.length)) (Fr.put rfl) (by omega)).mono (by omega)
      · refine ((ff.trans fa).trans f7).new (Fr.put (.inr (by omega)))
    · have e5 : i = 5 := by omega
      subst e5
      have hn : [D.int 0, .int 0, .int 1, .int 2, .int 3][5]? = none := rfl
      rw [hn]
      simp only [go_runF, go_ok, go_c, go_var, go_bin, go_un, go_bl, go_tru, go_nt, go_an, go_oo, go_mAn, go_mOo, go_mNt, go_if, go_chain, go_aNil, go_aCons, go_tup, go_lst, go_dict0, go_cb, go_bm, go_sl, go_sl3, go_oNone, go_oSome, go_callP, go_call, go_lc, go_tTrue, go_iAny, go_iRng1, go_iRng2, go_iEnm, go_iZip, go_gNm, go_gTp, go_gNl, go_gSb, gCn_eq, gNm_eq, gNl_nil, gTp_tup, R.bind_ok, if_true, gs_nx, gs_bk, gs_ct, gs_seq, thenQ_nx, thenQ_rt, thenQ_bk, thenQ_ct, thenQ_xc, gs_ret, gs_expr, gs_if, gs_asg, gs_par2, gs_par3, gs_aug, retQ_rt, retQ_nx, retQ_xc, gs_for, gs_while, turnQ_nx, turnQ_ct, turnQ_bk, turnQ_rt, turnQ_xc, goO_some, goV_some, goO_none, goV_none, goO_ite, goV_ite, goO_map, goV_map, goV_bind, Bool.cond_decide, cond_true, cond_false, Bool.cond_not, startD, List.map_cons, List.map_nil, List.length_cons, List.length_nil, List.replicate_succ, List.replicate_zero, List.cons_append, List.nil_append, List.append_nil, Nat.reduceSub, Nat.reduceAdd, List.getElem?_cons_zero, List.getElem?_cons_succ, List.set_cons_zero, List.set_cons_succ, Nat.zero_add, true_and, and_true, true_or, or_true, Option.map_none]
      have hmap : done.map (·.2) = arities := by
        apply List.ext_getElem?
        intro j
        rw [List.getElem?_map]
        cases e : done[j]? with
        | none =>
          have := List.getElem?_eq_none_iff.mp e
          rw [hdl] at this
          rw [List.getElem?_eq_none (by simpa [arities] using this)]
          rfl
        | some w => rw [(hdone j w e).2]; rfl
      refine ⟨⟨st2.length, done, rfl, by omega, ed, ⟨?_, ?_, by omega⟩, hmap, ?_⟩, HH.mono (by omega), ff⟩
      · intro w hw
        obtain ⟨j, hj⟩ := List.getElem?_of_mem hw
        obtain ⟨h1, h2⟩ := hdone j w hj
        refine ⟨h1.full, ?_⟩
        have : w.2 ∈ arities := List.mem_of_getElem? h2
        revert this
        have : ∀ a ∈ arities, a ≤ 3 := by decide
        exact this _
      · obtain ⟨w, hw⟩ : ∃ w, done[0]? = some w := ⟨done[0]'(by omega), by simp⟩
        refine ⟨w, List.mem_of_getElem? hw, ?_⟩
        have := (hdone 0 w hw).2
        simp [arities] at this
        exact this.symm
      · rw [List.Nodup, List.pairwise_iff_getElem]
        intro i j hi hj hij e
        simp only [List.length_map] at hi hj
        simp only [List.getElem_map] at e
        have h1 := (hdone i done[i] (by simp [hi])).1
        have h2 := (hdone j done[j] (by simp [hj])).1
        rw [e] at h1
        have := h1.inj (by omega) (by omega) h2
        omega
  · refine ⟨Nat.zero_le _, none, none, none, [], rfl, a4, f4.lst (by simp) (f3.lst (by simp) el2), f4.lst (by simp) a3, rfl, by simp, ?_, f14⟩
    exact ((H2.fr f3 (by simp)).fr f4 (by simp)).mono (by omega)
end G

/-! M6: a tree's symbols, its holes, its names: the law's own way and the program's. -/
namespace G
open PySem L2

theorem truD_bl {b : Bool} {st : Store} : truD (.bl b) st = some b := rfl
theorem isi_str {s : Str} {st : Store} : bIsi [.str s, .ty .str] st = some (.bl true, st) := rfl
theorem isi_tup {xs : List D} {st : Store} : bIsi [.tup xs, .ty .str] st = some (.bl false, st) := rfl
theorem cutF_one {α : Type} {x : α} {xs : List α} : cutF (x :: xs) (some 1) none = xs := by
  unfold cutF HT.sIx
  simp
theorem cutB_zero {α : Type} {x : α} {xs : List α} : cutB (x :: xs) none (some 0) = xs.reverse := by
  unfold cutB bEnd
  simp
theorem mExtend_lst {n m : Nat} {xs ys : List D} {st : Store} (h : lstAt st n = some xs) (h' : lstAt st m = some ys) : mExtend (.loc n) [.loc m] st = if xs.length + ys.length ≤ sizeLine then some (.non, st.set n (.lst (xs ++ ys))) else none := by
  simp only [mExtend, h, h']
theorem mExtend_tup {n : Nat} {xs ys : List D} {st : Store} (h : lstAt st n = some xs) : mExtend (.loc n) [.tup ys] st = if xs.length + ys.length ≤ sizeLine then some (.non, st.set n (.lst (xs ++ ys))) else none := by
  simp only [mExtend, h]
theorem mPop_lst {n : Nat} {xs : List D} {y : D} {st : Store} (h : lstAt st n = some (xs ++ [y])) : mPop (.loc n) [] st = some (y, st.set n (.lst xs)) := by
  simp only [mPop, h, List.getLast?_append, List.getLast?_singleton, Option.some_or, List.dropLast_concat]

/-! ### _law_symbols -/
def sh_symbols_1 (call : CallF) : SS :=
  (sExpr (mBM .lst mExtend (mVar 1) (aCons (mCallP 1 (call (Str.ofString "_law_symbols")) (aCons (mVar 2) aNil)) aNil)))
def sh_symbols (call : CallF) : SS :=
  (sSeq (sIf (mTru (mCB bIsi (aCons (mVar 0) (aCons (mC (.ty .str)) aNil)))) (sRet (mLst (aCons (mVar 0) aNil))) sNx)
  (sSeq (sAsg (mLst (aCons (mBin opIx (mVar 0) (mC (.int 0))) aNil)) (gNm 1))
  (sSeq (sFor (iAny (mSl (mVar 0) (oSome (mC (.int 1))) oNone)) (gNm 2) (sh_symbols_1 call))
  (sRet (mVar 1)))))
def SymSpec (F : List D → Store → R D) (t : Tree) : Prop := ∀ st : Store, t.syms.length ≤ 1000000 →
  Go (F [t.toD] st) (fun d st' => ∃ l, d = .loc l ∧ st.length ≤ l ∧ lstAt st' l = some (t.syms.map D.str) ∧ Fr (fun _ => False) st st') NoE
theorem symsL_app : ∀ ts us : List Tree, symsL (ts ++ us) = symsL ts ++ symsL us
  | [], us => by simp [symsL]
  | t :: ts, us => by simp [symsL, symsL_app ts us]
theorem toDs_get : ∀ {ts : List Tree} {i : Nat}, (toDs ts)[i]? = (ts[i]?).map Tree.toD
  | [], i => by simp [toDs]
  | t :: ts, 0 => by simp [toDs]
  | t :: ts, i + 1 => by simp [toDs, toDs_get (ts := ts)]
theorem syms_pos : ∀ t : Tree, 0 < t.syms.length
  | .hole s => by unfold Tree.syms; simp
  | .node f cs => by unfold Tree.syms; simp
theorem symsL_ge : ∀ ts : List Tree, ts.length ≤ (symsL ts).length
  | [] => by simp
  | t :: ts => by
    have := symsL_ge ts
    have := syms_pos t
    simp only [symsL, List.length_append, List.length_cons]
    omega
theorem symbols_ok {call : CallF} {t : Tree} (hc : ∀ f cs, t = .node f cs → ∀ c ∈ cs, SymSpec (call (Str.ofString "_law_symbols")) c) : SymSpec (runF 3 (sh_symbols call)) t := by
  intro st hl
  have e3 : sizeLine = 16777216 := rfl
  have one : 1 ≤ sizeLine := by decide
  unfold sh_symbols
  cases t with
  | hole s =>
    unfold Tree.toD
    simp only [go_runF, go_ok, go_c, go_var, go_bin, go_un, go_bl, go_tru, go_nt, go_an, go_oo, go_mAn, go_mOo, go_mNt, go_if, go_chain, go_aNil, go_aCons, go_tup, go_lst, go_dict0, go_cb, go_bm, go_sl, go_sl3, go_oNone, go_oSome, go_callP, go_call, go_lc, go_tTrue, go_iAny, go_iRng1, go_iRng2, go_iEnm, go_iZip, go_gNm, go_gTp, go_gNl, go_gSb, gCn_eq, gNm_eq, gNl_nil, gTp_tup, R.bind_ok, if_true, gs_nx, gs_bk, gs_ct, gs_seq, thenQ_nx, thenQ_rt, thenQ_bk, thenQ_ct, thenQ_xc, gs_ret, gs_expr, gs_if, gs_asg, gs_par2, gs_par3, gs_aug, retQ_rt, retQ_nx, retQ_xc, gs_for, gs_while, turnQ_nx, turnQ_ct, turnQ_bk, turnQ_rt, turnQ_xc, goO_some, goV_some, goO_none, goV_none, goO_ite, goV_ite, goO_map, goV_map, goV_bind, Bool.cond_decide, cond_true, cond_false, Bool.cond_not, startD, List.map_cons, List.map_nil, List.length_cons, List.length_nil, List.replicate_succ, List.replicate_zero, List.cons_append, List.nil_append, List.append_nil, Nat.reduceSub, Nat.reduceAdd, List.getElem?_cons_zero, List.getElem?_cons_succ, List.set_cons_zero, List.set_cons_succ, Nat.zero_add, true_and, and_true, true_or, or_true, isi_str, truD_bl, one]
    exact ⟨st.length, rfl, Nat.le_refl _, by unfold Tree.syms; exact lstAt_new, Fr.push⟩
  | node f cs =>
    have hcs := hc f cs rfl
    unfold Tree.toD
    have at0 : atI (D.str f :: toDs cs) 0 = some (.str f) := by
      have := atI_nat (xs := D.str f :: toDs cs) (k := 0) (by simp)
      exact this
    have sl : ∀ st : Store, slD (.tup (D.str f :: toDs cs)) (some 1) none st = some (.tup (toDs cs), st) := fun st => by
      simp only [slD, cutF_one]
    simp only [go_runF, go_ok, go_c, go_var, go_bin, go_un, go_bl, go_tru, go_nt, go_an, go_oo, go_mAn, go_mOo, go_mNt, go_if, go_chain, go_aNil, go_aCons, go_tup, go_lst, go_dict0, go_cb, go_bm, go_sl, go_sl3, go_oNone, go_oSome, go_callP, go_call, go_lc, go_tTrue, go_iAny, go_iRng1, go_iRng2, go_iEnm, go_iZip, go_gNm, go_gTp, go_gNl, go_gSb, gCn_eq, gNm_eq, gNl_nil, gTp_tup, R.bind_ok, if_true, gs_nx, gs_bk, gs_ct, gs_seq, thenQ_nx, thenQ_rt, thenQ_bk, thenQ_ct, thenQ_xc, gs_ret, gs_expr, gs_if, gs_asg, gs_par2, gs_par3, gs_aug, retQ_rt, retQ_nx, retQ_xc, gs_for, gs_while, turnQ_nx, turnQ_ct, turnQ_bk, turnQ_rt, turnQ_xc, goO_some, goV_some, goO_none, goV_none, goO_ite, goV_ite, goO_map, goV_map, goV_bind, Bool.cond_decide, cond_true, cond_false, Bool.cond_not, startD, List.map_cons, List.map_nil, List.length_cons, List.length_nil, List.replicate_succ, List.replicate_zero, List.cons_append, List.nil_append, List.append_nil, Nat.reduceSub, Nat.reduceAdd, List.getElem?_cons_zero, List.getElem?_cons_succ, List.set_cons_zero, List.set_cons_succ, Nat.zero_add, true_and, and_true, true_or, or_true, isi_tup, truD_bl, one, opIx, at0, sl, iterD]
    unfold Tree.syms at hl ⊢
    simp only [List.length_cons] at hl
    generalize e1 : st ++ [Cell.lst [D.str f]] = st1
    have a1 : lstAt st1 st.length = some ([f].map D.str) := by rw [← e1]; exact lstAt_new
    have f1 : Fr (fun _ => False) st st1 := by rw [← e1]; exact Fr.push
    refine forM_go (fun i σ st2 => i ≤ cs.length ∧ (∃ x2, σ = [some (.tup (D.str f :: toDs cs)), some (.loc st.length), x2]) ∧ lstAt st2 st.length = some ((f :: symsL (cs.take i)).map D.str) ∧ Fr (fun _ => False) st st2) cs.length (fun i σ st h => h.1) (fun i σ st2 ⟨hi, ⟨x2, hσ⟩, ha, ff⟩ => ?_) LF 0 _ st1
      ⟨Nat.zero_le _, ⟨none, rfl⟩, by simpa [symsL] using a1, f1⟩ (by have := symsL_ge cs; unfold LF; omega)
    subst hσ
    rw [itGet_seq, toDs_get]
    cases eg : cs[i]? with
    | none =>
      have hl3 : cs.length ≤ i := List.getElem?_eq_none_iff.mp eg
      simp only [go_runF, go_ok, go_c, go_var, go_bin, go_un, go_bl, go_tru, go_nt, go_an, go_oo, go_mAn, go_mOo, go_mNt, go_if, go_chain, go_aNil, go_aCons, go_tup, go_lst, go_dict0, go_cb, go_bm, go_sl, go_sl3, go_oNone, go_oSome, go_callP, go_call, go_lc, go_tTrue, go_iAny, go_iRng1, go_iRng2, go_iEnm, go_iZip, go_gNm, go_gTp, go_gNl, go_gSb, gCn_eq, gNm_eq, gNl_nil, gTp_tup, R.bind_ok, if_true, gs_nx, gs_bk, gs_ct, gs_seq, thenQ_nx, thenQ_rt, thenQ_bk, thenQ_ct, thenQ_xc, gs_ret, gs_expr, gs_if, gs_asg, gs_par2, gs_par3, gs_aug, retQ_rt, retQ_nx, retQ_xc, gs_for, gs_while, turnQ_nx, turnQ_ct, turnQ_bk, turnQ_rt, turnQ_xc, goO_some, goV_some, goO_none, goV_none, goO_ite, goV_ite, goO_map, goV_map, goV_bind, Bool.cond_decide, cond_true, cond_false, Bool.cond_not, startD, List.map_cons, List.map_nil, List.length_cons, List.length_nil, List.replicate_succ, List.replicate_zero, List.cons_append, List.nil_append, List.append_nil, Nat.reduceSub, Nat.reduceAdd, List.getElem?_cons_zero, List.getElem?_cons_succ, List.set_cons_zero, List.set_cons_succ, Nat.zero_add, true_and, and_true, true_or, or_true, Option.map_none]
      exact ⟨st.length, rfl, Nat.le_refl _, by rw [ha, List.take_of_length_le hl3]; rfl, ff⟩
    | some c =>
      have hi2 : i < cs.length := (List.getElem?_eq_some_iff.mp eg).1
      have hcm : c ∈ cs := List.mem_of_getElem? eg
      have tk : cs.take (i + 1) = cs.take i ++ [c] := by rw [List.take_add_one, eg]; rfl
      have hsum : (symsL (cs.take (i + 1))).length ≤ (symsL cs).length := by
        conv => rhs; rw [← List.take_append_drop (i + 1) cs, symsL_app, List.length_append]
        omega
      rw [tk, symsL_app, List.length_append] at hsum
      have hc1 : symsL [c] = c.syms := by simp [symsL]
      rw [hc1] at hsum
      unfold sh_symbols_1
      generalize hX : (f :: symsL (cs.take i)).map D.str = xs at ha
      have hxl : xs.length = (symsL (cs.take i)).length + 1 := by rw [← hX]; simp
      simp only [go_runF, go_ok, go_c, go_var, go_bin, go_un, go_bl, go_tru, go_nt, go_an, go_oo, go_mAn, go_mOo, go_mNt, go_if, go_chain, go_aNil, go_aCons, go_tup, go_lst, go_dict0, go_cb, go_bm, go_sl, go_sl3, go_oNone, go_oSome, go_callP, go_call, go_lc, go_tTrue, go_iAny, go_iRng1, go_iRng2, go_iEnm, go_iZip, go_gNm, go_gTp, go_gNl, go_gSb, gCn_eq, gNm_eq, gNl_nil, gTp_tup, R.bind_ok, if_true, gs_nx, gs_bk, gs_ct, gs_seq, thenQ_nx, thenQ_rt, thenQ_bk, thenQ_ct, thenQ_xc, gs_ret, gs_expr, gs_if, gs_asg, gs_par2, gs_par3, gs_aug, retQ_rt, retQ_nx, retQ_xc, gs_for, gs_while, turnQ_nx, turnQ_ct, turnQ_bk, turnQ_rt, turnQ_xc, goO_some, goV_some, goO_none, goV_none, goO_ite, goV_ite, goO_map, goV_map, goV_bind, Bool.cond_decide, cond_true, cond_false, Bool.cond_not, startD, List.map_cons, List.map_nil, List.length_cons, List.length_nil, List.replicate_succ, List.replicate_zero, List.cons_append, List.nil_append, List.append_nil, Nat.reduceSub, Nat.reduceAdd, List.getElem?_cons_zero, List.getElem?_cons_succ, List.set_cons_zero, List.set_cons_succ, Nat.zero_add, true_and, and_true, true_or, or_true, Option.map_some, tyD_lst ha]
      refine (hcs c hcm st2 (by omega)).to fun d st3 ⟨l, hd, hge, el, f3⟩ => ?_
      subst hd
      have ha3 := f3.lst (by simp) ha
      have hlt := lstAt_lt ha
      have hlen : xs.length + (c.syms.map D.str).length ≤ sizeLine := by
        rw [List.length_map, hxl]
        omega
      simp only [go_runF, go_ok, go_c, go_var, go_bin, go_un, go_bl, go_tru, go_nt, go_an, go_oo, go_mAn, go_mOo, go_mNt, go_if, go_chain, go_aNil, go_aCons, go_tup, go_lst, go_dict0, go_cb, go_bm, go_sl, go_sl3, go_oNone, go_oSome, go_callP, go_call, go_lc, go_tTrue, go_iAny, go_iRng1, go_iRng2, go_iEnm, go_iZip, go_gNm, go_gTp, go_gNl, go_gSb, gCn_eq, gNm_eq, gNl_nil, gTp_tup, R.bind_ok, if_true, gs_nx, gs_bk, gs_ct, gs_seq, thenQ_nx, thenQ_rt, thenQ_bk, thenQ_ct, thenQ_xc, gs_ret, gs_expr, gs_if, gs_asg, gs_par2, gs_par3, gs_aug, retQ_rt, retQ_nx, retQ_xc, gs_for, gs_while, turnQ_nx, turnQ_ct, turnQ_bk, turnQ_rt, turnQ_xc, goO_some, goV_some, goO_none, goV_none, goO_ite, goV_ite, goO_map, goV_map, goV_bind, Bool.cond_decide, cond_true, cond_false, Bool.cond_not, startD, List.map_cons, List.map_nil, List.length_cons, List.length_nil, List.replicate_succ, List.replicate_zero, List.cons_append, List.nil_append, List.append_nil, Nat.reduceSub, Nat.reduceAdd, List.getElem?_cons_zero, List.getElem?_cons_succ, List.set_cons_zero, List.set_cons_succ, Nat.zero_add, true_and, and_true, true_or, or_true, mExtend_lst ha3 el, hlen]
      refine ⟨hi2, ⟨_, rfl⟩, ?_, (ff.trans f3).new (Fr.put (.inr (Nat.le_refl _)))⟩
      rw [lstAt_set (lstAt_lt ha3), tk, symsL_app, hc1, ← hX]
      simp

/-! ### signs without a dot -/
def noDot (s : Str) : Bool := decide (46 ∉ s.cps.toList)
theorem inStr_dot {s : Str} : inStr (Str.ofString ".") s = !noDot s := by
  have e : Str.ofString "." = ⟨#[46]⟩ := by decide +kernel
  unfold inStr noDot
  rw [e, PySem.StrLaws.found_one]
  by_cases h : 46 ∈ s.cps.toList <;> simp [h]
theorem noDot_name {s : Str} (h : NameOk s) : noDot s = true := by
  unfold noDot
  simp only [decide_eq_true_eq]
  exact Low.nodot h
theorem noDot_full {s : Str} (h : FullOk s) : noDot s = false := by
  obtain ⟨a, b, e, ha, hb⟩ := h
  unfold noDot
  rw [e]
  simp
/-- each hole once, as they first come -/
def addHole (acc : List Str) (s : Str) : List Str := if noDot s = true ∧ s ∉ acc then acc ++ [s] else acc
def holesOf (l : List Str) : List Str := l.foldl addHole []
theorem addHole_old {acc : List Str} {s : Str} (h : s ∈ acc) : addHole acc s = acc := by
  unfold addHole
  rw [if_neg fun z => z.2 h]
theorem addHole_dot {acc : List Str} {s : Str} (h : noDot s = false) : addHole acc s = acc := by
  unfold addHole
  rw [if_neg fun z => by rw [h] at z; cases z.1]
theorem addHole_new {acc : List Str} {s : Str} (h : noDot s = true) (h' : s ∉ acc) : addHole acc s = acc ++ [s] := by
  unfold addHole
  rw [if_pos ⟨h, h'⟩]
theorem addHole_sub {acc : List Str} {s x : Str} (h : x ∈ addHole acc s) : x ∈ acc ∨ (x = s ∧ noDot s = true) := by
  unfold addHole at h
  split at h
  · rename_i c
    rcases List.mem_append.mp h with y | y
    · exact .inl y
    · exact .inr ⟨List.mem_singleton.mp y, c.1⟩
  · exact .inl h
theorem holesOf_sub : ∀ {l : List Str} {acc : List Str} {x : Str}, x ∈ l.foldl addHole acc → x ∈ acc ∨ (x ∈ l ∧ noDot x = true)
  | [], _, _, h => .inl h
  | s :: l, acc, x, h => by
    rcases holesOf_sub (l := l) h with y | y
    · rcases addHole_sub y with z | ⟨z1, z2⟩
      · exact .inl z
      · subst z1; exact .inr ⟨List.mem_cons_self, z2⟩
    · exact .inr ⟨List.mem_cons_of_mem _ y.1, y.2⟩
theorem holesOf_len : ∀ {l : List Str} {acc : List Str}, (l.foldl addHole acc).length ≤ acc.length + l.length
  | [], _ => by simp
  | s :: l, acc => by
    have := holesOf_len (l := l) (acc := addHole acc s)
    have h : (addHole acc s).length ≤ acc.length + 1 := by
      unfold addHole
      split <;> simp
    simp only [List.foldl_cons, List.length_cons]
    omega

/-! ### _law_holes -/
def sh_holes_1 : SS :=
  (sIf (tAn (mBl (mBin (opIn true) (mC (.str (Str.ofString "."))) (mVar 2))) (mBl (mBin (opIn true) (mVar 2) (mVar 1)))) (sExpr (mBM .lst mAppend (mVar 1) (aCons (mVar 2) aNil))) sNx)
def sh_holes (call : CallF) : SS :=
  (sSeq (sAsg (mLst aNil) (gNm 1))
  (sSeq (sFor (iAny (mCallP 1 (call (Str.ofString "_law_symbols")) (aCons (mVar 0) aNil))) (gNm 2) sh_holes_1)
  (sRet (mVar 1))))
def HolesSpec (F : List D → Store → R D) (t : Tree) : Prop := ∀ st : Store, t.syms.length ≤ 1000000 → (∀ s ∈ t.syms, Chars s ∧ s.length ≤ 17) →
  Go (F [t.toD] st) (fun d st' => ∃ l, d = .loc l ∧ st.length ≤ l ∧ lstAt st' l = some ((holesOf t.syms).map D.str) ∧ Fr (fun _ => False) st st') NoE
theorem lholes_ok {call : CallF} {t : Tree} (hS : SymSpec (call (Str.ofString "_law_symbols")) t) : HolesSpec (runF 3 (sh_holes call)) t := by
  intro st hl hch
  have e3 : sizeLine = 16777216 := rfl
  have zero : 0 ≤ sizeLine := by decide
  unfold sh_holes
  simp only [go_runF, go_ok, go_c, go_var, go_bin, go_un, go_bl, go_tru, go_nt, go_an, go_oo, go_mAn, go_mOo, go_mNt, go_if, go_chain, go_aNil, go_aCons, go_tup, go_lst, go_dict0, go_cb, go_bm, go_sl, go_sl3, go_oNone, go_oSome, go_callP, go_call, go_lc, go_tTrue, go_iAny, go_iRng1, go_iRng2, go_iEnm, go_iZip, go_gNm, go_gTp, go_gNl, go_gSb, gCn_eq, gNm_eq, gNl_nil, gTp_tup, R.bind_ok, if_true, gs_nx, gs_bk, gs_ct, gs_seq, thenQ_nx, thenQ_rt, thenQ_bk, thenQ_ct, thenQ_xc, gs_ret, gs_expr, gs_if, gs_asg, gs_par2, gs_par3, gs_aug, retQ_rt, retQ_nx, retQ_xc, gs_for, gs_while, turnQ_nx, turnQ_ct, turnQ_bk, turnQ_rt, turnQ_xc, goO_some, goV_some, goO_none, goV_none, goO_ite, goV_ite, goO_map, goV_map, goV_bind, Bool.cond_decide, cond_true, cond_false, Bool.cond_not, startD, List.map_cons, List.map_nil, List.length_cons, List.length_nil, List.replicate_succ, List.replicate_zero, List.cons_append, List.nil_append, List.append_nil, Nat.reduceSub, Nat.reduceAdd, List.getElem?_cons_zero, List.getElem?_cons_succ, List.set_cons_zero, List.set_cons_succ, Nat.zero_add, true_and, and_true, true_or, or_true, zero]
  generalize e1 : st ++ [Cell.lst []] = st1
  have a1 : lstAt st1 st.length = some [] := by rw [← e1]; exact lstAt_new
  have f1 : Fr (fun _ => False) st st1 := by rw [← e1]; exact Fr.push
  have n1 : st1.length = st.length + 1 := by rw [← e1]; simp
  refine (hS st1 hl).to fun d st2 ⟨l, hd, hge, el, f2⟩ => ?_
  subst hd
  have a2 := f2.lst (by simp) a1
  have ne : l ≠ st.length := by omega
  simp only [go_runF, go_ok, go_c, go_var, go_bin, go_un, go_bl, go_tru, go_nt, go_an, go_oo, go_mAn, go_mOo, go_mNt, go_if, go_chain, go_aNil, go_aCons, go_tup, go_lst, go_dict0, go_cb, go_bm, go_sl, go_sl3, go_oNone, go_oSome, go_callP, go_call, go_lc, go_tTrue, go_iAny, go_iRng1, go_iRng2, go_iEnm, go_iZip, go_gNm, go_gTp, go_gNl, go_gSb, gCn_eq, gNm_eq, gNl_nil, gTp_tup, R.bind_ok, if_true, gs_nx, gs_bk, gs_ct, gs_seq, thenQ_nx, thenQ_rt, thenQ_bk, thenQ_ct, thenQ_xc, gs_ret, gs_expr, gs_if, gs_asg, gs_par2, gs_par3, gs_aug, retQ_rt, retQ_nx, retQ_xc, gs_for, gs_while, turnQ_nx, turnQ_ct, turnQ_bk, turnQ_rt, turnQ_xc, goO_some, goV_some, goO_none, goV_none, goO_ite, goV_ite, goO_map, goV_map, goV_bind, Bool.cond_decide, cond_true, cond_false, Bool.cond_not, startD, List.map_cons, List.map_nil, List.length_cons, List.length_nil, List.replicate_succ, List.replicate_zero, List.cons_append, List.nil_append, List.append_nil, Nat.reduceSub, Nat.reduceAdd, List.getElem?_cons_zero, List.getElem?_cons_succ, List.set_cons_zero, List.set_cons_succ, Nat.zero_add, true_and, and_true, true_or, or_true, iterD_lst el]
  refine forM_go (fun i σ st3 => i ≤ t.syms.length ∧ (∃ x2, σ = [some t.toD, some (.loc st.length), x2]) ∧ lstAt st3 l = some (t.syms.map D.str) ∧ lstAt st3 st.length = some (((t.syms.take i).foldl addHole []).map D.str) ∧ Fr (fun _ => False) st st3) t.syms.length (fun i σ st h => h.1)
    (fun i σ st3 ⟨hi, ⟨x2, hσ⟩, hal, ha, ff⟩ => ?_) LF 0 _ st2 ⟨Nat.zero_le _, ⟨none, rfl⟩, el, by simpa using a2, f1.trans f2⟩ (by unfold LF; omega)
  subst hσ
  rw [itGet_lst hal, List.getElem?_map]
  cases eg : t.syms[i]? with
  | none =>
    have hl3 : t.syms.length ≤ i := List.getElem?_eq_none_iff.mp eg
    simp only [go_runF, go_ok, go_c, go_var, go_bin, go_un, go_bl, go_tru, go_nt, go_an, go_oo, go_mAn, go_mOo, go_mNt, go_if, go_chain, go_aNil, go_aCons, go_tup, go_lst, go_dict0, go_cb, go_bm, go_sl, go_sl3, go_oNone, go_oSome, go_callP, go_call, go_lc, go_tTrue, go_iAny, go_iRng1, go_iRng2, go_iEnm, go_iZip, go_gNm, go_gTp, go_gNl, go_gSb, gCn_eq, gNm_eq, gNl_nil, gTp_tup, R.bind_ok, if_true, gs_nx, gs_bk, gs_ct, gs_seq, thenQ_nx, thenQ_rt, thenQ_bk, thenQ_ct, thenQ_xc, gs_ret, gs_expr, gs_if, gs_asg, gs_par2, gs_par3, gs_aug, retQ_rt, retQ_nx, retQ_xc, gs_for, gs_while, turnQ_nx, turnQ_ct, turnQ_bk, turnQ_rt, turnQ_xc, goO_some, goV_some, goO_none, goV_none, goO_ite, goV_ite, goO_map, goV_map, goV_bind, Bool.cond_decide, cond_true, cond_false, Bool.cond_not, startD, List.map_cons, List.map_nil, List.length_cons, List.length_nil, List.replicate_succ, List.replicate_zero, List.cons_append, List.nil_append, List.append_nil, Nat.reduceSub, Nat.reduceAdd, List.getElem?_cons_zero, List.getElem?_cons_succ, List.set_cons_zero, List.set_cons_succ, Nat.zero_add, true_and, and_true, true_or, or_true, Option.map_none]
    exact ⟨st.length, rfl, Nat.le_refl _, by rw [ha, List.take_of_length_le hl3]; rfl, ff⟩
  | some s =>
    have hi2 : i < t.syms.length := (List.getElem?_eq_some_iff.mp eg).1
    have hsm : s ∈ t.syms := List.mem_of_getElem? eg
    have tk : t.syms.take (i + 1) = t.syms.take i ++ [s] := by rw [List.take_add_one, eg]; rfl
    have fo : (t.syms.take (i + 1)).foldl addHole [] = addHole ((t.syms.take i).foldl addHole []) s := by rw [tk, List.foldl_append]; rfl
    have hacc : ∀ x ∈ (t.syms.take i).foldl addHole [], Chars x ∧ x.length ≤ 17 := fun x hx => by
      rcases holesOf_sub hx with y | y
      · cases y
      · exact hch x (List.mem_of_mem_take y.1)
    have hlen : (((t.syms.take i).foldl addHole []).map D.str).length < sizeLine := by
      rw [List.length_map]
      have := holesOf_len (l := t.syms.take i) (acc := [])
      have h2 : (t.syms.take i).length ≤ t.syms.length := by rw [List.length_take]; omega
      simp only [List.length_nil] at this
      omega
    have stay : addHole ((t.syms.take i).foldl addHole []) s = (t.syms.take i).foldl addHole [] → i + 1 ≤ t.syms.length ∧ (∃ x2, [some t.toD, some (D.loc st.length), some (.str s)] = [some t.toD, some (.loc st.length), x2]) ∧ lstAt st3 l = some (t.syms.map D.str) ∧ lstAt st3 st.length = some (((t.syms.take (i + 1)).foldl addHole []).map D.str) ∧ Fr (fun _ => False) st st3 := fun h =>
      ⟨hi2, ⟨_, rfl⟩, hal, by rw [fo, h]; exact ha, ff⟩
    unfold sh_holes_1
    simp only [go_runF, go_ok, go_c, go_var, go_bin, go_un, go_bl, go_tru, go_nt, go_an, go_oo, go_mAn, go_mOo, go_mNt, go_if, go_chain, go_aNil, go_aCons, go_tup, go_lst, go_dict0, go_cb, go_bm, go_sl, go_sl3, go_oNone, go_oSome, go_callP, go_call, go_lc, go_tTrue, go_iAny, go_iRng1, go_iRng2, go_iEnm, go_iZip, go_gNm, go_gTp, go_gNl, go_gSb, gCn_eq, gNm_eq, gNl_nil, gTp_tup, R.bind_ok, if_true, gs_nx, gs_bk, gs_ct, gs_seq, thenQ_nx, thenQ_rt, thenQ_bk, thenQ_ct, thenQ_xc, gs_ret, gs_expr, gs_if, gs_asg, gs_par2, gs_par3, gs_aug, retQ_rt, retQ_nx, retQ_xc, gs_for, gs_while, turnQ_nx, turnQ_ct, turnQ_bk, turnQ_rt, turnQ_xc, goO_some, goV_some, goO_none, goV_none, goO_ite, goV_ite, goO_map, goV_map, goV_bind, Bool.cond_decide, cond_true, cond_false, Bool.cond_not, startD, List.map_cons, List.map_nil, List.length_cons, List.length_nil, List.replicate_succ, List.replicate_zero, List.cons_append, List.nil_append, List.append_nil, Nat.reduceSub, Nat.reduceAdd, List.getElem?_cons_zero, List.getElem?_cons_succ, List.set_cons_zero, List.set_cons_succ, Nat.zero_add, true_and, and_true, true_or, or_true, Option.map_some, opIn_str, inStr_dot]
    by_cases hd : noDot s = true
    · simp only [hd, Bool.not_true, Bool.false_bne, cond_true]
      simp only [go_runF, go_ok, go_c, go_var, go_bin, go_un, go_bl, go_tru, go_nt, go_an, go_oo, go_mAn, go_mOo, go_mNt, go_if, go_chain, go_aNil, go_aCons, go_tup, go_lst, go_dict0, go_cb, go_bm, go_sl, go_sl3, go_oNone, go_oSome, go_callP, go_call, go_lc, go_tTrue, go_iAny, go_iRng1, go_iRng2, go_iEnm, go_iZip, go_gNm, go_gTp, go_gNl, go_gSb, gCn_eq, gNm_eq, gNl_nil, gTp_tup, R.bind_ok, if_true, gs_nx, gs_bk, gs_ct, gs_seq, thenQ_nx, thenQ_rt, thenQ_bk, thenQ_ct, thenQ_xc, gs_ret, gs_expr, gs_if, gs_asg, gs_par2, gs_par3, gs_aug, retQ_rt, retQ_nx, retQ_xc, gs_for, gs_while, turnQ_nx, turnQ_ct, turnQ_bk, turnQ_rt, turnQ_xc, goO_some, goV_some, goO_none, goV_none, goO_ite, goV_ite, goO_map, goV_map, goV_bind, Bool.cond_decide, cond_true, cond_false, Bool.cond_not, startD, List.map_cons, List.map_nil, List.length_cons, List.length_nil, List.replicate_succ, List.replicate_zero, List.cons_append, List.nil_append, List.append_nil, Nat.reduceSub, Nat.reduceAdd, List.getElem?_cons_zero, List.getElem?_cons_succ, List.set_cons_zero, List.set_cons_succ, Nat.zero_add, true_and, and_true, true_or, or_true, opIn_strs ha (hch s hsm).1 hacc]
      by_cases hm : s ∈ (t.syms.take i).foldl addHole []
      · simp only [hm, decide_true, Bool.true_bne, Bool.not_true, cond_false]
        exact stay (addHole_old hm)
      · simp only [hm, decide_false, Bool.false_bne, cond_true]
        simp only [go_runF, go_ok, go_c, go_var, go_bin, go_un, go_bl, go_tru, go_nt, go_an, go_oo, go_mAn, go_mOo, go_mNt, go_if, go_chain, go_aNil, go_aCons, go_tup, go_lst, go_dict0, go_cb, go_bm, go_sl, go_sl3, go_oNone, go_oSome, go_callP, go_call, go_lc, go_tTrue, go_iAny, go_iRng1, go_iRng2, go_iEnm, go_iZip, go_gNm, go_gTp, go_gNl, go_gSb, gCn_eq, gNm_eq, gNl_nil, gTp_tup, R.bind_ok, if_true, gs_nx, gs_bk, gs_ct, gs_seq, thenQ_nx, thenQ_rt, thenQ_bk, thenQ_ct, thenQ_xc, gs_ret, gs_expr, gs_if, gs_asg, gs_par2, gs_par3, gs_aug, retQ_rt, retQ_nx, retQ_xc, gs_for, gs_while, turnQ_nx, turnQ_ct, turnQ_bk, turnQ_rt, turnQ_xc, goO_some, goV_some, goO_none, goV_none, goO_ite, goV_ite, goO_map, goV_map, goV_bind, Bool.cond_decide, cond_true, cond_false, Bool.cond_not, startD, List.map_cons, List.map_nil, List.length_cons, List.length_nil, List.replicate_succ, List.replicate_zero, List.cons_append, List.nil_append, List.append_nil, Nat.reduceSub, Nat.reduceAdd, List.getElem?_cons_zero, List.getElem?_cons_succ, List.set_cons_zero, List.set_cons_succ, Nat.zero_add, true_and, and_true, true_or, or_true, tyD_lst ha, mAppend_lst ha, hlen]
        refine ⟨hi2, ⟨_, rfl⟩, by rw [lstAt_setNe (Ne.symm ne)]; exact hal, ?_, ff.new (Fr.put (.inr (Nat.le_refl _)))⟩
        rw [lstAt_set (lstAt_lt ha), fo, addHole_new hd hm]
        simp
    · have hd' : noDot s = false := by simpa using hd
      simp only [hd', Bool.not_false, Bool.true_bne, Bool.not_true, cond_false]
      exact stay (addHole_dot hd')
end G

/-! M7: the program's holes_in, names_in, line_of. -/
namespace G
open PySem L2

/-! ### dicts in the store -/
theorem dctW_of' {st : Store} {n : Nat} {kvs : List (D × D)} (h : st[n]? = some (.dct kvs)) : dctW st n = some kvs := by
  unfold dctW
  rw [h]
theorem dctW_lt {st : Store} {n : Nat} {kvs : List (D × D)} (h : dctW st n = some kvs) : n < st.length := (List.getElem?_eq_some_iff.mp (dctW_eq h)).1
theorem lstAt_dct {st : Store} {n : Nat} {kvs : List (D × D)} (h : dctW st n = some kvs) : lstAt st n = none := by
  unfold lstAt
  rw [dctW_eq h]
theorem dctW_set {st : Store} {n : Nat} {kvs : List (D × D)} (h : n < st.length) : dctW (st.set n (.dct kvs)) n = some kvs := dctW_of' (by rw [List.getElem?_set_self h])
theorem dctW_setNe {st : Store} {n m : Nat} {c : Cell} (h : n ≠ m) : dctW (st.set n c) m = dctW st m := by
  unfold dctW
  rw [List.getElem?_set_ne h]
theorem dctW_push {st : Store} {n : Nat} {c : Cell} {kvs : List (D × D)} (h : dctW st n = some kvs) : dctW (st ++ [c]) n = some kvs := dctW_of' (by rw [List.getElem?_append_left (dctW_lt h)]; exact dctW_eq h)
theorem dctW_new {st : Store} {kvs : List (D × D)} : dctW (st ++ [.dct kvs]) st.length = some kvs := dctW_of' (by simp)
theorem Fr.dct {F : Nat → Prop} {st st' : Store} (h : Fr F st st') {n : Nat} {kvs : List (D × D)} (hf : ¬ F n) (e : dctW st n = some kvs) : dctW st' n = some kvs :=
  dctW_of' (by rw [h.keep n (dctW_lt e) hf]; exact dctW_eq e)
theorem setD_dct {st : Store} {n : Nat} {kvs : List (D × D)} {k v : D} (h : dctW st n = some kvs) : setD (.loc n) k v st = if kindOk kvs k = true ∧ kvs.length < sizeLine then some (st.set n (.dct (dPut kvs k v))) else none := by
  simp only [setD, lstAt_dct h, h]
theorem lstD_dct {st : Store} {n : Nat} {kvs : List (D × D)} (h : dctW st n = some kvs) : lstD (.loc n) st = none := by
  unfold lstD
  simp only [dctW_eq h]
theorem bTuple_dct {st : Store} {n : Nat} {kvs : List (D × D)} (h : dctW st n = some kvs) : bTuple [.loc n] st = if (kvs.isEmpty || flatKeys kvs) = true then some (.tup (kvs.map (·.1)), st) else none := by
  simp only [bTuple, lstD_dct h, h]
/-- a dict of texts, each True -/
def kvsOf (acc : List Str) : List (D × D) := acc.map fun s => (.str s, .bl true)
theorem kOf_str {a b : Str} : kOf (.str a) = kOf (.str b) ↔ a = b := by
  unfold kOf
  constructor
  · intro h
    cases h
    rfl
  · intro h
    rw [h]
theorem kvsOf_put {acc : List Str} {s : Str} : dPut (kvsOf acc) (.str s) (.bl true) = kvsOf (if s ∈ acc then acc else acc ++ [s]) := by
  unfold dPut
  have e : ((kvsOf acc).any fun kv => decide (kOf kv.1 = kOf (.str s))) = decide (s ∈ acc) := by
    unfold kvsOf
    rw [List.any_map, Bool.eq_iff_iff]
    simp only [List.any_eq_true, Function.comp, decide_eq_true_eq, kOf_str]
    constructor
    · rintro ⟨x, hx, rfl⟩; exact hx
    · intro h; exact ⟨s, h, rfl⟩
  rw [e]
  by_cases h : s ∈ acc
  · simp only [h, decide_true, if_true]
    unfold kvsOf
    rw [List.map_map]
    apply List.map_congr_left
    intro x _
    simp only [Function.comp]
    split <;> rfl
  · simp only [h, decide_false, if_false]
    rw [if_neg (by decide)]
    unfold kvsOf
    simp
theorem kvsOf_kind {acc : List Str} {s : Str} : kindOk (kvsOf acc) (.str s) = true := by
  cases acc with
  | nil => rfl
  | cons x r => rfl
theorem kvsOf_flat {acc : List Str} : ((kvsOf acc).isEmpty || flatKeys (kvsOf acc)) = true := by
  cases acc with
  | nil => rfl
  | cons x r => rfl
theorem kvsOf_keys {acc : List Str} : (kvsOf acc).map (·.1) = acc.map D.str := by
  unfold kvsOf
  rw [List.map_map]
  rfl
mutual
/-- holes have no dot, names have one -/
def Tree.Dots : Tree → Prop
  | .hole s => noDot s = true
  | .node f cs => noDot f = false ∧ DotsL cs
def DotsL : List Tree → Prop
  | [] => True
  | t :: ts => t.Dots ∧ DotsL ts
end
theorem DotsL_app : ∀ ts us : List Tree, DotsL (ts ++ us) ↔ DotsL ts ∧ DotsL us
  | [], us => by simp [DotsL]
  | t :: ts, us => by simp [DotsL, DotsL_app ts us, and_assoc]
theorem holesOf_snoc {p : List Str} {s : Str} : holesOf (p ++ [s]) = addHole (holesOf p) s := by
  unfold holesOf
  rw [List.foldl_append]
  rfl

/-! ### holes_in -/
def sh_holes_in_1 : SS :=
  (sSeq (sAsg (mBM .lst mPop (mVar 2) aNil) (gNm 3))
  (sIf (mTru (mCB bIsi (aCons (mVar 3) (aCons (mC (.ty .str)) aNil)))) (sAsg (mC (.bl true)) (gSb (mVar 1) (mVar 3))) (sExpr (mBM .lst mExtend (mVar 2) (aCons (mSl3 (mVar 3) oNone (oSome (mC (.int 0))) (mUn opNeg (mC (.int 1)))) aNil)))))
def sh_holes_in : SS :=
  (sSeq (sPar2 1 2 (aCons mDict0 (aCons (mLst (aCons (mVar 0) aNil)) aNil)))
  (sSeq (sWhile (mTru (mVar 2)) sh_holes_in_1)
  (sRet (mCB bTuple (aCons (mVar 1) aNil)))))
theorem neg1 {st : Store} : opNeg (.int 1) st = some (.int (-1), st) := rfl
theorem sl3_back {x : D} {xs : List D} {st : Store} : sl3D (.tup (x :: xs)) none (some 0) (-1) st = some (.tup xs.reverse, st) := by
  simp only [sl3D, cutB_zero]
  rfl
theorem symsL_cons {t : Tree} {ts : List Tree} : symsL (t :: ts) = t.syms ++ symsL ts := by simp [symsL]
theorem toDs_rev {ts : List Tree} {u : Tree} : (toDs (u :: ts)).reverse = (toDs ts).reverse ++ [u.toD] := by simp [toDs]
def TreeHolesSpec (F : List D → Store → R D) (t : Tree) : Prop := ∀ st : Store, t.syms.length ≤ 1000000 → t.Dots →
  Go (F [t.toD] st) (fun d st' => d = .tup ((holesOf t.syms).map D.str) ∧ Fr (fun _ => False) st st') NoE
theorem holes_in_ok {t : Tree} : TreeHolesSpec (runF 4 sh_holes_in) t := by
  intro st hl hd
  have e3 : sizeLine = 16777216 := rfl
  have one : 1 ≤ sizeLine := by decide
  unfold sh_holes_in
  simp only [go_runF, go_ok, go_c, go_var, go_bin, go_un, go_bl, go_tru, go_nt, go_an, go_oo, go_mAn, go_mOo, go_mNt, go_if, go_chain, go_aNil, go_aCons, go_tup, go_lst, go_dict0, go_cb, go_bm, go_sl, go_sl3, go_oNone, go_oSome, go_callP, go_call, go_lc, go_tTrue, go_iAny, go_iRng1, go_iRng2, go_iEnm, go_iZip, go_gNm, go_gTp, go_gNl, go_gSb, gCn_eq, gNm_eq, gNl_nil, gTp_tup, R.bind_ok, if_true, gs_nx, gs_bk, gs_ct, gs_seq, thenQ_nx, thenQ_rt, thenQ_bk, thenQ_ct, thenQ_xc, gs_ret, gs_expr, gs_if, gs_asg, gs_par2, gs_par3, gs_aug, retQ_rt, retQ_nx, retQ_xc, gs_for, gs_while, turnQ_nx, turnQ_ct, turnQ_bk, turnQ_rt, turnQ_xc, goO_some, goV_some, goO_none, goV_none, goO_ite, goV_ite, goO_map, goV_map, goV_bind, Bool.cond_decide, cond_true, cond_false, Bool.cond_not, startD, List.map_cons, List.map_nil, List.length_cons, List.length_nil, List.replicate_succ, List.replicate_zero, List.cons_append, List.nil_append, List.append_nil, Nat.reduceSub, Nat.reduceAdd, List.getElem?_cons_zero, List.getElem?_cons_succ, List.set_cons_zero, List.set_cons_succ, Nat.zero_add, true_and, and_true, true_or, or_true, one]
  generalize e1 : st ++ [Cell.dct []] = st1
  have d1 : dctW st1 st.length = some (kvsOf []) := by rw [← e1]; exact dctW_new
  have f1 : Fr (fun _ => False) st st1 := by rw [← e1]; exact Fr.push
  have n1 : st1.length = st.length + 1 := by rw [← e1]; simp
  generalize e2 : st1 ++ [Cell.lst [t.toD]] = st2
  have a2 : lstAt st2 st1.length = some [t.toD] := by rw [← e2]; exact lstAt_new
  have d2 : dctW st2 st.length = some (kvsOf []) := by rw [← e2]; exact dctW_push d1
  have f2 : Fr (fun _ => False) st st2 := f1.trans (by rw [← e2]; exact Fr.push)
  refine whileM_go (fun m σ st3 => ∃ (ts : List Tree) (p : List Str) (x3 : Option D), σ = [some t.toD, some (.loc st.length), some (.loc st1.length), x3] ∧ (symsL ts).length = m ∧ p ++ symsL ts = t.syms ∧ DotsL ts ∧ lstAt st3 st1.length = some (toDs ts).reverse ∧ dctW st3 st.length = some (kvsOf (holesOf p)) ∧ Fr (fun _ => False) st st3)
    (fun m σ st3 ⟨ts, p, x3, hσ, hm, hp, hdt, ha, hdc, ff⟩ => ?_) LF t.syms.length _ st2 ⟨[t], [], none, rfl, by simp [symsL], by simp [symsL], by simp [DotsL, hd], by simpa [toDs] using a2, d2, f2⟩ (by unfold LF; omega)
  subst hσ
  simp only [go_runF, go_ok, go_c, go_var, go_bin, go_un, go_bl, go_tru, go_nt, go_an, go_oo, go_mAn, go_mOo, go_mNt, go_if, go_chain, go_aNil, go_aCons, go_tup, go_lst, go_dict0, go_cb, go_bm, go_sl, go_sl3, go_oNone, go_oSome, go_callP, go_call, go_lc, go_tTrue, go_iAny, go_iRng1, go_iRng2, go_iEnm, go_iZip, go_gNm, go_gTp, go_gNl, go_gSb, gCn_eq, gNm_eq, gNl_nil, gTp_tup, R.bind_ok, if_true, gs_nx, gs_bk, gs_ct, gs_seq, thenQ_nx, thenQ_rt, thenQ_bk, thenQ_ct, thenQ_xc, gs_ret, gs_expr, gs_if, gs_asg, gs_par2, gs_par3, gs_aug, retQ_rt, retQ_nx, retQ_xc, gs_for, gs_while, turnQ_nx, turnQ_ct, turnQ_bk, turnQ_rt, turnQ_xc, goO_some, goV_some, goO_none, goV_none, goO_ite, goV_ite, goO_map, goV_map, goV_bind, Bool.cond_decide, cond_true, cond_false, Bool.cond_not, startD, List.map_cons, List.map_nil, List.length_cons, List.length_nil, List.replicate_succ, List.replicate_zero, List.cons_append, List.nil_append, List.append_nil, Nat.reduceSub, Nat.reduceAdd, List.getElem?_cons_zero, List.getElem?_cons_succ, List.set_cons_zero, List.set_cons_succ, Nat.zero_add, true_and, and_true, true_or, or_true, truD_lst ha]
  cases ts with
  | nil =>
    simp only [toDs, List.reverse_nil, List.isEmpty_nil, Bool.not_true, cond_false]
    simp only [go_runF, go_ok, go_c, go_var, go_bin, go_un, go_bl, go_tru, go_nt, go_an, go_oo, go_mAn, go_mOo, go_mNt, go_if, go_chain, go_aNil, go_aCons, go_tup, go_lst, go_dict0, go_cb, go_bm, go_sl, go_sl3, go_oNone, go_oSome, go_callP, go_call, go_lc, go_tTrue, go_iAny, go_iRng1, go_iRng2, go_iEnm, go_iZip, go_gNm, go_gTp, go_gNl, go_gSb, gCn_eq, gNm_eq, gNl_nil, gTp_tup, R.bind_ok, if_true, gs_nx, gs_bk, gs_ct, gs_seq, thenQ_nx, thenQ_rt, thenQ_bk, thenQ_ct, thenQ_xc, gs_ret, gs_expr, gs_if, gs_asg, gs_par2, gs_par3, gs_aug, retQ_rt, retQ_nx, retQ_xc, gs_for, gs_while, turnQ_nx, turnQ_ct, turnQ_bk, turnQ_rt, turnQ_xc, goO_some, goV_some, goO_none, goV_none, goO_ite, goV_ite, goO_map, goV_map, goV_bind, Bool.cond_decide, cond_true, cond_false, Bool.cond_not, startD, List.map_cons, List.map_nil, List.length_cons, List.length_nil, List.replicate_succ, List.replicate_zero, List.cons_append, List.nil_append, List.append_nil, Nat.reduceSub, Nat.reduceAdd, List.getElem?_cons_zero, List.getElem?_cons_succ, List.set_cons_zero, List.set_cons_succ, Nat.zero_add, true_and, and_true, true_or, or_true, bTuple_dct hdc, kvsOf_flat, kvsOf_keys]
    have hp' : p = t.syms := by simpa [symsL] using hp
    exact ⟨by rw [hp'], ff⟩
  | cons u us =>
    rw [toDs_rev] at ha ⊢
    have ne : ((toDs us).reverse ++ [u.toD]).isEmpty = false := by simp
    simp only [ne, Bool.not_false, cond_true]
    unfold sh_holes_in_1
    have hlt := lstAt_lt ha
    rw [symsL_cons] at hm hp
    have tot : p.length + ((u.syms).length + (symsL us).length) = t.syms.length := by rw [← hp]; simp
    simp only [go_runF, go_ok, go_c, go_var, go_bin, go_un, go_bl, go_tru, go_nt, go_an, go_oo, go_mAn, go_mOo, go_mNt, go_if, go_chain, go_aNil, go_aCons, go_tup, go_lst, go_dict0, go_cb, go_bm, go_sl, go_sl3, go_oNone, go_oSome, go_callP, go_call, go_lc, go_tTrue, go_iAny, go_iRng1, go_iRng2, go_iEnm, go_iZip, go_gNm, go_gTp, go_gNl, go_gSb, gCn_eq, gNm_eq, gNl_nil, gTp_tup, R.bind_ok, if_true, gs_nx, gs_bk, gs_ct, gs_seq, thenQ_nx, thenQ_rt, thenQ_bk, thenQ_ct, thenQ_xc, gs_ret, gs_expr, gs_if, gs_asg, gs_par2, gs_par3, gs_aug, retQ_rt, retQ_nx, retQ_xc, gs_for, gs_while, turnQ_nx, turnQ_ct, turnQ_bk, turnQ_rt, turnQ_xc, goO_some, goV_some, goO_none, goV_none, goO_ite, goV_ite, goO_map, goV_map, goV_bind, Bool.cond_decide, cond_true, cond_false, Bool.cond_not, startD, List.map_cons, List.map_nil, List.length_cons, List.length_nil, List.replicate_succ, List.replicate_zero, List.cons_append, List.nil_append, List.append_nil, Nat.reduceSub, Nat.reduceAdd, List.getElem?_cons_zero, List.getElem?_cons_succ, List.set_cons_zero, List.set_cons_succ, Nat.zero_add, true_and, and_true, true_or, or_true, tyD_lst ha, mPop_lst ha]
    generalize e4 : st3.set st1.length (Cell.lst (toDs us).reverse) = st4
    have a4 : lstAt st4 st1.length = some (toDs us).reverse := by rw [← e4]; exact lstAt_set hlt
    have d4 : dctW st4 st.length = some (kvsOf (holesOf p)) := by rw [← e4, dctW_setNe (by omega)]; exact hdc
    have f4 : Fr (fun _ => False) st st4 := ff.new (by rw [← e4]; exact Fr.put (.inr (by omega)))
    cases u with
    | hole s =>
      simp only [DotsL, Tree.Dots] at hdt
      simp only [Tree.toD, Tree.syms] at *
      have hlen : (kvsOf (holesOf p)).length < sizeLine := by
        have := holesOf_len (l := p) (acc := [])
        have h2 : (kvsOf (holesOf p)).length = (holesOf p).length := by unfold kvsOf; rw [List.length_map]
        rw [h2]
        unfold holesOf
        simp only [List.length_nil] at this
        omega
      simp only [go_runF, go_ok, go_c, go_var, go_bin, go_un, go_bl, go_tru, go_nt, go_an, go_oo, go_mAn, go_mOo, go_mNt, go_if, go_chain, go_aNil, go_aCons, go_tup, go_lst, go_dict0, go_cb, go_bm, go_sl, go_sl3, go_oNone, go_oSome, go_callP, go_call, go_lc, go_tTrue, go_iAny, go_iRng1, go_iRng2, go_iEnm, go_iZip, go_gNm, go_gTp, go_gNl, go_gSb, gCn_eq, gNm_eq, gNl_nil, gTp_tup, R.bind_ok, if_true, gs_nx, gs_bk, gs_ct, gs_seq, thenQ_nx, thenQ_rt, thenQ_bk, thenQ_ct, thenQ_xc, gs_ret, gs_expr, gs_if, gs_asg, gs_par2, gs_par3, gs_aug, retQ_rt, retQ_nx, retQ_xc, gs_for, gs_while, turnQ_nx, turnQ_ct, turnQ_bk, turnQ_rt, turnQ_xc, goO_some, goV_some, goO_none, goV_none, goO_ite, goV_ite, goO_map, goV_map, goV_bind, Bool.cond_decide, cond_true, cond_false, Bool.cond_not, startD, List.map_cons, List.map_nil, List.length_cons, List.length_nil, List.replicate_succ, List.replicate_zero, List.cons_append, List.nil_append, List.append_nil, Nat.reduceSub, Nat.reduceAdd, List.getElem?_cons_zero, List.getElem?_cons_succ, List.set_cons_zero, List.set_cons_succ, Nat.zero_add, true_and, and_true, true_or, or_true, isi_str, truD_bl, setD_dct d4, kvsOf_kind, hlen, kvsOf_put]
      refine ⟨(symsL us).length, by simp at hm; omega, us, p ++ [s], _, rfl, rfl, by simpa using hp, hdt.2, ?_, ?_, f4.new (Fr.put (.inr (Nat.le_refl _)))⟩
      · rw [lstAt_setNe (by omega)]; exact a4
      · rw [dctW_set (dctW_lt d4), holesOf_snoc]
        unfold addHole
        by_cases hm : s ∈ holesOf p <;> simp [hm, hdt.1]
    | node f cs =>
      simp only [DotsL, Tree.Dots] at hdt
      simp only [Tree.toD, Tree.syms, List.length_cons] at *
      have hlen : ((toDs us).reverse).length + ((toDs cs).reverse).length ≤ sizeLine := by
        have h1 := symsL_ge us
        have h2 := symsL_ge cs
        rw [List.length_reverse, List.length_reverse, toDs_length, toDs_length]
        omega
      simp only [go_runF, go_ok, go_c, go_var, go_bin, go_un, go_bl, go_tru, go_nt, go_an, go_oo, go_mAn, go_mOo, go_mNt, go_if, go_chain, go_aNil, go_aCons, go_tup, go_lst, go_dict0, go_cb, go_bm, go_sl, go_sl3, go_oNone, go_oSome, go_callP, go_call, go_lc, go_tTrue, go_iAny, go_iRng1, go_iRng2, go_iEnm, go_iZip, go_gNm, go_gTp, go_gNl, go_gSb, gCn_eq, gNm_eq, gNl_nil, gTp_tup, R.bind_ok, if_true, gs_nx, gs_bk, gs_ct, gs_seq, thenQ_nx, thenQ_rt, thenQ_bk, thenQ_ct, thenQ_xc, gs_ret, gs_expr, gs_if, gs_asg, gs_par2, gs_par3, gs_aug, retQ_rt, retQ_nx, retQ_xc, gs_for, gs_while, turnQ_nx, turnQ_ct, turnQ_bk, turnQ_rt, turnQ_xc, goO_some, goV_some, goO_none, goV_none, goO_ite, goV_ite, goO_map, goV_map, goV_bind, Bool.cond_decide, cond_true, cond_false, Bool.cond_not, startD, List.map_cons, List.map_nil, List.length_cons, List.length_nil, List.replicate_succ, List.replicate_zero, List.cons_append, List.nil_append, List.append_nil, Nat.reduceSub, Nat.reduceAdd, List.getElem?_cons_zero, List.getElem?_cons_succ, List.set_cons_zero, List.set_cons_succ, Nat.zero_add, true_and, and_true, true_or, or_true, isi_tup, truD_bl, neg1, sl3_back, tyD_lst a4, mExtend_tup a4, hlen]
      refine ⟨(symsL (cs ++ us)).length, by rw [symsL_app, List.length_append]; simp at hm; omega, cs ++ us, p ++ [f], _, rfl, rfl, ?_, (DotsL_app _ _).mpr ⟨hdt.1.2, hdt.2⟩, ?_, ?_, f4.new (Fr.put (.inr (by omega)))⟩
      · rw [symsL_app]; simpa using hp
      · rw [lstAt_set (lstAt_lt a4), toDs_app, List.reverse_append]
      · rw [dctW_setNe (by omega), holesOf_snoc, addHole_dot hdt.1.1]; exact d4
end G

/-! M8: names_in, line_of. -/
namespace G
open PySem L2

/-! ### names_in -/
def sh_names_in_1 : SS :=
  (sSeq (sAsg (mBM .lst mPop (mVar 2) aNil) (gNm 3))
  (sIf (tNt (mTru (mCB bIsi (aCons (mVar 3) (aCons (mC (.ty .str)) aNil))))) (sSeq (sExpr (mBM .lst mAppend (mVar 1) (aCons (mBin opIx (mVar 3) (mC (.int 0))) aNil)))
  (sExpr (mBM .lst mExtend (mVar 2) (aCons (mSl3 (mVar 3) oNone (oSome (mC (.int 0))) (mUn opNeg (mC (.int 1)))) aNil)))) sNx))
def sh_names_in : SS :=
  (sSeq (sPar2 1 2 (aCons (mLst aNil) (aCons (mLst (aCons (mVar 0) aNil)) aNil)))
  (sSeq (sWhile (mTru (mVar 2)) sh_names_in_1)
  (sRet (mCB bTuple (aCons (mVar 1) aNil)))))
def namesOf (l : List Str) : List Str := l.filter fun s => !noDot s
theorem namesOf_snoc {p : List Str} {s : Str} : namesOf (p ++ [s]) = namesOf p ++ (if noDot s = true then [] else [s]) := by
  unfold namesOf
  rw [List.filter_append]
  congr 1
  by_cases h : noDot s = true <;> simp [h]
def TreeNamesSpec (F : List D → Store → R D) (t : Tree) : Prop := ∀ st : Store, t.syms.length ≤ 1000000 → t.Dots →
  Go (F [t.toD] st) (fun d st' => d = .tup ((namesOf t.syms).map D.str) ∧ Fr (fun _ => False) st st') NoE
theorem names_in_ok {t : Tree} : TreeNamesSpec (runF 4 sh_names_in) t := by
  intro st hl hd
  have e3 : sizeLine = 16777216 := rfl
  have one : 1 ≤ sizeLine := by decide
  have zero : 0 ≤ sizeLine := by decide
  unfold sh_names_in
  simp only [go_runF, go_ok, go_c, go_var, go_bin, go_un, go_bl, go_tru, go_nt, go_an, go_oo, go_mAn, go_mOo, go_mNt, go_if, go_chain, go_aNil, go_aCons, go_tup, go_lst, go_dict0, go_cb, go_bm, go_sl, go_sl3, go_oNone, go_oSome, go_callP, go_call, go_lc, go_tTrue, go_iAny, go_iRng1, go_iRng2, go_iEnm, go_iZip, go_gNm, go_gTp, go_gNl, go_gSb, gCn_eq, gNm_eq, gNl_nil, gTp_tup, R.bind_ok, if_true, gs_nx, gs_bk, gs_ct, gs_seq, thenQ_nx, thenQ_rt, thenQ_bk, thenQ_ct, thenQ_xc, gs_ret, gs_expr, gs_if, gs_asg, gs_par2, gs_par3, gs_aug, retQ_rt, retQ_nx, retQ_xc, gs_for, gs_while, turnQ_nx, turnQ_ct, turnQ_bk, turnQ_rt, turnQ_xc, goO_some, goV_some, goO_none, goV_none, goO_ite, goV_ite, goO_map, goV_map, goV_bind, Bool.cond_decide, cond_true, cond_false, Bool.cond_not, startD, List.map_cons, List.map_nil, List.length_cons, List.length_nil, List.replicate_succ, List.replicate_zero, List.cons_append, List.nil_append, List.append_nil, Nat.reduceSub, Nat.reduceAdd, List.getElem?_cons_zero, List.getElem?_cons_succ, List.set_cons_zero, List.set_cons_succ, Nat.zero_add, true_and, and_true, true_or, or_true, one, zero]
  generalize e1 : st ++ [Cell.lst []] = st1
  have d1 : lstAt st1 st.length = some ([] : List D) := by rw [← e1]; exact lstAt_new
  have f1 : Fr (fun _ => False) st st1 := by rw [← e1]; exact Fr.push
  have n1 : st1.length = st.length + 1 := by rw [← e1]; simp
  generalize e2 : st1 ++ [Cell.lst [t.toD]] = st2
  have a2 : lstAt st2 st1.length = some [t.toD] := by rw [← e2]; exact lstAt_new
  have d2 : lstAt st2 st.length = some ([] : List D) := by rw [← e2]; exact lstAt_push d1
  have f2 : Fr (fun _ => False) st st2 := f1.trans (by rw [← e2]; exact Fr.push)
  refine whileM_go (fun m σ st3 => ∃ (ts : List Tree) (p : List Str) (x3 : Option D), σ = [some t.toD, some (.loc st.length), some (.loc st1.length), x3] ∧ (symsL ts).length = m ∧ p ++ symsL ts = t.syms ∧ DotsL ts ∧ lstAt st3 st1.length = some (toDs ts).reverse ∧ lstAt st3 st.length = some ((namesOf p).map D.str) ∧ Fr (fun _ => False) st st3)
    (fun m σ st3 ⟨ts, p, x3, hσ, hm, hp, hdt, ha, hdc, ff⟩ => ?_) LF t.syms.length _ st2 ⟨[t], [], none, rfl, by simp [symsL], by simp [symsL], by simp [DotsL, hd], by simpa [toDs] using a2, d2, f2⟩ (by unfold LF; omega)
  subst hσ
  simp only [go_runF, go_ok, go_c, go_var, go_bin, go_un, go_bl, go_tru, go_nt, go_an, go_oo, go_mAn, go_mOo, go_mNt, go_if, go_chain, go_aNil, go_aCons, go_tup, go_lst, go_dict0, go_cb, go_bm, go_sl, go_sl3, go_oNone, go_oSome, go_callP, go_call, go_lc, go_tTrue, go_iAny, go_iRng1, go_iRng2, go_iEnm, go_iZip, go_gNm, go_gTp, go_gNl, go_gSb, gCn_eq, gNm_eq, gNl_nil, gTp_tup, R.bind_ok, if_true, gs_nx, gs_bk, gs_ct, gs_seq, thenQ_nx, thenQ_rt, thenQ_bk, thenQ_ct, thenQ_xc, gs_ret, gs_expr, gs_if, gs_asg, gs_par2, gs_par3, gs_aug, retQ_rt, retQ_nx, retQ_xc, gs_for, gs_while, turnQ_nx, turnQ_ct, turnQ_bk, turnQ_rt, turnQ_xc, goO_some, goV_some, goO_none, goV_none, goO_ite, goV_ite, goO_map, goV_map, goV_bind, Bool.cond_decide, cond_true, cond_false, Bool.cond_not, startD, List.map_cons, List.map_nil, List.length_cons, List.length_nil, List.replicate_succ, List.replicate_zero, List.cons_append, List.nil_append, List.append_nil, Nat.reduceSub, Nat.reduceAdd, List.getElem?_cons_zero, List.getElem?_cons_succ, List.set_cons_zero, List.set_cons_succ, Nat.zero_add, true_and, and_true, true_or, or_true, truD_lst ha]
  cases ts with
  | nil =>
    simp only [toDs, List.reverse_nil, List.isEmpty_nil, Bool.not_true, cond_false]
    have tp : bTuple [.loc st.length] st3 = some (.tup ((namesOf p).map D.str), st3) := by
      simp only [bTuple, lstD_loc hdc]
    simp only [go_runF, go_ok, go_c, go_var, go_bin, go_un, go_bl, go_tru, go_nt, go_an, go_oo, go_mAn, go_mOo, go_mNt, go_if, go_chain, go_aNil, go_aCons, go_tup, go_lst, go_dict0, go_cb, go_bm, go_sl, go_sl3, go_oNone, go_oSome, go_callP, go_call, go_lc, go_tTrue, go_iAny, go_iRng1, go_iRng2, go_iEnm, go_iZip, go_gNm, go_gTp, go_gNl, go_gSb, gCn_eq, gNm_eq, gNl_nil, gTp_tup, R.bind_ok, if_true, gs_nx, gs_bk, gs_ct, gs_seq, thenQ_nx, thenQ_rt, thenQ_bk, thenQ_ct, thenQ_xc, gs_ret, gs_expr, gs_if, gs_asg, gs_par2, gs_par3, gs_aug, retQ_rt, retQ_nx, retQ_xc, gs_for, gs_while, turnQ_nx, turnQ_ct, turnQ_bk, turnQ_rt, turnQ_xc, goO_some, goV_some, goO_none, goV_none, goO_ite, goV_ite, goO_map, goV_map, goV_bind, Bool.cond_decide, cond_true, cond_false, Bool.cond_not, startD, List.map_cons, List.map_nil, List.length_cons, List.length_nil, List.replicate_succ, List.replicate_zero, List.cons_append, List.nil_append, List.append_nil, Nat.reduceSub, Nat.reduceAdd, List.getElem?_cons_zero, List.getElem?_cons_succ, List.set_cons_zero, List.set_cons_succ, Nat.zero_add, true_and, and_true, true_or, or_true, tp]
    have hp' : p = t.syms := by simpa [symsL] using hp
    exact ⟨by rw [hp'], ff⟩
  | cons u us =>
    rw [toDs_rev] at ha ⊢
    have ne : ((toDs us).reverse ++ [u.toD]).isEmpty = false := by simp
    simp only [ne, Bool.not_false, cond_true]
    unfold sh_names_in_1
    have hlt := lstAt_lt ha
    rw [symsL_cons] at hm hp
    have tot : p.length + ((u.syms).length + (symsL us).length) = t.syms.length := by rw [← hp]; simp
    simp only [go_runF, go_ok, go_c, go_var, go_bin, go_un, go_bl, go_tru, go_nt, go_an, go_oo, go_mAn, go_mOo, go_mNt, go_if, go_chain, go_aNil, go_aCons, go_tup, go_lst, go_dict0, go_cb, go_bm, go_sl, go_sl3, go_oNone, go_oSome, go_callP, go_call, go_lc, go_tTrue, go_iAny, go_iRng1, go_iRng2, go_iEnm, go_iZip, go_gNm, go_gTp, go_gNl, go_gSb, gCn_eq, gNm_eq, gNl_nil, gTp_tup, R.bind_ok, if_true, gs_nx, gs_bk, gs_ct, gs_seq, thenQ_nx, thenQ_rt, thenQ_bk, thenQ_ct, thenQ_xc, gs_ret, gs_expr, gs_if, gs_asg, gs_par2, gs_par3, gs_aug, retQ_rt, retQ_nx, retQ_xc, gs_for, gs_while, turnQ_nx, turnQ_ct, turnQ_bk, turnQ_rt, turnQ_xc, goO_some, goV_some, goO_none, goV_none, goO_ite, goV_ite, goO_map, goV_map, goV_bind, Bool.cond_decide, cond_true, cond_false, Bool.cond_not, startD, List.map_cons, List.map_nil, List.length_cons, List.length_nil, List.replicate_succ, List.replicate_zero, List.cons_append, List.nil_append, List.append_nil, Nat.reduceSub, Nat.reduceAdd, List.getElem?_cons_zero, List.getElem?_cons_succ, List.set_cons_zero, List.set_cons_succ, Nat.zero_add, true_and, and_true, true_or, or_true, tyD_lst ha, mPop_lst ha]
    generalize e4 : st3.set st1.length (Cell.lst (toDs us).reverse) = st4
    have a4 : lstAt st4 st1.length = some (toDs us).reverse := by rw [← e4]; exact lstAt_set hlt
    have d4 : lstAt st4 st.length = some ((namesOf p).map D.str) := by rw [← e4, lstAt_setNe (show st1.length ≠ st.length by omega)]; exact hdc
    have f4 : Fr (fun _ => False) st st4 := ff.new (by rw [← e4]; exact Fr.put (.inr (by omega)))
    cases u with
    | hole s =>
      simp only [DotsL, Tree.Dots] at hdt
      simp only [Tree.toD, Tree.syms] at *
      simp only [go_runF, go_ok, go_c, go_var, go_bin, go_un, go_bl, go_tru, go_nt, go_an, go_oo, go_mAn, go_mOo, go_mNt, go_if, go_chain, go_aNil, go_aCons, go_tup, go_lst, go_dict0, go_cb, go_bm, go_sl, go_sl3, go_oNone, go_oSome, go_callP, go_call, go_lc, go_tTrue, go_iAny, go_iRng1, go_iRng2, go_iEnm, go_iZip, go_gNm, go_gTp, go_gNl, go_gSb, gCn_eq, gNm_eq, gNl_nil, gTp_tup, R.bind_ok, if_true, gs_nx, gs_bk, gs_ct, gs_seq, thenQ_nx, thenQ_rt, thenQ_bk, thenQ_ct, thenQ_xc, gs_ret, gs_expr, gs_if, gs_asg, gs_par2, gs_par3, gs_aug, retQ_rt, retQ_nx, retQ_xc, gs_for, gs_while, turnQ_nx, turnQ_ct, turnQ_bk, turnQ_rt, turnQ_xc, goO_some, goV_some, goO_none, goV_none, goO_ite, goV_ite, goO_map, goV_map, goV_bind, Bool.cond_decide, cond_true, cond_false, Bool.cond_not, startD, List.map_cons, List.map_nil, List.length_cons, List.length_nil, List.replicate_succ, List.replicate_zero, List.cons_append, List.nil_append, List.append_nil, Nat.reduceSub, Nat.reduceAdd, List.getElem?_cons_zero, List.getElem?_cons_succ, List.set_cons_zero, List.set_cons_succ, Nat.zero_add, true_and, and_true, true_or, or_true, isi_str, truD_bl, Bool.not_true]
      refine ⟨(symsL us).length, by simp at hm; omega, us, p ++ [s], _, rfl, rfl, by simpa using hp, hdt.2, a4, ?_, f4⟩
      rw [namesOf_snoc, if_pos hdt.1, List.append_nil]
      exact d4
    | node f cs =>
      simp only [DotsL, Tree.Dots] at hdt
      simp only [Tree.toD, Tree.syms, List.length_cons] at *
      have at0 : atI (D.str f :: toDs cs) 0 = some (.str f) := by
        have := atI_nat (xs := D.str f :: toDs cs) (k := 0) (by simp)
        exact this
      have hln : ((namesOf p).map D.str).length < sizeLine := by
        rw [List.length_map]
        have := List.length_filter_le (fun s => !noDot s) p
        unfold namesOf
        omega
      have hlen : ((toDs us).reverse).length + ((toDs cs).reverse).length ≤ sizeLine := by
        have h1 := symsL_ge us
        have h2 := symsL_ge cs
        rw [List.length_reverse, List.length_reverse, toDs_length, toDs_length]
        omega
      simp only [go_runF, go_ok, go_c, go_var, go_bin, go_un, go_bl, go_tru, go_nt, go_an, go_oo, go_mAn, go_mOo, go_mNt, go_if, go_chain, go_aNil, go_aCons, go_tup, go_lst, go_dict0, go_cb, go_bm, go_sl, go_sl3, go_oNone, go_oSome, go_callP, go_call, go_lc, go_tTrue, go_iAny, go_iRng1, go_iRng2, go_iEnm, go_iZip, go_gNm, go_gTp, go_gNl, go_gSb, gCn_eq, gNm_eq, gNl_nil, gTp_tup, R.bind_ok, if_true, gs_nx, gs_bk, gs_ct, gs_seq, thenQ_nx, thenQ_rt, thenQ_bk, thenQ_ct, thenQ_xc, gs_ret, gs_expr, gs_if, gs_asg, gs_par2, gs_par3, gs_aug, retQ_rt, retQ_nx, retQ_xc, gs_for, gs_while, turnQ_nx, turnQ_ct, turnQ_bk, turnQ_rt, turnQ_xc, goO_some, goV_some, goO_none, goV_none, goO_ite, goV_ite, goO_map, goV_map, goV_bind, Bool.cond_decide, cond_true, cond_false, Bool.cond_not, startD, List.map_cons, List.map_nil, List.length_cons, List.length_nil, List.replicate_succ, List.replicate_zero, List.cons_append, List.nil_append, List.append_nil, Nat.reduceSub, Nat.reduceAdd, List.getElem?_cons_zero, List.getElem?_cons_succ, List.set_cons_zero, List.set_cons_succ, Nat.zero_add, true_and, and_true, true_or, or_true, isi_tup, truD_bl, Bool.not_false, tyD_lst d4, opIx, at0, mAppend_lst d4, hln]
      generalize e5 : st4.set st.length (Cell.lst ((namesOf p).map D.str ++ [.str f])) = st5
      have d5 : lstAt st5 st.length = some ((namesOf p).map D.str ++ [.str f]) := by rw [← e5]; exact lstAt_set (lstAt_lt d4)
      have a5 : lstAt st5 st1.length = some (toDs us).reverse := by rw [← e5, lstAt_setNe (show st.length ≠ st1.length by omega)]; exact a4
      have f5 : Fr (fun _ => False) st st5 := f4.new (by rw [← e5]; exact Fr.put (.inr (Nat.le_refl _)))
      simp only [go_runF, go_ok, go_c, go_var, go_bin, go_un, go_bl, go_tru, go_nt, go_an, go_oo, go_mAn, go_mOo, go_mNt, go_if, go_chain, go_aNil, go_aCons, go_tup, go_lst, go_dict0, go_cb, go_bm, go_sl, go_sl3, go_oNone, go_oSome, go_callP, go_call, go_lc, go_tTrue, go_iAny, go_iRng1, go_iRng2, go_iEnm, go_iZip, go_gNm, go_gTp, go_gNl, go_gSb, gCn_eq, gNm_eq, gNl_nil, gTp_tup, R.bind_ok, if_true, gs_nx, gs_bk, gs_ct, gs_seq, thenQ_nx, thenQ_rt, thenQ_bk, thenQ_ct, thenQ_xc, gs_ret, gs_expr, gs_if, gs_asg, gs_par2, gs_par3, gs_aug, retQ_rt, retQ_nx, retQ_xc, gs_for, gs_while, turnQ_nx, turnQ_ct, turnQ_bk, turnQ_rt, turnQ_xc, goO_some, goV_some, goO_none, goV_none, goO_ite, goV_ite, goO_map, goV_map, goV_bind, Bool.cond_decide, cond_true, cond_false, Bool.cond_not, startD, List.map_cons, List.map_nil, List.length_cons, List.length_nil, List.replicate_succ, List.replicate_zero, List.cons_append, List.nil_append, List.append_nil, Nat.reduceSub, Nat.reduceAdd, List.getElem?_cons_zero, List.getElem?_cons_succ, List.set_cons_zero, List.set_cons_succ, Nat.zero_add, true_and, and_true, true_or, or_true, neg1, sl3_back, tyD_lst a5, mExtend_tup a5, hlen]
      refine ⟨(symsL (cs ++ us)).length, by rw [symsL_app, List.length_append]; simp at hm; omega, cs ++ us, p ++ [f], _, rfl, rfl, ?_, (DotsL_app _ _).mpr ⟨hdt.1.2, hdt.2⟩, ?_, ?_, f5.new (Fr.put (.inr (by omega)))⟩
      · rw [symsL_app]; simpa using hp
      · rw [lstAt_set (lstAt_lt a5), toDs_app, List.reverse_append]
      · rw [lstAt_setNe (show st1.length ≠ st.length by omega), namesOf_snoc, if_neg (by rw [hdt.1.1]; decide), List.map_append]
        exact d5

/-! ### line_of -/
def sh_line_of : SS :=
  (sRet (mBin opIx (mBM .str mSplit (mVar 0) (aCons (mC (.str (Str.ofString "."))) aNil)) (mC (.int 0))))
theorem dotStr : Str.ofString "." = ⟨#[46]⟩ := by decide +kernel
theorem at_dot {f : Str} {i : Nat} : StrLaws.At f ⟨#[46]⟩ f.length i ↔ f.cps.toList[i]? = some 46 := by
  have e1 : Str.length ⟨#[46]⟩ = 1 := rfl
  have e2 : f.length = f.cps.toList.length := by simp [Str.length]
  unfold StrLaws.At
  unfold Builtin.Str.subAt
  rw [e1]
  constructor
  · rintro ⟨h1, h2⟩
    have h3 := congrArg Array.toList (beq_iff_eq.mp h2)
    rw [Array.toList_extract] at h3
    simp only [List.extract, Nat.add_sub_cancel_left] at h3
    have h4 : ((f.cps.toList.drop i).take 1)[0]? = some 46 := by rw [h3]; rfl
    rw [List.getElem?_take_of_lt (by decide), List.getElem?_drop] at h4
    simpa using h4
  · intro h
    have hi := (List.getElem?_eq_some_iff.mp h).1
    refine ⟨by omega, ?_⟩
    rw [beq_iff_eq]
    apply Array.toList_inj.mp
    rw [Array.toList_extract]
    simp only [List.extract, Nat.add_sub_cancel_left]
    rw [List.drop_eq_getElem_cons hi, List.take_succ_cons, List.take_zero]
    have := (List.getElem?_eq_some_iff.mp h).2
    rw [this]
theorem first_dot {f : Str} {a b : List Nat} (e : f.cps.toList = a ++ 46 :: b) (ha : 46 ∉ a) {i : Nat} (h : StrLaws.At f ⟨#[46]⟩ f.length i) (hn : ∀ k, k < i → ¬ StrLaws.At f ⟨#[46]⟩ f.length k) : i = a.length := by
  have h1 : StrLaws.At f ⟨#[46]⟩ f.length a.length := by
    rw [at_dot, e, List.getElem?_append_right (Nat.le_refl _)]
    simp
  rcases Nat.lt_trichotomy i a.length with z | z | z
  · rw [at_dot, e, List.getElem?_append_left z] at h
    exact (ha (List.mem_of_getElem? h)).elim
  · exact z
  · exact (hn _ z h1).elim
theorem split_dot {f : Str} {a b : List Nat} (e : f.cps.toList = a ++ 46 :: b) (ha : 46 ∉ a) (hc : Chars f) : ∃ r, Txt.split f (Str.ofString ".") = ⟨a.toArray⟩ :: r := by
  rw [dotStr]
  have hp := PyProof.Rows.split_pos f ⟨#[46]⟩
  cases es : Txt.split f ⟨#[46]⟩ with
  | nil => rw [es] at hp; simp at hp
  | cons z r =>
    have hk : Builtin.Str.strKind ⟨#[46]⟩ = 1 := by decide +kernel
    rcases PyProof.Rows.split_head f ⟨#[46]⟩ hk z (by rw [es]; rfl) with ⟨_, h⟩ | ⟨i, hz, hi, hn⟩
    · have h1 : StrLaws.At f ⟨#[46]⟩ f.length a.length := by
        rw [at_dot, e, List.getElem?_append_right (Nat.le_refl _)]
        simp
      exact (h _ h1).elim
    · have hia := first_dot e ha hi hn
      subst hia
      refine ⟨r, ?_⟩
      rw [hz]
      congr 1
      unfold Builtin.Str.strSub
      congr 1
      apply Array.toList_inj.mp
      rw [Array.toList_extract, e]
      simp [List.extract]
theorem find_dot {f : Str} {a b : List Nat} (e : f.cps.toList = a ++ 46 :: b) (ha : 46 ∉ a) : Txt.find f (Str.ofString ".") = (a.length : Int) := by
  rw [dotStr]
  rcases PyProof.Rows.find_whole f ⟨#[46]⟩ with ⟨_, h⟩ | ⟨i, hz, hi, hn⟩
  · have h1 : StrLaws.At f ⟨#[46]⟩ f.length a.length := by
      rw [at_dot, e, List.getElem?_append_right (Nat.le_refl _)]
      simp
    exact (h _ h1).elim
  · rw [hz, first_dot e ha hi hn]
theorem cut_dot {f : Str} {a b : List Nat} (e : f.cps.toList = a ++ 46 :: b) : cutS f none (some (a.length : Int)) = ⟨a.toArray⟩ := by
  have e2 : f.length = f.cps.toList.length := by simp [Str.length]
  unfold cutS HT.sIx
  rw [e2, e]
  simp only [List.drop_zero, Nat.sub_zero]
  rw [if_neg (by omega), Int.toNat_natCast, Nat.min_eq_left (by simp)]
  simp
def LineSpec (F : List D → Store → R D) : Prop := ∀ (f : Str) (a b : List Nat) (st : Store), f.cps.toList = a ++ 46 :: b → 46 ∉ a → Chars f → f.length ≤ 1000 →
  Go (F [.str f] st) (fun d st' => d = .str ⟨a.toArray⟩ ∧ Fr (fun _ => False) st st') NoE
theorem line_of_ok : LineSpec (runF 1 sh_line_of) := by
  intro f a b st e ha hc hl
  obtain ⟨r, hr⟩ := split_dot e ha hc
  have c1 : ((Str.ofString ".").length == 0) = false ∧ f.length + 2 ≤ sizeLine := by
    refine ⟨by decide +kernel, ?_⟩
    have e3 : sizeLine = 16777216 := rfl
    omega
  unfold sh_line_of
  have ms : ∀ st : Store, mSplit (.str f) [.str (Str.ofString ".")] st = some (.loc st.length, st ++ [.lst ((Txt.split f (Str.ofString ".")).map D.str)]) := fun st => by
    simp only [mSplit, if_pos c1]
  have at0 : atI (((⟨a.toArray⟩ : Str) :: r).map D.str) 0 = some (.str ⟨a.toArray⟩) := by
    have := atI_nat (xs := (((⟨a.toArray⟩ : Str) :: r).map D.str)) (k := 0) (by simp)
    exact this
  simp only [go_runF, go_ok, go_c, go_var, go_bin, go_un, go_bl, go_tru, go_nt, go_an, go_oo, go_mAn, go_mOo, go_mNt, go_if, go_chain, go_aNil, go_aCons, go_tup, go_lst, go_dict0, go_cb, go_bm, go_sl, go_sl3, go_oNone, go_oSome, go_callP, go_call, go_lc, go_tTrue, go_iAny, go_iRng1, go_iRng2, go_iEnm, go_iZip, go_gNm, go_gTp, go_gNl, go_gSb, gCn_eq, gNm_eq, gNl_nil, gTp_tup, R.bind_ok, if_true, gs_nx, gs_bk, gs_ct, gs_seq, thenQ_nx, thenQ_rt, thenQ_bk, thenQ_ct, thenQ_xc, gs_ret, gs_expr, gs_if, gs_asg, gs_par2, gs_par3, gs_aug, retQ_rt, retQ_nx, retQ_xc, gs_for, gs_while, turnQ_nx, turnQ_ct, turnQ_bk, turnQ_rt, turnQ_xc, goO_some, goV_some, goO_none, goV_none, goO_ite, goV_ite, goO_map, goV_map, goV_bind, Bool.cond_decide, cond_true, cond_false, Bool.cond_not, startD, List.map_cons, List.map_nil, List.length_cons, List.length_nil, List.replicate_succ, List.replicate_zero, List.cons_append, List.nil_append, List.append_nil, Nat.reduceSub, Nat.reduceAdd, List.getElem?_cons_zero, List.getElem?_cons_succ, List.set_cons_zero, List.set_cons_succ, Nat.zero_add, true_and, and_true, true_or, or_true, tyD, ms, hr]
  generalize e1 : st ++ [Cell.lst (D.str ⟨a.toArray⟩ :: r.map D.str)] = st1
  have a1 : lstAt st1 st.length = some (((⟨a.toArray⟩ : Str) :: r).map D.str) := by rw [← e1]; exact lstAt_new
  simp only [go_runF, go_ok, go_c, go_var, go_bin, go_un, go_bl, go_tru, go_nt, go_an, go_oo, go_mAn, go_mOo, go_mNt, go_if, go_chain, go_aNil, go_aCons, go_tup, go_lst, go_dict0, go_cb, go_bm, go_sl, go_sl3, go_oNone, go_oSome, go_callP, go_call, go_lc, go_tTrue, go_iAny, go_iRng1, go_iRng2, go_iEnm, go_iZip, go_gNm, go_gTp, go_gNl, go_gSb, gCn_eq, gNm_eq, gNl_nil, gTp_tup, R.bind_ok, if_true, gs_nx, gs_bk, gs_ct, gs_seq, thenQ_nx, thenQ_rt, thenQ_bk, thenQ_ct, thenQ_xc, gs_ret, gs_expr, gs_if, gs_asg, gs_par2, gs_par3, gs_aug, retQ_rt, retQ_nx, retQ_xc, gs_for, gs_while, turnQ_nx, turnQ_ct, turnQ_bk, turnQ_rt, turnQ_xc, goO_some, goV_some, goO_none, goV_none, goO_ite, goV_ite, goO_map, goV_map, goV_bind, Bool.cond_decide, cond_true, cond_false, Bool.cond_not, startD, List.map_cons, List.map_nil, List.length_cons, List.length_nil, List.replicate_succ, List.replicate_zero, List.cons_append, List.nil_append, List.append_nil, Nat.reduceSub, Nat.reduceAdd, List.getElem?_cons_zero, List.getElem?_cons_succ, List.set_cons_zero, List.set_cons_succ, Nat.zero_add, true_and, and_true, true_or, or_true, opIx_lst a1]
  have at0 : atI (D.str ⟨a.toArray⟩ :: r.map D.str) 0 = some (.str ⟨a.toArray⟩) := at0
  simp only [go_runF, go_ok, go_c, go_var, go_bin, go_un, go_bl, go_tru, go_nt, go_an, go_oo, go_mAn, go_mOo, go_mNt, go_if, go_chain, go_aNil, go_aCons, go_tup, go_lst, go_dict0, go_cb, go_bm, go_sl, go_sl3, go_oNone, go_oSome, go_callP, go_call, go_lc, go_tTrue, go_iAny, go_iRng1, go_iRng2, go_iEnm, go_iZip, go_gNm, go_gTp, go_gNl, go_gSb, gCn_eq, gNm_eq, gNl_nil, gTp_tup, R.bind_ok, if_true, gs_nx, gs_bk, gs_ct, gs_seq, thenQ_nx, thenQ_rt, thenQ_bk, thenQ_ct, thenQ_xc, gs_ret, gs_expr, gs_if, gs_asg, gs_par2, gs_par3, gs_aug, retQ_rt, retQ_nx, retQ_xc, gs_for, gs_while, turnQ_nx, turnQ_ct, turnQ_bk, turnQ_rt, turnQ_xc, goO_some, goV_some, goO_none, goV_none, goO_ite, goV_ite, goO_map, goV_map, goV_bind, Bool.cond_decide, cond_true, cond_false, Bool.cond_not, startD, List.map_cons, List.map_nil, List.length_cons, List.length_nil, List.replicate_succ, List.replicate_zero, List.cons_append, List.nil_append, List.append_nil, Nat.reduceSub, Nat.reduceAdd, List.getElem?_cons_zero, List.getElem?_cons_succ, List.set_cons_zero, List.set_cons_succ, Nat.zero_add, true_and, and_true, true_or, or_true, at0]
  rw [← e1]; exact Fr.push
end G

/-! M9: trees as data; levels of calls. -/
namespace G
open PySem L2

mutual
def Tree.P : Tree → PyData
  | .hole s => .str s
  | .node f cs => .tuple (.str f :: treesP cs)
def treesP : List Tree → List PyData
  | [] => []
  | t :: ts => t.P :: treesP ts
end
mutual
theorem Tree.pd : ∀ t : Tree, pdW nL t.toD = some t.P
  | .hole s => by unfold Tree.toD Tree.P pdW; rfl
  | .node f cs => by
    unfold Tree.toD Tree.P pdW
    rw [pdsW_cons (by unfold pdW; rfl) (treesP_pd cs)]
    rfl
theorem treesP_pd : ∀ ts : List Tree, pdsW nL (toDs ts) = some (treesP ts)
  | [] => by unfold toDs treesP pdsW; rfl
  | t :: ts => by
    unfold toDs treesP
    exact pdsW_cons (Tree.pd t) (treesP_pd ts)
end
mutual
theorem Tree.sm : ∀ t : Tree, (∀ s ∈ t.syms, Chars s ∧ s.length ≤ 17) → Sm t.P (19 * t.syms.length - 1) t.dep
  | .hole s, h => by
    unfold Tree.P Tree.syms Tree.dep
    have h1 := h s (by unfold Tree.syms; simp)
    exact (Sm.str h1.1).mono (by have := h1.2; simp; omega) (Nat.le_refl _)
  | .node f cs, h => by
    unfold Tree.P Tree.syms Tree.dep
    have h1 := h f (by unfold Tree.syms; simp)
    have h2 := treesP_sm cs fun s hs => h s (by unfold Tree.syms; exact List.mem_cons_of_mem _ hs)
    exact Sm.tup ((SmA.cons ((Sm.str (k := depL cs) h1.1).mono h1.2 (Nat.le_refl _)) h2).mono (by simp; omega) (Nat.le_refl _))
theorem treesP_sm : ∀ ts : List Tree, (∀ s ∈ symsL ts, Chars s ∧ s.length ≤ 17) → SmA (treesP ts) (19 * (symsL ts).length) (depL ts)
  | [], _ => by unfold treesP symsL depL; exact SmA.nil
  | t :: ts, h => by
    unfold treesP symsL depL
    have h1 := Tree.sm t fun s hs => h s (by unfold symsL; exact List.mem_append_left _ hs)
    have h2 := treesP_sm ts fun s hs => h s (by unfold symsL; exact List.mem_append_right _ hs)
    have := syms_pos t
    exact (SmA.cons (h1.mono (Nat.le_refl _) (Nat.le_max_left _ (depL ts))) (h2.mono (Nat.le_refl _) (Nat.le_max_right t.dep _))).mono (by rw [List.length_append]; omega) (Nat.le_refl _)
end
mutual
/-- what is drawn of good names: its signs, its dots, its size -/
theorem Tree.good {ws : List (Str × Nat)} {hs : List Str} (hw : WordsOk ws) (hh : ∀ s ∈ hs, NameOk s) : ∀ t : Tree, t.In ws hs → (∀ s ∈ t.syms, Chars s ∧ s.length ≤ 17) ∧ t.Dots ∧ t.syms.length ≤ 4 ^ t.dep ∧ (∀ s ∈ t.syms, noDot s = true → NameOk s) ∧ (∀ s ∈ t.syms, noDot s = false → FullOk s)
  | .hole s, h => by
    unfold Tree.In at h
    have hn := hh s h
    unfold Tree.syms Tree.Dots Tree.dep
    simp only [List.mem_singleton, forall_eq]
    refine ⟨⟨hn.chars, by have := hn.len; omega⟩, noDot_name hn, by simp, fun _ => hn, fun z => ?_⟩
    rw [noDot_name hn] at z
    cases z
  | .node f cs, h => by
    unfold Tree.In at h
    obtain ⟨hf, hp⟩ := hw.full _ h.1
    obtain ⟨h1, h2, h3, h4, h5⟩ := goodL hw hh cs h.2
    have hp : cs.length ≤ 3 := hp
    unfold Tree.syms Tree.Dots Tree.dep
    have nf := noDot_full hf
    have e4 : 4 ^ (depL cs + 1) = 4 ^ depL cs * 4 := Nat.pow_succ ..
    have p4 : 1 ≤ 4 ^ depL cs := Nat.one_le_pow _ _ (by decide)
    refine ⟨fun s hs => ?_, ⟨nf, h2⟩, ?_, fun s hs => ?_, fun s hs => ?_⟩
    · rcases List.mem_cons.mp hs with rfl | hs
      · exact ⟨hf.chars, hf.len⟩
      · exact h1 s hs
    · rw [List.length_cons, e4]
      have : cs.length * 4 ^ depL cs ≤ 3 * 4 ^ depL cs := Nat.mul_le_mul_right _ hp
      omega
    · rcases List.mem_cons.mp hs with rfl | hs
      · intro z; rw [nf] at z; cases z
      · exact h4 s hs
    · rcases List.mem_cons.mp hs with rfl | hs
      · exact fun _ => hf
      · exact h5 s hs
theorem goodL {ws : List (Str × Nat)} {hs : List Str} (hw : WordsOk ws) (hh : ∀ s ∈ hs, NameOk s) : ∀ ts : List Tree, InL ws hs ts → (∀ s ∈ symsL ts, Chars s ∧ s.length ≤ 17) ∧ DotsL ts ∧ (symsL ts).length ≤ ts.length * 4 ^ depL ts ∧ (∀ s ∈ symsL ts, noDot s = true → NameOk s) ∧ (∀ s ∈ symsL ts, noDot s = false → FullOk s)
  | [], _ => by unfold symsL DotsL depL; simp
  | t :: ts, h => by
    unfold InL at h
    obtain ⟨a1, a2, a3, a4, a5⟩ := Tree.good hw hh t h.1
    obtain ⟨h1, h2, h3, h4, h5⟩ := goodL hw hh ts h.2
    unfold symsL DotsL depL
    have m1 : 4 ^ t.dep ≤ 4 ^ max t.dep (depL ts) := Nat.pow_le_pow_right (by decide) (Nat.le_max_left _ _)
    have m2 : ts.length * 4 ^ depL ts ≤ ts.length * 4 ^ max t.dep (depL ts) := Nat.mul_le_mul_left _ (Nat.pow_le_pow_right (by decide) (Nat.le_max_right _ _))
    refine ⟨fun s hs => ?_, ⟨a2, h2⟩, ?_, fun s hs => ?_, fun s hs => ?_⟩
    · rcases List.mem_append.mp hs with hs | hs
      · exact a1 s hs
      · exact h1 s hs
    · rw [List.length_append, List.length_cons, Nat.succ_mul]
      omega
    · rcases List.mem_append.mp hs with hs | hs
      · exact a4 s hs
      · exact h4 s hs
    · rcases List.mem_append.mp hs with hs | hs
      · exact a5 s hs
      · exact h5 s hs
end
/-- the same two tuples of texts, shown -/
theorem repr_two {l : Nat} {ss : List Str} {st : Store} (h : lstAt st l = some [.tup (ss.map D.str), .tup (ss.map D.str)]) (hs : ∀ s ∈ ss, Chars s ∧ s.length ≤ 17) (hl : ss.length ≤ 1000) :
    bRepr [.loc l] st = some (.str (PyData.shown (.list [.tuple (ss.map .str), .tuple (ss.map .str)])), st) := by
  have e : pdW nL (.tup (ss.map D.str)) = some (.tuple (ss.map .str)) := by unfold pdW; rw [pdsW_strs]; rfl
  have s1 : Sm (.tuple (ss.map PyData.str)) (ss.length * 18) 1 := Sm.tup (SmA.strs hs)
  exact bRepr_data (toP_lst h (pdsW_cons e (pdsW_cons e (by unfold pdsW; rfl)))) (Sm.lst (SmA.cons s1 (SmA.cons s1 SmA.nil))) (by omega) (by decide)
theorem repr_twoS {l : Nat} {s : Str} {st : Store} (h : lstAt st l = some [.str s, .str s]) (hs : Chars s) (hl : s.length ≤ 1000) :
    bRepr [.loc l] st = some (.str (PyData.shown (.list [.str s, .str s])), st) := by
  have e : pdW nL (.str s) = some (.str s) := by unfold pdW; rfl
  have s1 : Sm (.str s) s.length 0 := Sm.str hs
  exact bRepr_data (toP_lst h (pdsW_cons e (pdsW_cons e (by unfold pdsW; rfl)))) (Sm.lst (SmA.cons s1 (SmA.cons s1 SmA.nil))) (by omega) (by decide)
theorem repr_tree {t : Tree} {st : Store} (h : ∀ s ∈ t.syms, Chars s ∧ s.length ≤ 17) (hl : t.syms.length ≤ 1000) (hd : t.dep ≤ 50) : bRepr [t.toD] st = some (.str t.P.shown, st) :=
  bRepr_data (toP_pure t.pd) (t.sm h) (by omega) (by omega)
theorem opMul_two {l : Nat} {x : D} {st : Store} (h : lstAt st l = some [x]) : opMul (.loc l) (.int 2) st = some (.loc st.length, st ++ [.lst [x, x]]) := by
  have c : -(2 ^ 63) ≤ (2 : Int) ∧ (2 : Int) < 2 ^ 63 ∧ [x].length * Int.toNat 2 ≤ sizeLine := ⟨by decide, by decide, by show 1 * 2 ≤ sizeLine; decide⟩
  simp only [opMul, h, if_pos c]
  rfl
theorem bTuple_lst {l : Nat} {xs : List D} {st : Store} (h : lstAt st l = some xs) : bTuple [.loc l] st = some (.tup xs, st) := by
  simp only [bTuple, lstD_loc h]
end G

namespace L
open PySem L2 G
/-- how deep calls may go -/
def LV : Nat := 200
def top (i : Nat) : Stmt := PySem.Challenge.pw_aheadofholes_k02_holes_and_names_of_tree.main.body.getD i (.Pass ⟨0, 0, 0, 0⟩)

def b_line_of (call : CallF) : SS :=
  (sRet (mBin opIx (mBM .str mSplit (mVar 0) (aCons (mC (.str (Str.ofString "."))) aNil)) (mC (.int 0))))

def b_holes_in_1 (call : CallF) : SS :=
  (sSeq (sAsg (mBM .lst mPop (mVar 2) aNil) (gNm 3))
  (sIf (mTru (mCB bIsi (aCons (mVar 3) (aCons (mC (.ty .str)) aNil)))) (sAsg (mC (.bl true)) (gSb (mVar 1) (mVar 3))) (sExpr (mBM .lst mExtend (mVar 2) (aCons (mSl3 (mVar 3) oNone (oSome (mC (.int 0))) (mUn opNeg (mC (.int 1)))) aNil)))))

def b_holes_in (call : CallF) : SS :=
  (sSeq (sPar2 1 2 (aCons mDict0 (aCons (mLst (aCons (mVar 0) aNil)) aNil)))
  (sSeq (sWhile (mTru (mVar 2)) (b_holes_in_1 call))
  (sRet (mCB bTuple (aCons (mVar 1) aNil)))))

def b_names_in_1 (call : CallF) : SS :=
  (sSeq (sAsg (mBM .lst mPop (mVar 2) aNil) (gNm 3))
  (sIf (tNt (mTru (mCB bIsi (aCons (mVar 3) (aCons (mC (.ty .str)) aNil))))) (sSeq (sExpr (mBM .lst mAppend (mVar 1) (aCons (mBin opIx (mVar 3) (mC (.int 0))) aNil)))
  (sExpr (mBM .lst mExtend (mVar 2) (aCons (mSl3 (mVar 3) oNone (oSome (mC (.int 0))) (mUn opNeg (mC (.int 1)))) aNil)))) sNx))

def b_names_in (call : CallF) : SS :=
  (sSeq (sPar2 1 2 (aCons (mLst aNil) (aCons (mLst (aCons (mVar 0) aNil)) aNil)))
  (sSeq (sWhile (mTru (mVar 2)) (b_names_in_1 call))
  (sRet (mCB bTuple (aCons (mVar 1) aNil)))))

def b__law_hand (call : CallF) : SS :=
  (sSeq (sAsg (mIf (mBl (mBin opLt (mVar 1) (mCB bLen (aCons (mVar 0) aNil)))) (mBin opIx (mVar 0) (mVar 1)) (mC (.int 0))) (gNm 2))
  (sSeq (sAsg (mBin opMul (mBin opMod (mCB bAbs (aCons (mVar 2) aNil)) (mBin opMul (mBin opMul (mBin opPow (mC (.int 10)) (mC (.int 60))) (mBin opPow (mC (.int 10)) (mC (.int 60)))) (mBin opPow (mC (.int 10)) (mC (.int 60))))) (mCB bInt (aCons (mBin opGe (mCB bAbs (aCons (mVar 2) aNil)) (mBin opPow (mC (.int 10)) (mC (.int 18)))) aNil))) (gNm 3))
  (sRet (mLst (aCons (mVar 3) (aCons (mBin opMod (mBin opMul (mBin opAdd (mBin opAdd (mBin opMod (mVar 2) (mC (.int 2147483629))) (mBin opMul (mC (.int 7919)) (mVar 1))) (mC (.int 13))) (mC (.int 48271))) (mC (.int 2147483647))) (aCons (mC (.int 0)) aNil)))))))

def b__law_take (call : CallF) : SS :=
  (sSeq (sIf (mBl (mBin opGt (mBin opIx (mVar 0) (mC (.int 0))) (mC (.int 0)))) (sSeq (sAsg (mBin opMod (mBin opIx (mVar 0) (mC (.int 0))) (mVar 1)) (gNm 4))
  (sSeq (sAsg (mBin opDiv (mBin opIx (mVar 0) (mC (.int 0))) (mVar 1)) (gSb (mVar 0) (mC (.int 0))))
  (sRet (mVar 4)))) sNx)
  (sSeq (sAsg (mBin opAdd (mBin opIx (mVar 0) (mC (.int 2))) (mC (.int 1))) (gSb (mVar 0) (mC (.int 2))))
  (sSeq (sAsg (mBin opIx (mLst (aCons (mC (.int 2147483647)) (aCons (mC (.int 2147483629)) (aCons (mC (.int 2147483587)) (aCons (mC (.int 2147483579)) (aCons (mC (.int 2147483563)) aNil)))))) (mBin opMod (mBin opIx (mVar 0) (mC (.int 2))) (mC (.int 5)))) (gNm 2))
  (sSeq (sAsg (mBin opMod (mBin opPow (mBin opAdd (mBin opIx (mVar 0) (mC (.int 1))) (mBin opMul (mC (.int 7919)) (mBin opIx (mVar 0) (mC (.int 2))))) (mC (.int 3))) (mVar 2)) (gNm 3))
  (sRet (mBin opMod (mBin opDiv (mBin opMod (mBin opMul (mVar 3) (mBin opAdd (mBin opMod (mVar 3) (mC (.int 1009))) (mBin opIx (mVar 0) (mC (.int 2))))) (mVar 2)) (mC (.int 11))) (mVar 1)))))))

def b__law_of (call : CallF) : SS :=
  (sRet (mBin opIx (mVar 1) (mCallP 2 (call (Str.ofString "_law_take")) (aCons (mVar 0) (aCons (mCB bLen (aCons (mVar 1) aNil)) aNil)))))

def b__law_words_1 (call : CallF) : SS :=
  (sSeq (sAsg (mBin opMul (mBin opIx (mVar 1) (mBin opMod (mBin opAdd (mVar 3) (mVar 5)) (mC (.int 26)))) (mCallP 2 (call (Str.ofString "_law_of")) (aCons (mVar 0) (aCons (mLst (aCons (mC (.int 1)) (aCons (mC (.int 1)) (aCons (mC (.int 2)) (aCons (mC (.int 8)) aNil))))) aNil)))) (gNm 7))
  (sExpr (mBM .lst mAppend (mVar 4) (aCons (mTup (aCons (mBin opAdd (mBin opAdd (mCallP 2 (call (Str.ofString "_law_of")) (aCons (mVar 0) (aCons (mVar 2) aNil))) (mC (.str (Str.ofString ".")))) (mVar 7)) (aCons (mVar 6) aNil))) aNil))))

def b__law_words_2 (call : CallF) : ME :=
  (mBin opMul (mCallP 2 (call (Str.ofString "_law_of")) (aCons (mVar 0) (aCons (mVar 1) aNil))) (mCallP 2 (call (Str.ofString "_law_of")) (aCons (mVar 0) (aCons (mLst (aCons (mC (.int 1)) (aCons (mC (.int 1)) (aCons (mC (.int 2)) (aCons (mC (.int 8)) aNil))))) aNil))))

def b__law_words (call : CallF) : SS :=
  (sSeq (sAsg (mC (.str (Str.ofString "abcdefghijklmnopqrstuvwxyz"))) (gNm 1))
  (sSeq (sAsg (mLc (iRng1 (aCons (mC (.int 2)) aNil)) (.nm 8) tTrue (b__law_words_2 call) [8]) (gNm 2))
  (sSeq (sPar2 3 4 (aCons (mCallP 2 (call (Str.ofString "_law_take")) (aCons (mVar 0) (aCons (mC (.int 26)) aNil))) (aCons (mLst aNil) aNil)))
  (sSeq (sFor (iEnm (aCons (mLst (aCons (mC (.int 0)) (aCons (mC (.int 0)) (aCons (mC (.int 1)) (aCons (mC (.int 2)) (aCons (mC (.int 3)) aNil)))))) aNil)) (gTp 2 (gCn (gNm 5) (gCn (gNm 6) gNl))) (b__law_words_1 call))
  (sRet (mVar 4))))))

def b__law_tree_1 (call : CallF) : ME :=
  (mCallP 4 (call (Str.ofString "_law_tree")) (aCons (mVar 0) (aCons (mVar 1) (aCons (mVar 2) (aCons (mBin opSub (mVar 3) (mC (.int 1))) aNil)))))

def b__law_tree_2 (call : CallF) : MT :=
  (tOo (mBl (mBin (opEq false) (mBin opIx (mVar 6) (mC (.int 1))) (mC (.int 0)))) (mBl (mBin opGt (mVar 3) (mC (.int 0)))))

def b__law_tree (call : CallF) : SS :=
  (sSeq (sIf (tAn (mBl (mBin (opEq true) (mVar 2) (mLst aNil))) (mBl (mBin (opEq false) (mCallP 2 (call (Str.ofString "_law_take")) (aCons (mVar 0) (aCons (mC (.int 3)) aNil))) (mC (.int 0))))) (sRet (mCallP 2 (call (Str.ofString "_law_of")) (aCons (mVar 0) (aCons (mVar 2) aNil)))) sNx)
  (sSeq (sAsg (mCallP 2 (call (Str.ofString "_law_of")) (aCons (mVar 0) (aCons (mLc (iAny (mVar 1)) (.nm 6) (b__law_tree_2 call) (mVar 6) [6]) aNil))) (gTp 2 (gCn (gNm 4) (gCn (gNm 5) gNl))))
  (sRet (mBin opAdd (mTup (aCons (mVar 4) aNil)) (mCB bTuple (aCons (mLc (iRng1 (aCons (mVar 5) aNil)) (.nm 7) tTrue (b__law_tree_1 call) [7]) aNil))))))

def b__law_called (call : CallF) : SS :=
  (sSeq (sAsg (mLst (aCons (mLst (aCons (mC (.str (Str.ofString "x"))) (aCons (mC (.str (Str.ofString "y"))) (aCons (mC (.str (Str.ofString "z"))) aNil)))) (aCons (mLst (aCons (mC (.str (Str.ofString "a"))) (aCons (mC (.str (Str.ofString "b"))) (aCons (mC (.str (Str.ofString "c"))) aNil)))) (aCons (mLst (aCons (mC (.str (Str.ofString "b"))) (aCons (mC (.str (Str.ofString "a"))) aNil))) (aCons (mLst (aCons (mC (.str (Str.ofString "aa"))) (aCons (mC (.str (Str.ofString "a"))) (aCons (mC (.str (Str.ofString "ab"))) (aCons (mC (.str (Str.ofString "b"))) aNil))))) (aCons (mLst (aCons (mC (.str (Str.ofString "z"))) (aCons (mC (.str (Str.ofString "zzzzzzzz"))) (aCons (mC (.str (Str.ofString "y"))) aNil)))) (aCons (mLst (aCons (mC (.str (Str.ofString "c"))) aNil)) aNil))))))) (gNm 1))
  (sRet (mCallP 2 (call (Str.ofString "_law_of")) (aCons (mVar 0) (aCons (mVar 1) aNil)))))

def b__law_symbols_1 (call : CallF) : SS :=
  (sExpr (mBM .lst mExtend (mVar 1) (aCons (mCallP 1 (call (Str.ofString "_law_symbols")) (aCons (mVar 2) aNil)) aNil)))

def b__law_symbols (call : CallF) : SS :=
  (sSeq (sIf (mTru (mCB bIsi (aCons (mVar 0) (aCons (mC (.ty .str)) aNil)))) (sRet (mLst (aCons (mVar 0) aNil))) sNx)
  (sSeq (sAsg (mLst (aCons (mBin opIx (mVar 0) (mC (.int 0))) aNil)) (gNm 1))
  (sSeq (sFor (iAny (mSl (mVar 0) (oSome (mC (.int 1))) oNone)) (gNm 2) (b__law_symbols_1 call))
  (sRet (mVar 1)))))

def b__law_holes_1 (call : CallF) : SS :=
  (sIf (tAn (mBl (mBin (opIn true) (mC (.str (Str.ofString "."))) (mVar 2))) (mBl (mBin (opIn true) (mVar 2) (mVar 1)))) (sExpr (mBM .lst mAppend (mVar 1) (aCons (mVar 2) aNil))) sNx)

def b__law_holes (call : CallF) : SS :=
  (sSeq (sAsg (mLst aNil) (gNm 1))
  (sSeq (sFor (iAny (mCallP 1 (call (Str.ofString "_law_symbols")) (aCons (mVar 0) aNil))) (gNm 2) (b__law_holes_1 call))
  (sRet (mVar 1))))

def b__law_right_1 (call : CallF) : SS :=
  (sSeq (sAsg (mSl (mVar 5) oNone (oSome (mBM .str mFind (mVar 5) (aCons (mC (.str (Str.ofString "."))) aNil)))) (gNm 8))
  (sIf (mBl (mBin (opEq true) (mCB bRepr (aCons (mLst (aCons (mCallP 1 (call (Str.ofString "line_of")) (aCons (mVar 5) aNil)) (aCons (mCall 0 1 [0] (call (Str.ofString "line_of")) aNil (aCons (mVar 5) aNil)) aNil))) aNil)) (mCB bRepr (aCons (mLst (aCons (mVar 8) (aCons (mVar 8) aNil))) aNil)))) (sRet (mC (.bl false))) sNx))

def b__law_right_2 (call : CallF) : MT :=
  (mBl (mBin (opIn false) (mC (.str (Str.ofString "."))) (mVar 9)))

def b__law_right_3 (call : CallF) : SS :=
  (sSeq (sAsg (mCallP 4 (call (Str.ofString "_law_tree")) (aCons (mVar 0) (aCons (mVar 1) (aCons (mBin opIx (mLst (aCons (mCallP 1 (call (Str.ofString "_law_called")) (aCons (mVar 0) aNil)) (aCons (mLst aNil) aNil))) (mBin opDiv (mCallP 2 (call (Str.ofString "_law_take")) (aCons (mVar 0) (aCons (mC (.int 5)) aNil))) (mC (.int 4)))) (aCons (mCallP 2 (call (Str.ofString "_law_take")) (aCons (mVar 0) (aCons (mC (.int 4)) aNil))) aNil))))) (gNm 3))
  (sSeq (sPar2 6 7 (aCons (mCB bRepr (aCons (mVar 3) aNil)) (aCons (mCallP 1 (call (Str.ofString "_law_symbols")) (aCons (mVar 3) aNil)) aNil)))
  (sSeq (sAsg (mLc (iAny (mVar 7)) (.nm 9) (b__law_right_2 call) (mVar 9) [9]) (gNm 4))
  (sSeq (sIf (mBl (mBin (opEq true) (mCB bRepr (aCons (mLst (aCons (mCallP 1 (call (Str.ofString "holes_in")) (aCons (mVar 3) aNil)) (aCons (mCall 0 1 [0] (call (Str.ofString "holes_in")) aNil (aCons (mVar 3) aNil)) aNil))) aNil)) (mCB bRepr (aCons (mBin opMul (mLst (aCons (mCB bTuple (aCons (mCallP 1 (call (Str.ofString "_law_holes")) (aCons (mVar 3) aNil)) aNil)) aNil)) (mC (.int 2))) aNil)))) (sRet (mC (.bl false))) sNx)
  (sSeq (sIf (tOo (mBl (mBin (opEq true) (mCB bRepr (aCons (mLst (aCons (mCallP 1 (call (Str.ofString "names_in")) (aCons (mVar 3) aNil)) (aCons (mCall 0 1 [0] (call (Str.ofString "names_in")) aNil (aCons (mVar 3) aNil)) aNil))) aNil)) (mCB bRepr (aCons (mBin opMul (mLst (aCons (mCB bTuple (aCons (mVar 4) aNil)) aNil)) (mC (.int 2))) aNil)))) (mBl (mBin (opEq true) (mCB bRepr (aCons (mVar 3) aNil)) (mVar 6)))) (sRet (mC (.bl false))) sNx)
  (sFor (iAny (mVar 4)) (gNm 5) (b__law_right_1 call)))))))

def b__law_right (call : CallF) : SS :=
  (sSeq (sAsg (mCallP 1 (call (Str.ofString "_law_words")) (aCons (mVar 0) aNil)) (gNm 1))
  (sSeq (sFor (iRng1 (aCons (mC (.int 4)) aNil)) (gNm 2) (b__law_right_3 call))
  (sRet (mC (.bl true)))))

def b_law_1 (call : CallF) : SS :=
  (sIf (tNt (mTru (mCallP 1 (call (Str.ofString "_law_right")) (aCons (mCallP 2 (call (Str.ofString "_law_hand")) (aCons (mVar 0) (aCons (mVar 1) aNil))) aNil)))) (sRet (mC (.bl false))) sNx)

def b_law (call : CallF) : SS :=
  (sSeq (sFor (iRng1 (aCons (mCB bMax2 (aCons (mC (.int 1)) (aCons (mCB bMin2 (aCons (mC (.int 3)) (aCons (mCB bLen (aCons (mVar 0) aNil)) aNil))) aNil))) aNil)) (gNm 1) (b_law_1 call))
  (sRet (mC (.bl true))))

def d_line_of : DefE := ⟨(Str.ofString "line_of"), top 1, [(Str.ofString "full")], [(Str.ofString "full")], [(0, [(Str.ofString "full")], [0])], b_line_of⟩

def d_holes_in : DefE := ⟨(Str.ofString "holes_in"), top 2, [(Str.ofString "tree"), (Str.ofString "found"), (Str.ofString "waiting"), (Str.ofString "one")], [(Str.ofString "tree")], [(0, [(Str.ofString "tree")], [0])], b_holes_in⟩

def d_names_in : DefE := ⟨(Str.ofString "names_in"), top 3, [(Str.ofString "tree"), (Str.ofString "found"), (Str.ofString "waiting"), (Str.ofString "one")], [(Str.ofString "tree")], [(0, [(Str.ofString "tree")], [0])], b_names_in⟩

def d__law_hand : DefE := ⟨(Str.ofString "_law_hand"), top 5, [(Str.ofString "script"), (Str.ofString "k"), (Str.ofString "cell"), (Str.ofString "great")], [(Str.ofString "script"), (Str.ofString "k")], [], b__law_hand⟩

def d__law_take : DefE := ⟨(Str.ofString "_law_take"), top 6, [(Str.ofString "hand"), (Str.ofString "many"), (Str.ofString "prime"), (Str.ofString "drawn"), (Str.ofString "digit")], [(Str.ofString "hand"), (Str.ofString "many")], [], b__law_take⟩

def d__law_of : DefE := ⟨(Str.ofString "_law_of"), top 7, [(Str.ofString "hand"), (Str.ofString "some")], [(Str.ofString "hand"), (Str.ofString "some")], [], b__law_of⟩

def d__law_words : DefE := ⟨(Str.ofString "_law_words"), top 8, [(Str.ofString "hand"), (Str.ofString "letters"), (Str.ofString "lines"), (Str.ofString "first"), (Str.ofString "found"), (Str.ofString "k"), (Str.ofString "many"), (Str.ofString "own"), (Str.ofString "turn")], [(Str.ofString "hand")], [], b__law_words⟩

def d__law_tree : DefE := ⟨(Str.ofString "_law_tree"), top 9, [(Str.ofString "hand"), (Str.ofString "names"), (Str.ofString "holes"), (Str.ofString "deep"), (Str.ofString "name"), (Str.ofString "many"), (Str.ofString "one"), (Str.ofString "k")], [(Str.ofString "hand"), (Str.ofString "names"), (Str.ofString "holes"), (Str.ofString "deep")], [], b__law_tree⟩

def d__law_called : DefE := ⟨(Str.ofString "_law_called"), top 10, [(Str.ofString "hand"), (Str.ofString "lots")], [(Str.ofString "hand")], [], b__law_called⟩

def d__law_symbols : DefE := ⟨(Str.ofString "_law_symbols"), top 11, [(Str.ofString "shape"), (Str.ofString "found"), (Str.ofString "limb")], [(Str.ofString "shape")], [], b__law_symbols⟩

def d__law_holes : DefE := ⟨(Str.ofString "_law_holes"), top 12, [(Str.ofString "shape"), (Str.ofString "found"), (Str.ofString "symbol")], [(Str.ofString "shape")], [], b__law_holes⟩

def d__law_right : DefE := ⟨(Str.ofString "_law_right"), top 13, [(Str.ofString "hand"), (Str.ofString "names"), (Str.ofString "turn"), (Str.ofString "shape"), (Str.ofString "fulls"), (Str.ofString "wording"), (Str.ofString "held"), (Str.ofString "symbols"), (Str.ofString "line"), (Str.ofString "symbol")], [(Str.ofString "hand")], [], b__law_right⟩

def d_law : DefE := ⟨(Str.ofString "law"), top 14, [(Str.ofString "script"), (Str.ofString "k")], [(Str.ofString "script")], [], b_law⟩

def T : List DefE := [d_line_of, d_holes_in, d_names_in, d__law_hand, d__law_take, d__law_of, d__law_words, d__law_tree, d__law_called, d__law_symbols, d__law_holes, d__law_right, d_law]

def blt : List Str := [(Str.ofString "tuple"), (Str.ofString "isinstance"), (Str.ofString "str"), (Str.ofString "abs"), (Str.ofString "int"), (Str.ofString "len"), (Str.ofString "enumerate"), (Str.ofString "range"), (Str.ofString "repr"), (Str.ofString "max"), (Str.ofString "min")]

theorem r_line_of : Reads1 (fnsOf T) blt d_line_of := ⟨by kernel_rfl, 60, fun k call => by kernel_rfl⟩

theorem r_holes_in : Reads1 (fnsOf T) blt d_holes_in := ⟨by kernel_rfl, 60, fun k call => by kernel_rfl⟩

theorem r_names_in : Reads1 (fnsOf T) blt d_names_in := ⟨by kernel_rfl, 60, fun k call => by kernel_rfl⟩

theorem r__law_hand : Reads1 (fnsOf T) blt d__law_hand := ⟨by kernel_rfl, 60, fun k call => by kernel_rfl⟩

theorem r__law_take : Reads1 (fnsOf T) blt d__law_take := ⟨by kernel_rfl, 60, fun k call => by kernel_rfl⟩

theorem r__law_of : Reads1 (fnsOf T) blt d__law_of := ⟨by kernel_rfl, 60, fun k call => by kernel_rfl⟩

theorem r__law_words : Reads1 (fnsOf T) blt d__law_words := ⟨by kernel_rfl, 60, fun k call => by kernel_rfl⟩

theorem r__law_tree : Reads1 (fnsOf T) blt d__law_tree := ⟨by kernel_rfl, 60, fun k call => by kernel_rfl⟩

theorem r__law_called : Reads1 (fnsOf T) blt d__law_called := ⟨by kernel_rfl, 60, fun k call => by kernel_rfl⟩

theorem r__law_symbols : Reads1 (fnsOf T) blt d__law_symbols := ⟨by kernel_rfl, 60, fun k call => by kernel_rfl⟩

theorem r__law_holes : Reads1 (fnsOf T) blt d__law_holes := ⟨by kernel_rfl, 60, fun k call => by kernel_rfl⟩

theorem r__law_right : Reads1 (fnsOf T) blt d__law_right := ⟨by kernel_rfl, 60, fun k call => by kernel_rfl⟩

theorem r_law : Reads1 (fnsOf T) blt d_law := ⟨by kernel_rfl, 60, fun k call => by kernel_rfl⟩

/-! ### the levels -/
theorem R_take (n : Nat) : runT T (n + 1) (Str.ofString "_law_take") = runF 5 sh_take := by kernel_rfl
theorem R_of (n : Nat) : runT T (n + 1) (Str.ofString "_law_of") = runF 2 (sh_of (runT T n)) := by kernel_rfl
theorem R_hand (n : Nat) : runT T (n + 1) (Str.ofString "_law_hand") = runF 4 sh_hand := by kernel_rfl
theorem R_words (n : Nat) : runT T (n + 1) (Str.ofString "_law_words") = runF 9 (sh_words (runT T n)) := by kernel_rfl
theorem R_tree (n : Nat) : runT T (n + 1) (Str.ofString "_law_tree") = runF 8 (sh_tree (runT T n)) := by kernel_rfl
theorem R_called (n : Nat) : runT T (n + 1) (Str.ofString "_law_called") = runF 2 (sh_called (runT T n)) := by kernel_rfl
theorem R_symbols (n : Nat) : runT T (n + 1) (Str.ofString "_law_symbols") = runF 3 (sh_symbols (runT T n)) := by kernel_rfl
theorem R_lholes (n : Nat) : runT T (n + 1) (Str.ofString "_law_holes") = runF 3 (sh_holes (runT T n)) := by kernel_rfl
theorem R_holes_in (n : Nat) : runT T (n + 1) (Str.ofString "holes_in") = runF 4 sh_holes_in := by kernel_rfl
theorem R_names_in (n : Nat) : runT T (n + 1) (Str.ofString "names_in") = runF 4 sh_names_in := by kernel_rfl
theorem R_line_of (n : Nat) : runT T (n + 1) (Str.ofString "line_of") = runF 1 sh_line_of := by kernel_rfl
theorem R_right (n : Nat) : runT T (n + 1) (Str.ofString "_law_right") = runF 10 (b__law_right (runT T n)) := by kernel_rfl
theorem R_law (n : Nat) : runT T (n + 1) (Str.ofString "law") = runF 2 (b_law (runT T n)) := by kernel_rfl
theorem S_take (n : Nat) : TakeSpec (runT T (n + 1) (Str.ofString "_law_take")) := by rw [R_take]; exact take_ok
theorem S_of (n : Nat) : OfSpec (runT T (n + 2) (Str.ofString "_law_of")) := by rw [R_of]; exact of_ok (S_take n)
theorem S_hand (n : Nat) : HandSpec (runT T (n + 1) (Str.ofString "_law_hand")) := by rw [R_hand]; exact hand_ok
theorem S_words (n : Nat) : WordsSpec (runT T (n + 3) (Str.ofString "_law_words")) := by rw [R_words]; exact words_ok (S_take _) (S_of n)
theorem S_called (n : Nat) : CalledSpec (runT T (n + 3) (Str.ofString "_law_called")) := by rw [R_called]; exact called_ok (S_of n)
theorem S_tree : ∀ (deep n : Nat), TreeSpec (runT T (n + deep + 3) (Str.ofString "_law_tree")) deep
  | 0, n => by rw [R_tree]; exact tree_ok (S_take _) (S_of n) fun d z => by omega
  | deep + 1, n => by
    have e : n + (deep + 1) + 3 = (n + deep + 3) + 1 := by omega
    rw [e, R_tree]
    refine tree_ok (S_take _) (S_of (n + deep + 1)) fun d z => ?_
    have e2 : d = deep := by omega
    subst e2
    exact S_tree d n
theorem S_tree' {deep m : Nat} (h : deep + 3 ≤ m) : TreeSpec (runT T m (Str.ofString "_law_tree")) deep := by
  obtain ⟨n, rfl⟩ : ∃ n, m = n + deep + 3 := ⟨m - deep - 3, by omega⟩
  exact S_tree deep n
theorem dep_mem : ∀ {cs : List G.Tree} {c : G.Tree}, c ∈ cs → c.dep ≤ depL cs
  | t :: ts, c, h => by
    unfold depL
    rcases List.mem_cons.mp h with rfl | h
    · exact Nat.le_max_left _ _
    · exact Nat.le_trans (dep_mem h) (Nat.le_max_right _ _)
theorem S_symbols : ∀ (m : Nat) (t : G.Tree), t.dep + 1 ≤ m → SymSpec (runT T m (Str.ofString "_law_symbols")) t
  | 0, t, h => by omega
  | m + 1, t, h => by
    rw [R_symbols]
    refine symbols_ok fun f cs e c hc => S_symbols m c ?_
    subst e
    unfold G.Tree.dep at h
    have := dep_mem hc
    omega
theorem S_lholes {m : Nat} {t : G.Tree} (h : t.dep + 2 ≤ m) : HolesSpec (runT T m (Str.ofString "_law_holes")) t := by
  obtain ⟨n, rfl⟩ : ∃ n, m = n + 1 := ⟨m - 1, by omega⟩
  rw [R_lholes]
  exact lholes_ok (S_symbols n t (by omega))
theorem S_holes_in (n : Nat) (t : G.Tree) : TreeHolesSpec (runT T (n + 1) (Str.ofString "holes_in")) t := by rw [R_holes_in]; exact holes_in_ok
theorem S_names_in (n : Nat) (t : G.Tree) : TreeNamesSpec (runT T (n + 1) (Str.ofString "names_in")) t := by rw [R_names_in]; exact names_in_ok
theorem S_line_of (n : Nat) : LineSpec (runT T (n + 1) (Str.ofString "line_of")) := by rw [R_line_of]; exact line_of_ok

/-! ### _law_right -/
theorem pick_one {d : D} : pick [0] [d] = [d] := rfl
/-- the law's own lines, one name after another -/
theorem lines_ok {n nl l : Nat} {fs : List Str} {σ : Sig} {st : Store} {t : G.Tree} {h : Nat} {x2 x5 x6 x7 x8 x9 : Option D} (hl : fs.length ≤ 1000) (hf : ∀ f ∈ fs, FullOk f) (ef : lstAt st l = some (fs.map D.str))
    (hσ : σ = [some (.loc h), some (.loc nl), x2, some t.toD, some (.loc l), x5, x6, x7, x8, x9]) {Q : FL → Store → Prop}
    (q : ∀ st' x5 x8, Fr (fun _ => False) st st' → Q (.nx [some (.loc h), some (.loc nl), x2, some t.toD, some (.loc l), x5, x6, x7, x8, x9]) st') :
    GoS (forM (.lst l) (gNm 5) (b__law_right_1 (runT T (n + 1))) LF 0 σ st) Q := by
  subst hσ
  refine forM_go (fun i σ st3 => i ≤ fs.length ∧ (∃ x5 x8, σ = [some (.loc h), some (.loc nl), x2, some t.toD, some (.loc l), x5, x6, x7, x8, x9]) ∧ Fr (fun _ => False) st st3) fs.length (fun i σ st h => h.1)
    (fun i σ st3 ⟨hi, ⟨x5, x8, hσ⟩, ff⟩ => ?_) LF 0 _ st ⟨Nat.zero_le _, ⟨_, _, rfl⟩, Fr.refl⟩ (by unfold LF; omega)
  subst hσ
  rw [itGet_lst (ff.lst (by simp) ef), List.getElem?_map]
  cases eg : fs[i]? with
  | none =>
    simp only [go_runF, go_ok, go_c, go_var, go_bin, go_un, go_bl, go_tru, go_nt, go_an, go_oo, go_mAn, go_mOo, go_mNt, go_if, go_chain, go_aNil, go_aCons, go_tup, go_lst, go_dict0, go_cb, go_bm, go_sl, go_sl3, go_oNone, go_oSome, go_callP, go_call, go_lc, go_tTrue, go_iAny, go_iRng1, go_iRng2, go_iEnm, go_iZip, go_gNm, go_gTp, go_gNl, go_gSb, gCn_eq, gNm_eq, gNl_nil, gTp_tup, R.bind_ok, if_true, gs_nx, gs_bk, gs_ct, gs_seq, thenQ_nx, thenQ_rt, thenQ_bk, thenQ_ct, thenQ_xc, gs_ret, gs_expr, gs_if, gs_asg, gs_par2, gs_par3, gs_aug, retQ_rt, retQ_nx, retQ_xc, gs_for, gs_while, turnQ_nx, turnQ_ct, turnQ_bk, turnQ_rt, turnQ_xc, goO_some, goV_some, goO_none, goV_none, goO_ite, goV_ite, goO_map, goV_map, goV_bind, Bool.cond_decide, cond_true, cond_false, Bool.cond_not, startD, List.map_cons, List.map_nil, List.length_cons, List.length_nil, List.replicate_succ, List.replicate_zero, List.cons_append, List.nil_append, List.append_nil, Nat.reduceSub, Nat.reduceAdd, List.getElem?_cons_zero, List.getElem?_cons_succ, List.set_cons_zero, List.set_cons_succ, Nat.zero_add, true_and, and_true, true_or, or_true, Option.map_none]
    exact q _ _ _ ff
  | some f =>
    have hi2 : i < fs.length := (List.getElem?_eq_some_iff.mp eg).1
    have hfm : f ∈ fs := List.mem_of_getElem? eg
    have hfo := hf f hfm
    obtain ⟨a, b, e, ha, hb⟩ := id hfo
    have hlen := hfo.len
    have two : 2 ≤ sizeLine := by decide
    have e3 : sizeLine = 16777216 := rfl
    have hz : f.length ≤ sizeLine := by omega
    have fd : mFind (.str f) [.str (Str.ofString ".")] = fun st => some (.int a.length, st) := by
      funext st
      simp only [mFind, mStrI, find_dot e ha.nodot]
    have sl : ∀ st : Store, slD (.str f) none (some (a.length : Int)) st = some (.str ⟨a.toArray⟩, st) := fun st => by
      simp only [slD, if_pos hz, cut_dot e]
    have ca : Chars ⟨a.toArray⟩ := fun c hc => ha.low (by simpa using hc)
    have la : Str.length ⟨a.toArray⟩ ≤ 1000 := by
      have := ha.2.1
      simp [Str.length]
      omega
    unfold b__law_right_1
    simp only [go_runF, go_ok, go_c, go_var, go_bin, go_un, go_bl, go_tru, go_nt, go_an, go_oo, go_mAn, go_mOo, go_mNt, go_if, go_chain, go_aNil, go_aCons, go_tup, go_lst, go_dict0, go_cb, go_bm, go_sl, go_sl3, go_oNone, go_oSome, go_callP, go_call, go_lc, go_tTrue, go_iAny, go_iRng1, go_iRng2, go_iEnm, go_iZip, go_gNm, go_gTp, go_gNl, go_gSb, gCn_eq, gNm_eq, gNl_nil, gTp_tup, R.bind_ok, if_true, gs_nx, gs_bk, gs_ct, gs_seq, thenQ_nx, thenQ_rt, thenQ_bk, thenQ_ct, thenQ_xc, gs_ret, gs_expr, gs_if, gs_asg, gs_par2, gs_par3, gs_aug, retQ_rt, retQ_nx, retQ_xc, gs_for, gs_while, turnQ_nx, turnQ_ct, turnQ_bk, turnQ_rt, turnQ_xc, goO_some, goV_some, goO_none, goV_none, goO_ite, goV_ite, goO_map, goV_map, goV_bind, Bool.cond_decide, cond_true, cond_false, Bool.cond_not, startD, List.map_cons, List.map_nil, List.length_cons, List.length_nil, List.replicate_succ, List.replicate_zero, List.cons_append, List.nil_append, List.append_nil, Nat.reduceSub, Nat.reduceAdd, List.getElem?_cons_zero, List.getElem?_cons_succ, List.set_cons_zero, List.set_cons_succ, Nat.zero_add, true_and, and_true, true_or, or_true, Option.map_some, tyD, fd, sl]
    refine (S_line_of n f a b st3 e ha.nodot hfo.chars (by omega)).to fun d st4 ⟨hd, f4⟩ => ?_
    subst hd
    simp only [go_runF, go_ok, go_c, go_var, go_bin, go_un, go_bl, go_tru, go_nt, go_an, go_oo, go_mAn, go_mOo, go_mNt, go_if, go_chain, go_aNil, go_aCons, go_tup, go_lst, go_dict0, go_cb, go_bm, go_sl, go_sl3, go_oNone, go_oSome, go_callP, go_call, go_lc, go_tTrue, go_iAny, go_iRng1, go_iRng2, go_iEnm, go_iZip, go_gNm, go_gTp, go_gNl, go_gSb, gCn_eq, gNm_eq, gNl_nil, gTp_tup, R.bind_ok, if_true, gs_nx, gs_bk, gs_ct, gs_seq, thenQ_nx, thenQ_rt, thenQ_bk, thenQ_ct, thenQ_xc, gs_ret, gs_expr, gs_if, gs_asg, gs_par2, gs_par3, gs_aug, retQ_rt, retQ_nx, retQ_xc, gs_for, gs_while, turnQ_nx, turnQ_ct, turnQ_bk, turnQ_rt, turnQ_xc, goO_some, goV_some, goO_none, goV_none, goO_ite, goV_ite, goO_map, goV_map, goV_bind, Bool.cond_decide, cond_true, cond_false, Bool.cond_not, startD, List.map_cons, List.map_nil, List.length_cons, List.length_nil, List.replicate_succ, List.replicate_zero, List.cons_append, List.nil_append, List.append_nil, Nat.reduceSub, Nat.reduceAdd, List.getElem?_cons_zero, List.getElem?_cons_succ, List.set_cons_zero, List.set_cons_succ, Nat.zero_add, true_and, and_true, true_or, or_true, pick_one]
    refine (S_line_of n f a b st4 e ha.nodot hfo.chars (by omega)).to fun d st5 ⟨hd, f5⟩ => ?_
    subst hd
    have r1 : lstAt (st5 ++ [Cell.lst [.str ⟨a.toArray⟩, .str ⟨a.toArray⟩]]) st5.length = some [D.str ⟨a.toArray⟩, .str ⟨a.toArray⟩] := lstAt_new
    simp only [go_runF, go_ok, go_c, go_var, go_bin, go_un, go_bl, go_tru, go_nt, go_an, go_oo, go_mAn, go_mOo, go_mNt, go_if, go_chain, go_aNil, go_aCons, go_tup, go_lst, go_dict0, go_cb, go_bm, go_sl, go_sl3, go_oNone, go_oSome, go_callP, go_call, go_lc, go_tTrue, go_iAny, go_iRng1, go_iRng2, go_iEnm, go_iZip, go_gNm, go_gTp, go_gNl, go_gSb, gCn_eq, gNm_eq, gNl_nil, gTp_tup, R.bind_ok, if_true, gs_nx, gs_bk, gs_ct, gs_seq, thenQ_nx, thenQ_rt, thenQ_bk, thenQ_ct, thenQ_xc, gs_ret, gs_expr, gs_if, gs_asg, gs_par2, gs_par3, gs_aug, retQ_rt, retQ_nx, retQ_xc, gs_for, gs_while, turnQ_nx, turnQ_ct, turnQ_bk, turnQ_rt, turnQ_xc, goO_some, goV_some, goO_none, goV_none, goO_ite, goV_ite, goO_map, goV_map, goV_bind, Bool.cond_decide, cond_true, cond_false, Bool.cond_not, startD, List.map_cons, List.map_nil, List.length_cons, List.length_nil, List.replicate_succ, List.replicate_zero, List.cons_append, List.nil_append, List.append_nil, Nat.reduceSub, Nat.reduceAdd, List.getElem?_cons_zero, List.getElem?_cons_succ, List.set_cons_zero, List.set_cons_succ, Nat.zero_add, true_and, and_true, true_or, or_true, repr_twoS r1 ca la]
    have r2 : lstAt ((st5 ++ [Cell.lst [.str ⟨a.toArray⟩, .str ⟨a.toArray⟩]]) ++ [Cell.lst [D.str ⟨a.toArray⟩, .str ⟨a.toArray⟩]]) (st5 ++ [Cell.lst [.str ⟨a.toArray⟩, .str ⟨a.toArray⟩]]).length = some [D.str ⟨a.toArray⟩, .str ⟨a.toArray⟩] := lstAt_new
    refine ⟨two, two, ?_⟩
    simp only [go_runF, go_ok, go_c, go_var, go_bin, go_un, go_bl, go_tru, go_nt, go_an, go_oo, go_mAn, go_mOo, go_mNt, go_if, go_chain, go_aNil, go_aCons, go_tup, go_lst, go_dict0, go_cb, go_bm, go_sl, go_sl3, go_oNone, go_oSome, go_callP, go_call, go_lc, go_tTrue, go_iAny, go_iRng1, go_iRng2, go_iEnm, go_iZip, go_gNm, go_gTp, go_gNl, go_gSb, gCn_eq, gNm_eq, gNl_nil, gTp_tup, R.bind_ok, if_true, gs_nx, gs_bk, gs_ct, gs_seq, thenQ_nx, thenQ_rt, thenQ_bk, thenQ_ct, thenQ_xc, gs_ret, gs_expr, gs_if, gs_asg, gs_par2, gs_par3, gs_aug, retQ_rt, retQ_nx, retQ_xc, gs_for, gs_while, turnQ_nx, turnQ_ct, turnQ_bk, turnQ_rt, turnQ_xc, goO_some, goV_some, goO_none, goV_none, goO_ite, goV_ite, goO_map, goV_map, goV_bind, Bool.cond_decide, cond_true, cond_false, Bool.cond_not, startD, List.map_cons, List.map_nil, List.length_cons, List.length_nil, List.replicate_succ, List.replicate_zero, List.cons_append, List.nil_append, List.append_nil, Nat.reduceSub, Nat.reduceAdd, List.getElem?_cons_zero, List.getElem?_cons_succ, List.set_cons_zero, List.set_cons_succ, Nat.zero_add, true_and, and_true, true_or, or_true, repr_twoS r2 ca la, opEq_str, beq_self_eq_true, bne_self_eq_false]
    exact ⟨hi2, ⟨_, _, rfl⟩, (((ff.trans f4).trans f5).trans Fr.push).trans Fr.push⟩

/-- one turn: a tree, its holes, its names, its lines -/
theorem turn_ok {n i h nl : Nat} {ws : List (Str × Nat)} {st : Store} {x2 x3 x4 x5 x6 x7 x8 x9 : Option D} {Q : FL → Store → Prop} (hi : i < 4) (H : HandAt st h (15 + 300 * i)) (en : lstAt st nl = some (ws.map wordD)) (hw : WordsOk ws) (n1 : nl ≠ h)
    (q : ∀ st' x3 x4 x5 x6 x7 x8 x9, HandAt st' h (15 + 300 * (i + 1)) → Fr (· = h) st st' → Q (.nx [some (.loc h), some (.loc nl), x2, x3, x4, x5, x6, x7, x8, x9]) st') :
    GoS (b__law_right_3 (runT T (n + 20)) [some (.loc h), some (.loc nl), x2, x3, x4, x5, x6, x7, x8, x9] st) Q := by
  have hlt := H.lt
  have zero : 0 ≤ sizeLine := by decide
  have two : 2 ≤ sizeLine := by decide
  have one : 1 ≤ sizeLine := by decide
  have e3 : sizeLine = 16777216 := rfl
  unfold b__law_right_3
  simp only [go_runF, go_ok, go_c, go_var, go_bin, go_un, go_bl, go_tru, go_nt, go_an, go_oo, go_mAn, go_mOo, go_mNt, go_if, go_chain, go_aNil, go_aCons, go_tup, go_lst, go_dict0, go_cb, go_bm, go_sl, go_sl3, go_oNone, go_oSome, go_callP, go_call, go_lc, go_tTrue, go_iAny, go_iRng1, go_iRng2, go_iEnm, go_iZip, go_gNm, go_gTp, go_gNl, go_gSb, gCn_eq, gNm_eq, gNl_nil, gTp_tup, R.bind_ok, if_true, gs_nx, gs_bk, gs_ct, gs_seq, thenQ_nx, thenQ_rt, thenQ_bk, thenQ_ct, thenQ_xc, gs_ret, gs_expr, gs_if, gs_asg, gs_par2, gs_par3, gs_aug, retQ_rt, retQ_nx, retQ_xc, gs_for, gs_while, turnQ_nx, turnQ_ct, turnQ_bk, turnQ_rt, turnQ_xc, goO_some, goV_some, goO_none, goV_none, goO_ite, goV_ite, goO_map, goV_map, goV_bind, Bool.cond_decide, cond_true, cond_false, Bool.cond_not, startD, List.map_cons, List.map_nil, List.length_cons, List.length_nil, List.replicate_succ, List.replicate_zero, List.cons_append, List.nil_append, List.append_nil, Nat.reduceSub, Nat.reduceAdd, List.getElem?_cons_zero, List.getElem?_cons_succ, List.set_cons_zero, List.set_cons_succ, Nat.zero_add, true_and, and_true, true_or, or_true]
  refine (S_called (n + 17) h st _ H (by omega)).to fun d st1 ⟨⟨l1, hs, hd, hge1, el1, hhs, hne, hhl⟩, H1, f1⟩ => ?_
  subst hd
  simp only [go_runF, go_ok, go_c, go_var, go_bin, go_un, go_bl, go_tru, go_nt, go_an, go_oo, go_mAn, go_mOo, go_mNt, go_if, go_chain, go_aNil, go_aCons, go_tup, go_lst, go_dict0, go_cb, go_bm, go_sl, go_sl3, go_oNone, go_oSome, go_callP, go_call, go_lc, go_tTrue, go_iAny, go_iRng1, go_iRng2, go_iEnm, go_iZip, go_gNm, go_gTp, go_gNl, go_gSb, gCn_eq, gNm_eq, gNl_nil, gTp_tup, R.bind_ok, if_true, gs_nx, gs_bk, gs_ct, gs_seq, thenQ_nx, thenQ_rt, thenQ_bk, thenQ_ct, thenQ_xc, gs_ret, gs_expr, gs_if, gs_asg, gs_par2, gs_par3, gs_aug, retQ_rt, retQ_nx, retQ_xc, gs_for, gs_while, turnQ_nx, turnQ_ct, turnQ_bk, turnQ_rt, turnQ_xc, goO_some, goV_some, goO_none, goV_none, goO_ite, goV_ite, goO_map, goV_map, goV_bind, Bool.cond_decide, cond_true, cond_false, Bool.cond_not, startD, List.map_cons, List.map_nil, List.length_cons, List.length_nil, List.replicate_succ, List.replicate_zero, List.cons_append, List.nil_append, List.append_nil, Nat.reduceSub, Nat.reduceAdd, List.getElem?_cons_zero, List.getElem?_cons_succ, List.set_cons_zero, List.set_cons_succ, Nat.zero_add, true_and, and_true, true_or, or_true, zero, two]
  generalize e2 : st1 ++ [Cell.lst []] = st2
  have g2 : Fr (fun _ => False) st1 st2 := by rw [← e2]; exact Fr.push
  have a2 : lstAt st2 st1.length = some (([] : List Str).map D.str) := by rw [← e2]; exact lstAt_new
  have m2 : st2.length = st1.length + 1 := by rw [← e2]; simp
  generalize e4 : st2 ++ [Cell.lst [.loc l1, .loc st1.length]] = st4
  have g4 : Fr (fun _ => False) st2 st4 := by rw [← e4]; exact Fr.push
  have a4 : lstAt st4 st2.length = some [.loc l1, .loc st1.length] := by rw [← e4]; exact lstAt_new
  have g24 := g2.trans g4
  have le1 := f1.le
  refine (S_take (n + 19) h 5 st4 _ (H1.fr g24 (by simp)) (by omega) (by decide) (by decide)).to fun d st5 ⟨⟨k, hd, k0, k1⟩, H5, f5⟩ => ?_
  subst hd
  have a5 := f5.lst (show st2.length ≠ h by omega) a4
  have f15 : Fr (· = h) st st5 := (f1.trans (g24.imp fun _ _ z => z.elim)).trans f5
  have el5 := f5.lst (show l1 ≠ h by omega) (g24.lst (by simp) el1)
  have em5 := f5.lst (show st1.length ≠ h by omega) (g4.lst (by simp) a2)
  -- the holes' names: some, or none
  have hol : ∃ (l : Nat) (gs : List Str), atI [D.loc l1, .loc st1.length] (k / 4) = some (.loc l) ∧ lstAt st5 l = some (gs.map D.str) ∧ (∀ s ∈ gs, NameOk s) ∧ gs.length ≤ 1000 ∧ st.length ≤ l := by
    rcases (by omega : k / 4 = 0 ∨ k / 4 = 1) with z | z <;> rw [z]
    · exact ⟨l1, hs, rfl, el5, hhs, by omega, hge1⟩
    · exact ⟨st1.length, [], rfl, em5, by simp, by simp, by omega⟩
  obtain ⟨l, gs, hat, el, hgs, hgl, hge⟩ := hol
  simp only [go_runF, go_ok, go_c, go_var, go_bin, go_un, go_bl, go_tru, go_nt, go_an, go_oo, go_mAn, go_mOo, go_mNt, go_if, go_chain, go_aNil, go_aCons, go_tup, go_lst, go_dict0, go_cb, go_bm, go_sl, go_sl3, go_oNone, go_oSome, go_callP, go_call, go_lc, go_tTrue, go_iAny, go_iRng1, go_iRng2, go_iEnm, go_iZip, go_gNm, go_gTp, go_gNl, go_gSb, gCn_eq, gNm_eq, gNl_nil, gTp_tup, R.bind_ok, if_true, gs_nx, gs_bk, gs_ct, gs_seq, thenQ_nx, thenQ_rt, thenQ_bk, thenQ_ct, thenQ_xc, gs_ret, gs_expr, gs_if, gs_asg, gs_par2, gs_par3, gs_aug, retQ_rt, retQ_nx, retQ_xc, gs_for, gs_while, turnQ_nx, turnQ_ct, turnQ_bk, turnQ_rt, turnQ_xc, goO_some, goV_some, goO_none, goV_none, goO_ite, goV_ite, goO_map, goV_map, goV_bind, Bool.cond_decide, cond_true, cond_false, Bool.cond_not, startD, List.map_cons, List.map_nil, List.length_cons, List.length_nil, List.replicate_succ, List.replicate_zero, List.cons_append, List.nil_append, List.append_nil, Nat.reduceSub, Nat.reduceAdd, List.getElem?_cons_zero, List.getElem?_cons_succ, List.set_cons_zero, List.set_cons_succ, Nat.zero_add, true_and, and_true, true_or, or_true, opDiv_int, opIx_lst a5, hat]
  refine ⟨by decide, ?_⟩
  refine (S_take (n + 19) h 4 st5 _ H5 (by omega) (by decide) (by decide)).to fun d st6 ⟨⟨deep, hd, d0, d1⟩, H6, f6⟩ => ?_
  subst hd
  obtain ⟨dp, rfl⟩ : ∃ dp : Nat, deep = dp := ⟨deep.toNat, by omega⟩
  have f16 := f15.trans f6
  have p4 : (4 : Int) ^ (dp + 1) ≤ 256 := by
    rcases (by omega : dp = 0 ∨ dp = 1 ∨ dp = 2 ∨ dp = 3) with z | z | z | z <;> subst z <;> decide
  refine (S_tree' (deep := dp) (m := n + 20) (by omega) h nl l ws gs st6 _ H6 (by omega) (f16.lst n1 en) hw (f6.lst (show l ≠ h by omega) el) hgs hgl n1 (by omega)).to fun d st7 ⟨⟨t, hd, ht1, ht2⟩, H7, f7⟩ => ?_
  subst hd
  obtain ⟨tch, tdots, tlen, tname, tfull⟩ := Tree.good hw hgs t ht1
  have tl : t.syms.length ≤ 256 := by
    refine Nat.le_trans tlen (Nat.le_trans (Nat.pow_le_pow_right (by decide) (show t.dep ≤ 4 by omega)) (by decide))
  have rt : ∀ st : Store, bRepr [t.toD] st = some (.str t.P.shown, st) := fun st => repr_tree tch (by omega) (by omega)
  have f17 := f16.trans f7
  simp only [go_runF, go_ok, go_c, go_var, go_bin, go_un, go_bl, go_tru, go_nt, go_an, go_oo, go_mAn, go_mOo, go_mNt, go_if, go_chain, go_aNil, go_aCons, go_tup, go_lst, go_dict0, go_cb, go_bm, go_sl, go_sl3, go_oNone, go_oSome, go_callP, go_call, go_lc, go_tTrue, go_iAny, go_iRng1, go_iRng2, go_iEnm, go_iZip, go_gNm, go_gTp, go_gNl, go_gSb, gCn_eq, gNm_eq, gNl_nil, gTp_tup, R.bind_ok, if_true, gs_nx, gs_bk, gs_ct, gs_seq, thenQ_nx, thenQ_rt, thenQ_bk, thenQ_ct, thenQ_xc, gs_ret, gs_expr, gs_if, gs_asg, gs_par2, gs_par3, gs_aug, retQ_rt, retQ_nx, retQ_xc, gs_for, gs_while, turnQ_nx, turnQ_ct, turnQ_bk, turnQ_rt, turnQ_xc, goO_some, goV_some, goO_none, goV_none, goO_ite, goV_ite, goO_map, goV_map, goV_bind, Bool.cond_decide, cond_true, cond_false, Bool.cond_not, startD, List.map_cons, List.map_nil, List.length_cons, List.length_nil, List.replicate_succ, List.replicate_zero, List.cons_append, List.nil_append, List.append_nil, Nat.reduceSub, Nat.reduceAdd, List.getElem?_cons_zero, List.getElem?_cons_succ, List.set_cons_zero, List.set_cons_succ, Nat.zero_add, true_and, and_true, true_or, or_true, rt]
  refine (S_symbols (n + 20) t (by omega) st7 (by omega)).to fun d st8 ⟨ly, hd, hy, ey, f8⟩ => ?_
  subst hd
  simp only [go_runF, go_ok, go_c, go_var, go_bin, go_un, go_bl, go_tru, go_nt, go_an, go_oo, go_mAn, go_mOo, go_mNt, go_if, go_chain, go_aNil, go_aCons, go_tup, go_lst, go_dict0, go_cb, go_bm, go_sl, go_sl3, go_oNone, go_oSome, go_callP, go_call, go_lc, go_tTrue, go_iAny, go_iRng1, go_iRng2, go_iEnm, go_iZip, go_gNm, go_gTp, go_gNl, go_gSb, gCn_eq, gNm_eq, gNl_nil, gTp_tup, R.bind_ok, if_true, gs_nx, gs_bk, gs_ct, gs_seq, thenQ_nx, thenQ_rt, thenQ_bk, thenQ_ct, thenQ_xc, gs_ret, gs_expr, gs_if, gs_asg, gs_par2, gs_par3, gs_aug, retQ_rt, retQ_nx, retQ_xc, gs_for, gs_while, turnQ_nx, turnQ_ct, turnQ_bk, turnQ_rt, turnQ_xc, goO_some, goV_some, goO_none, goV_none, goO_ite, goV_ite, goO_map, goV_map, goV_bind, Bool.cond_decide, cond_true, cond_false, Bool.cond_not, startD, List.map_cons, List.map_nil, List.length_cons, List.length_nil, List.replicate_succ, List.replicate_zero, List.cons_append, List.nil_append, List.append_nil, Nat.reduceSub, Nat.reduceAdd, List.getElem?_cons_zero, List.getElem?_cons_succ, List.set_cons_zero, List.set_cons_succ, Nat.zero_add, true_and, and_true, true_or, or_true, iterD_lst ey]
  -- the names among the symbols
  have fulls : GoV (lcM (.lst ly) (.nm 9) (b__law_right_2 (runT T (n + 20))) (mVar 9) st8.length (wipeD [some (.loc h), some (.loc nl), x2, some t.toD, x4, x5, some (.str t.P.shown), some (.loc ly), x8, x9] [9]) LF 0 (st8 ++ [.lst []]))
      fun st9 => lstAt st9 st8.length = some ((namesOf t.syms).map D.str) ∧ Fr (fun _ => False) st8 st9 := by
    refine lcM_go (fun i acc st9 => i ≤ t.syms.length ∧ acc = (namesOf (t.syms.take i)).map D.str ∧ lstAt st9 st8.length = some acc ∧ Fr (fun _ => False) st8 st9) t.syms.length
      (fun i acc st2 h => ⟨h.1, h.2.2.1⟩) (fun i acc st9 ⟨hi, ha, hl2, f⟩ => ?_) LF 0 [] (st8 ++ [.lst []]) ⟨Nat.zero_le _, by simp [namesOf], lstAt_new, Fr.push⟩ (by unfold LF; omega)
    rw [itGet_lst (f.lst (by simp) ey), List.getElem?_map]
    cases eg : t.syms[i]? with
    | none =>
      have hl3 : t.syms.length ≤ i := List.getElem?_eq_none_iff.mp eg
      simp only [go_runF, go_ok, go_c, go_var, go_bin, go_un, go_bl, go_tru, go_nt, go_an, go_oo, go_mAn, go_mOo, go_mNt, go_if, go_chain, go_aNil, go_aCons, go_tup, go_lst, go_dict0, go_cb, go_bm, go_sl, go_sl3, go_oNone, go_oSome, go_callP, go_call, go_lc, go_tTrue, go_iAny, go_iRng1, go_iRng2, go_iEnm, go_iZip, go_gNm, go_gTp, go_gNl, go_gSb, gCn_eq, gNm_eq, gNl_nil, gTp_tup, R.bind_ok, if_true, gs_nx, gs_bk, gs_ct, gs_seq, thenQ_nx, thenQ_rt, thenQ_bk, thenQ_ct, thenQ_xc, gs_ret, gs_expr, gs_if, gs_asg, gs_par2, gs_par3, gs_aug, retQ_rt, retQ_nx, retQ_xc, gs_for, gs_while, turnQ_nx, turnQ_ct, turnQ_bk, turnQ_rt, turnQ_xc, goO_some, goV_some, goO_none, goV_none, goO_ite, goV_ite, goO_map, goV_map, goV_bind, Bool.cond_decide, cond_true, cond_false, Bool.cond_not, startD, List.map_cons, List.map_nil, List.length_cons, List.length_nil, List.replicate_succ, List.replicate_zero, List.cons_append, List.nil_append, List.append_nil, Nat.reduceSub, Nat.reduceAdd, List.getElem?_cons_zero, List.getElem?_cons_succ, List.set_cons_zero, List.set_cons_succ, Nat.zero_add, true_and, and_true, true_or, or_true, Option.map_none]
      exact ⟨by rw [hl2, ha, List.take_of_length_le hl3], f⟩
    | some s =>
      have hi2 : i < t.syms.length := (List.getElem?_eq_some_iff.mp eg).1
      have tk : t.syms.take (i + 1) = t.syms.take i ++ [s] := by rw [List.take_add_one, eg]; rfl
      have hlen : acc.length < sizeLine := by
        rw [ha, List.length_map]
        have := List.length_filter_le (fun s => !noDot s) (t.syms.take i)
        have h2 : (t.syms.take i).length ≤ t.syms.length := by rw [List.length_take]; omega
        unfold namesOf
        omega
      unfold b__law_right_2
      simp only [go_runF, go_ok, go_c, go_var, go_bin, go_un, go_bl, go_tru, go_nt, go_an, go_oo, go_mAn, go_mOo, go_mNt, go_if, go_chain, go_aNil, go_aCons, go_tup, go_lst, go_dict0, go_cb, go_bm, go_sl, go_sl3, go_oNone, go_oSome, go_callP, go_call, go_lc, go_tTrue, go_iAny, go_iRng1, go_iRng2, go_iEnm, go_iZip, go_gNm, go_gTp, go_gNl, go_gSb, gCn_eq, gNm_eq, gNl_nil, gTp_tup, R.bind_ok, if_true, gs_nx, gs_bk, gs_ct, gs_seq, thenQ_nx, thenQ_rt, thenQ_bk, thenQ_ct, thenQ_xc, gs_ret, gs_expr, gs_if, gs_asg, gs_par2, gs_par3, gs_aug, retQ_rt, retQ_nx, retQ_xc, gs_for, gs_while, turnQ_nx, turnQ_ct, turnQ_bk, turnQ_rt, turnQ_xc, goO_some, goV_some, goO_none, goV_none, goO_ite, goV_ite, goO_map, goV_map, goV_bind, Bool.cond_decide, cond_true, cond_false, Bool.cond_not, startD, List.map_cons, List.map_nil, List.length_cons, List.length_nil, List.replicate_succ, List.replicate_zero, List.cons_append, List.nil_append, List.append_nil, Nat.reduceSub, Nat.reduceAdd, List.getElem?_cons_zero, List.getElem?_cons_succ, List.set_cons_zero, List.set_cons_succ, Nat.zero_add, true_and, and_true, true_or, or_true, Option.map_some, bindT, wipeD, opIn_str, inStr_dot]
      by_cases hd : noDot s = true
      · simp only [hd, Bool.not_true, bne_self_eq_false, cond_false]
        exact ⟨hi2, by rw [tk, namesOf_snoc, if_pos hd, List.append_nil]; exact ha, hl2, f⟩
      · have hd' : noDot s = false := by simpa using hd
        simp only [hd', Bool.not_false, Bool.true_bne, cond_true]
        exact ⟨hl2, hlen, hi2, by rw [tk, namesOf_snoc, if_neg hd, List.map_append, ← ha]; rfl, lstAt_set (lstAt_lt hl2), f.new (Fr.put (.inr (Nat.le_refl _)))⟩
  refine fulls.mono fun st9 ⟨ef, f9⟩ => ?_
  have hol1 : ∀ s ∈ holesOf t.syms, Chars s ∧ s.length ≤ 17 := fun s hs => by
    rcases holesOf_sub hs with y | y
    · cases y
    · exact tch s y.1
  have hol2 : (holesOf t.syms).length ≤ 1000 := by
    have := holesOf_len (l := t.syms) (acc := [])
    unfold holesOf
    simp only [List.length_nil] at this
    omega
  have nam1 : ∀ s ∈ namesOf t.syms, Chars s ∧ s.length ≤ 17 := fun s hs => tch s (List.mem_filter.mp hs).1
  have nam2 : (namesOf t.syms).length ≤ 1000 := by
    have := List.length_filter_le (fun s => !noDot s) t.syms
    unfold namesOf
    omega
  have nam3 : ∀ s ∈ namesOf t.syms, FullOk s := fun s hs => tfull s (List.mem_filter.mp hs).1 (by simpa using (List.mem_filter.mp hs).2)
  -- holes_in
  refine (S_holes_in (n + 19) t st9 (by omega) tdots).to fun d st10 ⟨hd, f10⟩ => ?_
  subst hd
  simp only [go_runF, go_ok, go_c, go_var, go_bin, go_un, go_bl, go_tru, go_nt, go_an, go_oo, go_mAn, go_mOo, go_mNt, go_if, go_chain, go_aNil, go_aCons, go_tup, go_lst, go_dict0, go_cb, go_bm, go_sl, go_sl3, go_oNone, go_oSome, go_callP, go_call, go_lc, go_tTrue, go_iAny, go_iRng1, go_iRng2, go_iEnm, go_iZip, go_gNm, go_gTp, go_gNl, go_gSb, gCn_eq, gNm_eq, gNl_nil, gTp_tup, R.bind_ok, if_true, gs_nx, gs_bk, gs_ct, gs_seq, thenQ_nx, thenQ_rt, thenQ_bk, thenQ_ct, thenQ_xc, gs_ret, gs_expr, gs_if, gs_asg, gs_par2, gs_par3, gs_aug, retQ_rt, retQ_nx, retQ_xc, gs_for, gs_while, turnQ_nx, turnQ_ct, turnQ_bk, turnQ_rt, turnQ_xc, goO_some, goV_some, goO_none, goV_none, goO_ite, goV_ite, goO_map, goV_map, goV_bind, Bool.cond_decide, cond_true, cond_false, Bool.cond_not, startD, List.map_cons, List.map_nil, List.length_cons, List.length_nil, List.replicate_succ, List.replicate_zero, List.cons_append, List.nil_append, List.append_nil, Nat.reduceSub, Nat.reduceAdd, List.getElem?_cons_zero, List.getElem?_cons_succ, List.set_cons_zero, List.set_cons_succ, Nat.zero_add, true_and, and_true, true_or, or_true, pick_one]
  refine (S_holes_in (n + 19) t st10 (by omega) tdots).to fun d st11 ⟨hd, f11⟩ => ?_
  subst hd
  generalize e12 : st11 ++ [Cell.lst [.tup ((holesOf t.syms).map D.str), .tup ((holesOf t.syms).map D.str)]] = st12
  have a12 : lstAt st12 st11.length = some [.tup ((holesOf t.syms).map D.str), .tup ((holesOf t.syms).map D.str)] := by rw [← e12]; exact lstAt_new
  have g12 : Fr (fun _ => False) st11 st12 := by rw [← e12]; exact Fr.push
  simp only [go_runF, go_ok, go_c, go_var, go_bin, go_un, go_bl, go_tru, go_nt, go_an, go_oo, go_mAn, go_mOo, go_mNt, go_if, go_chain, go_aNil, go_aCons, go_tup, go_lst, go_dict0, go_cb, go_bm, go_sl, go_sl3, go_oNone, go_oSome, go_callP, go_call, go_lc, go_tTrue, go_iAny, go_iRng1, go_iRng2, go_iEnm, go_iZip, go_gNm, go_gTp, go_gNl, go_gSb, gCn_eq, gNm_eq, gNl_nil, gTp_tup, R.bind_ok, if_true, gs_nx, gs_bk, gs_ct, gs_seq, thenQ_nx, thenQ_rt, thenQ_bk, thenQ_ct, thenQ_xc, gs_ret, gs_expr, gs_if, gs_asg, gs_par2, gs_par3, gs_aug, retQ_rt, retQ_nx, retQ_xc, gs_for, gs_while, turnQ_nx, turnQ_ct, turnQ_bk, turnQ_rt, turnQ_xc, goO_some, goV_some, goO_none, goV_none, goO_ite, goV_ite, goO_map, goV_map, goV_bind, Bool.cond_decide, cond_true, cond_false, Bool.cond_not, startD, List.map_cons, List.map_nil, List.length_cons, List.length_nil, List.replicate_succ, List.replicate_zero, List.cons_append, List.nil_append, List.append_nil, Nat.reduceSub, Nat.reduceAdd, List.getElem?_cons_zero, List.getElem?_cons_succ, List.set_cons_zero, List.set_cons_succ, Nat.zero_add, true_and, and_true, true_or, or_true, repr_two a12 hol1 hol2]
  refine (S_lholes (m := n + 20) (t := t) (by omega) st12 (by omega) tch).to fun d st13 ⟨lh, hd, hh, eh, f13⟩ => ?_
  subst hd
  simp only [go_runF, go_ok, go_c, go_var, go_bin, go_un, go_bl, go_tru, go_nt, go_an, go_oo, go_mAn, go_mOo, go_mNt, go_if, go_chain, go_aNil, go_aCons, go_tup, go_lst, go_dict0, go_cb, go_bm, go_sl, go_sl3, go_oNone, go_oSome, go_callP, go_call, go_lc, go_tTrue, go_iAny, go_iRng1, go_iRng2, go_iEnm, go_iZip, go_gNm, go_gTp, go_gNl, go_gSb, gCn_eq, gNm_eq, gNl_nil, gTp_tup, R.bind_ok, if_true, gs_nx, gs_bk, gs_ct, gs_seq, thenQ_nx, thenQ_rt, thenQ_bk, thenQ_ct, thenQ_xc, gs_ret, gs_expr, gs_if, gs_asg, gs_par2, gs_par3, gs_aug, retQ_rt, retQ_nx, retQ_xc, gs_for, gs_while, turnQ_nx, turnQ_ct, turnQ_bk, turnQ_rt, turnQ_xc, goO_some, goV_some, goO_none, goV_none, goO_ite, goV_ite, goO_map, goV_map, goV_bind, Bool.cond_decide, cond_true, cond_false, Bool.cond_not, startD, List.map_cons, List.map_nil, List.length_cons, List.length_nil, List.replicate_succ, List.replicate_zero, List.cons_append, List.nil_append, List.append_nil, Nat.reduceSub, Nat.reduceAdd, List.getElem?_cons_zero, List.getElem?_cons_succ, List.set_cons_zero, List.set_cons_succ, Nat.zero_add, true_and, and_true, true_or, or_true, bTuple_lst eh, one]
  generalize e14 : st13 ++ [Cell.lst [.tup ((holesOf t.syms).map D.str)]] = st14
  have a14 : lstAt st14 st13.length = some [.tup ((holesOf t.syms).map D.str)] := by rw [← e14]; exact lstAt_new
  have g14 : Fr (fun _ => False) st13 st14 := by rw [← e14]; exact Fr.push
  simp only [go_runF, go_ok, go_c, go_var, go_bin, go_un, go_bl, go_tru, go_nt, go_an, go_oo, go_mAn, go_mOo, go_mNt, go_if, go_chain, go_aNil, go_aCons, go_tup, go_lst, go_dict0, go_cb, go_bm, go_sl, go_sl3, go_oNone, go_oSome, go_callP, go_call, go_lc, go_tTrue, go_iAny, go_iRng1, go_iRng2, go_iEnm, go_iZip, go_gNm, go_gTp, go_gNl, go_gSb, gCn_eq, gNm_eq, gNl_nil, gTp_tup, R.bind_ok, if_true, gs_nx, gs_bk, gs_ct, gs_seq, thenQ_nx, thenQ_rt, thenQ_bk, thenQ_ct, thenQ_xc, gs_ret, gs_expr, gs_if, gs_asg, gs_par2, gs_par3, gs_aug, retQ_rt, retQ_nx, retQ_xc, gs_for, gs_while, turnQ_nx, turnQ_ct, turnQ_bk, turnQ_rt, turnQ_xc, goO_some, goV_some, goO_none, goV_none, goO_ite, goV_ite, goO_map, goV_map, goV_bind, Bool.cond_decide, cond_true, cond_false, Bool.cond_not, startD, List.map_cons, List.map_nil, List.length_cons, List.length_nil, List.replicate_succ, List.replicate_zero, List.cons_append, List.nil_append, List.append_nil, Nat.reduceSub, Nat.reduceAdd, List.getElem?_cons_zero, List.getElem?_cons_succ, List.set_cons_zero, List.set_cons_succ, Nat.zero_add, true_and, and_true, true_or, or_true, opMul_two a14]
  generalize e15 : st14 ++ [Cell.lst [.tup ((holesOf t.syms).map D.str), .tup ((holesOf t.syms).map D.str)]] = st15
  have a15 : lstAt st15 st14.length = some [.tup ((holesOf t.syms).map D.str), .tup ((holesOf t.syms).map D.str)] := by rw [← e15]; exact lstAt_new
  have g15 : Fr (fun _ => False) st14 st15 := by rw [← e15]; exact Fr.push
  simp only [go_runF, go_ok, go_c, go_var, go_bin, go_un, go_bl, go_tru, go_nt, go_an, go_oo, go_mAn, go_mOo, go_mNt, go_if, go_chain, go_aNil, go_aCons, go_tup, go_lst, go_dict0, go_cb, go_bm, go_sl, go_sl3, go_oNone, go_oSome, go_callP, go_call, go_lc, go_tTrue, go_iAny, go_iRng1, go_iRng2, go_iEnm, go_iZip, go_gNm, go_gTp, go_gNl, go_gSb, gCn_eq, gNm_eq, gNl_nil, gTp_tup, R.bind_ok, if_true, gs_nx, gs_bk, gs_ct, gs_seq, thenQ_nx, thenQ_rt, thenQ_bk, thenQ_ct, thenQ_xc, gs_ret, gs_expr, gs_if, gs_asg, gs_par2, gs_par3, gs_aug, retQ_rt, retQ_nx, retQ_xc, gs_for, gs_while, turnQ_nx, turnQ_ct, turnQ_bk, turnQ_rt, turnQ_xc, goO_some, goV_some, goO_none, goV_none, goO_ite, goV_ite, goO_map, goV_map, goV_bind, Bool.cond_decide, cond_true, cond_false, Bool.cond_not, startD, List.map_cons, List.map_nil, List.length_cons, List.length_nil, List.replicate_succ, List.replicate_zero, List.cons_append, List.nil_append, List.append_nil, Nat.reduceSub, Nat.reduceAdd, List.getElem?_cons_zero, List.getElem?_cons_succ, List.set_cons_zero, List.set_cons_succ, Nat.zero_add, true_and, and_true, true_or, or_true, repr_two a15 hol1 hol2, opEq_str, beq_self_eq_true, bne_self_eq_false]
  have f915 : Fr (fun _ => False) st9 st15 := ((((f10.trans f11).trans g12).trans f13).trans g14).trans g15
  -- names_in
  refine (S_names_in (n + 19) t st15 (by omega) tdots).to fun d st16 ⟨hd, f16'⟩ => ?_
  subst hd
  refine (S_names_in (n + 19) t st16 (by omega) tdots).to fun d st17 ⟨hd, f17'⟩ => ?_
  subst hd
  generalize e18 : st17 ++ [Cell.lst [.tup ((namesOf t.syms).map D.str), .tup ((namesOf t.syms).map D.str)]] = st18
  have a18 : lstAt st18 st17.length = some [.tup ((namesOf t.syms).map D.str), .tup ((namesOf t.syms).map D.str)] := by rw [← e18]; exact lstAt_new
  have g18 : Fr (fun _ => False) st17 st18 := by rw [← e18]; exact Fr.push
  have f918 : Fr (fun _ => False) st9 st18 := ((f915.trans f16').trans f17').trans g18
  have ef18 := f918.lst (by simp) ef
  simp only [go_runF, go_ok, go_c, go_var, go_bin, go_un, go_bl, go_tru, go_nt, go_an, go_oo, go_mAn, go_mOo, go_mNt, go_if, go_chain, go_aNil, go_aCons, go_tup, go_lst, go_dict0, go_cb, go_bm, go_sl, go_sl3, go_oNone, go_oSome, go_callP, go_call, go_lc, go_tTrue, go_iAny, go_iRng1, go_iRng2, go_iEnm, go_iZip, go_gNm, go_gTp, go_gNl, go_gSb, gCn_eq, gNm_eq, gNl_nil, gTp_tup, R.bind_ok, if_true, gs_nx, gs_bk, gs_ct, gs_seq, thenQ_nx, thenQ_rt, thenQ_bk, thenQ_ct, thenQ_xc, gs_ret, gs_expr, gs_if, gs_asg, gs_par2, gs_par3, gs_aug, retQ_rt, retQ_nx, retQ_xc, gs_for, gs_while, turnQ_nx, turnQ_ct, turnQ_bk, turnQ_rt, turnQ_xc, goO_some, goV_some, goO_none, goV_none, goO_ite, goV_ite, goO_map, goV_map, goV_bind, Bool.cond_decide, cond_true, cond_false, Bool.cond_not, startD, List.map_cons, List.map_nil, List.length_cons, List.length_nil, List.replicate_succ, List.replicate_zero, List.cons_append, List.nil_append, List.append_nil, Nat.reduceSub, Nat.reduceAdd, List.getElem?_cons_zero, List.getElem?_cons_succ, List.set_cons_zero, List.set_cons_succ, Nat.zero_add, true_and, and_true, true_or, or_true, repr_two a18 nam1 nam2, bTuple_lst ef18, one]
  generalize e19 : st18 ++ [Cell.lst [.tup ((namesOf t.syms).map D.str)]] = st19
  have a19 : lstAt st19 st18.length = some [.tup ((namesOf t.syms).map D.str)] := by rw [← e19]; exact lstAt_new
  have g19 : Fr (fun _ => False) st18 st19 := by rw [← e19]; exact Fr.push
  simp only [go_runF, go_ok, go_c, go_var, go_bin, go_un, go_bl, go_tru, go_nt, go_an, go_oo, go_mAn, go_mOo, go_mNt, go_if, go_chain, go_aNil, go_aCons, go_tup, go_lst, go_dict0, go_cb, go_bm, go_sl, go_sl3, go_oNone, go_oSome, go_callP, go_call, go_lc, go_tTrue, go_iAny, go_iRng1, go_iRng2, go_iEnm, go_iZip, go_gNm, go_gTp, go_gNl, go_gSb, gCn_eq, gNm_eq, gNl_nil, gTp_tup, R.bind_ok, if_true, gs_nx, gs_bk, gs_ct, gs_seq, thenQ_nx, thenQ_rt, thenQ_bk, thenQ_ct, thenQ_xc, gs_ret, gs_expr, gs_if, gs_asg, gs_par2, gs_par3, gs_aug, retQ_rt, retQ_nx, retQ_xc, gs_for, gs_while, turnQ_nx, turnQ_ct, turnQ_bk, turnQ_rt, turnQ_xc, goO_some, goV_some, goO_none, goV_none, goO_ite, goV_ite, goO_map, goV_map, goV_bind, Bool.cond_decide, cond_true, cond_false, Bool.cond_not, startD, List.map_cons, List.map_nil, List.length_cons, List.length_nil, List.replicate_succ, List.replicate_zero, List.cons_append, List.nil_append, List.append_nil, Nat.reduceSub, Nat.reduceAdd, List.getElem?_cons_zero, List.getElem?_cons_succ, List.set_cons_zero, List.set_cons_succ, Nat.zero_add, true_and, and_true, true_or, or_true, opMul_two a19]
  generalize e20 : st19 ++ [Cell.lst [.tup ((namesOf t.syms).map D.str), .tup ((namesOf t.syms).map D.str)]] = st20
  have a20 : lstAt st20 st19.length = some [.tup ((namesOf t.syms).map D.str), .tup ((namesOf t.syms).map D.str)] := by rw [← e20]; exact lstAt_new
  have g20 : Fr (fun _ => False) st19 st20 := by rw [← e20]; exact Fr.push
  simp only [go_runF, go_ok, go_c, go_var, go_bin, go_un, go_bl, go_tru, go_nt, go_an, go_oo, go_mAn, go_mOo, go_mNt, go_if, go_chain, go_aNil, go_aCons, go_tup, go_lst, go_dict0, go_cb, go_bm, go_sl, go_sl3, go_oNone, go_oSome, go_callP, go_call, go_lc, go_tTrue, go_iAny, go_iRng1, go_iRng2, go_iEnm, go_iZip, go_gNm, go_gTp, go_gNl, go_gSb, gCn_eq, gNm_eq, gNl_nil, gTp_tup, R.bind_ok, if_true, gs_nx, gs_bk, gs_ct, gs_seq, thenQ_nx, thenQ_rt, thenQ_bk, thenQ_ct, thenQ_xc, gs_ret, gs_expr, gs_if, gs_asg, gs_par2, gs_par3, gs_aug, retQ_rt, retQ_nx, retQ_xc, gs_for, gs_while, turnQ_nx, turnQ_ct, turnQ_bk, turnQ_rt, turnQ_xc, goO_some, goV_some, goO_none, goV_none, goO_ite, goV_ite, goO_map, goV_map, goV_bind, Bool.cond_decide, cond_true, cond_false, Bool.cond_not, startD, List.map_cons, List.map_nil, List.length_cons, List.length_nil, List.replicate_succ, List.replicate_zero, List.cons_append, List.nil_append, List.append_nil, Nat.reduceSub, Nat.reduceAdd, List.getElem?_cons_zero, List.getElem?_cons_succ, List.set_cons_zero, List.set_cons_succ, Nat.zero_add, true_and, and_true, true_or, or_true, repr_two a20 nam1 nam2, opEq_str, beq_self_eq_true, bne_self_eq_false, rt]
  have f920 : Fr (fun _ => False) st9 st20 := (f918.trans g19).trans g20
  have ef20 := f920.lst (by simp) ef
  simp only [go_runF, go_ok, go_c, go_var, go_bin, go_un, go_bl, go_tru, go_nt, go_an, go_oo, go_mAn, go_mOo, go_mNt, go_if, go_chain, go_aNil, go_aCons, go_tup, go_lst, go_dict0, go_cb, go_bm, go_sl, go_sl3, go_oNone, go_oSome, go_callP, go_call, go_lc, go_tTrue, go_iAny, go_iRng1, go_iRng2, go_iEnm, go_iZip, go_gNm, go_gTp, go_gNl, go_gSb, gCn_eq, gNm_eq, gNl_nil, gTp_tup, R.bind_ok, if_true, gs_nx, gs_bk, gs_ct, gs_seq, thenQ_nx, thenQ_rt, thenQ_bk, thenQ_ct, thenQ_xc, gs_ret, gs_expr, gs_if, gs_asg, gs_par2, gs_par3, gs_aug, retQ_rt, retQ_nx, retQ_xc, gs_for, gs_while, turnQ_nx, turnQ_ct, turnQ_bk, turnQ_rt, turnQ_xc, goO_some, goV_some, goO_none, goV_none, goO_ite, goV_ite, goO_map, goV_map, goV_bind, Bool.cond_decide, cond_true, cond_false, Bool.cond_not, startD, List.map_cons, List.map_nil, List.length_cons, List.length_nil, List.replicate_succ, List.replicate_zero, List.cons_append, List.nil_append, List.append_nil, Nat.reduceSub, Nat.reduceAdd, List.getElem?_cons_zero, List.getElem?_cons_succ, List.set_cons_zero, List.set_cons_succ, Nat.zero_add, true_and, and_true, true_or, or_true, iterD_lst ef20]
  have f720 : Fr (· = h) st7 st20 := ((f8.trans f9).trans f920).imp fun _ _ z => z.elim
  refine lines_ok (n := n + 19) (t := t) (l := st8.length) nam2 nam3 ef20 rfl fun st21 x5 x8 f21 => ?_
  refine q _ _ _ _ _ _ _ _ ?_ ((f17.trans f720).trans (f21.imp fun _ _ z => z.elim))
  refine ((H7.fr (F := fun _ => False) ((f8.trans f9).trans f920) (by simp)).fr f21 (by simp)).mono ?_
  omega
def RightSpec (F : List D → Store → R D) : Prop := ∀ (h : Nat) (st : Store), HandAt st h 0 → Go (F [.loc h] st) (fun d st' => d = .bl true) NoE
theorem right_ok (n : Nat) : RightSpec (runT T (n + 21) (Str.ofString "_law_right")) := by
  intro h st H
  rw [R_right]
  unfold b__law_right
  have hlt := H.lt
  simp only [go_runF, go_ok, go_c, go_var, go_bin, go_un, go_bl, go_tru, go_nt, go_an, go_oo, go_mAn, go_mOo, go_mNt, go_if, go_chain, go_aNil, go_aCons, go_tup, go_lst, go_dict0, go_cb, go_bm, go_sl, go_sl3, go_oNone, go_oSome, go_callP, go_call, go_lc, go_tTrue, go_iAny, go_iRng1, go_iRng2, go_iEnm, go_iZip, go_gNm, go_gTp, go_gNl, go_gSb, gCn_eq, gNm_eq, gNl_nil, gTp_tup, R.bind_ok, if_true, gs_nx, gs_bk, gs_ct, gs_seq, thenQ_nx, thenQ_rt, thenQ_bk, thenQ_ct, thenQ_xc, gs_ret, gs_expr, gs_if, gs_asg, gs_par2, gs_par3, gs_aug, retQ_rt, retQ_nx, retQ_xc, gs_for, gs_while, turnQ_nx, turnQ_ct, turnQ_bk, turnQ_rt, turnQ_xc, goO_some, goV_some, goO_none, goV_none, goO_ite, goV_ite, goO_map, goV_map, goV_bind, Bool.cond_decide, cond_true, cond_false, Bool.cond_not, startD, List.map_cons, List.map_nil, List.length_cons, List.length_nil, List.replicate_succ, List.replicate_zero, List.cons_append, List.nil_append, List.append_nil, Nat.reduceSub, Nat.reduceAdd, List.getElem?_cons_zero, List.getElem?_cons_succ, List.set_cons_zero, List.set_cons_succ, Nat.zero_add, true_and, and_true, true_or, or_true]
  refine (S_words (n + 17) h st 0 H (by decide)).to fun d st1 ⟨⟨nl, ws, hd, hge, en, hw⟩, H1, f1⟩ => ?_
  subst hd
  refine ⟨by decide, ?_⟩
  have e4 : Int.toNat 4 = 4 := rfl
  rw [e4]
  refine forM_go (fun i σ st2 => i ≤ 4 ∧ (∃ x2 x3 x4 x5 x6 x7 x8 x9, σ = [some (.loc h), some (.loc nl), x2, x3, x4, x5, x6, x7, x8, x9]) ∧ lstAt st2 nl = some (ws.map wordD) ∧ HandAt st2 h (15 + 300 * i)) 4 (fun i σ st h => h.1)
    (fun i σ st2 ⟨hi, ⟨x2, x3, x4, x5, x6, x7, x8, x9, hσ⟩, en2, H2⟩ => ?_) LF 0 _ st1 ⟨Nat.zero_le _, ⟨_, _, _, _, _, _, _, _, rfl⟩, en, H1.mono (by omega)⟩ (by unfold LF; omega)
  subst hσ
  rw [itGet_rng]
  by_cases h4 : i < 4
  · rw [if_pos h4]
    simp only [go_runF, go_ok, go_c, go_var, go_bin, go_un, go_bl, go_tru, go_nt, go_an, go_oo, go_mAn, go_mOo, go_mNt, go_if, go_chain, go_aNil, go_aCons, go_tup, go_lst, go_dict0, go_cb, go_bm, go_sl, go_sl3, go_oNone, go_oSome, go_callP, go_call, go_lc, go_tTrue, go_iAny, go_iRng1, go_iRng2, go_iEnm, go_iZip, go_gNm, go_gTp, go_gNl, go_gSb, gCn_eq, gNm_eq, gNl_nil, gTp_tup, R.bind_ok, if_true, gs_nx, gs_bk, gs_ct, gs_seq, thenQ_nx, thenQ_rt, thenQ_bk, thenQ_ct, thenQ_xc, gs_ret, gs_expr, gs_if, gs_asg, gs_par2, gs_par3, gs_aug, retQ_rt, retQ_nx, retQ_xc, gs_for, gs_while, turnQ_nx, turnQ_ct, turnQ_bk, turnQ_rt, turnQ_xc, goO_some, goV_some, goO_none, goV_none, goO_ite, goV_ite, goO_map, goV_map, goV_bind, Bool.cond_decide, cond_true, cond_false, Bool.cond_not, startD, List.map_cons, List.map_nil, List.length_cons, List.length_nil, List.replicate_succ, List.replicate_zero, List.cons_append, List.nil_append, List.append_nil, Nat.reduceSub, Nat.reduceAdd, List.getElem?_cons_zero, List.getElem?_cons_succ, List.set_cons_zero, List.set_cons_succ, Nat.zero_add, true_and, and_true, true_or, or_true]
    refine turn_ok h4 H2 en2 hw.ok (by omega) fun st' x3 x4 x5 x6 x7 x8 x9 H3 f3 => ?_
    simp only [go_runF, go_ok, go_c, go_var, go_bin, go_un, go_bl, go_tru, go_nt, go_an, go_oo, go_mAn, go_mOo, go_mNt, go_if, go_chain, go_aNil, go_aCons, go_tup, go_lst, go_dict0, go_cb, go_bm, go_sl, go_sl3, go_oNone, go_oSome, go_callP, go_call, go_lc, go_tTrue, go_iAny, go_iRng1, go_iRng2, go_iEnm, go_iZip, go_gNm, go_gTp, go_gNl, go_gSb, gCn_eq, gNm_eq, gNl_nil, gTp_tup, R.bind_ok, if_true, gs_nx, gs_bk, gs_ct, gs_seq, thenQ_nx, thenQ_rt, thenQ_bk, thenQ_ct, thenQ_xc, gs_ret, gs_expr, gs_if, gs_asg, gs_par2, gs_par3, gs_aug, retQ_rt, retQ_nx, retQ_xc, gs_for, gs_while, turnQ_nx, turnQ_ct, turnQ_bk, turnQ_rt, turnQ_xc, goO_some, goV_some, goO_none, goV_none, goO_ite, goV_ite, goO_map, goV_map, goV_bind, Bool.cond_decide, cond_true, cond_false, Bool.cond_not, startD, List.map_cons, List.map_nil, List.length_cons, List.length_nil, List.replicate_succ, List.replicate_zero, List.cons_append, List.nil_append, List.append_nil, Nat.reduceSub, Nat.reduceAdd, List.getElem?_cons_zero, List.getElem?_cons_succ, List.set_cons_zero, List.set_cons_succ, Nat.zero_add, true_and, and_true, true_or, or_true]
    exact ⟨by omega, ⟨_, _, _, _, _, _, _, _, rfl⟩, f3.lst (by omega) en2, H3⟩
  · rw [if_neg h4]
    simp only [go_runF, go_ok, go_c, go_var, go_bin, go_un, go_bl, go_tru, go_nt, go_an, go_oo, go_mAn, go_mOo, go_mNt, go_if, go_chain, go_aNil, go_aCons, go_tup, go_lst, go_dict0, go_cb, go_bm, go_sl, go_sl3, go_oNone, go_oSome, go_callP, go_call, go_lc, go_tTrue, go_iAny, go_iRng1, go_iRng2, go_iEnm, go_iZip, go_gNm, go_gTp, go_gNl, go_gSb, gCn_eq, gNm_eq, gNl_nil, gTp_tup, R.bind_ok, if_true, gs_nx, gs_bk, gs_ct, gs_seq, thenQ_nx, thenQ_rt, thenQ_bk, thenQ_ct, thenQ_xc, gs_ret, gs_expr, gs_if, gs_asg, gs_par2, gs_par3, gs_aug, retQ_rt, retQ_nx, retQ_xc, gs_for, gs_while, turnQ_nx, turnQ_ct, turnQ_bk, turnQ_rt, turnQ_xc, goO_some, goV_some, goO_none, goV_none, goO_ite, goV_ite, goO_map, goV_map, goV_bind, Bool.cond_decide, cond_true, cond_false, Bool.cond_not, startD, List.map_cons, List.map_nil, List.length_cons, List.length_nil, List.replicate_succ, List.replicate_zero, List.cons_append, List.nil_append, List.append_nil, Nat.reduceSub, Nat.reduceAdd, List.getElem?_cons_zero, List.getElem?_cons_succ, List.set_cons_zero, List.set_cons_succ, Nat.zero_add, true_and, and_true, true_or, or_true]
theorem law_runs : ∀ ns : List Int, ns.length ≤ 63 → (∀ z ∈ ns, Builtin.Int.intBits z ≤ 1048576) → ∃ st, runT T LV (Str.ofString "law") [.rol (ns.map D.int)] [] = .ok (.bl true) st := by
  intro ns hl _
  suffices h : Go (runT T (199 + 1) (Str.ofString "law") [.rol (ns.map D.int)] []) (fun d _ => d = .bl true) NoE by
    obtain ⟨d, st, e, rfl⟩ := h.of_run
    exact ⟨st, e⟩
  generalize hst : ([] : Store) = st
  rw [R_law]
  unfold b_law
  simp only [go_runF, go_ok, go_c, go_var, go_bin, go_un, go_bl, go_tru, go_nt, go_an, go_oo, go_mAn, go_mOo, go_mNt, go_if, go_chain, go_aNil, go_aCons, go_tup, go_lst, go_dict0, go_cb, go_bm, go_sl, go_sl3, go_oNone, go_oSome, go_callP, go_call, go_lc, go_tTrue, go_iAny, go_iRng1, go_iRng2, go_iEnm, go_iZip, go_gNm, go_gTp, go_gNl, go_gSb, gCn_eq, gNm_eq, gNl_nil, gTp_tup, R.bind_ok, if_true, gs_nx, gs_bk, gs_ct, gs_seq, thenQ_nx, thenQ_rt, thenQ_bk, thenQ_ct, thenQ_xc, gs_ret, gs_expr, gs_if, gs_asg, gs_par2, gs_par3, gs_aug, retQ_rt, retQ_nx, retQ_xc, gs_for, gs_while, turnQ_nx, turnQ_ct, turnQ_bk, turnQ_rt, turnQ_xc, goO_some, goV_some, goO_none, goV_none, goO_ite, goV_ite, goO_map, goV_map, goV_bind, Bool.cond_decide, cond_true, cond_false, Bool.cond_not, startD, List.map_cons, List.map_nil, List.length_cons, List.length_nil, List.replicate_succ, List.replicate_zero, List.cons_append, List.nil_append, List.append_nil, Nat.reduceSub, Nat.reduceAdd, List.getElem?_cons_zero, List.getElem?_cons_succ, List.set_cons_zero, List.set_cons_succ, Nat.zero_add, true_and, and_true, true_or, or_true, bLen, bMin2, bMax2]
  generalize hm : (if (if ((ns.map D.int).length : Int) < 3 then ((ns.map D.int).length : Int) else 3) > 1 then (if ((ns.map D.int).length : Int) < 3 then ((ns.map D.int).length : Int) else 3) else 1 : Int) = m
  have m3 : m ≤ 3 ∧ 1 ≤ m := by
    rw [← hm]
    split <;> split at * <;> omega
  refine ⟨⟨by omega, by omega⟩, ?_⟩
  refine forM_go (fun i σ st2 => i ≤ m.toNat ∧ ∃ x1, σ = [some (.rol (ns.map D.int)), x1]) m.toNat (fun i σ st h => h.1) (fun i σ st2 ⟨hi, x1, hσ⟩ => ?_) LF 0 _ st ⟨Nat.zero_le _, _, rfl⟩ (by unfold LF; omega)
  subst hσ
  rw [itGet_rng]
  by_cases h4 : i < m.toNat
  · rw [if_pos h4]
    unfold b_law_1
    simp only [go_runF, go_ok, go_c, go_var, go_bin, go_un, go_bl, go_tru, go_nt, go_an, go_oo, go_mAn, go_mOo, go_mNt, go_if, go_chain, go_aNil, go_aCons, go_tup, go_lst, go_dict0, go_cb, go_bm, go_sl, go_sl3, go_oNone, go_oSome, go_callP, go_call, go_lc, go_tTrue, go_iAny, go_iRng1, go_iRng2, go_iEnm, go_iZip, go_gNm, go_gTp, go_gNl, go_gSb, gCn_eq, gNm_eq, gNl_nil, gTp_tup, R.bind_ok, if_true, gs_nx, gs_bk, gs_ct, gs_seq, thenQ_nx, thenQ_rt, thenQ_bk, thenQ_ct, thenQ_xc, gs_ret, gs_expr, gs_if, gs_asg, gs_par2, gs_par3, gs_aug, retQ_rt, retQ_nx, retQ_xc, gs_for, gs_while, turnQ_nx, turnQ_ct, turnQ_bk, turnQ_rt, turnQ_xc, goO_some, goV_some, goO_none, goV_none, goO_ite, goV_ite, goO_map, goV_map, goV_bind, Bool.cond_decide, cond_true, cond_false, Bool.cond_not, startD, List.map_cons, List.map_nil, List.length_cons, List.length_nil, List.replicate_succ, List.replicate_zero, List.cons_append, List.nil_append, List.append_nil, Nat.reduceSub, Nat.reduceAdd, List.getElem?_cons_zero, List.getElem?_cons_succ, List.set_cons_zero, List.set_cons_succ, Nat.zero_add, true_and, and_true, true_or, or_true, Int.zero_add]
    refine (S_hand 198 ns i st2 (by omega)).to fun d st3 ⟨h, hd, _, H3, f3⟩ => ?_
    subst hd
    refine (right_ok 178 h st3 H3).to fun d st4 hd => ?_
    subst hd
    simp only [go_runF, go_ok, go_c, go_var, go_bin, go_un, go_bl, go_tru, go_nt, go_an, go_oo, go_mAn, go_mOo, go_mNt, go_if, go_chain, go_aNil, go_aCons, go_tup, go_lst, go_dict0, go_cb, go_bm, go_sl, go_sl3, go_oNone, go_oSome, go_callP, go_call, go_lc, go_tTrue, go_iAny, go_iRng1, go_iRng2, go_iEnm, go_iZip, go_gNm, go_gTp, go_gNl, go_gSb, gCn_eq, gNm_eq, gNl_nil, gTp_tup, R.bind_ok, if_true, gs_nx, gs_bk, gs_ct, gs_seq, thenQ_nx, thenQ_rt, thenQ_bk, thenQ_ct, thenQ_xc, gs_ret, gs_expr, gs_if, gs_asg, gs_par2, gs_par3, gs_aug, retQ_rt, retQ_nx, retQ_xc, gs_for, gs_while, turnQ_nx, turnQ_ct, turnQ_bk, turnQ_rt, turnQ_xc, goO_some, goV_some, goO_none, goV_none, goO_ite, goV_ite, goO_map, goV_map, goV_bind, Bool.cond_decide, cond_true, cond_false, Bool.cond_not, startD, List.map_cons, List.map_nil, List.length_cons, List.length_nil, List.replicate_succ, List.replicate_zero, List.cons_append, List.nil_append, List.append_nil, Nat.reduceSub, Nat.reduceAdd, List.getElem?_cons_zero, List.getElem?_cons_succ, List.set_cons_zero, List.set_cons_succ, Nat.zero_add, true_and, and_true, true_or, or_true, truD_bl, Bool.not_true]
    exact ⟨by omega, _, rfl⟩
  · rw [if_neg h4]
    simp only [go_runF, go_ok, go_c, go_var, go_bin, go_un, go_bl, go_tru, go_nt, go_an, go_oo, go_mAn, go_mOo, go_mNt, go_if, go_chain, go_aNil, go_aCons, go_tup, go_lst, go_dict0, go_cb, go_bm, go_sl, go_sl3, go_oNone, go_oSome, go_callP, go_call, go_lc, go_tTrue, go_iAny, go_iRng1, go_iRng2, go_iEnm, go_iZip, go_gNm, go_gTp, go_gNl, go_gSb, gCn_eq, gNm_eq, gNl_nil, gTp_tup, R.bind_ok, if_true, gs_nx, gs_bk, gs_ct, gs_seq, thenQ_nx, thenQ_rt, thenQ_bk, thenQ_ct, thenQ_xc, gs_ret, gs_expr, gs_if, gs_asg, gs_par2, gs_par3, gs_aug, retQ_rt, retQ_nx, retQ_xc, gs_for, gs_while, turnQ_nx, turnQ_ct, turnQ_bk, turnQ_rt, turnQ_xc, goO_some, goV_some, goO_none, goV_none, goO_ite, goV_ite, goO_map, goV_map, goV_bind, Bool.cond_decide, cond_true, cond_false, Bool.cond_not, startD, List.map_cons, List.map_nil, List.length_cons, List.length_nil, List.replicate_succ, List.replicate_zero, List.cons_append, List.nil_append, List.append_nil, Nat.reduceSub, Nat.reduceAdd, List.getElem?_cons_zero, List.getElem?_cons_succ, List.set_cons_zero, List.set_cons_succ, Nat.zero_add, true_and, and_true, true_or, or_true]

theorem all_mk {P : Program} {w : World} {K : PySem.W.Frag} {h : Heap} {mg : Str → Option Value} {fa : Addr} (X : K.In h) (G : h.Ns mainGlobals mg) (hfa : mg "law" = some (.ref fa)) {f1 f2 f3 f4 f5 f6 f7 f8 f9 f10 f11 f12 f13 : Addr}
    {od1 od2 od3 od4 od5 od6 od7 od8 od9 od10 od11 od12 od13 an1 an2 an3 an4 an5 an6 an7 an8 an9 an10 an11 an12 an13 : Option Addr} {sl1 sl2 sl3 sl4 sl5 sl6 sl7 sl8 sl9 sl10 sl11 sl12 sl13 : Array (Option Value)} {oc1 oc2 oc3 oc4 oc5 oc6 oc7 oc8 oc9 oc10 oc11 oc12 oc13 kV1 kV2 kV3 kV4 kV5 kV6 kV7 kV8 kV9 kV10 kV11 kV12 kV13 dc1 dc2 dc3 dc4 dc5 dc6 dc7 dc8 dc9 dc10 dc11 dc12 dc13 pm1 pm2 pm3 pm4 pm5 pm6 pm7 pm8 pm9 pm10 pm11 pm12 pm13 cd1 cd2 cd3 cd4 cd5 cd6 cd7 cd8 cd9 cd10 cd11 cd12 cd13 ct1 ct2 ct3 ct4 ct5 ct6 ct7 ct8 ct9 ct10 ct11 ct12 ct13 : Value}
    (a1 : PySem.W.nsIn K mainGlobals (Str.ofString "line_of") = some (some (.ref f1))) (l1 : K.lookup f1 = some ⟨oc1, od1, .func (PySem.W.fnOf (Str.ofString "line_of") (Str.ofString "line_of") (defArgs (top 1)) (defBody (top 1)) (defScope (top 1)) .none kV1 dc1 pm1 an1 cd1 ct1), sl1⟩) (c1 : PySem.W.codeIn K cd1 (Str.ofString "line_of") = true) (k1 : PySem.W.keepIn K (.ref f1) = true)
    (a2 : PySem.W.nsIn K mainGlobals (Str.ofString "holes_in") = some (some (.ref f2))) (l2 : K.lookup f2 = some ⟨oc2, od2, .func (PySem.W.fnOf (Str.ofString "holes_in") (Str.ofString "holes_in") (defArgs (top 2)) (defBody (top 2)) (defScope (top 2)) .none kV2 dc2 pm2 an2 cd2 ct2), sl2⟩) (c2 : PySem.W.codeIn K cd2 (Str.ofString "holes_in") = true) (k2 : PySem.W.keepIn K (.ref f2) = true)
    (a3 : PySem.W.nsIn K mainGlobals (Str.ofString "names_in") = some (some (.ref f3))) (l3 : K.lookup f3 = some ⟨oc3, od3, .func (PySem.W.fnOf (Str.ofString "names_in") (Str.ofString "names_in") (defArgs (top 3)) (defBody (top 3)) (defScope (top 3)) .none kV3 dc3 pm3 an3 cd3 ct3), sl3⟩) (c3 : PySem.W.codeIn K cd3 (Str.ofString "names_in") = true) (k3 : PySem.W.keepIn K (.ref f3) = true)
    (a4 : PySem.W.nsIn K mainGlobals (Str.ofString "_law_hand") = some (some (.ref f4))) (l4 : K.lookup f4 = some ⟨oc4, od4, .func (PySem.W.fnOf (Str.ofString "_law_hand") (Str.ofString "_law_hand") (defArgs (top 5)) (defBody (top 5)) (defScope (top 5)) .none kV4 dc4 pm4 an4 cd4 ct4), sl4⟩) (c4 : PySem.W.codeIn K cd4 (Str.ofString "_law_hand") = true) (k4 : PySem.W.keepIn K (.ref f4) = true)
    (a5 : PySem.W.nsIn K mainGlobals (Str.ofString "_law_take") = some (some (.ref f5))) (l5 : K.lookup f5 = some ⟨oc5, od5, .func (PySem.W.fnOf (Str.ofString "_law_take") (Str.ofString "_law_take") (defArgs (top 6)) (defBody (top 6)) (defScope (top 6)) .none kV5 dc5 pm5 an5 cd5 ct5), sl5⟩) (c5 : PySem.W.codeIn K cd5 (Str.ofString "_law_take") = true) (k5 : PySem.W.keepIn K (.ref f5) = true)
    (a6 : PySem.W.nsIn K mainGlobals (Str.ofString "_law_of") = some (some (.ref f6))) (l6 : K.lookup f6 = some ⟨oc6, od6, .func (PySem.W.fnOf (Str.ofString "_law_of") (Str.ofString "_law_of") (defArgs (top 7)) (defBody (top 7)) (defScope (top 7)) .none kV6 dc6 pm6 an6 cd6 ct6), sl6⟩) (c6 : PySem.W.codeIn K cd6 (Str.ofString "_law_of") = true) (k6 : PySem.W.keepIn K (.ref f6) = true)
    (a7 : PySem.W.nsIn K mainGlobals (Str.ofString "_law_words") = some (some (.ref f7))) (l7 : K.lookup f7 = some ⟨oc7, od7, .func (PySem.W.fnOf (Str.ofString "_law_words") (Str.ofString "_law_words") (defArgs (top 8)) (defBody (top 8)) (defScope (top 8)) .none kV7 dc7 pm7 an7 cd7 ct7), sl7⟩) (c7 : PySem.W.codeIn K cd7 (Str.ofString "_law_words") = true) (k7 : PySem.W.keepIn K (.ref f7) = true)
    (a8 : PySem.W.nsIn K mainGlobals (Str.ofString "_law_tree") = some (some (.ref f8))) (l8 : K.lookup f8 = some ⟨oc8, od8, .func (PySem.W.fnOf (Str.ofString "_law_tree") (Str.ofString "_law_tree") (defArgs (top 9)) (defBody (top 9)) (defScope (top 9)) .none kV8 dc8 pm8 an8 cd8 ct8), sl8⟩) (c8 : PySem.W.codeIn K cd8 (Str.ofString "_law_tree") = true) (k8 : PySem.W.keepIn K (.ref f8) = true)
    (a9 : PySem.W.nsIn K mainGlobals (Str.ofString "_law_called") = some (some (.ref f9))) (l9 : K.lookup f9 = some ⟨oc9, od9, .func (PySem.W.fnOf (Str.ofString "_law_called") (Str.ofString "_law_called") (defArgs (top 10)) (defBody (top 10)) (defScope (top 10)) .none kV9 dc9 pm9 an9 cd9 ct9), sl9⟩) (c9 : PySem.W.codeIn K cd9 (Str.ofString "_law_called") = true) (k9 : PySem.W.keepIn K (.ref f9) = true)
    (a10 : PySem.W.nsIn K mainGlobals (Str.ofString "_law_symbols") = some (some (.ref f10))) (l10 : K.lookup f10 = some ⟨oc10, od10, .func (PySem.W.fnOf (Str.ofString "_law_symbols") (Str.ofString "_law_symbols") (defArgs (top 11)) (defBody (top 11)) (defScope (top 11)) .none kV10 dc10 pm10 an10 cd10 ct10), sl10⟩) (c10 : PySem.W.codeIn K cd10 (Str.ofString "_law_symbols") = true) (k10 : PySem.W.keepIn K (.ref f10) = true)
    (a11 : PySem.W.nsIn K mainGlobals (Str.ofString "_law_holes") = some (some (.ref f11))) (l11 : K.lookup f11 = some ⟨oc11, od11, .func (PySem.W.fnOf (Str.ofString "_law_holes") (Str.ofString "_law_holes") (defArgs (top 12)) (defBody (top 12)) (defScope (top 12)) .none kV11 dc11 pm11 an11 cd11 ct11), sl11⟩) (c11 : PySem.W.codeIn K cd11 (Str.ofString "_law_holes") = true) (k11 : PySem.W.keepIn K (.ref f11) = true)
    (a12 : PySem.W.nsIn K mainGlobals (Str.ofString "_law_right") = some (some (.ref f12))) (l12 : K.lookup f12 = some ⟨oc12, od12, .func (PySem.W.fnOf (Str.ofString "_law_right") (Str.ofString "_law_right") (defArgs (top 13)) (defBody (top 13)) (defScope (top 13)) .none kV12 dc12 pm12 an12 cd12 ct12), sl12⟩) (c12 : PySem.W.codeIn K cd12 (Str.ofString "_law_right") = true) (k12 : PySem.W.keepIn K (.ref f12) = true)
    (a13 : PySem.W.nsIn K mainGlobals (Str.ofString "law") = some (some (.ref f13))) (l13 : K.lookup f13 = some ⟨oc13, od13, .func (PySem.W.fnOf (Str.ofString "law") (Str.ofString "law") (defArgs (top 14)) (defBody (top 14)) (defScope (top 14)) .none kV13 dc13 pm13 an13 cd13 ct13), sl13⟩) (c13 : PySem.W.codeIn K cd13 (Str.ofString "law") = true) (k13 : PySem.W.keepIn K (.ref f13) = true)
    (z1 : PySem.W.nsIn K mainGlobals (Str.ofString "tuple") = some none)
    (z2 : PySem.W.nsIn K mainGlobals (Str.ofString "isinstance") = some none)
    (z3 : PySem.W.nsIn K mainGlobals (Str.ofString "str") = some none)
    (z4 : PySem.W.nsIn K mainGlobals (Str.ofString "abs") = some none)
    (z5 : PySem.W.nsIn K mainGlobals (Str.ofString "int") = some none)
    (z6 : PySem.W.nsIn K mainGlobals (Str.ofString "len") = some none)
    (z7 : PySem.W.nsIn K mainGlobals (Str.ofString "enumerate") = some none)
    (z8 : PySem.W.nsIn K mainGlobals (Str.ofString "range") = some none)
    (z9 : PySem.W.nsIn K mainGlobals (Str.ofString "repr") = some none)
    (z10 : PySem.W.nsIn K mainGlobals (Str.ofString "max") = some none)
    (z11 : PySem.W.nsIn K mainGlobals (Str.ofString "min") = some none) :
    ∀ base : Heap, K.In base → base.Ns mainGlobals mg → ∃ fd, FnG P w K mg base LV fa fd ["script"] (spG K mg 1 (runT T LV "law")) ∧ Binds K fd ["script"] [] := by
  have F1 := fun_mk (st := top 1) l1 c1 k1
  have F2 := fun_mk (st := top 2) l2 c2 k2
  have F3 := fun_mk (st := top 3) l3 c3 k3
  have F4 := fun_mk (st := top 5) l4 c4 k4
  have F5 := fun_mk (st := top 6) l5 c5 k5
  have F6 := fun_mk (st := top 7) l6 c6 k6
  have F7 := fun_mk (st := top 8) l7 c7 k7
  have F8 := fun_mk (st := top 9) l8 c8 k8
  have F9 := fun_mk (st := top 10) l9 c9 k9
  have F10 := fun_mk (st := top 11) l10 c10 k10
  have F11 := fun_mk (st := top 12) l11 c11 k11
  have F12 := fun_mk (st := top 13) l12 c12 k12
  have F13 := fun_mk (st := top 14) l13 c13 k13
  have q1 : Fact K mg d_line_of := ⟨⟨f1, _, F1, PySem.W.mg_of X G a1, F1.binds (ps := [(Str.ofString "full")]) (fun _ _ _ _ _ _ us hl => match us, hl with | [_], _ => rfl), fun n ks perm h => by
      simp only [d_line_of, List.mem_cons, Prod.mk.injEq, List.not_mem_nil, or_false] at h
      rcases h with ⟨rfl, rfl, rfl⟩
      · exact ⟨rfl, bindP_of F1 fun _ _ _ _ _ _ us ws h1 h2 => match us, ws, h1, h2 with | [], [_], _, _ => rfl⟩
⟩⟩
  have q2 : Fact K mg d_holes_in := ⟨⟨f2, _, F2, PySem.W.mg_of X G a2, F2.binds (ps := [(Str.ofString "tree")]) (fun _ _ _ _ _ _ us hl => match us, hl with | [_], _ => rfl), fun n ks perm h => by
      simp only [d_holes_in, List.mem_cons, Prod.mk.injEq, List.not_mem_nil, or_false] at h
      rcases h with ⟨rfl, rfl, rfl⟩
      · exact ⟨rfl, bindP_of F2 fun _ _ _ _ _ _ us ws h1 h2 => match us, ws, h1, h2 with | [], [_], _, _ => rfl⟩
⟩⟩
  have q3 : Fact K mg d_names_in := ⟨⟨f3, _, F3, PySem.W.mg_of X G a3, F3.binds (ps := [(Str.ofString "tree")]) (fun _ _ _ _ _ _ us hl => match us, hl with | [_], _ => rfl), fun n ks perm h => by
      simp only [d_names_in, List.mem_cons, Prod.mk.injEq, List.not_mem_nil, or_false] at h
      rcases h with ⟨rfl, rfl, rfl⟩
      · exact ⟨rfl, bindP_of F3 fun _ _ _ _ _ _ us ws h1 h2 => match us, ws, h1, h2 with | [], [_], _, _ => rfl⟩
⟩⟩
  have q4 : Fact K mg d__law_hand := ⟨⟨f4, _, F4, PySem.W.mg_of X G a4, F4.binds (ps := [(Str.ofString "script"), (Str.ofString "k")]) (fun _ _ _ _ _ _ us hl => match us, hl with | [_, _], _ => rfl), fun _ _ _ h => (nomatch h)⟩⟩
  have q5 : Fact K mg d__law_take := ⟨⟨f5, _, F5, PySem.W.mg_of X G a5, F5.binds (ps := [(Str.ofString "hand"), (Str.ofString "many")]) (fun _ _ _ _ _ _ us hl => match us, hl with | [_, _], _ => rfl), fun _ _ _ h => (nomatch h)⟩⟩
  have q6 : Fact K mg d__law_of := ⟨⟨f6, _, F6, PySem.W.mg_of X G a6, F6.binds (ps := [(Str.ofString "hand"), (Str.ofString "some")]) (fun _ _ _ _ _ _ us hl => match us, hl with | [_, _], _ => rfl), fun _ _ _ h => (nomatch h)⟩⟩
  have q7 : Fact K mg d__law_words := ⟨⟨f7, _, F7, PySem.W.mg_of X G a7, F7.binds (ps := [(Str.ofString "hand")]) (fun _ _ _ _ _ _ us hl => match us, hl with | [_], _ => rfl), fun _ _ _ h => (nomatch h)⟩⟩
  have q8 : Fact K mg d__law_tree := ⟨⟨f8, _, F8, PySem.W.mg_of X G a8, F8.binds (ps := [(Str.ofString "hand"), (Str.ofString "names"), (Str.ofString "holes"), (Str.ofString "deep")]) (fun _ _ _ _ _ _ us hl => match us, hl with | [_, _, _, _], _ => rfl), fun _ _ _ h => (nomatch h)⟩⟩
  have q9 : Fact K mg d__law_called := ⟨⟨f9, _, F9, PySem.W.mg_of X G a9, F9.binds (ps := [(Str.ofString "hand")]) (fun _ _ _ _ _ _ us hl => match us, hl with | [_], _ => rfl), fun _ _ _ h => (nomatch h)⟩⟩
  have q10 : Fact K mg d__law_symbols := ⟨⟨f10, _, F10, PySem.W.mg_of X G a10, F10.binds (ps := [(Str.ofString "shape")]) (fun _ _ _ _ _ _ us hl => match us, hl with | [_], _ => rfl), fun _ _ _ h => (nomatch h)⟩⟩
  have q11 : Fact K mg d__law_holes := ⟨⟨f11, _, F11, PySem.W.mg_of X G a11, F11.binds (ps := [(Str.ofString "shape")]) (fun _ _ _ _ _ _ us hl => match us, hl with | [_], _ => rfl), fun _ _ _ h => (nomatch h)⟩⟩
  have q12 : Fact K mg d__law_right := ⟨⟨f12, _, F12, PySem.W.mg_of X G a12, F12.binds (ps := [(Str.ofString "hand")]) (fun _ _ _ _ _ _ us hl => match us, hl with | [_], _ => rfl), fun _ _ _ h => (nomatch h)⟩⟩
  have q13 : Fact K mg d_law := ⟨⟨f13, _, F13, PySem.W.mg_of X G a13, F13.binds (ps := [(Str.ofString "script")]) (fun _ _ _ _ _ _ us hl => match us, hl with | [_], _ => rfl), fun _ _ _ h => (nomatch h)⟩⟩
  have hb : ∀ x, blt.contains x = true → mg x = none := fun x hx => by
    simp only [blt, List.contains_cons, List.contains_nil, Bool.or_false, Bool.or_eq_true, beq_iff_eq] at hx
    rcases hx with rfl | rfl | rfl | rfl | rfl | rfl | rfl | rfl | rfl | rfl | rfl
    · exact PySem.W.mg_none_of X G z1
    · exact PySem.W.mg_none_of X G z2
    · exact PySem.W.mg_none_of X G z3
    · exact PySem.W.mg_none_of X G z4
    · exact PySem.W.mg_none_of X G z5
    · exact PySem.W.mg_none_of X G z6
    · exact PySem.W.mg_none_of X G z7
    · exact PySem.W.mg_none_of X G z8
    · exact PySem.W.mg_none_of X G z9
    · exact PySem.W.mg_none_of X G z10
    · exact PySem.W.mg_none_of X G z11
  have hT : ∀ d ∈ T, Fact K mg d ∧ Reads1 (fnsOf T) blt d := fun d hd => by
    simp only [T, List.mem_cons, List.not_mem_nil, or_false] at hd
    rcases hd with rfl | rfl | rfl | rfl | rfl | rfl | rfl | rfl | rfl | rfl | rfl | rfl | rfl
    · exact ⟨q1, r_line_of⟩
    · exact ⟨q2, r_holes_in⟩
    · exact ⟨q3, r_names_in⟩
    · exact ⟨q4, r__law_hand⟩
    · exact ⟨q5, r__law_take⟩
    · exact ⟨q6, r__law_of⟩
    · exact ⟨q7, r__law_words⟩
    · exact ⟨q8, r__law_tree⟩
    · exact ⟨q9, r__law_called⟩
    · exact ⟨q10, r__law_symbols⟩
    · exact ⟨q11, r__law_holes⟩
    · exact ⟨q12, r__law_right⟩
    · exact ⟨q13, r_law⟩
  intro base _ _
  obtain ⟨f, fd, hG, hm, _, hB, _⟩ := tab_ok (P := P) (w := w) (base := base) hT hb LV "law" d_law rfl
  cases hfa.symm.trans hm
  exact ⟨fd, hG, hB⟩

end L

open PySem PySem.W PyProof.Rows
set_option maxRecDepth 100000 in
set_option maxHeartbeats 0 in
theorem PySem.Challenge.cw_aheadofholes_k02_holes_and_names_of_tree_holds : PySem.Challenge.rw_aheadofholes_k02_holes_and_names_of_tree.Holds := by
  w_on; o_law; k_head; (case hw => w_witness2)
  k_fill
  refine G.walkG (l := PySem.Challenge.rw_aheadofholes_k02_holes_and_names_of_tree) (k := L.LV) (x := "script") (F := G.runT L.T L.LV "law") rfl (by decide) rfl ⟨rfl, by decide, by decide⟩ (fun w h Y => PySem.W.kIn_of Y) ?F L.law_runs
  case F =>
    intro w mg fa h KX G hmg
    refine' L.all_mk KX G hmg ?a1 ?l1 ?c1 ?k1 ?a2 ?l2 ?c2 ?k2 ?a3 ?l3 ?c3 ?k3 ?a4 ?l4 ?c4 ?k4 ?a5 ?l5 ?c5 ?k5 ?a6 ?l6 ?c6 ?k6 ?a7 ?l7 ?c7 ?k7 ?a8 ?l8 ?c8 ?k8 ?a9 ?l9 ?c9 ?k9 ?a10 ?l10 ?c10 ?k10 ?a11 ?l11 ?c11 ?k11 ?a12 ?l12 ?c12 ?k12 ?a13 ?l13 ?c13 ?k13 ?z1 ?z2 ?z3 ?z4 ?z5 ?z6 ?z7 ?z8 ?z9 ?z10 ?z11
    (case a1 => k_is); (case l1 => k_is); (case c1 => k_is); (case k1 => k_is); (case a2 => k_is); (case l2 => k_is); (case c2 => k_is); (case k2 => k_is); (case a3 => k_is); (case l3 => k_is); (case c3 => k_is); (case k3 => k_is); (case a4 => k_is); (case l4 => k_is); (case c4 => k_is); (case k4 => k_is); (case a5 => k_is); (case l5 => k_is); (case c5 => k_is); (case k5 => k_is); (case a6 => k_is); (case l6 => k_is); (case c6 => k_is); (case k6 => k_is); (case a7 => k_is); (case l7 => k_is); (case c7 => k_is); (case k7 => k_is); (case a8 => k_is); (case l8 => k_is); (case c8 => k_is); (case k8 => k_is); (case a9 => k_is); (case l9 => k_is); (case c9 => k_is); (case k9 => k_is); (case a10 => k_is); (case l10 => k_is); (case c10 => k_is); (case k10 => k_is); (case a11 => k_is); (case l11 => k_is); (case c11 => k_is); (case k11 => k_is); (case a12 => k_is); (case l12 => k_is); (case c12 => k_is); (case k12 => k_is); (case a13 => k_is); (case l13 => k_is); (case c13 => k_is); (case k13 => k_is); (case z1 => k_is); (case z2 => k_is); (case z3 => k_is); (case z4 => k_is); (case z5 => k_is); (case z6 => k_is); (case z7 => k_is); (case z8 => k_is); (case z9 => k_is); (case z10 => k_is); (case z11 => k_is)

