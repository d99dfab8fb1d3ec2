import PyProof.Rows.All
import HandS.ForMost
import HandS.ForExc
import HandS.IsInst
import HandS.Flow
import HandS.TupAny
import HandS.Wide
import HandS.Deep
import HandS.TupMul
import PyProof.Rows.RuleB_pow
import HandS.Text
import HandS.Conv
import HandS.TupLen
import HandS.ListItems
import HandS.StrMore
import HandS.Zip
import HandS.Style
import PyProof.EnumMake
import HandS.Comp
import HandS.ExcOwn
import HandS.EndBits
import HandS.SetKeys
import HandS.DictComp
import HandS.DictTup
import HandS.SortRule
import HandS.Words
import PyProof.TableCode
import PySem.Challenge.RW_aheadofholes_k24_heads_of_a_lore
set_option Elab.async false
set_option linter.all false
set_option maxRecDepth 100000
set_option maxHeartbeats 4000000
/-! G1: values without the heap, the store of changing things, what a run gives; how they lie in the heap. -/
namespace G
open PySem L2

/-- the built-in types by name -/
inductive Ty where
  | non | bl | int | str | tup | lst | dct | set
  deriving DecidableEq
def Ty.nm : Ty → String
  | .non => "NoneType" | .bl => "bool" | .int => "int" | .str => "str" | .tup => "tuple" | .lst => "list" | .dct => "dict" | .set => "set"

/-- values: what never changes is data; what changes is a place in the store -/
inductive D where
  | non | bl (b : Bool) | int (i : Int) | str (s : Str) | tup (xs : List D) | loc (n : Nat) | rol (xs : List D) | fn (x : Str) | ty (t : Ty)
  deriving Inhabited
/-- what stands at a place -/
inductive Cell where
  | lst (xs : List D) | dct (kvs : List (D × D)) | obj (c : Str) (fs : List (Str × D)) | lck (c : Cell)
  deriving Inhabited
abbrev Store := List Cell
/-- the slots of a frame -/
abbrev Sig := List (Option D)
structure Exn where
  cls : Str
  fs : List (Str × D)
/-- what a run gives -/
inductive R (α : Type) where
  | fail | ok (a : α) (st : Store) | exc (e : Exn) (st : Store)
def R.bind {α β : Type} : R α → (α → Store → R β) → R β
  | .fail, _ => .fail
  | .ok a st, k => k a st
  | .exc e st, _ => .exc e st
@[simp] theorem R.bind_ok {α β : Type} (a : α) (st : Store) (k : α → Store → R β) : (R.ok a st).bind k = k a st := rfl
@[simp] theorem R.bind_fail {α β : Type} (k : α → Store → R β) : (R.fail : R α).bind k = .fail := rfl
@[simp] theorem R.bind_exc {α β : Type} (e : Exn) (st : Store) (k : α → Store → R β) : (R.exc e st : R α).bind k = .exc e st := rfl

/-! ### how values lie in the heap -/
/-- a list that is read alone: no place of ours, or a written one -/
def RoL (K : PySem.W.Frag) (ρ : List Addr) (H : Hp) (a : Addr) (vs : List V) : Prop :=
  (Rd H a (.lst vs) ∧ a ∉ ρ) ∨ (SqL K (fun _ => none) a vs)
theorem RoL.sq {K : PySem.W.Frag} {ρ : List Addr} {H : Hp} {a : Addr} {vs : List V} (h : RoL K ρ H a vs) : SqL K H a vs := by
  rcases h with ⟨h, _⟩ | h
  · exact .inl h
  · rcases h with (h | ⟨_, h⟩) | h
    · cases h
    · cases h
    · exact .inr h
section
variable (K : PySem.W.Frag) (mg : Str → Option Value)
mutual
inductive Rep (ρ : List Addr) (H : Hp) : D → V → Prop where
  | non : Rep ρ H .non .non
  | bl (b : Bool) : Rep ρ H (.bl b) (.bl b)
  | int (i : Int) : Rep ρ H (.int i) (.int i)
  | str (s : Str) : Rep ρ H (.str s) (.str s)
  | ty (t : Ty) : Rep ρ H (.ty t) (.ty t.nm)
  | tup {a : Addr} {ds : List D} {vs : List V} : H a = some (.tup vs) → Reps ρ H ds vs → Rep ρ H (.tup ds) (.ref a)
  | rol {a : Addr} {ds : List D} {vs : List V} : RoL K ρ H a vs → Reps ρ H ds vs → Rep ρ H (.rol ds) (.ref a)
  | loc {n : Nat} {a : Addr} : ρ[n]? = some a → Rep ρ H (.loc n) (.ref a)
  | fn {x : Str} {a : Addr} : mg x = some (.ref a) → Rep ρ H (.fn x) (.ref a)
inductive Reps (ρ : List Addr) (H : Hp) : List D → List V → Prop where
  | nil : Reps ρ H [] []
  | cons {d : D} {v : V} {ds : List D} {vs : List V} : Rep ρ H d v → Reps ρ H ds vs → Reps ρ H (d :: ds) (v :: vs)
end
/-- a key of a dict: an int, a text, a tuple of these -/
def keyD : D → Option Key
  | .int i => some (.inl i)
  | .str s => some (.inr s)
  | _ => none
def keysD : List D → Option (List Key)
  | [] => some []
  | d :: ds => match keyD d, keysD ds with
    | some k, some ks => some (k :: ks)
    | _, _ => none
def CellR (ρ : List Addr) (H : Hp) : Cell → HO → Prop
  | .lst xs, o => ∃ vs, o = .lst vs ∧ Reps K mg ρ H xs vs
  | .dct kvs, o => (∃ ps : List (Key × V), o = .dK ps ∧ Paired (fun (p : D × D) (q : Key × V) => keyD p.1 = some q.1 ∧ Rep K mg ρ H p.2 q.2) kvs ps) ∨
      (∃ ps : List (List Key × V), o = .dT ps ∧ Paired (fun (p : D × D) (q : List Key × V) => (∃ ds, p.1 = .tup ds ∧ keysD ds = some q.1) ∧ Rep K mg ρ H p.2 q.2) kvs ps)
  | .obj c fs, o => ∃ C dx vs, o = .ins C dx vs ∧ mg c = some (.ref C) ∧ Paired (fun (p : Str × D) (q : Str × V) => p.1 = q.1 ∧ Rep K mg ρ H p.2 q.2) fs vs
  | .lck c, o => ∃ ob u, o = .frz ob u ∧ CellR ρ H c u
structure SR (ρ : List Addr) (st : Store) (H : Hp) : Prop where
  len : ρ.length = st.length
  nd : ρ.Nodup
  at' : ∀ (n : Nat) (c : Cell), st[n]? = some c → ∃ a o, ρ[n]? = some a ∧ H a = some o ∧ CellR K mg ρ H c o
structure EnvR (ρ : List Addr) (H : Hp) (σd : Sig) (σ : St) : Prop where
  len : σd.length = σ.length
  at' : ∀ (i : Nat) (d : D), σd[i]? = some (some d) → ∃ v, σ[i]? = some (some v) ∧ Rep K mg ρ H d v
end
/-- a step of the heap: places are added, what is no place stays -/
structure Stp (ρ : List Addr) (H : Hp) (ρ' : List Addr) (H' : Hp) : Prop where
  pre : ∃ l, ρ' = ρ ++ l ∧ ∀ a ∈ l, H a = none
  keep : ∀ a o, H a = some o → a ∉ ρ → H' a = some o
  there : ∀ a, H a ≠ none → H' a ≠ none

section
variable {K : PySem.W.Frag} {mg : Str → Option Value} {ρ ρ1 ρ' ρ2 : List Addr} {H H1 H' H2 : Hp} {st st' : Store}
theorem Stp.refl : Stp ρ H ρ H := ⟨⟨[], by simp, by simp⟩, fun _ _ h _ => h, fun _ h => h⟩
theorem Stp.trans (a : Stp ρ H ρ1 H1) (b : Stp ρ1 H1 ρ2 H2) : Stp ρ H ρ2 H2 := by
  obtain ⟨l1, e1, f1⟩ := a.pre
  obtain ⟨l2, e2, f2⟩ := b.pre
  refine ⟨⟨l1 ++ l2, by rw [e2, e1, List.append_assoc], fun x hx => ?_⟩, fun x o hx hn => ?_, fun x hx => b.there x (a.there x hx)⟩
  · rcases List.mem_append.mp hx with hx | hx
    · exact f1 x hx
    · cases q : H x with
      | none => rfl
      | some o => exact absurd (f2 x hx) (a.there x (by rw [q]; simp))
  · refine b.keep x o (a.keep x o hx hn) ?_
    rw [e1]
    intro hm
    rcases List.mem_append.mp hm with hm | hm
    · exact hn hm
    · rw [f1 x hm] at hx; cases hx
theorem Stp.get (a : Stp ρ H ρ' H') {n : Nat} {x : Addr} (h : ρ[n]? = some x) : ρ'[n]? = some x := by
  obtain ⟨l, e, _⟩ := a.pre
  have hn : n < ρ.length := (List.getElem?_eq_some_iff.mp h).1
  rw [e, List.getElem?_append_left hn]
  exact h
theorem Stp.out (a : Stp ρ H ρ' H') {x : Addr} {o : HO} (hx : H x = some o) (hn : x ∉ ρ) : x ∉ ρ' := by
  obtain ⟨l, e, f⟩ := a.pre
  rw [e]
  intro hm
  rcases List.mem_append.mp hm with hm | hm
  · exact hn hm
  · rw [f x hm] at hx; cases hx
/-- no place holds a tuple -/
theorem CellR.notTup : ∀ {c : Cell} {o : HO}, CellR K mg ρ H c o → ∀ vs, o ≠ .tup vs ∧ ∀ ob, o ≠ .frz ob (.tup vs)
  | .lst _, _, h, vs => by obtain ⟨_, rfl, _⟩ := h; exact ⟨(fun z => nomatch z), (fun _ z => nomatch z)⟩
  | .dct _, _, h, vs => by
    rcases h with ⟨_, rfl, _⟩ | ⟨_, rfl, _⟩
    · exact ⟨(fun z => nomatch z), (fun _ z => nomatch z)⟩
    · exact ⟨(fun z => nomatch z), (fun _ z => nomatch z)⟩
  | .obj _ _, _, h, vs => by obtain ⟨_, _, _, rfl, _⟩ := h; exact ⟨(fun z => nomatch z), (fun _ z => nomatch z)⟩
  | .lck c, _, h, vs => by
    obtain ⟨ob, u, rfl, h⟩ := h
    refine ⟨(fun z => nomatch z), fun ob2 z => ?_⟩
    cases z
    exact (CellR.notTup (c := c) h vs).1 rfl
theorem SR.mem (S : SR K mg ρ st H) {a : Addr} (h : a ∈ ρ) : ∃ (n : Nat) (c : Cell) (o : HO), ρ[n]? = some a ∧ st[n]? = some c ∧ H a = some o ∧ CellR K mg ρ H c o := by
  obtain ⟨n, hn⟩ := List.getElem?_of_mem h
  have hl : n < st.length := by rw [← S.len]; exact (List.getElem?_eq_some_iff.mp hn).1
  obtain ⟨a', o, e1, e2, e3⟩ := S.at' n st[n] (by simp [hl])
  rw [hn] at e1; cases e1
  exact ⟨n, st[n], o, hn, by simp [hl], e2, e3⟩
theorem SR.tupOut (S : SR K mg ρ st H) {a : Addr} {vs : List V} (h : Rd H a (.tup vs)) : a ∉ ρ := fun hm => by
  obtain ⟨n, c, o, _, _, e, hc⟩ := S.mem hm
  rcases h with h | ⟨ob, h⟩
  · rw [h] at e; cases e; exact (hc.notTup vs).1 rfl
  · rw [h] at e; cases e; exact (hc.notTup vs).2 ob rfl
theorem Rd.stp (a : Stp ρ H ρ' H') {x : Addr} {u : HO} (h : Rd H x u) (hn : x ∉ ρ) : Rd H' x u := by
  rcases h with h | ⟨ob, h⟩
  · exact .inl (a.keep _ _ h hn)
  · exact .inr ⟨ob, a.keep _ _ h hn⟩
theorem SqT.stp (S : SR K mg ρ st H) (a : Stp ρ H ρ' H') {x : Addr} {vs : List V} (h : SqT K H x vs) : SqT K H' x vs := by
  rcases h with h | h
  · exact .inl (Rd.stp a h (S.tupOut h))
  · exact .inr h
theorem Rd.outs (a : Stp ρ H ρ' H') {x : Addr} {u : HO} (h : Rd H x u) (hn : x ∉ ρ) : x ∉ ρ' := by
  rcases h with h | ⟨ob, h⟩
  · exact a.out h hn
  · exact a.out h hn
theorem RoL.stp (a : Stp ρ H ρ' H') {x : Addr} {vs : List V} (h : RoL K ρ H x vs) : RoL K ρ' H' x vs := by
  rcases h with ⟨h, n⟩ | h
  · exact .inl ⟨Rd.stp a h n, Rd.outs a h n⟩
  · exact .inr h
mutual
theorem Rep.stp (S : SR K mg ρ st H) (a : Stp ρ H ρ' H') : ∀ {d : D} {v : V}, Rep K mg ρ H d v → Rep K mg ρ' H' d v
  | _, _, .non => .non
  | _, _, .bl b => .bl b
  | _, _, .int i => .int i
  | _, _, .str s => .str s
  | _, _, .ty t => .ty t
  | _, _, .tup h r => .tup (a.keep _ _ h (S.tupOut (.inl h))) (Reps.stp S a r)
  | _, _, .rol h r => .rol (RoL.stp a h) (Reps.stp S a r)
  | _, _, .loc h => .loc (a.get h)
  | _, _, .fn h => .fn h
theorem Reps.stp (S : SR K mg ρ st H) (a : Stp ρ H ρ' H') : ∀ {ds : List D} {vs : List V}, Reps K mg ρ H ds vs → Reps K mg ρ' H' ds vs
  | _, _, .nil => .nil
  | _, _, .cons h r => .cons (Rep.stp S a h) (Reps.stp S a r)
end
theorem Paired.mapR {α β : Type} {F F' : α → β → Prop} : ∀ {l₁ : List α} {l₂ : List β}, Paired F l₁ l₂ → (∀ x y, F x y → F' x y) → Paired F' l₁ l₂
  | _, _, .nil, _ => .nil
  | _, _, .cons r t, f => .cons (f _ _ r) (Paired.mapR t f)
theorem CellR.stp (S : SR K mg ρ st H) (a : Stp ρ H ρ' H') : ∀ {c : Cell} {o : HO}, CellR K mg ρ H c o → CellR K mg ρ' H' c o
  | .lst _, _, h => by obtain ⟨vs, e, r⟩ := h; exact ⟨vs, e, Reps.stp S a r⟩
  | .dct _, _, h => by
    rcases h with ⟨ps, e, r⟩ | ⟨ps, e, r⟩
    · exact .inl ⟨ps, e, Paired.mapR r fun _ _ q => ⟨q.1, Rep.stp S a q.2⟩⟩
    · exact .inr ⟨ps, e, Paired.mapR r fun _ _ q => ⟨q.1, Rep.stp S a q.2⟩⟩
  | .obj _ _, _, h => by
    obtain ⟨C, dx, vs, e, m, r⟩ := h
    exact ⟨C, dx, vs, e, m, Paired.mapR r fun _ _ q => ⟨q.1, Rep.stp S a q.2⟩⟩
  | .lck c, _, h => by
    obtain ⟨ob, u, e, h⟩ := h
    exact ⟨ob, u, e, CellR.stp S a (c := c) h⟩
theorem EnvR.stp (S : SR K mg ρ st H) (a : Stp ρ H ρ' H') {σd : Sig} {σ : L2.St} (E : EnvR K mg ρ H σd σ) : EnvR K mg ρ' H' σd σ :=
  ⟨E.len, fun i d h => let ⟨v, e, r⟩ := E.at' i d h; ⟨v, e, Rep.stp S a r⟩⟩
/-- places unlike -/
theorem SR.inj (S : SR K mg ρ st H) {m n : Nat} {a : Addr} (h : ρ[m]? = some a) (h' : ρ[n]? = some a) : m = n := by
  have h1 := List.getElem?_eq_some_iff.mp h
  have h2 := List.getElem?_eq_some_iff.mp h'
  exact (List.getElem_inj S.nd).mp (h1.2.trans h2.2.symm)
/-- a new place: what lies there is told over the grown heap -/
theorem SR.new (S : SR K mg ρ st H) {a : Addr} {o : HO} {c : Cell} (ha : H a = none) (hc : CellR K mg (ρ ++ [a]) (upd H a o) c o) :
    SR K mg (ρ ++ [a]) (st ++ [c]) (upd H a o) ∧ Stp ρ H (ρ ++ [a]) (upd H a o) := by
  have hna : a ∉ ρ := fun hm => by
    obtain ⟨_, _, o', _, _, e, _⟩ := S.mem hm
    rw [ha] at e; cases e
  have stp : Stp ρ H (ρ ++ [a]) (upd H a o) := by
    refine ⟨⟨[a], rfl, fun x hx => by simp at hx; rw [hx]; exact ha⟩, fun x u hx _ => ?_, fun x hx => ?_⟩
    · rw [upd_ne (ne_of_none hx ha)]; exact hx
    · by_cases e : x = a
      · rw [e, upd_same]; simp
      · rw [upd_ne e]; exact hx
  refine ⟨⟨by simp [S.len], ?_, fun n c' h => ?_⟩, stp⟩
  · rw [List.nodup_append]
    exact ⟨S.nd, by simp, fun x hx y hy => by simp at hy; rintro rfl; exact hna (hy ▸ hx)⟩
  · by_cases hn : n < st.length
    · rw [List.getElem?_append_left hn] at h
      obtain ⟨b, u, e1, e2, e3⟩ := S.at' n c' h
      refine ⟨b, u, stp.get e1, ?_, CellR.stp S stp e3⟩
      rw [upd_ne (ne_of_none e2 ha)]; exact e2
    · have hn' : n = st.length := by
        have := (List.getElem?_eq_some_iff.mp h).1
        simp at this; omega
      subst hn'
      simp at h
      subst h
      exact ⟨a, o, by rw [← S.len]; simp, upd_same, hc⟩
/-- what lies at a place is changed -/
theorem SR.put (S : SR K mg ρ st H) {n : Nat} {a : Addr} {c c' : Cell} {o : HO} (hn : ρ[n]? = some a) (h0 : st[n]? = some c) (hc : CellR K mg ρ (upd H a o) c' o) :
    SR K mg ρ (st.set n c') (upd H a o) ∧ Stp ρ H ρ (upd H a o) := by
  have stp : Stp ρ H ρ (upd H a o) := by
    refine ⟨⟨[], by simp, by simp⟩, fun x u hx hn' => ?_, fun x hx => ?_⟩
    · rw [upd_ne (fun e => hn' (by rw [e]; exact List.mem_of_getElem? hn))]; exact hx
    · by_cases e : x = a
      · rw [e, upd_same]; simp
      · rw [upd_ne e]; exact hx
  refine ⟨⟨by simp [S.len], S.nd, fun m c2 h => ?_⟩, stp⟩
  by_cases hm : m = n
  · subst hm
    have hl : m < st.length := (List.getElem?_eq_some_iff.mp h0).1
    rw [List.getElem?_set_self hl] at h
    cases h
    exact ⟨a, o, hn, upd_same, hc⟩
  · rw [List.getElem?_set_ne (fun e => hm e.symm)] at h
    obtain ⟨b, u, e1, e2, e3⟩ := S.at' m c2 h
    refine ⟨b, u, e1, ?_, CellR.stp S stp e3⟩
    rw [upd_ne (fun e => hm (S.inj (by rw [← e]; exact e1) hn))]
    exact e2
end
end G

/-! G2: what is wanted behind a run, and the hand layer's judgements with runs in the place of readings. -/
namespace G
open PySem L2

abbrev ME := Sig → Store → R D
abbrev MT := Sig → Store → R Bool
abbrev MA := Sig → Store → R (List D)
abbrev MO := Sig → Store → R (Option Int)
/-- where a statement leads -/
inductive Fl where
  | nx (σ : Sig) | bk (σ : Sig) | ct (σ : Sig) | rt (d : D)
abbrev MS := Sig → Store → R Fl
abbrev MG := D → Sig → Store → R Sig

section
variable (K : PySem.W.Frag) (mg : Str → Option Value)
/-- an exception as it lies: its class, its own dict -/
def ExcR (ρ : List Addr) (H : Hp) (e : Exn) (cls : Value) (dd : Option Addr) : Prop :=
  ∃ C, mg e.cls = some (.ref C) ∧ cls = .ref C ∧ ((e.fs = [] ∧ dd = none) ∨ ∃ d vs, dd = some d ∧ H d = some (.xd vs) ∧ Paired (fun (p : Str × D) (q : Str × V) => p.1 = q.1 ∧ Rep K mg ρ H p.2 q.2) e.fs vs)
/-- what is wanted of a value and a store -/
def Cont {α β : Type} (Rl : List Addr → Hp → α → β → Prop) (ρ : List Addr) (H : Hp) (d : α) (st' : Store) (Q : β → Hp → Prop) : Prop :=
  ∀ v H' ρ', Stp ρ H ρ' H' → SR K mg ρ' st' H' → Rl ρ' H' d v → Q v H'
def ContX (W : WX) (σ : L2.St) (ρ : List Addr) (H : Hp) (e : Exn) (st' : Store) : Prop :=
  ∀ cls dd H' ρ', Stp ρ H ρ' H' → SR K mg ρ' st' H' → ExcR K mg ρ' H' e cls dd → W cls dd σ H'
def Post {α β : Type} (Rl : List Addr → Hp → α → β → Prop) (W : WX) (σ : L2.St) (ρ : List Addr) (H : Hp) (r : R α) (Q : β → Hp → Prop) : Prop :=
  match r with
  | .fail => False
  | .ok d st' => Cont K mg Rl ρ H d st' Q
  | .exc e st' => ContX K mg W σ ρ H e st'
end
section
variable {K : PySem.W.Frag} {mg : Str → Option Value} {W : WX} {σ : L2.St} {ρ ρ1 : List Addr} {H H1 : Hp} {st st' : Store}
theorem Cont.mono {α β : Type} {Rl : List Addr → Hp → α → β → Prop} {d : α} {Q Q' : β → Hp → Prop} (h : Cont K mg Rl ρ H d st' Q) (q : ∀ v H', Q v H' → Q' v H') : Cont K mg Rl ρ H d st' Q' :=
  fun v H' ρ' a b c => q v H' (h v H' ρ' a b c)
theorem Cont.stp {α β : Type} {Rl : List Addr → Hp → α → β → Prop} {d : α} {Q : β → Hp → Prop} (h : Cont K mg Rl ρ H d st' Q) (a : Stp ρ H ρ1 H1) : Cont K mg Rl ρ1 H1 d st' Q :=
  fun v H' ρ' b c e => h v H' ρ' (a.trans b) c e
theorem ContX.stp {e : Exn} (h : ContX K mg W σ ρ H e st') (a : Stp ρ H ρ1 H1) : ContX K mg W σ ρ1 H1 e st' :=
  fun cls dd H' ρ' b c x => h cls dd H' ρ' (a.trans b) c x
theorem Post.mono {α β : Type} {Rl : List Addr → Hp → α → β → Prop} {r : R α} {Q Q' : β → Hp → Prop} (h : Post K mg Rl W σ ρ H r Q) (q : ∀ v H', Q v H' → Q' v H') : Post K mg Rl W σ ρ H r Q' := by
  cases r with
  | fail => exact h
  | ok d s => exact Cont.mono h q
  | exc e s => exact h
theorem Post.stp {α β : Type} {Rl : List Addr → Hp → α → β → Prop} {r : R α} {Q : β → Hp → Prop} (h : Post K mg Rl W σ ρ H r Q) (a : Stp ρ H ρ1 H1) : Post K mg Rl W σ ρ1 H1 r Q := by
  cases r with
  | fail => exact h
  | ok d s => exact Cont.stp h a
  | exc e s => exact ContX.stp h a
/-- the first of two runs -/
theorem Post.bnd {α β γ δ : Type} {Rl : List Addr → Hp → α → β → Prop} {Rm : List Addr → Hp → γ → δ → Prop} {r : R α} {k : α → Store → R γ} {Q : δ → Hp → Prop} (h : Post K mg Rm W σ ρ H (r.bind k) Q) :
    Post K mg Rl W σ ρ H r fun v H1 => ∃ d st1 ρ1, r = .ok d st1 ∧ Stp ρ H ρ1 H1 ∧ SR K mg ρ1 st1 H1 ∧ Rl ρ1 H1 d v ∧ Post K mg Rm W σ ρ1 H1 (k d st1) Q := by
  cases r with
  | fail => exact h
  | exc e s => exact h
  | ok d s => exact fun v H1 ρ1 a b c => ⟨d, s, ρ1, rfl, a, b, c, Post.stp h a⟩
end

/-! ### runs as readings -/
section
variable (X : Cx) (W : WX)
def tR {α β : Type} (Rl : List Addr → Hp → α → β → Prop) (m : Sig → Store → R α) : L2.St → Hp → (β → Hp → Prop) → Prop := fun σ H Q =>
  ∃ ρ st σd, SR X.K X.mg ρ st H ∧ EnvR X.K X.mg ρ H σd σ ∧ Post X.K X.mg Rl W σ ρ H (m σd st) Q
abbrev tM (m : ME) : TE := tR X W (Rep X.K X.mg) m
abbrev tMT (m : MT) : TT := tR X W (fun _ _ a b => a = b) m
abbrev tMA (m : MA) : TA := tR X W (Reps X.K X.mg) m
abbrev tMO (m : MO) : TO := tR X W (fun _ _ a b => a = b) m
def tMS (m : MS) : TS := fun D σ H => ∃ ρ st σd, SR X.K X.mg ρ st H ∧ EnvR X.K X.mg ρ H σd σ ∧ match m σd st with
  | .fail => False
  | .exc e st' => ContX X.K X.mg W σ ρ H e st'
  | .ok (.nx σd') st' => ∀ σ' H' ρ', Stp ρ H ρ' H' → SR X.K X.mg ρ' st' H' → EnvR X.K X.mg ρ' H' σd' σ' → D.nx σ' H'
  | .ok (.bk σd') st' => ∀ σ' H' ρ', Stp ρ H ρ' H' → SR X.K X.mg ρ' st' H' → EnvR X.K X.mg ρ' H' σd' σ' → D.bk σ' H'
  | .ok (.ct σd') st' => ∀ σ' H' ρ', Stp ρ H ρ' H' → SR X.K X.mg ρ' st' H' → EnvR X.K X.mg ρ' H' σd' σ' → D.ct σ' H'
  | .ok (.rt d) st' => Cont X.K X.mg (Rep X.K X.mg) ρ H d st' D.rt
abbrev GE (e : Expr) (m : ME) : Prop := PE X e (tM X W m)
abbrev GT (e : Expr) (m : MT) : Prop := PT X e (tMT X W m)
abbrev GW (e : Expr) (m : MT) : Prop := PW X e (tMT X W m)
abbrev GA (es : List Expr) (m : MA) : Prop := PA X es (tMA X W m)
abbrev GO (e : Option Expr) (m : MO) : Prop := PO X e (tMO X W m)
abbrev GS (s : Stmt) (m : MS) : Prop := PS X s (tMS X W m)
abbrev GSs (s : List Stmt) (m : MS) : Prop := PSs X s (tMS X W m)
end
section
variable {X : Cx} {W : WX} {e : Expr} {es : List Expr} {st : Stmt} {sts : List Stmt}
theorem PE.imp {t t' : TE} (h : PE X e t) (i : ∀ σ H Q, t' σ H Q → t σ H Q) : PE X e t' := ⟨fun pins s σ H Q I q => h.run pins s σ H Q I (i σ H Q q)⟩
theorem PT.imp {t t' : TT} (h : PT X e t) (i : ∀ σ H Q, t' σ H Q → t σ H Q) : PT X e t' := ⟨fun pins s σ H Q I q => h.run pins s σ H Q I (i σ H Q q)⟩
theorem PW.imp {t t' : TT} (h : PW X e t) (i : ∀ σ H Q, t' σ H Q → t σ H Q) : PW X e t' := ⟨fun wh pins s σ H Q I q => h.run wh pins s σ H Q I (i σ H Q q)⟩
theorem PA.imp {t t' : TA} (h : PA X es t) (i : ∀ σ H Q, t' σ H Q → t σ H Q) : PA X es t' := ⟨fun p pins s σ H Q I q => h.run p pins s σ H Q I (i σ H Q q)⟩
theorem PS.imp {t t' : TS} (h : PS X st t) (i : ∀ D σ H, t' D σ H → t D σ H) : PS X st t' := ⟨fun pins s σ H D I q => h.run pins s σ H D I (i D σ H q)⟩
theorem PSs.imp {t t' : TS} (h : PSs X sts t) (i : ∀ D σ H, t' D σ H → t D σ H) : PSs X sts t' := ⟨fun pins s σ H D I q => h.run pins s σ H D I (i D σ H q)⟩
theorem PO.imp {o : Option Expr} {t t' : TO} (h : PO X o t) (i : ∀ σ H Q, t' σ H Q → t σ H Q) : PO X o t' := ⟨fun pins s σ H Q I q => h.run pins s σ H Q I (i σ H Q q)⟩
theorem tR.nofail {α β : Type} {Rl : List Addr → Hp → α → β → Prop} {σ : L2.St} {H : Hp} {Q : β → Hp → Prop} (h : tR X W Rl (fun _ _ => .fail) σ H Q) : False := let ⟨_, _, _, _, _, q⟩ := h; q
theorem ge_fail : GE X W e fun _ _ => .fail := ⟨fun _ _ _ _ _ _ h => h.nofail.elim⟩
theorem gt_fail : GT X W e fun _ _ => .fail := ⟨fun _ _ _ _ _ _ h => h.nofail.elim⟩
theorem gw_fail : GW X W e fun _ _ => .fail := ⟨fun _ _ _ _ _ _ _ h => h.nofail.elim⟩
theorem ga_fail : GA X W es fun _ _ => .fail := ⟨fun _ _ _ _ _ _ _ h => h.nofail.elim⟩
theorem go_fail {o : Option Expr} : GO X W o fun _ _ => .fail := ⟨fun _ _ _ _ _ _ h => h.nofail.elim⟩
theorem gs_fail : GS X W st fun _ _ => .fail := ⟨fun _ _ _ _ _ _ h => let ⟨_, _, _, _, _, q⟩ := h; q.elim⟩
theorem gss_fail : GSs X W sts fun _ _ => .fail := ⟨fun _ _ _ _ _ _ h => let ⟨_, _, _, _, _, q⟩ := h; q.elim⟩
/-- the pattern of all that follows: a run's first part, then what comes behind -/
theorem tR.bnd {α β γ δ : Type} {Rl : List Addr → Hp → α → β → Prop} {Rm : List Addr → Hp → γ → δ → Prop} {m : Sig → Store → R α} {k : α → Store → R γ} {σ : L2.St} {H : Hp} {ρ : List Addr} {st : Store} {σd : Sig} {Q : δ → Hp → Prop} {Q1 : β → Hp → Prop}
    (S : SR X.K X.mg ρ st H) (E : EnvR X.K X.mg ρ H σd σ) (P : Post X.K X.mg Rm W σ ρ H ((m σd st).bind k) Q)
    (h : ∀ v H1 d st1 ρ1, m σd st = .ok d st1 → Stp ρ H ρ1 H1 → SR X.K X.mg ρ1 st1 H1 → EnvR X.K X.mg ρ1 H1 σd σ → Rl ρ1 H1 d v → Post X.K X.mg Rm W σ ρ1 H1 (k d st1) Q → Q1 v H1) :
    tR X W Rl m σ H Q1 := ⟨ρ, st, σd, S, E, (P.bnd (Rl := Rl)).mono fun v H1 ⟨d, st1, ρ1, e, a, b, c, p⟩ => h v H1 d st1 ρ1 e a b (E.stp S a) c p⟩
end

/-! ### operations by values -/
/-- what an operation gives: a value and a store, or nothing -/
abbrev Op1 := D → Store → Option (D × Store)
abbrev Op2 := D → D → Store → Option (D × Store)
abbrev OpN := List D → Store → Option (D × Store)
def lift {α : Type} : Option (α × Store) → R α
  | some (d, st) => .ok d st
  | none => .fail
section
variable (X : Cx)
def rG1 (g : Op1) : V → Hp → VK → Prop := fun x H Q => ∃ ρ st dx d st', SR X.K X.mg ρ st H ∧ Rep X.K X.mg ρ H dx x ∧ g dx st = some (d, st') ∧ Cont X.K X.mg (Rep X.K X.mg) ρ H d st' Q
def rG2 (g : Op2) : R2 := fun x y H Q => ∃ ρ st dx dy d st', SR X.K X.mg ρ st H ∧ Rep X.K X.mg ρ H dx x ∧ Rep X.K X.mg ρ H dy y ∧ g dx dy st = some (d, st') ∧ Cont X.K X.mg (Rep X.K X.mg) ρ H d st' Q
def rGN (g : OpN) : List V → Hp → VK → Prop := fun xs H Q => ∃ ρ st ds d st', SR X.K X.mg ρ st H ∧ Reps X.K X.mg ρ H ds xs ∧ g ds st = some (d, st') ∧ Cont X.K X.mg (Rep X.K X.mg) ρ H d st' Q
def rGM (g : D → OpN) : V → List V → Hp → VK → Prop := fun x xs H Q => ∃ ρ st dx ds d st', SR X.K X.mg ρ st H ∧ Rep X.K X.mg ρ H dx x ∧ Reps X.K X.mg ρ H ds xs ∧ g dx ds st = some (d, st') ∧ Cont X.K X.mg (Rep X.K X.mg) ρ H d st' Q
end
section
variable {X : Cx}
theorem OpR.imp {f : Value → Value → Sem Value} {r r' : R2} (h : OpR X f r) (i : ∀ x y H Q, r' x y H Q → r x y H Q) : OpR X f r' := fun pins s σ H x y v u Q I rx ry q => h pins s σ H x y v u Q I rx ry (i x y H Q q)
theorem UnR.imp {f : Value → Sem Value} {r r' : V → Hp → VK → Prop} (h : UnR X f r) (i : ∀ x H Q, r' x H Q → r x H Q) : UnR X f r' := fun pins s σ H x v Q I rx q => h pins s σ H x v Q I rx (i x H Q q)
theorem CallR.imp {f : Value} {r r' : List V → Hp → VK → Prop} (h : CallR X f r) (i : ∀ xs H Q, r' xs H Q → r xs H Q) : CallR X f r' := fun pins s σ H xs us Q I rx q => h pins s σ H xs us Q I rx (i xs H Q q)
theorem MtR.imp {id : String} {r r' : V → List V → Hp → VK → Prop} (h : MtR X id r) (i : ∀ x xs H Q, r' x xs H Q → r x xs H Q) : MtR X id r' := fun pins s σ H x xs v us Q I r1 r2 q => h pins s σ H x xs v us Q I r1 r2 (i x xs H Q q)
theorem IxR.imp {r r' : R2} (h : IxR X r) (i : ∀ x y H Q, r' x y H Q → r x y H Q) : IxR X r' := fun a b pins s σ H x y v u Q I rx ry q => h a b pins s σ H x y v u Q I rx ry (i x y H Q q)
end

/-! ### expressions -/
section
variable {X : Cx} {W : WX} {a b c : Expr} {es : List Expr} {pos : Pos} {ma mb mc : ME} {mt mu : MT}
def mC (d : D) : ME := fun _ st => .ok d st
def mVar (i : Nat) : ME := fun σ st => match σ[i]? with
  | some (some d) => .ok d st
  | _ => .fail
theorem ge_const {v : V} {d : D} {e : Expr} (h : PE X e (tC v)) (r : ∀ ρ H, Rep X.K X.mg ρ H d v) : GE X W e (mC d) :=
  PE.imp h fun σ H Q ⟨ρ, st, σd, S, E, P⟩ => P v H ρ Stp.refl S (r ρ H)
theorem ge_var {i : Nat} {x : Str} (h : PE X (.Name x pos) (tVar i)) : GE X W (.Name x pos) (mVar i) :=
  PE.imp h fun σ H Q ⟨ρ, st, σd, S, E, P⟩ => by
    unfold mVar at P
    split at P
    · rename_i d hd
      obtain ⟨v, e, r⟩ := E.at' i d hd
      exact ⟨v, e, P v H ρ Stp.refl S r⟩
    · exact P.elim
def mBin (g : Op2) (ma mb : ME) : ME := fun σ st => (ma σ st).bind fun x st1 => (mb σ st1).bind fun y st2 => lift (g x y st2)
def mUn (g : Op1) (ma : ME) : ME := fun σ st => (ma σ st).bind fun x st1 => lift (g x st1)
theorem Post.lift {σ : L2.St} {ρ : List Addr} {H : Hp} {o : Option (D × Store)} {Q : VK} (P : Post X.K X.mg (Rep X.K X.mg) W σ ρ H (G.lift o) Q) : ∃ d st', o = some (d, st') ∧ Cont X.K X.mg (Rep X.K X.mg) ρ H d st' Q := by
  cases o with
  | none => exact P.elim
  | some p => exact ⟨p.1, p.2, rfl, P⟩
theorem ge_bin2 {g : Op2} (ha : GE X W a ma) (hb : GE X W b mb) {e : Expr} (h : PE X e (tOp (rG2 X g) (tM X W ma) (tM X W mb))) : GE X W e (mBin g ma mb) :=
  PE.imp h fun σ H Q ⟨ρ, st, σd, S, E, P⟩ => tR.bnd S E P fun x H1 dx st1 ρ1 _ _ S1 E1 R1 P1 => tR.bnd S1 E1 P1 fun y H2 dy st2 ρ2 _ a2 S2 E2 R2 P2 => by
    obtain ⟨d, st', e, q⟩ := P2.lift
    exact ⟨ρ2, st2, dx, dy, d, st', S2, R1.stp S1 a2, R2, e, q⟩
theorem ge_bin {op : Operator} {g : Op2} (ho : OpR X (binaryOp op) (rG2 X g)) (ha : GE X W a ma) (hb : GE X W b mb) : GE X W (.BinOp a op b pos) (mBin g ma mb) := ge_bin2 ha hb (pe_op ho ha hb)
theorem ge_cmp {op : CmpOp} {g : Op2} (ho : OpR X (compareOp op) (rG2 X g)) (ha : GE X W a ma) (hb : GE X W b mb) (hm : behindInMarks op b = false) : GE X W (.Compare a [op] [b] pos) (mBin g ma mb) := ge_bin2 ha hb (pe_cmpR ho ha hb hm)
theorem ge_un {op : UnaryOp} {g : Op1} (ho : UnR X (unaryOp op) (rG1 X g)) (ha : GE X W a ma) : GE X W (.UnaryOp op a pos) (mUn g ma) :=
  PE.imp (pe_un ho ha) fun σ H Q ⟨ρ, st, σd, S, E, P⟩ => tR.bnd S E P fun x H1 dx st1 ρ1 _ _ S1 E1 R1 P1 => by
    obtain ⟨d, st', e, q⟩ := P1.lift
    exact ⟨ρ1, st1, dx, d, st', S1, R1, e, q⟩
/-- a value that has to be a truth, as a test -/
def mBl (m : ME) : MT := fun σ st => (m σ st).bind fun d st1 => match d with
  | .bl b => .ok b st1
  | _ => .fail
theorem tM_bl {σ : L2.St} {H : Hp} {Q : Bool → Hp → Prop} (h : tMT X W (mBl ma) σ H Q) : tM X W ma σ H fun x H' => ∃ k, x = .bl k ∧ Q k H' := by
  obtain ⟨ρ, st, σd, S, E, P⟩ := h
  refine tR.bnd S E P fun x H1 dx st1 ρ1 _ _ S1 E1 R1 P1 => ?_
  cases dx <;> first
    | exact P1.elim
    | (cases R1
       exact ⟨_, rfl, P1 _ H1 ρ1 Stp.refl S1 rfl⟩)
theorem tOp_bl {g : Op2} {σ : L2.St} {H : Hp} {Q : Bool → Hp → Prop} (h : tMT X W (mBl (mBin g ma mb)) σ H Q) : tTest (tOp (rG2 X g) (tM X W ma) (tM X W mb)) σ H Q := by
  obtain ⟨ρ, st, σd, S, E, P⟩ := tM_bl h
  exact tR.bnd S E P fun x H1 dx st1 ρ1 _ _ S1 E1 R1 P1 => tR.bnd S1 E1 P1 fun y H2 dy st2 ρ2 _ a2 S2 E2 R2 P2 => by
    obtain ⟨d, st', e, q⟩ := P2.lift
    exact ⟨ρ2, st2, dx, dy, d, st', S2, R1.stp S1 a2, R2, e, q⟩
theorem gt_cmp {op : CmpOp} {g : Op2} (ho : OpR X (compareOp op) (rG2 X g)) (ha : GE X W a ma) (hb : GE X W b mb) (hm : behindInMarks op b = false) : GT X W (.Compare a [op] [b] pos) (mBl (mBin g ma mb)) :=
  PT.imp (pt_cmpR ho ha hb hm) fun _ _ _ h => tOp_bl h
end
end G

/-! G3: truth, tests, displays, argument lists, calls of built-ins by values. -/
namespace G
open PySem L2

/-! ### lists and tuples as they are read -/
def lstD (d : D) (st : Store) : Option (List D) := match d with
  | .rol xs => some xs
  | .loc n => match st[n]? with
    | some (.lst xs) => some xs
    | _ => none
  | _ => none
def tupD (d : D) : Option (List D) := match d with
  | .tup xs => some xs
  | _ => none
section
variable {K : PySem.W.Frag} {mg : Str → Option Value} {ρ : List Addr} {H : Hp} {st : Store} {d : D} {v : V} {xs : List D}
theorem Reps.length : ∀ {xs : List D} {vs : List V}, Reps K mg ρ H xs vs → xs.length = vs.length
  | _, _, .nil => rfl
  | _, _, .cons _ r => congrArg (· + 1) (Reps.length r)
theorem Reps.get : ∀ {xs : List D} {vs : List V} {i : Nat} {d : D}, Reps K mg ρ H xs vs → xs[i]? = some d → ∃ v, vs[i]? = some v ∧ Rep K mg ρ H d v
  | _, _, _, _, .nil, e => by simp at e
  | _, _, 0, _, .cons h _, e => by simp at e; subst e; exact ⟨_, rfl, h⟩
  | _, _, i + 1, _, .cons _ r, e => by
    obtain ⟨v, h1, h2⟩ := Reps.get (i := i) r (by simpa using e)
    exact ⟨v, by simpa using h1, h2⟩
theorem Reps.append : ∀ {xs ys : List D} {vs ws : List V}, Reps K mg ρ H xs vs → Reps K mg ρ H ys ws → Reps K mg ρ H (xs ++ ys) (vs ++ ws)
  | _, _, _, _, .nil, s => s
  | _, _, _, _, .cons h r, s => .cons h (Reps.append r s)
theorem Reps.take : ∀ {xs : List D} {vs : List V} (n : Nat), Reps K mg ρ H xs vs → Reps K mg ρ H (xs.take n) (vs.take n)
  | _, _, 0, _ => by simp only [List.take_zero]; exact .nil
  | _, _, _ + 1, .nil => .nil
  | _, _, n + 1, .cons h r => .cons h (Reps.take n r)
theorem Reps.drop : ∀ {xs : List D} {vs : List V} (n : Nat), Reps K mg ρ H xs vs → Reps K mg ρ H (xs.drop n) (vs.drop n)
  | _, _, 0, r => r
  | _, _, _ + 1, .nil => .nil
  | _, _, n + 1, .cons _ r => Reps.drop n r
theorem Reps.set {d : D} {v : V} (h : Rep K mg ρ H d v) : ∀ {xs : List D} {vs : List V} (n : Nat), Reps K mg ρ H xs vs → Reps K mg ρ H (xs.set n d) (vs.set n v)
  | _, _, _, .nil => .nil
  | _, _, 0, .cons _ r => .cons h r
  | _, _, n + 1, .cons q r => .cons q (Reps.set h n r)
theorem Reps.reverse {xs : List D} {vs : List V} (h : Reps K mg ρ H xs vs) : Reps K mg ρ H xs.reverse vs.reverse := by
  induction xs generalizing vs with
  | nil => cases h; exact .nil
  | cons x r ih =>
    cases h with
    | cons h1 h2 =>
      rw [List.reverse_cons, List.reverse_cons]
      exact (ih h2).append (.cons h1 .nil)
theorem Reps.erase : ∀ {xs : List D} {vs : List V} (n : Nat), Reps K mg ρ H xs vs → Reps K mg ρ H (xs.eraseIdx n) (vs.eraseIdx n)
  | _, _, _, .nil => .nil
  | _, _, 0, .cons _ r => r
  | _, _, n + 1, .cons q r => .cons q (Reps.erase n r)
theorem Reps.dropLast {xs : List D} {vs : List V} (h : Reps K mg ρ H xs vs) : Reps K mg ρ H xs.dropLast vs.dropLast := by
  rw [List.dropLast_eq_take, List.dropLast_eq_take, h.length]
  exact h.take _
theorem lst_sq (S : SR K mg ρ st H) (r : Rep K mg ρ H d v) (e : lstD d st = some xs) : ∃ a vs, v = .ref a ∧ SqL K H a vs ∧ Reps K mg ρ H xs vs := by
  unfold lstD at e
  split at e
  · cases e
    cases r with
    | rol h q => exact ⟨_, _, rfl, h.sq, q⟩
  · rename_i n
    split at e
    · rename_i ys hy
      cases e
      cases r with
      | loc h =>
        obtain ⟨a, o, h1, h2, vs, rfl, q⟩ := S.at' n _ hy
        rw [h] at h1; cases h1
        exact ⟨_, vs, rfl, .inl (.inl h2), q⟩
    · cases e
  · cases e
/-- a list that may be changed -/
theorem loc_lst {n : Nat} (S : SR K mg ρ st H) (r : Rep K mg ρ H (.loc n) v) (e : st[n]? = some (.lst xs)) : ∃ a vs, v = .ref a ∧ ρ[n]? = some a ∧ H a = some (.lst vs) ∧ Reps K mg ρ H xs vs := by
  cases r with
  | loc h =>
    obtain ⟨a, o, h1, h2, vs, rfl, q⟩ := S.at' n _ e
    rw [h] at h1; cases h1
    exact ⟨_, vs, rfl, h, h2, q⟩
theorem tup_sq (r : Rep K mg ρ H (.tup xs) v) : ∃ a vs, v = .ref a ∧ SqT K H a vs ∧ Reps K mg ρ H xs vs := by
  cases r with
  | tup h q => exact ⟨_, _, rfl, .inl (.inl h), q⟩
theorem tup_at (r : Rep K mg ρ H (.tup xs) v) : ∃ a vs, v = .ref a ∧ H a = some (.tup vs) ∧ Reps K mg ρ H xs vs := by
  cases r with
  | tup h q => exact ⟨_, _, rfl, h, q⟩
/-- a new list, a new tuple -/
theorem new_lst {Q : VK} {vs : List V} (S : SR K mg ρ st H) (q : Reps K mg ρ H xs vs) (h : Cont K mg (Rep K mg) ρ H (.loc st.length) (st ++ [.lst xs]) Q) : ∀ p, H p = none → Q (.ref p) (upd H p (.lst vs)) := fun p hp => by
  have stp : Stp ρ H (ρ ++ [p]) (upd H p (.lst vs)) := by
    refine ⟨⟨[p], rfl, fun x hx => by simp at hx; rw [hx]; exact hp⟩, fun x u hx _ => ?_, fun x hx => ?_⟩
    · rw [upd_ne (ne_of_none hx hp)]; exact hx
    · by_cases e : x = p
      · rw [e, upd_same]; simp
      · rw [upd_ne e]; exact hx
  obtain ⟨S', s'⟩ := S.new (c := .lst xs) hp ⟨vs, rfl, Reps.stp S stp q⟩
  exact h _ _ _ s' S' (.loc (by rw [← S.len]; simp))
theorem stp_new {p : Addr} {o : HO} (hp : H p = none) : Stp ρ H ρ (upd H p o) := by
  refine ⟨⟨[], by simp, by simp⟩, fun x u hx _ => ?_, fun x hx => ?_⟩
  · rw [upd_ne (ne_of_none hx hp)]; exact hx
  · by_cases e : x = p
    · rw [e, upd_same]; simp
    · rw [upd_ne e]; exact hx
theorem SR.add (S : SR K mg ρ st H) {p : Addr} {o : HO} (hp : H p = none) : SR K mg ρ st (upd H p o) :=
  ⟨S.len, S.nd, fun n c h => let ⟨a, u, e1, e2, e3⟩ := S.at' n c h; ⟨a, u, e1, by rw [upd_ne (ne_of_none e2 hp)]; exact e2, CellR.stp S (stp_new hp) e3⟩⟩
theorem new_tup {Q : VK} {vs : List V} (S : SR K mg ρ st H) (q : Reps K mg ρ H xs vs) (h : Cont K mg (Rep K mg) ρ H (.tup xs) st Q) : ∀ p, H p = none → Q (.ref p) (upd H p (.tup vs)) := fun p hp =>
  h _ _ _ (stp_new hp) (S.add hp) (.tup upd_same (Reps.stp S (stp_new hp) q))
end

/-! ### truth -/
def truD (d : D) (st : Store) : Option Bool := match d with
  | .non => some false
  | .bl b => some b
  | .int i => some (i != 0)
  | .str s => if s.length ≤ sizeLine then some (s.length != 0) else none
  | .tup xs => some (!xs.isEmpty)
  | d => (lstD d st).map fun xs => !xs.isEmpty
theorem tru_of {K : PySem.W.Frag} {mg : Str → Option Value} {ρ : List Addr} {H : Hp} {st : Store} {d : D} {v : V} {b : Bool} (S : SR K mg ρ st H) (r : Rep K mg ρ H d v) (e : truD d st = some b) : TruV K v H b := by
  have emp : ∀ {xs : List D} {vs : List V}, Reps K mg ρ H xs vs → (!xs.isEmpty) = !vs.isEmpty := fun q => by
    cases q <;> rfl
  unfold truD at e
  split at e
  · cases r; cases e; rfl
  · cases r; cases e; rfl
  · cases r; cases e; rfl
  · rename_i s
    split at e
    · cases r; cases e
      refine ⟨by assumption, ?_⟩
      cases hs : s.length with
      | zero => rfl
      | succ n => simp; omega
    · cases e
  · cases e
    obtain ⟨a, vs, rfl, h, q⟩ := tup_sq r
    exact .inr (.inl ⟨vs, h, emp q⟩)
  · cases e2 : lstD d st with
    | none => rw [e2] at e; cases e
    | some xs =>
      rw [e2] at e
      cases e
      obtain ⟨a, vs, rfl, h, q⟩ := lst_sq S r e2
      exact .inl ⟨vs, h, emp q⟩
section
variable {X : Cx} {W : WX} {a b c : Expr} {es : List Expr} {pos : Pos} {ma mb mc : ME} {mt mu : MT}
def mTru (m : ME) : MT := fun σ st => (m σ st).bind fun d st1 => match truD d st1 with
  | some b => .ok b st1
  | none => .fail
/-- a value's truth, known: what stands behind -/
theorem mTru_of {σ : L2.St} {H : Hp} {Q : Bool → Hp → Prop} (h : tMT X W (mTru ma) σ H Q) : tM X W ma σ H fun x H' => ∃ k, TruV X.K x H' k ∧ Q k H' := by
  obtain ⟨ρ, st, σd, S, E, P⟩ := h
  refine tR.bnd S E P fun x H1 dx st1 ρ1 _ _ S1 E1 R1 P1 => ?_
  split at P1
  · rename_i k e
    exact ⟨k, tru_of S1 R1 e, P1 _ H1 ρ1 Stp.refl S1 rfl⟩
  · exact P1.elim
theorem gt_truth (ha : GE X W a ma) (he : ∀ whole, isTrue a X.env whole = (do let v ← whole; standAt a.pos; holding [v] (truthy v))) : GT X W a (mTru ma) :=
  PT.imp (pt_truth ha he) fun _ _ _ h => mTru_of h
def tNt (m : MT) : MT := fun σ st => (m σ st).bind fun k st1 => .ok (!k) st1
theorem gt_not (ha : GT X W a mt) : GT X W (.UnaryOp .Not a pos) (tNt mt) :=
  PT.imp (pt_not ha) fun σ H Q ⟨ρ, st, σd, S, E, P⟩ => tR.bnd S E P fun x H1 dx st1 ρ1 _ _ S1 E1 R1 P1 => by
    cases R1
    exact P1 _ H1 ρ1 Stp.refl S1 rfl
def tAn (m n : MT) : MT := fun σ st => (m σ st).bind fun k st1 => if k = true then n σ st1 else .ok false st1
def tOo (m n : MT) : MT := fun σ st => (m σ st).bind fun k st1 => if k = true then .ok true st1 else n σ st1
theorem gw_and (ha : GT X W a mt) (hb : GW X W (.BoolOp .And (b :: es) pos) mu) : GW X W (.BoolOp .And (a :: b :: es) pos) (tAn mt mu) :=
  PW.imp (pw_and ha hb) fun σ H Q ⟨ρ, st, σd, S, E, P⟩ => tR.bnd S E P fun x H1 dx st1 ρ1 _ _ S1 E1 R1 P1 => by
    cases R1
    cases x with
    | true => exact ⟨ρ1, st1, σd, S1, E1, P1⟩
    | false => exact P1 _ H1 ρ1 Stp.refl S1 rfl
theorem gw_or (ha : GT X W a mt) (hb : GW X W (.BoolOp .Or (b :: es) pos) mu) : GW X W (.BoolOp .Or (a :: b :: es) pos) (tOo mt mu) :=
  PW.imp (pw_or ha hb) fun σ H Q ⟨ρ, st, σd, S, E, P⟩ => tR.bnd S E P fun x H1 dx st1 ρ1 _ _ S1 E1 R1 P1 => by
    cases R1
    cases x with
    | true => exact P1 _ H1 ρ1 Stp.refl S1 rfl
    | false => exact ⟨ρ1, st1, σd, S1, E1, P1⟩
theorem gw_and1 (ha : GT X W a mt) : GW X W (.BoolOp .And [a] pos) mt := pw_and1 ha
theorem gw_or1 (ha : GT X W a mt) : GW X W (.BoolOp .Or [a] pos) mt := pw_or1 ha
/-- and, or, not as values, by truth -/
def mAn (m n : ME) : ME := fun σ st => (m σ st).bind fun d st1 => match truD d st1 with
  | some true => n σ st1
  | some false => .ok d st1
  | none => .fail
def mOo (m n : ME) : ME := fun σ st => (m σ st).bind fun d st1 => match truD d st1 with
  | some true => .ok d st1
  | some false => n σ st1
  | none => .fail
def mNt (m : ME) : ME := fun σ st => (m σ st).bind fun d st1 => match truD d st1 with
  | some k => .ok (.bl (!k)) st1
  | none => .fail
theorem ge_one {op : BoolOp} (ha : GE X W a ma) : GE X W (.BoolOp op [a] pos) ma := pe_one ha
theorem ge_and (ha : GE X W a ma) (hb : GE X W (.BoolOp .And (b :: es) pos) mb) : GE X W (.BoolOp .And (a :: b :: es) pos) (mAn ma mb) :=
  PE.imp (pe_andT ha hb) fun σ H Q ⟨ρ, st, σd, S, E, P⟩ => tR.bnd S E P fun x H1 dx st1 ρ1 _ _ S1 E1 R1 P1 => by
    split at P1
    · rename_i e
      exact ⟨true, tru_of S1 R1 e, ρ1, st1, σd, S1, E1, P1⟩
    · rename_i e
      exact ⟨false, tru_of S1 R1 e, P1 _ H1 ρ1 Stp.refl S1 R1⟩
    · exact P1.elim
theorem ge_or (ha : GE X W a ma) (hb : GE X W (.BoolOp .Or (b :: es) pos) mb) : GE X W (.BoolOp .Or (a :: b :: es) pos) (mOo ma mb) :=
  PE.imp (pe_orT ha hb) fun σ H Q ⟨ρ, st, σd, S, E, P⟩ => tR.bnd S E P fun x H1 dx st1 ρ1 _ _ S1 E1 R1 P1 => by
    split at P1
    · rename_i e
      exact ⟨true, tru_of S1 R1 e, P1 _ H1 ρ1 Stp.refl S1 R1⟩
    · rename_i e
      exact ⟨false, tru_of S1 R1 e, ρ1, st1, σd, S1, E1, P1⟩
    · exact P1.elim
theorem ge_not (ha : GE X W a ma) : GE X W (.UnaryOp .Not a pos) (mNt ma) :=
  PE.imp (pe_notT ha) fun σ H Q ⟨ρ, st, σd, S, E, P⟩ => tR.bnd S E P fun x H1 dx st1 ρ1 _ _ S1 E1 R1 P1 => by
    split at P1
    · rename_i k e
      exact ⟨k, tru_of S1 R1 e, P1 _ H1 ρ1 Stp.refl S1 (.bl _)⟩
    · exact P1.elim
def mIf (t : MT) (m n : ME) : ME := fun σ st => (t σ st).bind fun k st1 => if k = true then m σ st1 else n σ st1
theorem ge_if (hc : GT X W c mt) (ha : GE X W a ma) (hb : GE X W b mb) : GE X W (.IfExp c a b pos) (mIf mt ma mb) :=
  PE.imp (pe_ifExp hc ha hb) fun σ H Q ⟨ρ, st, σd, S, E, P⟩ => tR.bnd S E P fun x H1 dx st1 ρ1 _ _ S1 E1 R1 P1 => by
    cases R1
    cases x with
    | true => exact ⟨ρ1, st1, σd, S1, E1, P1⟩
    | false => exact ⟨ρ1, st1, σd, S1, E1, P1⟩

/-! ### argument lists, displays -/
def aNil : MA := fun _ st => .ok [] st
def aCons (m : ME) (r : MA) : MA := fun σ st => (m σ st).bind fun d st1 => (r σ st1).bind fun ds st2 => .ok (d :: ds) st2
variable {ra : MA}
theorem ga_nil : GA X W [] aNil := PA.imp pa_nil fun σ H Q ⟨ρ, st, σd, S, E, P⟩ => P _ H ρ Stp.refl S .nil
theorem ga_cons (ha : GE X W a ma) (hr : GA X W es ra) (hs : starEach (a :: es) X.env = (false, eval a X.env) :: starEach es X.env) : GA X W (a :: es) (aCons ma ra) :=
  PA.imp (pa_cons ha hr hs) fun σ H Q ⟨ρ, st, σd, S, E, P⟩ => tR.bnd S E P fun x H1 dx st1 ρ1 _ _ S1 E1 R1 P1 => tR.bnd S1 E1 P1 fun xs H2 ds st2 ρ2 _ a2 S2 E2 R2 P2 =>
    P2 _ H2 ρ2 Stp.refl S2 (.cons (R1.stp S1 a2) R2)
def mTup (r : MA) : ME := fun σ st => (r σ st).bind fun ds st1 => if ds.length ≤ sizeLine then .ok (.tup ds) st1 else .fail
def mLst (r : MA) : ME := fun σ st => (r σ st).bind fun ds st1 => if ds.length ≤ sizeLine then .ok (.loc st1.length) (st1 ++ [.lst ds]) else .fail
theorem ge_tup {k : Nat} (hr : GA X W es ra) : GE X W (.Tuple es k pos) (mTup ra) :=
  PE.imp (pe_tup hr) fun σ H Q ⟨ρ, st, σd, S, E, P⟩ => tR.bnd S E P fun xs H1 ds st1 ρ1 _ _ S1 E1 R1 P1 => by
    split at P1
    · rename_i hl
      exact ⟨by rw [← R1.length]; exact hl, new_tup S1 R1 P1⟩
    · exact P1.elim
theorem ge_lst (hr : GA X W es ra) : GE X W (.List es pos) (mLst ra) :=
  PE.imp (pe_lst hr) fun σ H Q ⟨ρ, st, σd, S, E, P⟩ => tR.bnd S E P fun xs H1 ds st1 ρ1 _ _ S1 E1 R1 P1 => by
    split at P1
    · rename_i hl
      exact ⟨by rw [← R1.length]; exact hl, new_lst S1 R1 P1⟩
    · exact P1.elim

/-! ### calls of built-ins, of their methods, subscripts, slices -/
variable {x : Str} {p apos cpos : Pos} {e : Expr}
def mCB (g : OpN) (r : MA) : ME := fun σ st => (r σ st).bind fun ds st1 => lift (g ds st1)
theorem tCB_of {g : OpN} {σ : L2.St} {H : Hp} {Q : VK} (h : tM X W (mCB g ra) σ H Q) : tCB (rGN X g) (tMA X W ra) σ H Q := by
  obtain ⟨ρ, st, σd, S, E, P⟩ := h
  exact tR.bnd S E P fun xs H1 ds st1 ρ1 _ _ S1 E1 R1 P1 => by
    obtain ⟨d, st', e, q⟩ := P1.lift
    exact ⟨ρ1, st1, ds, d, st', S1, R1, e, q⟩
theorem ge_callB {id : String} {g : OpN} (hc : CallR X (.builtin id) (rGN X g)) (hg : Gl X x) (hm : X.mg x = none) (hv : bootBuiltins x = some (.builtin id)) (ha : GA X W (e :: es) ra) (hn : x ≠ "__name__") (hdb : (x == ("__debug__" : Str)) = false)
    (hs : starEach (e :: es) X.env = (false, eval e X.env) :: starEach es X.env) (hp : (backTo pos (starEach es X.env)).any (·.1) = false) : GE X W (.Call (.Name x p) (e :: es) [] pos) (mCB g ra) :=
  PE.imp (pe_callB hc hg hm hv ha hn hdb hs hp) fun _ _ _ h => tCB_of h
theorem ge_callTy {T : String} {g : OpN} (hc : CallR X (.type T) (rGN X g)) (hg : Gl X x) (hm : X.mg x = none) (hv : bootBuiltins x = some (.type T)) (ha : GA X W (e :: es) ra) (hn : x ≠ "__name__") (hdb : (x == ("__debug__" : Str)) = false)
    (hs : starEach (e :: es) X.env = (false, eval e X.env) :: starEach es X.env) (hp : (backTo pos (starEach es X.env)).any (·.1) = false) : GE X W (.Call (.Name x p) (e :: es) [] pos) (mCB g ra) :=
  PE.imp (pe_callTy hc hg hm hv ha hn hdb hs hp) fun _ _ _ h => tCB_of h
end
end G

/-! G4: operators by values. -/
namespace G
open PySem L2

section
variable {X : Cx} {K : PySem.W.Frag} {mg : Str → Option Value} {ρ : List Addr} {H : Hp} {st : Store} {Q : VK}
/-- nothing has changed -/
theorem Cont.here {d : D} {v : V} (q : Cont K mg (Rep K mg) ρ H d st Q) (S : SR K mg ρ st H) (r : Rep K mg ρ H d v) : Q v H := q v H ρ Stp.refl S r
def lstAt (st : Store) (n : Nat) : Option (List D) := match st[n]? with
  | some (.lst xs) => some xs
  | _ => none
theorem lstAt_eq {n : Nat} {xs : List D} (h : lstAt st n = some xs) : st[n]? = some (.lst xs) := by
  unfold lstAt at h
  split at h
  · rename_i e; cases h; exact e
  · cases h
def opAdd : Op2 := fun x y st => match x, y with
  | .int i, .int j => some (.int (i + j), st)
  | .str a, .str b => if a.length + b.length ≤ sizeLine then some (.str (a ++ b), st) else none
  | .tup xs, .tup ys => if xs.length + ys.length ≤ sizeLine then some (.tup (xs ++ ys), st) else none
  | .loc m, .loc n => match lstAt st m, lstAt st n with
    | some xs, some ys => if xs.length + ys.length ≤ sizeLine then some (.loc st.length, st ++ [.lst (xs ++ ys)]) else none
    | _, _ => none
  | _, _ => none
theorem opAdd_ok : OpR X (binaryOp .Add) (rG2 X opAdd) :=
  OpR.imp ((op_add.or op_add_str).or ((op_catA).or op_cat)) fun x y H Q ⟨ρ, st, dx, dy, d, st', S, r1, r2, e, q⟩ => by
    unfold opAdd at e
    split at e
    · cases e; cases r1; cases r2
      exact .inl (.inl ⟨_, _, rfl, rfl, q.here S (.int _)⟩)
    · split at e
      · rename_i hl
        cases e; cases r1; cases r2
        exact .inl (.inr ⟨_, _, rfl, rfl, hl, q.here S (.str _)⟩)
      · cases e
    · rename_i xs ys
      split at e
      · rename_i hl
        cases e
        obtain ⟨a, vs, rfl, h1, p1⟩ := tup_sq r1
        obtain ⟨b, ws, rfl, h2, p2⟩ := tup_sq r2
        refine .inr (.inl ⟨a, b, vs, ws, rfl, rfl, h1, h2, by rw [← p1.length, ← p2.length]; exact hl, fun hx => ?_, fun _ hy => ?_, fun _ _ => new_tup S (p1.append p2) q⟩)
        · subst hx
          cases p1
          exact q.here S (by simpa using r2)
        · subst hy
          cases p2
          exact q.here S (by simpa using r1)
      · cases e
    · rename_i m n
      split at e
      · rename_i xs ys e1 e2
        split at e
        · rename_i hl
          cases e
          obtain ⟨a, vs, rfl, _, h1, p1⟩ := loc_lst S r1 (lstAt_eq e1)
          obtain ⟨b, ws, rfl, _, h2, p2⟩ := loc_lst S r2 (lstAt_eq e2)
          exact .inr (.inr ⟨a, b, vs, ws, rfl, rfl, h1, h2, by rw [← p1.length, ← p2.length]; exact hl, new_lst S (p1.append p2) q⟩)
        · cases e
      · cases e
    · cases e
def opSub : Op2 := fun x y st => match x, y with
  | .int i, .int j => some (.int (i - j), st)
  | _, _ => none
theorem opSub_ok : OpR X (binaryOp .Sub) (rG2 X opSub) :=
  OpR.imp op_sub fun x y H Q ⟨ρ, st, dx, dy, d, st', S, r1, r2, e, q⟩ => by
    unfold opSub at e
    split at e
    · cases e; cases r1; cases r2
      exact ⟨_, _, rfl, rfl, q.here S (.int _)⟩
    · cases e
def opMod : Op2 := fun x y st => match x, y with
  | .int i, .int j => if 0 < j then some (.int (i % j), st) else none
  | _, _ => none
theorem opMod_ok : OpR X (binaryOp .Mod) (rG2 X opMod) :=
  OpR.imp op_mod fun x y H Q ⟨ρ, st, dx, dy, d, st', S, r1, r2, e, q⟩ => by
    unfold opMod at e
    split at e
    · split at e
      · cases e; cases r1; cases r2
        exact ⟨_, _, rfl, rfl, by assumption, q.here S (.int _)⟩
      · cases e
    · cases e
def opDiv : Op2 := fun x y st => match x, y with
  | .int i, .int j => if 0 < j ∧ j < 1073741824 then some (.int (i / j), st) else none
  | _, _ => none
theorem opDiv_ok : OpR X (binaryOp .FloorDiv) (rG2 X opDiv) :=
  OpR.imp op_fdiv fun x y H Q ⟨ρ, st, dx, dy, d, st', S, r1, r2, e, q⟩ => by
    unfold opDiv at e
    split at e
    · split at e
      · cases e; cases r1; cases r2
        exact ⟨_, _, rfl, rfl, by assumption, q.here S (.int _)⟩
      · cases e
    · cases e
/-- ** of a great int -/
theorem op_powW : OpR X (binaryOp .Pow) (rI (fun i j => 0 ≤ j ∧ (Builtin.Int.intBits i : Int) * j ≤ 2 ^ 27) fun i j => .int (i ^ j.toNat)) := opI fun _ _ _ _ _ _ _ hc q => PyProof.Rows.pow_int hc.1 hc.2 q
def opPow : Op2 := fun x y st => match x, y with
  | .int i, .int j => if 0 ≤ j ∧ (Builtin.Int.intBits i : Int) * j ≤ 2 ^ 27 then some (.int (i ^ j.toNat), st) else none
  | _, _ => none
theorem opPow_ok : OpR X (binaryOp .Pow) (rG2 X opPow) :=
  OpR.imp op_powW fun x y H Q ⟨ρ, st, dx, dy, d, st', S, r1, r2, e, q⟩ => by
    unfold opPow at e
    split at e
    · split at e
      · cases e; cases r1; cases r2
        exact ⟨_, _, rfl, rfl, by assumption, q.here S (.int _)⟩
      · cases e
    · cases e
/-- a text so often -/
def strMul (z : Str) (k : Int) : Str := ⟨(List.replicate k.toNat z.cps.toList).flatten.toArray⟩
theorem foldl_app (l : List (Array Nat)) : ∀ acc : Array Nat, l.foldl (· ++ ·) acc = acc ++ (l.map Array.toList).flatten.toArray := by
  induction l with
  | nil => intro acc; simp
  | cons a r ih =>
    intro acc
    rw [List.foldl_cons, ih]
    apply Array.toList_inj.mp
    simp
theorem strMul_length (z : Str) (k : Int) : (strMul z k).length = k.toNat * z.length := by
  unfold strMul Str.length
  simp
theorem op_mulS : OpR X (binaryOp .Mult) (fun x y H Q => ∃ z k, x = .str z ∧ y = .int k ∧ -(2 ^ 63) ≤ k ∧ k < 2 ^ 63 ∧ z.length * k.toNat ≤ sizeLine ∧ Q (.str (strMul z k)) H) := by
  intro pins s σ H x y v u Q I rx ry h
  obtain ⟨z, k, rfl, rfl, h1, h2, hl, q⟩ := h
  obtain ⟨t, rfl⟩ := rx
  obtain ⟨t', rfl⟩ := ry
  have hb : ¬ k < 1 → (k == 1 || z.length == 0) = false → ¬ ((z.length : Int) > (2 ^ 63 - 1) / k) := fun hk _ hz => by
    have h3 : (z.length : Int) * k ≤ 2 ^ 63 - 1 := by
      have h4 : ((z.length * k.toNat : Nat) : Int) ≤ ((sizeLine : Nat) : Int) := Int.ofNat_le.mpr hl
      rw [Int.natCast_mul, Int.toNat_of_nonneg (by omega), sizeLine_eq] at h4
      omega
    exact absurd (Int.le_ediv_of_mul_le (by omega) h3) (by omega)
  refine P.mul_str (by rw [decide_eq_false (by omega), decide_eq_false (by omega)]; rfl) hb (fun _ _ => ?_) ?_
  · unfold Builtin.Str.tooLong
    exact decide_eq_false (by omega)
  · have fin : ∀ w : Str, w = strMul z k → w.length ≤ sizeLine → Made.post (.str w) (EP X pins σ Q) s := fun w e hw => by
      subst e
      exact ⟨hw, .str _, H, I.tok _, ⟨_, rfl⟩, q⟩
    split
    · rename_i hk
      refine fin _ ?_ (by decide)
      unfold strMul
      rw [Int.toNat_of_nonpos (by omega)]
      rfl
    · rename_i hk
      split
      · rename_i h3
        refine ⟨.str z, H, I, ⟨t, rfl⟩, ?_⟩
        have e : strMul z k = z := by
          unfold strMul
          rw [Bool.or_eq_true] at h3
          rcases h3 with h3 | h3
          · have h4 : k = 1 := by simpa using h3
            subst h4
            simp
          · have h4 : z.cps.toList = [] := by
              have h5 : z.cps.size = 0 := by simpa [Str.length] using h3
              simpa using h5
            rw [h4]
            obtain ⟨c⟩ := z
            simp at h4
            subst h4
            simp
        rw [e] at q
        exact q
      · refine fin _ ?_ ?_
        · rw [foldl_app]
          unfold strMul
          simp
        · rw [foldl_app]
          show (#[] ++ ((List.replicate k.toNat z.cps).map Array.toList).flatten.toArray).size ≤ sizeLine
          have := strMul_length z k
          unfold strMul Str.length at this
          simp at this ⊢
          rw [Nat.mul_comm]
          exact hl
/-- a product: of ints, of a text, a list, a tuple and an int -/
def opMul : Op2 := fun x y st => match x, y with
  | .int i, .int j => if ((-(2 ^ 64) < i ∧ i < 2 ^ 64) ∨ (-(2 ^ 64) < j ∧ j < 2 ^ 64)) ∨ i.natAbs.log2 + j.natAbs.log2 < 1000000 then some (.int (i * j), st) else none
  | .str z, .int k => if -(2 ^ 63) ≤ k ∧ k < 2 ^ 63 ∧ z.length * k.toNat ≤ sizeLine then some (.str (strMul z k), st) else none
  | .loc n, .int k => match lstAt st n with
    | some xs => if -(2 ^ 63) ≤ k ∧ k < 2 ^ 63 ∧ xs.length * k.toNat ≤ sizeLine then some (.loc st.length, st ++ [.lst (List.replicate k.toNat xs).flatten]) else none
    | none => none
  | .tup xs, .int k => if xs ≠ [] ∧ 2 ≤ k ∧ k ≤ 1000 ∧ xs.length ≤ 1000 then some (.tup (List.replicate k.toNat xs).flatten, st) else none
  | _, _ => none
theorem Reps.rep {xs : List D} {vs : List V} (h : Reps K mg ρ H xs vs) : ∀ k : Nat, Reps K mg ρ H (List.replicate k xs).flatten (List.replicate k vs).flatten
  | 0 => .nil
  | k + 1 => by
    rw [List.replicate_succ, List.replicate_succ, List.flatten_cons, List.flatten_cons]
    exact h.append (Reps.rep h k)
theorem opMul_ok : OpR X (binaryOp .Mult) (rG2 X opMul) :=
  OpR.imp ((op_mul.or op_mulW).or (op_mulS.or (op_rep.or op_repT))) fun x y H Q ⟨ρ, st, dx, dy, d, st', S, r1, r2, e, q⟩ => by
    unfold opMul at e
    split at e
    · split at e
      · rename_i h
        cases e; cases r1; cases r2
        rcases h with h | h
        · exact .inl (.inl ⟨_, _, rfl, rfl, h, q.here S (.int _)⟩)
        · exact .inl (.inr ⟨_, _, rfl, rfl, h, q.here S (.int _)⟩)
      · cases e
    · split at e
      · rename_i h
        cases e; cases r1; cases r2
        exact .inr (.inl ⟨_, _, rfl, rfl, h.1, h.2.1, h.2.2, q.here S (.str _)⟩)
      · cases e
    · split at e
      · rename_i e1
        split at e
        · rename_i h
          cases e; cases r2
          obtain ⟨a, vs, rfl, _, h1, p1⟩ := loc_lst S r1 (lstAt_eq e1)
          exact .inr (.inr (.inl ⟨a, _, vs, rfl, rfl, h1, h.1, h.2.1, by rw [← p1.length]; exact h.2.2, new_lst S (p1.rep _) q⟩))
        · cases e
      · cases e
    · split at e
      · rename_i h
        cases e; cases r2
        obtain ⟨a, vs, rfl, h1, p1⟩ := tup_sq r1
        refine .inr (.inr (.inr ⟨a, _, vs, rfl, rfl, h1, fun z => h.1 ?_, h.2.1, h.2.2.1, by rw [← p1.length]; exact h.2.2.2, new_tup S (p1.rep _) q⟩))
        subst z
        cases p1
        rfl
      · cases e
    · cases e
/-- whole numbers in order -/
def opCmpI (p : Int → Int → Bool) : Op2 := fun x y st => match x, y with
  | .int i, .int j => some (.bl (p i j), st)
  | _, _ => none
theorem opCmpI_of {op : CmpOp} {p : Int → Int → Bool} (h : OpR X (compareOp op) (rI0 fun i j => .bl (p i j))) : OpR X (compareOp op) (rG2 X (opCmpI p)) :=
  OpR.imp h fun x y H Q ⟨ρ, st, dx, dy, d, st', S, r1, r2, e, q⟩ => by
    unfold opCmpI at e
    split at e
    · cases e; cases r1; cases r2
      exact ⟨_, _, rfl, rfl, q.here S (.bl _)⟩
    · cases e
abbrev opLt : Op2 := opCmpI fun i j => decide (i < j)
abbrev opLe : Op2 := opCmpI fun i j => decide (i ≤ j)
abbrev opGt : Op2 := opCmpI fun i j => decide (j < i)
abbrev opGe : Op2 := opCmpI fun i j => decide (j ≤ i)
theorem opLt_ok : OpR X (compareOp .Lt) (rG2 X opLt) := opCmpI_of op_lt
theorem opLe_ok : OpR X (compareOp .LtE) (rG2 X opLe) := opCmpI_of op_le
theorem opGt_ok : OpR X (compareOp .Gt) (rG2 X opGt) := opCmpI_of op_gt
theorem opGe_ok : OpR X (compareOp .GtE) (rG2 X opGe) := opCmpI_of op_ge
/-- is None, is not None -/
def opIsN (neg : Bool) : Op2 := fun x y st => match x, y with
  | .non, .non => some (.bl (!neg), st)
  | .ty _, _ => none
  | .fn _, _ => none
  | _, .non => some (.bl neg, st)
  | _, _ => none
theorem opIsN_val {x y d : D} {neg : Bool} {st st' : Store} (e : opIsN neg x y st = some (d, st')) : y = .non ∧ st' = st ∧ ∃ b, d = .bl (b != neg) ∧ (b = true ↔ x = .non) := by
  unfold opIsN at e
  split at e
  · cases e; exact ⟨rfl, rfl, true, by cases neg <;> rfl, by simp⟩
  · cases e
  · cases e
  · rename_i h1 _ _
    cases e; exact ⟨rfl, rfl, false, by cases neg <;> rfl, by
      constructor
      · intro z; cases z
      · intro z; exact absurd z h1⟩
  · cases e
end
end G

/-! G5: values as data: ==, !=, in, not in, repr. -/
namespace G
open PySem L2

mutual
/-- a value as data; f tells what stands at a place -/
def pdW (f : Nat → Option PyData) : D → Option PyData
  | .non => some .none
  | .bl b => some (.bool b)
  | .int i => some (.int i)
  | .str s => some (.str s)
  | .tup xs => (pdsW f xs).map .tuple
  | .rol xs => (pdsW f xs).map .list
  | .loc n => f n
  | .fn _ => none
  | .ty _ => none
def pdsW (f : Nat → Option PyData) : List D → Option (List PyData)
  | [] => some []
  | d :: ds => match pdW f d, pdsW f ds with
    | some p, some ps => some (p :: ps)
    | _, _ => none
end
def pdS : Nat → Store → Nat → Option PyData
  | 0, _, _ => none
  | k + 1, st, n => match lstAt st n with
    | some xs => (pdsW (pdS k st) xs).map .list
    | none => none
def toP (st : Store) (d : D) : Option PyData := pdW (pdS 8 st) d
def toPs (st : Store) (ds : List D) : Option (List PyData) := pdsW (pdS 8 st) ds
section
variable {K : PySem.W.Frag} {mg : Str → Option Value} {ρ : List Addr} {H : Hp} {st : Store}
mutual
theorem pdW_dp (f : Nat → Option PyData) (hf : ∀ n v p, Rep K mg ρ H (.loc n) v → f n = some p → Dp K H v p) : ∀ (d : D) (v : V) (p : PyData), Rep K mg ρ H d v → pdW f d = some p → Dp K H v p
  | .non, _, _, r, e => by cases r; unfold pdW at e; cases e; exact .non
  | .bl b, _, _, r, e => by cases r; unfold pdW at e; cases e; exact .bl _
  | .int i, _, _, r, e => by cases r; unfold pdW at e; cases e; exact .int _
  | .str s, _, _, r, e => by cases r; unfold pdW at e; cases e; exact .str _
  | .tup xs, _, _, r, e => by
    unfold pdW at e
    cases e2 : pdsW f xs with
    | none => rw [e2] at e; cases e
    | some ps =>
      rw [e2] at e
      cases e
      cases r with
      | tup h q => exact .tup (.inl (.inl h)) (pdsW_dp f hf xs _ ps q e2)
  | .rol xs, _, _, r, e => by
    unfold pdW at e
    cases e2 : pdsW f xs with
    | none => rw [e2] at e; cases e
    | some ps =>
      rw [e2] at e
      cases e
      cases r with
      | rol h q => exact .lst h.sq (pdsW_dp f hf xs _ ps q e2)
  | .loc n, v, p, r, e => hf n v p r (by unfold pdW at e; exact e)
  | .fn _, _, _, _, e => by unfold pdW at e; cases e
  | .ty _, _, _, _, e => by unfold pdW at e; cases e
theorem pdsW_dp (f : Nat → Option PyData) (hf : ∀ n v p, Rep K mg ρ H (.loc n) v → f n = some p → Dp K H v p) : ∀ (ds : List D) (vs : List V) (ps : List PyData), Reps K mg ρ H ds vs → pdsW f ds = some ps → DpAll K H vs ps
  | [], _, _, r, e => by cases r; unfold pdsW at e; cases e; exact .nil
  | d :: ds, _, _, r, e => by
    unfold pdsW at e
    split at e
    · rename_i e1 e2
      cases e
      cases r with
      | cons r1 r2 => exact .cons (pdW_dp f hf d _ _ r1 e1) (pdsW_dp f hf ds _ _ r2 e2)
    · cases e
end
theorem pdS_dp (S : SR K mg ρ st H) : ∀ (k n : Nat) (v : V) (p : PyData), Rep K mg ρ H (.loc n) v → pdS k st n = some p → Dp K H v p
  | 0, _, _, _, _, e => by unfold pdS at e; cases e
  | k + 1, n, v, p, r, e => by
    unfold pdS at e
    split at e
    · rename_i xs hx
      cases e2 : pdsW (pdS k st) xs with
      | none => rw [e2] at e; cases e
      | some ps =>
        rw [e2] at e
        cases e
        obtain ⟨a, vs, rfl, _, h, q⟩ := loc_lst S r (lstAt_eq hx)
        exact .lst (.inl (.inl h)) (pdsW_dp _ (fun m w p' => pdS_dp S k m w p') xs vs ps q e2)
    · cases e
theorem toP_dp (S : SR K mg ρ st H) {d : D} {v : V} {p : PyData} (r : Rep K mg ρ H d v) (e : toP st d = some p) : Dp K H v p := pdW_dp _ (pdS_dp S 8) d v p r e
theorem toPs_dp (S : SR K mg ρ st H) {ds : List D} {vs : List V} {ps : List PyData} (r : Reps K mg ρ H ds vs) (e : toPs st ds = some ps) : DpAll K H vs ps := pdsW_dp _ (pdS_dp S 8) ds vs ps r e
end

/-! ### ==, != -/
def eqD (x y : D) (st : Store) : Option Bool := match toP st x, toP st y with
  | some p, some q => if SeqAt.shaped p && SeqAt.shaped q then some (PyData.eqv p q) else none
  | _, _ => none
def opEq (neg : Bool) : Op2 := fun x y st => match x, y with
  | .str a, .str b => some (.bl ((a == b) != neg), st)
  | x, y => (eqD x y st).map fun b => (.bl (b != neg), st)
theorem eqD_val {x y : D} {st : Store} {b : Bool} (e : eqD x y st = some b) : ∃ p q, toP st x = some p ∧ toP st y = some q ∧ SeqAt.shaped p = true ∧ SeqAt.shaped q = true ∧ b = PyData.eqv p q := by
  unfold eqD at e
  split at e
  · rename_i p q e1 e2
    split at e
    · rename_i h
      cases e
      rw [Bool.and_eq_true] at h
      exact ⟨p, q, e1, e2, h.1, h.2, rfl⟩
    · cases e
  · cases e
section
variable {X : Cx}
theorem opEq_ok (hu : X.A.units + 64 < cLine) : OpR X (compareOp .Eq) (rG2 X (opEq false)) :=
  OpR.imp ((op_eqD hu).or op_eq) fun x y H Q ⟨ρ, st, dx, dy, d, st', S, r1, r2, e, q⟩ => by
    unfold opEq at e
    split at e
    · rename_i a b
      cases r1; cases r2; cases e
      refine .inr ⟨rfl, ?_⟩
      have z := q.here S (.bl _)
      have ed : decide (V.str a = V.str b) = (a == b) := dec_str
      rw [ed]
      simpa using z
    · cases e1 : eqD dx dy st with
      | none => rw [e1] at e; cases e
      | some b =>
        rw [e1] at e
        cases e
        obtain ⟨p, p', h1, h2, h3, h4, rfl⟩ := eqD_val e1
        exact .inl ⟨p, p', toP_dp S r1 h1, toP_dp S r2 h2, h3, h4, by simpa using q.here S (.bl _)⟩
theorem opNe_ok (hu : X.A.units + 64 < cLine) : OpR X (compareOp .NotEq) (rG2 X (opEq true)) :=
  OpR.imp ((op_neD hu).or op_ne) fun x y H Q ⟨ρ, st, dx, dy, d, st', S, r1, r2, e, q⟩ => by
    unfold opEq at e
    split at e
    · rename_i a b
      cases r1; cases r2; cases e
      refine .inr ⟨rfl, ?_⟩
      have z := q.here S (.bl _)
      have ed : decide (V.str a = V.str b) = (a == b) := dec_str
      rw [ed]
      simpa using z
    · cases e1 : eqD dx dy st with
      | none => rw [e1] at e; cases e
      | some b =>
        rw [e1] at e
        cases e
        obtain ⟨p, p', h1, h2, h3, h4, rfl⟩ := eqD_val e1
        exact .inl ⟨p, p', toP_dp S r1 h1, toP_dp S r2 h2, h3, h4, by simpa using q.here S (.bl _)⟩
theorem opIsN_ok : OpR X (compareOp .Is) (rG2 X (opIsN false)) :=
  OpR.imp op_isN fun x y H Q ⟨ρ, st, dx, dy, d, st', S, r1, r2, e, q⟩ => by
    obtain ⟨rfl, rfl, b, rfl, hb⟩ := opIsN_val e
    cases r2
    have h := q.here S (.bl (b != false))
    refine ⟨rfl, ?_⟩
    have e2 : decide (x = .non) = (b != false) := by
      cases b with
      | true => obtain rfl := hb.mp rfl; cases r1; rfl
      | false =>
        refine decide_eq_false fun z => ?_
        subst z
        have : dx = .non := by cases r1; rfl
        exact absurd (hb.mpr this) (by simp)
    rw [e2]
    exact h
theorem opIsNot_ok : OpR X (compareOp .IsNot) (rG2 X (opIsN true)) :=
  OpR.imp op_notN fun x y H Q ⟨ρ, st, dx, dy, d, st', S, r1, r2, e, q⟩ => by
    obtain ⟨rfl, rfl, b, rfl, hb⟩ := opIsN_val e
    cases r2
    have h := q.here S (.bl (b != true))
    refine ⟨rfl, ?_⟩
    have e2 : (!decide (x = .non)) = (b != true) := by
      cases b with
      | true => obtain rfl := hb.mp rfl; cases r1; rfl
      | false =>
        rw [decide_eq_false]
        · rfl
        intro z
        subst z
        have : dx = .non := by cases r1; rfl
        exact absurd (hb.mpr this) (by simp)
    rw [e2]
    exact h
end
end G

/-! G6: dicts. -/
namespace G
open PySem L2

abbrev DK := Sum Key (List Key)
def kOf : D → Option DK
  | .tup ds => (keysD ds).map .inr
  | .int i => some (.inl (.inl i))
  | .str s => some (.inl (.inr s))
  | _ => none
theorem kOf_key {d : D} {k : Key} (h : keyD d = some k) : kOf d = some (.inl k) := by
  cases d <;> simp [keyD] at h <;> subst h <;> rfl
theorem kOf_tup {ds : List D} {ks : List Key} (h : keysD ds = some ks) : kOf (.tup ds) = some (.inr ks) := by
  show (keysD ds).map _ = _
  rw [h]; rfl
def dGet (kvs : List (D × D)) (k : D) : Option D := (kvs.find? fun kv => decide (kOf kv.1 = kOf k)).map (·.2)
def dPut (kvs : List (D × D)) (k v : D) : List (D × D) :=
  if (kvs.any fun kv => decide (kOf kv.1 = kOf k)) = true then kvs.map fun kv => if kOf kv.1 = kOf k then (kv.1, v) else kv else kvs ++ [(k, v)]
def dDrop (kvs : List (D × D)) (k : D) : List (D × D) := kvs.filter fun kv => decide (kOf kv.1 ≠ kOf k)
theorem set_same {α : Type} {l : List α} {n : Nat} {c : α} (h : l[n]? = some c) : l.set n c = l := by
  apply List.ext_getElem?
  intro i
  by_cases e : n = i
  · subst e
    rw [List.getElem?_set_self (List.getElem?_eq_some_iff.mp h).1, h]
  · rw [List.getElem?_set_ne e]
/-- one kind of keys -/
def sameKind : Option DK → Option DK → Bool
  | some (.inl _), some (.inl _) => true
  | some (.inr _), some (.inr _) => true
  | _, _ => false
def kindOk (kvs : List (D × D)) (k : D) : Bool := match kvs with
  | [] => (kOf k).isSome
  | kv :: _ => sameKind (kOf kv.1) (kOf k)
/-- a dict that may be read, that may be changed -/
def dctR (st : Store) (n : Nat) : Option (List (D × D)) := match st[n]? with
  | some (.dct kvs) => some kvs
  | some (.lck (.dct kvs)) => some kvs
  | _ => none
def dctW (st : Store) (n : Nat) : Option (List (D × D)) := match st[n]? with
  | some (.dct kvs) => some kvs
  | _ => none
theorem dctW_eq {st : Store} {n : Nat} {kvs : List (D × D)} (h : dctW st n = some kvs) : st[n]? = some (.dct kvs) := by
  unfold dctW at h
  split at h
  · rename_i e; cases h; exact e
  · cases h
section
variable {K : PySem.W.Frag} {mg : Str → Option Value} {ρ : List Addr} {H : Hp} {st : Store}
abbrev PK1 (K : PySem.W.Frag) (mg : Str → Option Value) (ρ : List Addr) (H : Hp) : List (D × D) → List (Key × V) → Prop := Paired fun p q => keyD p.1 = some q.1 ∧ Rep K mg ρ H p.2 q.2
abbrev PK2 (K : PySem.W.Frag) (mg : Str → Option Value) (ρ : List Addr) (H : Hp) : List (D × D) → List (List Key × V) → Prop := Paired fun p q => (∃ ds, p.1 = .tup ds ∧ keysD ds = some q.1) ∧ Rep K mg ρ H p.2 q.2
/-- both kinds of keys at once: κ into DK -/
structure Kd (κ : Type) [DecidableEq κ] where
  inj : κ → DK
  one : ∀ a b, inj a = inj b → a = b
def kd1 : Kd Key := ⟨.inl, fun _ _ h => Sum.inl.inj h⟩
def kd2 : Kd (List Key) := ⟨.inr, fun _ _ h => Sum.inr.inj h⟩
abbrev PKg {κ : Type} [DecidableEq κ] (c : Kd κ) (K : PySem.W.Frag) (mg : Str → Option Value) (ρ : List Addr) (H : Hp) : List (D × D) → List (κ × V) → Prop := Paired fun p q => kOf p.1 = some (c.inj q.1) ∧ Rep K mg ρ H p.2 q.2
theorem PK1.g {kvs : List (D × D)} {ps : List (Key × V)} (h : PK1 K mg ρ H kvs ps) : PKg kd1 K mg ρ H kvs ps := Paired.mapR h fun _ _ q => ⟨kOf_key q.1, q.2⟩
theorem PK2.g {kvs : List (D × D)} {ps : List (List Key × V)} (h : PK2 K mg ρ H kvs ps) : PKg kd2 K mg ρ H kvs ps := Paired.mapR h fun x _ q => ⟨by obtain ⟨ds, e, k⟩ := q.1; rw [e]; exact kOf_tup k, q.2⟩
section
variable {κ : Type} [DecidableEq κ] {c : Kd κ}
theorem key_dec {a b : κ} {x y : D} (hx : kOf x = some (c.inj a)) (hy : kOf y = some (c.inj b)) : decide (kOf x = kOf y) = decide (a = b) := by
  rw [hx, hy]
  by_cases h : a = b
  · subst h; simp
  · rw [decide_eq_false h]
    exact decide_eq_false fun z => h (c.one _ _ (Option.some.inj z))
theorem PKg.len {kvs : List (D × D)} {ps : List (κ × V)} (h : PKg c K mg ρ H kvs ps) : kvs.length = ps.length := Paired.length h
theorem PKg.get {k : D} {k' : κ} (hk : kOf k = some (c.inj k')) : ∀ {kvs : List (D × D)} {ps : List (κ × V)}, PKg c K mg ρ H kvs ps → match dGet kvs k with | none => valV ps k' = none | some d => ∃ w, valV ps k' = some w ∧ Rep K mg ρ H d w
  | _, _, .nil => by simp [dGet, valV]
  | _, _, .cons (a := p) (b := q) (l₁ := r) (l₂ := l) h t => by
    have ih := PKg.get hk t
    have e := key_dec (c := c) h.1 hk
    unfold dGet valV at ih ⊢
    rw [List.find?_cons, List.find?_cons, e]
    cases decide (q.1 = k') with
    | true => exact ⟨_, rfl, h.2⟩
    | false => exact ih
theorem PKg.any {k : D} {k' : κ} (hk : kOf k = some (c.inj k')) : ∀ {kvs : List (D × D)} {ps : List (κ × V)}, PKg c K mg ρ H kvs ps → (kvs.any fun kv => decide (kOf kv.1 = kOf k)) = ps.any fun kv => decide (kv.1 = k')
  | _, _, .nil => rfl
  | _, _, .cons h t => by
    rw [List.any_cons, List.any_cons, key_dec (c := c) h.1 hk, PKg.any hk t]
theorem PKg.repl {k : D} {k' : κ} (hk : kOf k = some (c.inj k')) {v : D} {w : V} (hv : Rep K mg ρ H v w) : ∀ {kvs : List (D × D)} {ps : List (κ × V)}, PKg c K mg ρ H kvs ps →
    PKg c K mg ρ H (kvs.map fun kv => if kOf kv.1 = kOf k then (kv.1, v) else kv) (ps.map fun kv => if kv.1 = k' then (kv.1, w) else kv)
  | _, _, .nil => .nil
  | _, _, .cons (a := p) (b := q) h t => by
    have e := key_dec (c := c) h.1 hk
    refine .cons ?_ (PKg.repl hk hv t)
    dsimp only
    by_cases z : q.1 = k'
    · rw [decide_eq_true z] at e
      rw [if_pos z, if_pos (of_decide_eq_true e)]
      exact ⟨h.1, hv⟩
    · rw [decide_eq_false z] at e
      rw [if_neg z, if_neg (of_decide_eq_false e)]
      exact h
theorem PKg.app {kvs kvs' : List (D × D)} {ps ps' : List (κ × V)} (h : PKg c K mg ρ H kvs ps) (h' : PKg c K mg ρ H kvs' ps') : PKg c K mg ρ H (kvs ++ kvs') (ps ++ ps') := by
  induction h with
  | nil => exact h'
  | cons a b ih => exact .cons a ih
theorem PKg.put {k : D} {k' : κ} (hk : kOf k = some (c.inj k')) {v : D} {w : V} (hv : Rep K mg ρ H v w) {kvs : List (D × D)} {ps : List (κ × V)} (h : PKg c K mg ρ H kvs ps) : PKg c K mg ρ H (dPut kvs k v) (putK ps k' w) := by
  unfold dPut putK
  rw [PKg.any hk h]
  split
  · exact PKg.repl hk hv h
  · exact PKg.app h (.cons ⟨hk, hv⟩ .nil)
theorem PKg.drop {k : D} {k' : κ} (hk : kOf k = some (c.inj k')) : ∀ {kvs : List (D × D)} {ps : List (κ × V)}, PKg c K mg ρ H kvs ps → PKg c K mg ρ H (dDrop kvs k) (dropK ps k')
  | _, _, .nil => .nil
  | _, _, .cons (a := p) (b := q) h t => by
    have e := key_dec (c := c) h.1 hk
    have ih := PKg.drop hk t
    unfold dDrop dropK at ih ⊢
    rw [List.filter_cons, List.filter_cons]
    by_cases z : q.1 = k'
    · rw [decide_eq_true z] at e
      rw [if_neg (by simpa using of_decide_eq_true e), if_neg (by simpa using z)]
      exact ih
    · rw [decide_eq_false z] at e
      rw [if_pos (by simpa using of_decide_eq_false e), if_pos (by simpa using z)]
      exact .cons h ih
end
theorem PKg.one {kvs : List (D × D)} {ps : List (Key × V)} (h : PKg kd1 K mg ρ H kvs ps) : PK1 K mg ρ H kvs ps := Paired.mapR h fun x y q => by
  obtain ⟨x1, x2⟩ := x
  obtain ⟨q1, q2⟩ := q
  refine ⟨?_, q2⟩
  dsimp only at q1
  cases x1 with
  | tup ds =>
    have q3 : (keysD ds).map Sum.inr = some (Sum.inl y.1 : DK) := q1
    cases e : keysD ds with
    | none => rw [e] at q3; cases q3
    | some ks => rw [e] at q3; cases q3
  | int i => exact congrArg some (Sum.inl.inj (Option.some.inj q1))
  | str i => exact congrArg some (Sum.inl.inj (Option.some.inj q1))
  | _ => exact (nomatch q1)
theorem PKg.two {kvs : List (D × D)} {ps : List (List Key × V)} (h : PKg kd2 K mg ρ H kvs ps) : PK2 K mg ρ H kvs ps := Paired.mapR h fun x y q => by
  obtain ⟨x1, x2⟩ := x
  obtain ⟨q1, q2⟩ := q
  refine ⟨?_, q2⟩
  dsimp only at q1
  cases x1 with
  | tup ds =>
    have q3 : (keysD ds).map Sum.inr = some (Sum.inr y.1 : DK) := q1
    cases e : keysD ds with
    | none => rw [e] at q3; cases q3
    | some ks =>
      rw [e] at q3
      exact ⟨ds, rfl, by rw [e]; exact congrArg some (Sum.inr.inj (Option.some.inj q3))⟩
  | int i => exact (nomatch (Option.some.inj q1 : (Sum.inl _ : DK) = Sum.inr _))
  | str i => exact (nomatch (Option.some.inj q1 : (Sum.inl _ : DK) = Sum.inr _))
  | _ => exact (nomatch q1)
/-- a key's value -/
theorem key_val {k : D} {k' : Key} {y : V} (r : Rep K mg ρ H k y) (h : kOf k = some (.inl k')) : y = kV k' := by
  cases r with
  | int i => cases h; rfl
  | str i => cases h; rfl
  | tup h1 h2 =>
    rename_i a ds vs
    have q3 : (keysD ds).map Sum.inr = some (Sum.inl k' : DK) := h
    cases e : keysD ds with
    | none => rw [e] at q3; cases q3
    | some ks => rw [e] at q3; cases q3
  | _ => exact (nomatch h)
theorem keys_val : ∀ {ds : List D} {ks : List Key} {vs : List V}, Reps K mg ρ H ds vs → keysD ds = some ks → vs = ks.map kV
  | [], _, _, .nil, e => by cases e; rfl
  | d :: ds, _, _, .cons h r, e => by
    unfold keysD at e
    split at e
    · rename_i k ks e1 e2
      cases e
      rw [key_val h (kOf_key e1), keys_val r e2]
      rfl
    · cases e
theorem keyt_val {k : D} {ks : List Key} {y : V} (r : Rep K mg ρ H k y) (h : kOf k = some (.inr ks)) : ∃ b, y = .ref b ∧ H b = some (.tup (ks.map kV)) := by
  cases r with
  | tup h1 h2 =>
    rename_i a ds vs
    have q3 : (keysD ds).map Sum.inr = some (Sum.inr ks : DK) := h
    cases e : keysD ds with
    | none => rw [e] at q3; cases q3
    | some ks' =>
      rw [e] at q3
      cases q3
      exact ⟨a, rfl, by rw [h1, keys_val h2 e]⟩
  | int i => exact (nomatch (Option.some.inj h : (Sum.inl _ : DK) = Sum.inr _))
  | str i => exact (nomatch (Option.some.inj h : (Sum.inl _ : DK) = Sum.inr _))
  | _ => exact (nomatch h)
end
section
variable {X : Cx} {pins : List (Addr × Obj)} {σ : L2.St} {H : Hp} {s : Shared} {ρ : List Addr} {st : Store}
/-- an empty dict is one of tuples' keys, too -/
theorem Inv.retype {a : Addr} (I : L2.Inv X pins σ H s) (h : H a = some (.dK [])) : L2.Inv X pins σ (upd H a (.dT [])) s := by
  obtain ⟨z, hd, vs, rel, o, es, ep, e1, e2, e3, e4⟩ := I.hok a _ h
  cases rel
  refine d_write (h' := s.heap) (t' := s.toks) I (by rw [h]; trivial) (Heap.SameBut.refl _ _) ⟨_, e1⟩ ?_
  have e5 : es.toList = [] := by
    cases hes : es.toList with
    | nil => rfl
    | cons a r => have q := e4.2.1; rw [hes] at q; cases q
  exact ⟨by simp, hd, [], .nil, o, es, ep, e1, e2, e3, by rw [e5]; rfl, .nil⟩
theorem Inv.retypeB {a : Addr} (I : L2.Inv X pins σ H s) (h : H a = some (.dT [])) : L2.Inv X pins σ (upd H a (.dK [])) s := by
  obtain ⟨z, hd, xs, rel, o, es, ep, e1, e2, e3, e4, e5⟩ := I.hok a _ h
  cases rel
  refine d_write (h' := s.heap) (t' := s.toks) I (by rw [h]; trivial) (Heap.SameBut.refl _ _) ⟨_, e1⟩ ?_
  have e6 : es = #[] := by
    have q : es.toList = [] := e4
    simpa using q
  subst e6
  exact ⟨by simp, hd, [], .nil, o, #[], ep, e1, e2, e3, by intro i z; simp at z, .nil, .nil⟩
/-- a dict's place seen as the hand layer's dict, at a key of its kind -/
structure DView (X : Cx) (pins : List (Addr × Obj)) (σ : L2.St) (ρ : List Addr) (st : Store) (s : Shared) (n : Nat) (a : Addr) (kvs : List (D × D)) (H H1 : Hp) (k : D) (y : V) : Prop where
  inv : L2.Inv X pins σ H1 s
  stp : Stp ρ H ρ H1
  sr : SR X.K X.mg ρ st H1
  pl : ρ[n]? = some a
  lay : (∃ ps k', Rd H1 a (.dK ps) ∧ PKg kd1 X.K X.mg ρ H1 kvs ps ∧ kOf k = some (kd1.inj k') ∧ y = kV k') ∨
    (∃ ps k' b, Rd H1 a (.dT ps) ∧ PKg kd2 X.K X.mg ρ H1 kvs ps ∧ kOf k = some (kd2.inj k') ∧ y = .ref b ∧ H1 b = some (.tup (k'.map kV)))
theorem dct_lay (S : SR X.K X.mg ρ st H) {n : Nat} {v : V} {kvs : List (D × D)} (r : Rep X.K X.mg ρ H (.loc n) v) (e : dctR st n = some kvs) :
    ∃ a, v = .ref a ∧ ρ[n]? = some a ∧ ((∃ ps, Rd H a (.dK ps) ∧ PK1 X.K X.mg ρ H kvs ps) ∨ (∃ ps, Rd H a (.dT ps) ∧ PK2 X.K X.mg ρ H kvs ps)) ∧ (dctW st n = some kvs → ∀ u, Rd H a u → (∃ ps, u = .dK ps) ∨ (∃ ps, u = .dT ps) → H a = some u) := by
  cases r with
  | loc h =>
    rename_i a
    refine ⟨a, rfl, h, ?_⟩
    unfold dctR at e
    split at e
    · rename_i kvs' hs
      cases e
      obtain ⟨b, o, h1, h2, h3⟩ := S.at' n _ hs
      rw [h] at h1; cases h1
      refine ⟨?_, fun _ u hu hk => ?_⟩
      · rcases h3 with ⟨ps, rfl, p⟩ | ⟨ps, rfl, p⟩
        · exact .inl ⟨ps, .inl h2, p⟩
        · exact .inr ⟨ps, .inl h2, p⟩
      · rcases hu with hu | ⟨ob, hu⟩
        · exact hu
        · rw [h2] at hu
          cases hu
          rcases h3 with ⟨ps, z, p⟩ | ⟨ps, z, p⟩
          · cases z
          · cases z
    · rename_i kvs' hs
      cases e
      obtain ⟨b, o, h1, h2, ob, u, rfl, h3⟩ := S.at' n _ hs
      rw [h] at h1; cases h1
      refine ⟨?_, fun hw => ?_⟩
      · rcases h3 with ⟨ps, rfl, p⟩ | ⟨ps, rfl, p⟩
        · exact .inl ⟨ps, .inr ⟨ob, h2⟩, p⟩
        · exact .inr ⟨ps, .inr ⟨ob, h2⟩, p⟩
      · unfold dctW at hw
        rw [hs] at hw
        cases hw
    · cases e
theorem dct_view (I : L2.Inv X pins σ H s) (S : SR X.K X.mg ρ st H) {n : Nat} {v y : V} {kvs : List (D × D)} {k : D} (r : Rep X.K X.mg ρ H (.loc n) v) (rk : Rep X.K X.mg ρ H k y) (e : dctW st n = some kvs) (hk : kindOk kvs k = true) :
    ∃ a H1, v = .ref a ∧ DView X pins σ ρ st s n a kvs H H1 k y ∧ (∀ u, Rd H1 a u → (∃ ps, u = .dK ps) ∨ (∃ ps, u = .dT ps) → H1 a = some u) := by
  have e' : dctR st n = some kvs := by
    unfold dctR
    rw [dctW_eq e]
  obtain ⟨a, rfl, hp, hl, hw0⟩ := dct_lay S r e'
  have hw := hw0 e
  clear hw0
  have pure : (∃ k', kOf k = some (.inl k')) → (∃ ps, Rd H a (.dK ps) ∧ PK1 X.K X.mg ρ H kvs ps) → ∃ a' H1, V.ref a = .ref a' ∧ DView X pins σ ρ st s n a' kvs H H1 k y ∧ (∀ u, Rd H1 a' u → (∃ ps, u = .dK ps) ∨ (∃ ps, u = .dT ps) → H1 a' = some u) := fun ⟨k', hk'⟩ ⟨ps, h1, h2⟩ =>
    ⟨a, H, rfl, ⟨I, Stp.refl, S, hp, .inl ⟨ps, k', h1, h2.g, hk', key_val rk hk'⟩⟩, hw⟩
  have tupl : (∃ k', kOf k = some (.inr k')) → (∃ ps, Rd H a (.dT ps) ∧ PK2 X.K X.mg ρ H kvs ps) → ∃ a' H1, V.ref a = .ref a' ∧ DView X pins σ ρ st s n a' kvs H H1 k y ∧ (∀ u, Rd H1 a' u → (∃ ps, u = .dK ps) ∨ (∃ ps, u = .dT ps) → H1 a' = some u) := fun ⟨k', hk'⟩ ⟨ps, h1, h2⟩ => by
    obtain ⟨b, e1, e2⟩ := keyt_val rk hk'
    exact ⟨a, H, rfl, ⟨I, Stp.refl, S, hp, .inr ⟨ps, k', b, h1, h2.g, hk', e1, e2⟩⟩, hw⟩
  cases kvs with
  | cons kv more =>
    cases ek : kOf k with
    | none =>
      have hk : sameKind (kOf kv.1) (kOf k) = true := hk
      rw [ek] at hk
      unfold sameKind at hk
      split at hk <;> simp_all
    | some dk =>
      rcases hl with ⟨ps, h1, h2⟩ | ⟨ps, h1, h2⟩
      · cases dk with
        | inl k' => exact pure ⟨k', ek⟩ ⟨ps, h1, h2⟩
        | inr k' =>
          exfalso
          have h3 := h2.g
          cases h3 with
          | cons q t =>
            have hk : sameKind (kOf kv.1) (kOf k) = true := hk
            rw [ek, q.1] at hk
            exact absurd hk (by simp [sameKind, kd1])
      · cases dk with
        | inr k' => exact tupl ⟨k', ek⟩ ⟨ps, h1, h2⟩
        | inl k' =>
          exfalso
          have h3 := h2.g
          cases h3 with
          | cons q t =>
            have hk : sameKind (kOf kv.1) (kOf k) = true := hk
            rw [ek, q.1] at hk
            exact absurd hk (by simp [sameKind, kd2])
  | nil =>
    cases ek : kOf k with
    | none => unfold kindOk at hk; rw [ek] at hk; cases hk
    | some dk =>
      rcases hl with ⟨ps, h1, h2⟩ | ⟨ps, h1, h2⟩
      · cases dk with
        | inl k' => exact pure ⟨k', ek⟩ ⟨ps, h1, h2⟩
        | inr k' =>
          cases h2
          have h0 := hw _ h1 (.inl ⟨_, rfl⟩)
          obtain ⟨S', s'⟩ := S.put (c := .dct []) (c' := .dct []) (o := .dT []) hp (dctW_eq e) (.inr ⟨[], rfl, .nil⟩)
          rw [set_same (dctW_eq e)] at S'
          obtain ⟨b, e1, e2⟩ := keyt_val rk ek
          have hb : b ≠ a := fun z => by subst z; rw [h0] at e2; cases e2
          refine ⟨a, upd H a (.dT []), rfl, ⟨Inv.retype I h0, s', S', hp, .inr ⟨[], k', b, .inl upd_same, .nil, ek, e1, by rw [upd_ne hb]; exact e2⟩⟩, fun u hu _ => ?_⟩
          rcases hu with hu | ⟨ob, hu⟩
          · exact hu
          · rw [upd_same] at hu; cases hu
      · cases dk with
        | inr k' => exact tupl ⟨k', ek⟩ ⟨ps, h1, h2⟩
        | inl k' =>
          cases h2
          have h0 := hw _ h1 (.inr ⟨_, rfl⟩)
          obtain ⟨S', s'⟩ := S.put (c := .dct []) (c' := .dct []) (o := .dK []) hp (dctW_eq e) (.inl ⟨[], rfl, .nil⟩)
          rw [set_same (dctW_eq e)] at S'
          refine ⟨a, upd H a (.dK []), rfl, ⟨Inv.retypeB I h0, s', S', hp, .inl ⟨[], k', .inl upd_same, .nil, ek, key_val rk ek⟩⟩, fun u hu _ => ?_⟩
          rcases hu with hu | ⟨ob, hu⟩
          · exact hu
          · rw [upd_same] at hu; cases hu
theorem Rep.stpK {d : D} {v : V} {ρ' : List Addr} {H' : Hp} (S : SR X.K X.mg ρ st H) (a : Stp ρ H ρ' H') (r : Rep X.K X.mg ρ H d v) : Rep X.K X.mg ρ' H' d v := r.stp S a
/-- what a look-up finds -/
theorem DView.get {n : Nat} {a : Addr} {kvs : List (D × D)} {H1 : Hp} {k : D} {y : V} (w : DView X pins σ ρ st s n a kvs H H1 k y) : ∃ r, DGet H1 a y r ∧ match dGet kvs k with | none => r = none | some d => ∃ u, r = some u ∧ Rep X.K X.mg ρ H1 d u := by
  rcases w.lay with ⟨ps, k', h1, h2, h3, rfl⟩ | ⟨ps, k', b, h1, h2, h3, rfl, h4⟩
  · exact ⟨_, .inl ⟨ps, k', h1, rfl, rfl⟩, h2.get h3⟩
  · exact ⟨_, .inr ⟨ps, k', b, h1, rfl, h4, rfl⟩, h2.get h3⟩
theorem DView.put {n : Nat} {a : Addr} {kvs : List (D × D)} {H1 : Hp} {k d : D} {y v : V} (w : DView X pins σ ρ st s n a kvs H H1 k y) (hw : ∀ u, Rd H1 a u → (∃ ps, u = .dK ps) ∨ (∃ ps, u = .dT ps) → H1 a = some u) (e : dctW st n = some kvs) (hl : kvs.length < sizeLine) (r : Rep X.K X.mg ρ H1 d v) :
    ∃ H2, DPut H1 a y v H2 ∧ SR X.K X.mg ρ (st.set n (.dct (dPut kvs k d))) H2 ∧ Stp ρ H1 ρ H2 := by
  have stp : ∀ o, Stp ρ H1 ρ (upd H1 a o) := fun o => by
    refine ⟨⟨[], by simp, by simp⟩, fun x u hx hn' => ?_, fun x hx => ?_⟩
    · rw [upd_ne (fun z => hn' (by rw [z]; exact List.mem_of_getElem? w.pl))]; exact hx
    · by_cases z : x = a
      · rw [z, upd_same]; simp
      · rw [upd_ne z]; exact hx
  rcases w.lay with ⟨ps, k', h1, h2, h3, rfl⟩ | ⟨ps, k', b, h1, h2, h3, rfl, h4⟩
  · have h0 := hw _ h1 (.inl ⟨_, rfl⟩)
    refine ⟨_, .inl ⟨ps, k', h0, rfl, by rw [← h2.len]; exact hl, rfl⟩, ?_⟩
    exact w.sr.put (o := .dK (putK ps k' v)) w.pl (dctW_eq e) (.inl ⟨_, rfl, PKg.one (Paired.mapR (h2.put h3 r) fun _ _ q => ⟨q.1, q.2.stp w.sr (stp _)⟩)⟩)
  · have h0 := hw _ h1 (.inr ⟨_, rfl⟩)
    refine ⟨_, .inr ⟨ps, k', b, h0, rfl, h4, by rw [← h2.len]; exact hl, rfl⟩, ?_⟩
    exact w.sr.put (o := .dT (putK ps k' v)) w.pl (dctW_eq e) (.inr ⟨_, rfl, PKg.two (Paired.mapR (h2.put h3 r) fun _ _ q => ⟨q.1, q.2.stp w.sr (stp _)⟩)⟩)
/-- a dict read at a key: where it may be changed, or where it is not empty -/
theorem dct_read (I : L2.Inv X pins σ H s) (S : SR X.K X.mg ρ st H) {n : Nat} {v y : V} {kvs : List (D × D)} {k : D} (r : Rep X.K X.mg ρ H (.loc n) v) (rk : Rep X.K X.mg ρ H k y) (e : dctW st n = some kvs) (hk : kindOk kvs k = true) :
    ∃ a H1 o, v = .ref a ∧ L2.Inv X pins σ H1 s ∧ Stp ρ H ρ H1 ∧ SR X.K X.mg ρ st H1 ∧ DGet H1 a y o ∧ match dGet kvs k with | none => o = none | some d => ∃ u, o = some u ∧ Rep X.K X.mg ρ H1 d u := by
  obtain ⟨a, H1, rfl, w, _⟩ := dct_view I S r rk e hk
  obtain ⟨o, h1, h2⟩ := w.get
  exact ⟨a, H1, o, rfl, w.inv, w.stp, w.sr, h1, h2⟩
end

/-! ### in, not in -/
def inStr (x y : Str) : Bool := !(Builtin.Str.occurrences y x 0 y.length 1).isEmpty
def inD (x y : D) (st : Store) : Option Bool := match y with
  | .str b => match x with
    | .str a => some (inStr a b)
    | _ => none
  | y => match (match y with | .loc n => dctW st n | _ => none) with
    | some kvs => if kindOk kvs x then some (dGet kvs x).isSome else none
    | none => match toP st x, toP st y with
      | some p, some (.list ps) => if SeqAt.shaped p && SeqAt.shaped (.list ps) then some (ps.any fun z => PyData.eqv z p) else none
      | some p, some (.tuple ps) => if SeqAt.shaped p && SeqAt.shaped (.tuple ps) then some (ps.any fun z => PyData.eqv z p) else none
      | _, _ => none
def opIn (neg : Bool) : Op2 := fun x y st => (inD x y st).map fun b => (.bl (b != neg), st)
section
variable {X : Cx}
/-- x in y, of three sorts -/
def rInG (X : Cx) (neg : Bool) : R2 := fun x y H Q => (∃ i j, x = .str i ∧ y = .str j ∧ Q (.bl (inStr i j != neg)) H) ∨
  (∃ p ps, Dp X.K H x p ∧ (Dp X.K H y (.list ps) ∨ Dp X.K H y (.tuple ps)) ∧ SeqAt.shaped p = true ∧ PyData.canLayAll0 ps = true ∧ Q (.bl ((ps.any fun z => PyData.eqv z p) != neg)) H) ∨
  (∃ ρ st n k kvs, SR X.K X.mg ρ st H ∧ Rep X.K X.mg ρ H (.loc n) y ∧ Rep X.K X.mg ρ H k x ∧ dctW st n = some kvs ∧ kindOk kvs k = true ∧ ∀ H1, Stp ρ H ρ H1 → SR X.K X.mg ρ st H1 → Q (.bl ((dGet kvs k).isSome != neg)) H1)
theorem canLay_tup {ps : List PyData} (h : SeqAt.shaped (.tuple ps) = true) : PyData.canLayAll0 ps = true := by
  rw [SeqAt.shaped.eq_def, Bool.and_eq_true] at h
  have := h.1
  simpa [PyData.canLay0] using this
theorem canLay_lst {ps : List PyData} (h : SeqAt.shaped (.list ps) = true) : PyData.canLayAll0 ps = true := by
  rw [SeqAt.shaped.eq_def, Bool.and_eq_true] at h
  have := h.1
  simpa [PyData.canLay0] using this
theorem rInG_of {neg : Bool} {x y : V} {H : Hp} {Q : VK} (h : rG2 X (opIn neg) x y H Q) : rInG X neg x y H Q := by
  obtain ⟨ρ, st, dx, dy, d, st', S, r1, r2, e, q⟩ := h
  unfold opIn at e
  cases e1 : inD dx dy st with
  | none => rw [e1] at e; cases e
  | some b =>
    rw [e1] at e
    cases e
    unfold inD at e1
    split at e1
    · split at e1
      · cases e1; cases r1; cases r2
        exact .inl ⟨_, _, rfl, rfl, q.here S (.bl _)⟩
      · cases e1
    · split at e1
      · rename_i kvs hd
        split at e1
        · rename_i hk
          cases e1
          split at hd
          · exact .inr (.inr ⟨ρ, st, _, dx, kvs, S, r2, r1, hd, hk, fun H1 a S1 => q _ _ _ a S1 (.bl _)⟩)
          · cases hd
        · cases e1
      · split at e1
        · rename_i p ps h1 h2
          split at e1
          · rename_i hs
            cases e1
            rw [Bool.and_eq_true] at hs
            exact .inr (.inl ⟨p, ps, toP_dp S r1 h1, .inl (toP_dp S r2 h2), hs.1, canLay_lst hs.2, q.here S (.bl _)⟩)
          · cases e1
        · rename_i p ps h1 h2
          split at e1
          · rename_i hs
            cases e1
            rw [Bool.and_eq_true] at hs
            exact .inr (.inl ⟨p, ps, toP_dp S r1 h1, .inr (toP_dp S r2 h2), hs.1, canLay_tup hs.2, q.here S (.bl _)⟩)
          · cases e1
        · cases e1
theorem opIn_ok (hu : X.A.units + 65 < cLine) : OpR X (compareOp .In) (rG2 X (opIn false)) := by
  intro pins s σ H x y v u Q I rx ry h
  rcases rInG_of h with ⟨i, j, rfl, rfl, q⟩ | ⟨p, ps, h1, h2, h3, h4, q⟩ | ⟨ρ, st, n, k, kvs, S, r2, r1, hd, hk, q⟩
  · exact op_in_str pins s σ H _ _ v u Q I rx ry ⟨i, j, rfl, rfl, by simpa [inStr] using q⟩
  · obtain ⟨as, q1⟩ := Dp.reads I p x v h1 rx
    rcases h2 with h2 | h2
    · obtain ⟨bs, q2⟩ := Dp.reads I _ y u h2 ry
      exact SeqAt.in_list_reads q2 q1 h4 (SeqAt.canLay_of_shaped h3) (PyProof.Rows.room_in_shaped h3 hu) ⟨.bl _, H, I, rfl, by simpa using q⟩
    · obtain ⟨bs, q2⟩ := Dp.reads I _ y u h2 ry
      exact SeqAt.in_tuple_reads q2 q1 h4 (SeqAt.canLay_of_shaped h3) (PyProof.Rows.room_in_shaped h3 hu) ⟨.bl _, H, I, rfl, by simpa using q⟩
  · obtain ⟨a, H1, o, rfl, I1, a1, S1, g, m⟩ := dct_read I S r2 r1 hd hk
    cases ry
    refine d_in (by omega) I1 g rx fun s' I' => ⟨.bl (dGet kvs k).isSome, H1, I', ?_, by simpa using q H1 a1 S1⟩
    split at m
    · rename_i e; rw [m, e]; rfl
    · rename_i e; obtain ⟨w, rfl, _⟩ := m; rw [e]; rfl
theorem opNotIn_ok (hu : X.A.units + 65 < cLine) : OpR X (compareOp .NotIn) (rG2 X (opIn true)) := by
  intro pins s σ H x y v u Q I rx ry h
  rcases rInG_of h with ⟨i, j, rfl, rfl, q⟩ | ⟨p, ps, h1, h2, h3, h4, q⟩ | ⟨ρ, st, n, k, kvs, S, r2, r1, hd, hk, q⟩
  · exact op_notIn_str pins s σ H _ _ v u Q I rx ry ⟨i, j, rfl, rfl, by simpa [inStr] using q⟩
  · obtain ⟨as, q1⟩ := Dp.reads I p x v h1 rx
    rcases h2 with h2 | h2
    · obtain ⟨bs, q2⟩ := Dp.reads I _ y u h2 ry
      exact SeqAt.notIn_list_reads q2 q1 h4 (SeqAt.canLay_of_shaped h3) (PyProof.Rows.room_in_shaped h3 hu) ⟨.bl _, H, I, rfl, by simpa using q⟩
    · obtain ⟨bs, q2⟩ := Dp.reads I _ y u h2 ry
      exact SeqAt.notIn_tuple_reads q2 q1 h4 (SeqAt.canLay_of_shaped h3) (PyProof.Rows.room_in_shaped h3 hu) ⟨.bl _, H, I, rfl, by simpa using q⟩
  · obtain ⟨a, H1, o, rfl, I1, a1, S1, g, m⟩ := dct_read I S r2 r1 hd hk
    cases ry
    refine d_notIn (by omega) I1 g rx fun s' I' => ⟨.bl (!(dGet kvs k).isSome), H1, I', ?_, by simpa using q H1 a1 S1⟩
    split at m
    · rename_i e; rw [m, e]; rfl
    · rename_i e; obtain ⟨w, rfl, _⟩ := m; rw [e]; rfl
end
end G

/-! G7: items and slices. -/
namespace G
open PySem L2 PySem.Spec PyProof.Rows

/-! ### backwards -/
/-- an end of a slice that goes backwards, counted from one on -/
def bEnd (n d : Nat) : Option Int → Nat
  | none => d
  | some v => if v < 0 then (v + n + 1).toNat else min (v.toNat + 1) n
def cutF {α : Type} (xs : List α) (lo hi : Option Int) : List α := (xs.drop (HT.sIx xs.length 0 lo)).take (HT.sIx xs.length xs.length hi - HT.sIx xs.length 0 lo)
def cutB {α : Type} (xs : List α) (lo hi : Option Int) : List α := ((xs.take (bEnd xs.length xs.length lo)).drop (bEnd xs.length 0 hi)).reverse
theorem back_step {α : Type} (xs : List α) (i : Nat) (hi : i ≤ xs.length) : ∀ k, k ≤ i → (List.range k).filterMap (fun (m : Nat) => xs[((i : Int) - 1 + (m : Int) * (-1)).toNat]?) = ((xs.take i).drop (i - k)).reverse
  | 0, _ => by
    rw [List.drop_of_length_le (by rw [List.length_take]; omega)]
    rfl
  | k + 1, hk => by
    rw [List.range_succ, List.filterMap_append, back_step xs i hi k (by omega)]
    have e : ((i : Int) - 1 + (k : Int) * (-1)).toNat = i - (k + 1) := by omega
    have hlt : i - (k + 1) < xs.length := by omega
    have e2 : (xs.take i).drop (i - (k + 1)) = xs[i - (k + 1)] :: (xs.take i).drop (i - k) := by
      have hl : i - (k + 1) < (xs.take i).length := by rw [List.length_take]; omega
      rw [List.drop_eq_getElem_cons hl, List.getElem_take]
      congr 2
      omega
    rw [e2, List.reverse_cons]
    congr 1
    simp only [List.filterMap_cons, List.filterMap_nil, e]
    rw [List.getElem?_eq_getElem hlt]
theorem cutB_length {α : Type} (xs : List α) (lo hi : Option Int) : (cutB xs lo hi).length ≤ xs.length := by
  unfold cutB
  rw [List.length_reverse, List.length_drop, List.length_take]
  omega
/-- items by numbers that fall -/
theorem pickB {α : Type} (xs : List α) (lo hi : Option Int) (a b : Int) (ha : a + 1 = (bEnd xs.length xs.length lo : Nat)) (hb : b + 1 = (bEnd xs.length 0 hi : Nat)) (hl : bEnd xs.length xs.length lo ≤ xs.length) (k : Nat) (hk : k = (if a > b then a - b else 0).toNat) :
    (List.range k).filterMap (fun (m : Nat) => xs[(a + (m : Int) * (-1)).toNat]?) = cutB xs lo hi := by
  unfold cutB
  generalize bEnd xs.length xs.length lo = p at *
  generalize bEnd xs.length 0 hi = q at *
  have e : a = (p : Int) - 1 := by omega
  subst e
  have hk2 : k = p - q := by
    split at hk <;> omega
  subst hk2
  rw [back_step xs p hl (p - q) (by omega)]
  by_cases h : q ≤ p
  · rw [show p - (p - q) = q by omega]
  · rw [show p - (p - q) = p by omega, List.drop_of_length_le (by rw [List.length_take]; omega), List.drop_of_length_le (by rw [List.length_take]; omega)]
theorem bEnd_ok {α : Type} (xs : List α) (lo : Option Int) : bEnd xs.length xs.length lo ≤ xs.length := by
  cases lo with
  | none => exact Nat.le_refl _
  | some v =>
    show (if v < 0 then (v + xs.length + 1).toNat else min (v.toNat + 1) xs.length) ≤ xs.length
    split <;> omega
theorem fm_congr {α β : Type} {f g : α → Option β} : ∀ {l : List α}, (∀ x, f x = g x) → l.filterMap f = l.filterMap g := fun h => by
  rw [show f = g from funext h]
theorem bEnd_clip (n d : Nat) (o : Option Int) (hd : (d : Int) = 0 ∨ d = n) (c : Int) (hc : c = match o with
    | none => (d : Int) - 1
    | some i => max (-1) (min (if i < 0 then i + n else i) ((n : Int) - 1))) : c + 1 = (bEnd n d o : Nat) := by
  subst hc
  cases o with
  | none =>
    show (d : Int) - 1 + 1 = (d : Int)
    omega
  | some i =>
    show max (-1) (min (if i < 0 then i + n else i) ((n : Int) - 1)) + 1 = ((if i < 0 then (i + n + 1).toNat else min (i.toNat + 1) n : Nat) : Int)
    split <;> omega
theorem range_back {α : Type} (xs : List α) (lo hi : Option Int) (a b : Int) (ha : a + 1 = (bEnd xs.length xs.length lo : Nat)) (hb : b + 1 = (bEnd xs.length 0 hi : Nat)) : (sliceRange a b (-1)).filterMap (fun i => xs[i]?) = cutB xs lo hi := by
  have h := pickB xs lo hi a b ha hb (bEnd_ok xs lo) _ rfl
  rw [← h]
  unfold sliceRange
  rw [List.filterMap_map]
  have e : (if (-1 : Int) > 0 then (if a < b then (b - a + -1 - 1) / -1 else 0) else (if a > b then (a - b - -1 - 1) / (- -1) else 0)) = (if a > b then a - b else 0) := by
    rw [if_neg (by omega)]
    split
    · rw [Int.neg_neg, Int.ediv_one]; omega
    · rfl
  rw [e]
  refine fm_congr fun m => ?_
  show xs[(a + -1 * (m : Int)).toNat]? = _
  rw [show a + -1 * (m : Int) = a + (m : Int) * (-1) by omega]
theorem slicePick_back (its : List Value) (lo hi : Option Int) : slicePick its.toArray lo hi (some (-1)) = (cutB its lo hi).toArray := by
  unfold slicePick
  congr 1
  rw [← range_back its lo hi (sliceBounds lo hi (some (-1)) its.toArray.size).1 (sliceBounds lo hi (some (-1)) its.toArray.size).2.1]
  · refine fm_congr fun m => ?_
    simp
  · refine bEnd_clip _ _ _ (.inr rfl) _ ?_
    unfold sliceBounds
    cases lo <;> simp
  · refine bEnd_clip _ _ _ (.inl rfl) _ ?_
    unfold sliceBounds
    cases hi <;> simp
theorem slicePick_fwd (its : List Value) (lo hi : Option Int) : slicePick its.toArray lo hi (some 1) = (cutF its lo hi).toArray := by
  have h := slicePick_cut its lo hi
  unfold cutF
  rw [← h]
  rfl
theorem strIdx_back (z : Str) (lo hi : Option Int) : ((Builtin.Str.strSliceIndices lo hi (-1) z.length).filterMap (z.cps[·]?)) = cutB z.cps.toList lo hi := by
  have e : z.length = z.cps.toList.length := by simp [Str.length]
  unfold Builtin.Str.strSliceIndices
  rw [e]
  dsimp only
  rw [← range_back z.cps.toList lo hi]
  · refine fm_congr fun m => ?_
    simp
  · refine bEnd_clip _ _ _ (.inr rfl) _ ?_
    cases lo <;> simp
  · refine bEnd_clip _ _ _ (.inl rfl) _ ?_
    cases hi <;> simp
theorem Vals.cutB {xs : List V} {us : List Value} (r : Vals xs us) (lo hi : Option Int) : Vals (G.cutB xs lo hi) (G.cutB us lo hi) := by
  unfold G.cutB
  rw [r.length]
  exact Vals.reverse (Vals.drop _ (Vals.take _ r))
theorem Reps.cutB {K : PySem.W.Frag} {mg : Str → Option Value} {ρ : List Addr} {H : Hp} {xs : List D} {vs : List V} (r : Reps K mg ρ H xs vs) (lo hi : Option Int) : Reps K mg ρ H (G.cutB xs lo hi) (G.cutB vs lo hi) := by
  unfold G.cutB
  rw [r.length]
  exact ((r.take _).drop _).reverse
theorem Reps.cutF {K : PySem.W.Frag} {mg : Str → Option Value} {ρ : List Addr} {H : Hp} {xs : List D} {vs : List V} (r : Reps K mg ρ H xs vs) (lo hi : Option Int) : Reps K mg ρ H (G.cutF xs lo hi) (cutV vs lo hi) := by
  unfold G.cutF cutV
  rw [r.length]
  exact (r.drop _).take _

/-! ### items by a place -/
section
variable {K : PySem.W.Frag} {mg : Str → Option Value} {ρ : List Addr} {H : Hp} {st : Store}
theorem Reps.at {xs : List D} {vs : List V} {i : Int} {d : D} (r : Reps K mg ρ H xs vs) (h : atI xs i = some d) : ∃ v, atI vs i = some v ∧ Rep K mg ρ H d v := by
  unfold atI at h ⊢
  rw [r.length] at h
  cases e : ixN vs.length i with
  | none => rw [e] at h; cases h
  | some j =>
    rw [e] at h
    exact r.get h
end
/-- what is read at a place, at a key -/
def opIx : Op2 := fun x y st => match x, y with
  | .tup xs, .int i => (atI xs i).map fun d => (d, st)
  | .str z, .int i => if z.length ≤ sizeLine then (atI z.cps.toList i).map fun c => (.str ⟨#[c]⟩, st) else none
  | x, y => match (match x with | .loc n => dctW st n | _ => none) with
    | some kvs => if kindOk kvs y then (dGet kvs y).map fun d => (d, st) else none
    | none => match lstD x st, y with
      | some xs, .int i => (atI xs i).map fun d => (d, st)
      | _, _ => none
section
variable {X : Cx}
/-- d[k], the key there -/
theorem ix_dct (hu : X.A.units + 1 < cLine) : IxR X (fun x y H Q => ∃ ρ st n k kvs d, SR X.K X.mg ρ st H ∧ Rep X.K X.mg ρ H (.loc n) x ∧ Rep X.K X.mg ρ H k y ∧ dctW st n = some kvs ∧ kindOk kvs k = true ∧ dGet kvs k = some d ∧ Cont X.K X.mg (Rep X.K X.mg) ρ H d st Q) := by
  intro value slice pins s σ H x y v u Q I rx ry h hs
  obtain ⟨ρ, st, n, k, kvs, d, S, r1, r2, hd, hk, hg, q⟩ := h
  obtain ⟨a, H1, o, rfl, I1, a1, S1, g, m⟩ := dct_read I S r1 r2 hd hk
  rw [hg] at m
  obtain ⟨w, rfl, rw'⟩ := m
  cases rx
  exact tail_any (dict_typeIs I1 g) (PySem.F.slot_dict_getitem.lookup) (d_getItem hu I1 g ry fun w' s' I' r' => ⟨w, H1, I', r', q _ _ _ a1 S1 rw'⟩) hs
theorem opIx_ok (hu : X.A.units + 1 < cLine) : IxR X (rG2 X opIx) :=
  IxR.imp (ix_seq.or (ix_dct hu)) fun x y H Q ⟨ρ, st, dx, dy, d, st', S, r1, r2, e, q⟩ => by
    unfold opIx at e
    split at e
    · rename_i xs i
      cases e1 : atI xs i with
      | none => rw [e1] at e; cases e
      | some d' =>
        rw [e1] at e
        cases e; cases r2
        obtain ⟨a, vs, rfl, h, p⟩ := tup_sq r1
        obtain ⟨v, h1, h2⟩ := p.at e1
        exact .inl (.inr (.inl ⟨a, vs, _, v, rfl, rfl, h, h1, q.here S h2⟩))
    · rename_i z i
      split at e
      · rename_i hz
        cases e1 : atI z.cps.toList i with
        | none => rw [e1] at e; cases e
        | some c =>
          rw [e1] at e
          cases e; cases r1; cases r2
          exact .inl (.inr (.inr ⟨_, _, c, rfl, rfl, hz, e1, q.here S (.str _)⟩))
      · cases e
    · split at e
      · rename_i kvs hd
        split at e
        · rename_i hk
          cases hg : dGet kvs dy with
          | none => rw [hg] at e; cases e
          | some d' =>
            rw [hg] at e
            cases e
            split at hd
            · exact .inr ⟨ρ, st, _, dy, kvs, d, S, r1, r2, hd, hk, hg, q⟩
            · cases hd
        · cases e
      · split at e
        · rename_i xs i hx _ _
          cases e1 : atI xs i with
          | none => rw [e1] at e; cases e
          | some d' =>
            rw [e1] at e
            cases e; cases r2
            obtain ⟨a, vs, rfl, h, p⟩ := lst_sq S r1 hx
            obtain ⟨v, h1, h2⟩ := p.at e1
            exact .inl (.inl ⟨a, vs, _, v, rfl, rfl, h, h1, q.here S h2⟩)
        · cases e
variable {W : WX} {a b : Expr} {pos : Pos} {ma mb : ME}
theorem ge_ix (hu : X.A.units + 1 < cLine) (ha : GE X W a ma) (hb : GE X W b mb) (hs : PlainIx b) : GE X W (.Subscript a b pos) (mBin opIx ma mb) := ge_bin2 ha hb (pe_ix (opIx_ok hu) ha hb hs)

/-! ### slices -/
def oNone : MO := fun _ st => .ok none st
def oSome (m : ME) : MO := fun σ st => (m σ st).bind fun d st1 => match d with
  | .int i => .ok (some i) st1
  | _ => .fail
theorem go_none : GO X W none oNone := PO.imp po_none fun σ H Q ⟨ρ, st, σd, S, E, P⟩ => P _ H ρ Stp.refl S rfl
theorem go_some (ha : GE X W a ma) : GO X W (some a) (oSome ma) := PO.imp (po_some ha) fun σ H Q ⟨ρ, st, σd, S, E, P⟩ => tR.bnd S E P fun x H1 dx st1 ρ1 _ _ S1 E1 R1 P1 => by
  split at P1
  · cases R1
    exact ⟨_, rfl, P1 _ H1 ρ1 Stp.refl S1 rfl⟩
  · exact P1.elim
/-- x[lo:hi] -/
def slD (x : D) (lo hi : Option Int) (st : Store) : Option (D × Store) := match x with
  | .tup xs => some (.tup (cutF xs lo hi), st)
  | .str z => if z.length ≤ sizeLine then some (.str (cutS z lo hi), st) else none
  | x => match lstD x st with
    | some xs => some (.loc st.length, st ++ [.lst (cutF xs lo hi)])
    | none => none
def mSl (m : ME) (l h : MO) : ME := fun σ st => (m σ st).bind fun x st1 => (l σ st1).bind fun lo st2 => (h σ st2).bind fun hi st3 => lift (slD x lo hi st3)
def rSlG (X : Cx) : V → Option Int → Option Int → Hp → VK → Prop := fun x lo hi H Q => ∃ ρ st dx d st', SR X.K X.mg ρ st H ∧ Rep X.K X.mg ρ H dx x ∧ slD dx lo hi st = some (d, st') ∧ Cont X.K X.mg (Rep X.K X.mg) ρ H d st' Q
theorem SlR.imp {r r' : V → Option Int → Option Int → Hp → VK → Prop} (h : SlR X r) (i : ∀ x lo hi H Q, r' x lo hi H Q → r x lo hi H Q) : SlR X r' := fun pins s σ H x v vl vu lo hi sl Q I rx hs pl pu q => h pins s σ H x v vl vu lo hi sl Q I rx hs pl pu (i x lo hi H Q q)
theorem cut_all {α : Type} (xs : List α) {lo hi : Option Int} (h : HT.sIx xs.length 0 lo = 0 ∧ HT.sIx xs.length xs.length hi = xs.length) : cutF xs lo hi = xs := by
  unfold cutF
  rw [h.1, h.2]
  simp
theorem slG_ok : SlR X (rSlG X) :=
  SlR.imp (sl_list.or (sl_tupA.or sl_str)) fun x lo hi H Q ⟨ρ, st, dx, d, st', S, r, e, q⟩ => by
    unfold slD at e
    split at e
    · rename_i xs
      cases e
      obtain ⟨a, vs, rfl, h, p⟩ := tup_sq r
      refine .inr (.inl ⟨a, vs, rfl, h, fun hw => ?_, fun _ => new_tup S (p.cutF lo hi) q⟩)
      rw [← p.length] at hw
      rw [cut_all xs hw] at q
      exact q.here S r
    · split at e
      · rename_i hz
        cases e; cases r
        exact .inr (.inr ⟨_, rfl, hz, q.here S (.str _)⟩)
      · cases e
    · split at e
      · rename_i xs hx
        cases e
        obtain ⟨a, vs, rfl, h, p⟩ := lst_sq S r hx
        exact .inl ⟨a, vs, rfl, h, new_lst S (p.cutF lo hi) q⟩
      · cases e
theorem ge_slice {lo hi : Option Expr} {ml mh : MO} {p2 : Pos} (ha : GE X W a ma) (hl : GO X W lo ml) (hh : GO X W hi mh) : GE X W (.Subscript a (.Slice lo hi none p2) pos) (mSl ma ml mh) :=
  PE.imp (pe_slice slG_ok ha hl hh) fun σ H Q ⟨ρ, st, σd, S, E, P⟩ => tR.bnd S E P fun x H1 dx st1 ρ1 _ a1 S1 E1 R1 P1 => tR.bnd S1 E1 P1 fun l H2 l' st2 ρ2 _ a2 S2 E2 R2 P2 => tR.bnd S2 E2 P2 fun h H3 h' st3 ρ3 _ a3 S3 E3 R3 P3 => by
    cases R2; cases R3
    obtain ⟨d, st', e, q⟩ := P3.lift
    exact ⟨ρ3, st3, dx, d, st', S3, (R1.stp S1 a2).stp S2 a3, e, q⟩

/-! ### slices with a step of one, forward or backward -/
def cutS3 {α : Type} (xs : List α) (lo hi : Option Int) (k : Int) : List α := if k = 1 then cutF xs lo hi else cutB xs lo hi
theorem Vals.cutF {xs : List V} {us : List Value} (r : Vals xs us) (lo hi : Option Int) : Vals (G.cutF xs lo hi) (G.cutF us lo hi) := by
  unfold G.cutF
  rw [r.length]
  exact Vals.take _ (Vals.drop _ r)
theorem cutF_length {α : Type} (xs : List α) (lo hi : Option Int) : (cutF xs lo hi).length ≤ xs.length := by
  unfold cutF
  rw [List.length_take, List.length_drop]
  omega
section
variable {prog : Program} {w : World} {A : Around} {E : Value → Shared → Prop} {s : Shared}
theorem applied_back {sl : Addr} {vl vu : Value} {t : Tok} {lo hi : Option Int} {n : Nat} {R : Int × Int × Nat → Shared → Prop} (hs : s.heap.IsSliceOf sl vl vu (.int (-1) t)) (pl : IsPart vl lo) (pu : IsPart vu hi)
    (h : ∀ a b : Int, a + 1 = (bEnd n n lo : Nat) → b + 1 = (bEnd n 0 hi : Nat) → R (a, -1, (if a > b then a - b else 0).toNat) s) : wpAny (model prog w) A (Builtin.Slice.sliceApplied (.ref sl) (pure (n : Int))) R E s := by
  obtain ⟨os, hos, hcs, hds⟩ := id hs
  unfold Builtin.Slice.sliceApplied Builtin.Slice.sliceFields
  refine wpAny_bind (wpAny_bind (wpAny_field hos hds (x := vl) rfl (wpAny_bind (wpAny_field hos hds (x := vu) rfl (wpAny_bind (wpAny_field hos hds (x := .int (-1) t) rfl (wpAny_pure ?_)))))))
  refine wpAny_bind (HT.slicePart_ (IsPart.int (-1) t) ?_)
  show wpAny _ _ (if ((-1 : Int) == 0) = true then _ else _) _ _ s
  rw [if_neg (by decide)]
  refine wpAny_bind (HT.slicePart_ pl (wpAny_bind (HT.slicePart_ pu (wpAny_bind (wpAny_pure ?_)))))
  have ha : (Builtin.Slice.sliceAdjust lo hi (-1) (n : Int)).1 + 1 = (bEnd n n lo : Nat) := by
    cases lo with
    | none =>
      show ((n : Int) - 1) + 1 = ((n : Nat) : Int)
      omega
    | some v =>
      show (if v < 0 then max (v + (n : Int)) (-1) else min v ((n : Int) - 1)) + 1 = ((if v < 0 then (v + n + 1).toNat else min (v.toNat + 1) n : Nat) : Int)
      split <;> omega
  have hb : (Builtin.Slice.sliceAdjust lo hi (-1) (n : Int)).2 + 1 = (bEnd n 0 hi : Nat) := by
    cases hi with
    | none =>
      show (-1 : Int) + 1 = ((0 : Nat) : Int)
      omega
    | some v =>
      show (if v < 0 then max (v + (n : Int)) (-1) else min v ((n : Int) - 1)) + 1 = ((if v < 0 then (v + n + 1).toNat else min (v.toNat + 1) n : Nat) : Int)
      split <;> omega
  have hk := h _ _ ha hb
  have e : Builtin.Slice.slicePlaces (Builtin.Slice.sliceAdjust lo hi (-1) (n : Int)).1 (Builtin.Slice.sliceAdjust lo hi (-1) (n : Int)).2 (-1) = (if (Builtin.Slice.sliceAdjust lo hi (-1) (n : Int)).1 > (Builtin.Slice.sliceAdjust lo hi (-1) (n : Int)).2 then (Builtin.Slice.sliceAdjust lo hi (-1) (n : Int)).1 - (Builtin.Slice.sliceAdjust lo hi (-1) (n : Int)).2 else 0).toNat := by
    generalize (Builtin.Slice.sliceAdjust lo hi (-1) (n : Int)).1 = a
    generalize (Builtin.Slice.sliceAdjust lo hi (-1) (n : Int)).2 = b
    unfold Builtin.Slice.slicePlaces
    congr 1
    rw [if_neg (by omega)]
    split
    · rw [Int.neg_neg, Int.ediv_one]; omega
    · rfl
  rw [← e] at hk
  show wpAny _ _ (match Builtin.Slice.sliceAdjust lo hi (-1) (n : Int) with | (lo, hi) => pure (lo, (-1 : Int), Builtin.Slice.slicePlaces lo hi (-1))) _ _ s
  exact wpAny_pure hk
theorem getItem_tuple_back {t sl : Addr} {items : Array Value} {vl vu : Value} {u : Tok} {lo hi : Option Int} {R : Value → Shared → Prop} (ht : IsTup s.heap t items) (hs : s.heap.IsSliceOf sl vl vu (.int (-1) u)) (pl : IsPart vl lo) (pu : IsPart vu hi)
    (h : R (.ref s.heap.objs.size) { s with heap := s.heap.push { cls := .type "tuple", data := .seq (cutB items.toList lo hi).toArray } })
    (hsz : items.size ≤ sizeLine) : wpAny (model prog w) A (getItem (.ref t) (.ref sl)) R E s := by
  have htake : sizeOk (.seq (cutB items.toList lo hi).toArray) := by
    show (cutB items.toList lo hi).toArray.size ≤ sizeLine
    rw [List.size_toArray]
    refine Nat.le_trans (cutB_length _ _ _) ?_
    rw [Array.length_toList]
    exact hsz
  obtain ⟨os, hos, hcs, hds⟩ := id hs
  have hTs : s.TypeIs (.ref sl) "slice" := ⟨os, hos, hcs⟩
  unfold getItem
  try with_reducible refine wpAny_holding ?_
  first | refine wpAny_bind (wpAny_pure ?_) | skip
  refine wpAny_bind (wpAny_sequenceKey ht.typeIs (by decide) ?_)
  refine wpAny_bind (wpAny_callSpecial?_slot (name := Str.ofString "__getitem__") ht.typeIs PyProof.Rows.slot_tuple_getitem
    (wpAny_call_entry PyProof.Rows.slot_tuple_getitem ht.typeIs entry_tuple_getitem ?_ (args_tuple_getitem _ _)))
  show wpAny _ _ (Builtin.Tuple.tupleItemsOf (.ref t) >>= _) _ _ s
  refine wpAny_bind (tupleItemsOf_ ht ?_)
  refine wpAny_bind (wpAny_typeOf hTs ?_)
  rw [if_pos (by decide)]
  refine wpAny_bind (applied_back hs pl pu fun a b ha hb => ?_)
  have hpk := pickB items.toList lo hi a b (by rw [Array.length_toList]; exact ha) (by rw [Array.length_toList]; exact hb) (bEnd_ok _ _) _ rfl
  have hno : ¬ ((a == 0 && (-1 : Int) == 1 && (if a > b then a - b else 0).toNat == items.size) = true) := by
    intro q
    rw [Bool.and_eq_true, Bool.and_eq_true] at q
    exact absurd (eq_of_beq q.1.2) (by decide)
  show wpAny _ _ (if (a == 0 && (-1 : Int) == 1 && (if a > b then a - b else 0).toNat == items.size) = true then _ else _) _ _ s
  rw [if_neg hno]
  have e : ((List.range (if a > b then a - b else 0).toNat).filterMap fun (m : Nat) => items[(a + (m : Int) * (-1)).toNat]?) = cutB items.toList lo hi := by
    rw [← hpk]
    exact fm_congr fun m => by simp
  rw [e]
  first
    | exact wpAny_bind (m := Builtin.Tuple.tupleExact _) (wpAny_newObj_type (wpAny_pure ⟨_, rfl, wpAny_pure h⟩) htake)
    | exact wpAny_bind (m := Builtin.Tuple.tupleExact _) (wpAny_newObj_type (wpAny_bind (wpAny_pure (wpAny_pure ⟨_, rfl, wpAny_pure h⟩))) htake)
    | exact wpAny_bind (wpAny_bind (m := Builtin.Tuple.tupleExact _) (wpAny_newObj_type (wpAny_pure (wpAny_pure ⟨_, rfl, wpAny_pure h⟩)) htake))
    | exact wpAny_bind (wpAny_bind (m := Builtin.Tuple.tupleExact _) (wpAny_newObj_type (wpAny_pure ⟨_, rfl, wpAny_pure h⟩) htake))
end
def sl3D (x : D) (lo hi : Option Int) (k : Int) (st : Store) : Option (D × Store) := match x with
  | .tup xs => if k = -1 then some (.tup (cutB xs lo hi), st) else none
  | .str z => if z.length ≤ sizeLine ∧ k = -1 then some (.str ⟨(cutB z.cps.toList lo hi).toArray⟩, st) else none
  | x => match lstD x st with
    | some xs => if k = 1 ∨ k = -1 then some (.loc st.length, st ++ [.lst (cutS3 xs lo hi k)]) else none
    | none => none
def mSl3 (m : ME) (l h : MO) (k : ME) : ME := fun σ st => (m σ st).bind fun x st1 => (l σ st1).bind fun lo st2 => (h σ st2).bind fun hi st3 => (k σ st3).bind fun k st4 => match k with
  | .int k => lift (sl3D x lo hi k st4)
  | _ => .fail
theorem Reps.cutS3 {K : PySem.W.Frag} {mg : Str → Option Value} {ρ : List Addr} {H : Hp} {xs : List D} {vs : List V} (r : Reps K mg ρ H xs vs) (lo hi : Option Int) (k : Int) : Reps K mg ρ H (G.cutS3 xs lo hi k) (G.cutS3 vs lo hi k) := by
  unfold G.cutS3
  split
  · exact r.cutF lo hi
  · exact r.cutB lo hi
theorem cutS3_length {α : Type} (xs : List α) (lo hi : Option Int) (k : Int) : (cutS3 xs lo hi k).length ≤ xs.length := by
  unfold cutS3
  split
  · exact cutF_length _ _ _
  · exact cutB_length _ _ _
theorem Vals.cutS3 {xs : List V} {us : List Value} (r : Vals xs us) (lo hi : Option Int) (k : Int) : Vals (G.cutS3 xs lo hi k) (G.cutS3 us lo hi k) := by
  unfold G.cutS3
  split
  · exact Vals.cutF r lo hi
  · exact Vals.cutB r lo hi
theorem slicePick_3 (its : List Value) (lo hi : Option Int) (k : Int) (hk : k = 1 ∨ k = -1) : slicePick its.toArray lo hi (some k) = (cutS3 its lo hi k).toArray := by
  unfold cutS3
  rcases hk with rfl | rfl
  · rw [if_pos rfl, slicePick_fwd]
  · rw [if_neg (by decide), slicePick_back]
section
variable {X : Cx} {W : WX} {a : Expr} {pos : Pos} {ma mk : ME}
/-- by values: the slice's object stands at sl -/
theorem sl3_ok {pins : List (Addr × Obj)} {s : Shared} {σ : L2.St} {H : Hp} {v : V} {u vl vu : Value} {t : Tok} {lo hi : Option Int} {k : Int} {sl : Addr} {Q : VK} {ρ : List Addr} {st st' : Store} {dx d : D} (I : L2.Inv X pins σ H s) (rx : RelV v u)
    (hs : s.heap.IsSliceOf sl vl vu (.int k t)) (pl : IsPart vl lo) (pu : IsPart vu hi) (S : SR X.K X.mg ρ st H) (r : Rep X.K X.mg ρ H dx v) (e : sl3D dx lo hi k st = some (d, st')) (q : Cont X.K X.mg (Rep X.K X.mg) ρ H d st' Q) :
    ∃ T id, typeLookup (.type T) "__getitem__" = pure (some (.builtin id)) ∧ s.TypeIs u T ∧ wpAny (model X.prog X.w) X.A (getItem u (.ref sl)) (EP X pins σ Q) X.xe s := by
  unfold sl3D at e
  split at e
  · split at e
    · rename_i xs hk
      cases e
      subst hk
      obtain ⟨a, vs, rfl, h, p⟩ := tup_sq r
      cases rx
      obtain ⟨its, rv, ht, hz⟩ := I.tuple h
      refine ⟨"tuple", _, PyProof.Rows.slot_tuple_getitem.lookup, ht.typeIs, ?_⟩
      refine getItem_tuple_back ht hs pl pu ?_ (by rw [List.size_toArray, ← rv.length]; exact hz)
      refine ⟨.ref s.heap.objs.size, _, I.laid (t' := s.toks) (o := .tup (cutB vs lo hi)) (fun b ob q => Heap.get?_push_of_some _ q) (Nat.le_refl _) ?_, rfl, new_tup S (p.cutB lo hi) q _ (I.hok.fresh (Nat.le_refl _))⟩
      exact ⟨Nat.le_trans (cutB_length _ _ _) hz, _, by simpa using Vals.cutB rv lo hi, ⟨_, Heap.get?_push_size _ rfl, rfl, _, rfl⟩⟩
    · cases e
  · split at e
    · rename_i z hk
      cases e
      obtain ⟨hz, hk⟩ := hk
      subst hk
      cases r
      obtain ⟨t2, rfl⟩ := rx
      obtain ⟨os, hos, hcs, hds⟩ := hs
      obtain ⟨l, rfl, rfl⟩ := IsPart.raw pl
      obtain ⟨u2, rfl, rfl⟩ := IsPart.raw pu
      refine ⟨"str", _, F.slot_str_getitem.lookup, typeIs_str _ _ _, ?_⟩
      refine wpAny_getItem_str_slice (l := l) (u := u2) (st := some (-1, t)) ⟨os, hos, hcs, hds⟩ rfl ?_
      have e2 := strIdx_back z (l.map (·.1)) (u2.map (·.1))
      show Made.post (if ((-1 : Int) == 1 && (Builtin.Str.strSliceIndices (l.map (·.1)) (u2.map (·.1)) (-1) z.length).length == z.length) = true then Made.val (.str z t2)
        else Made.str ⟨((Builtin.Str.strSliceIndices (l.map (·.1)) (u2.map (·.1)) (-1) z.length).filterMap (z.cps[·]?)).toArray⟩) (EP X pins σ Q) s
      rw [if_neg (by intro h; rw [Bool.and_eq_true] at h; exact absurd (eq_of_beq h.1) (by decide)), e2]
      refine ⟨?_, .str _, H, I.tok _, ⟨_, rfl⟩, q.here S (.str _)⟩
      show (cutB z.cps.toList _ _).toArray.size ≤ sizeLine
      rw [List.size_toArray]
      exact Nat.le_trans (cutB_length _ _ _) (by simpa [Str.length] using hz)
    · cases e
  · split at e
    · rename_i xs hx
      split at e
      · rename_i hk
        cases e
        obtain ⟨a, vs, rfl, h, p⟩ := lst_sq S r hx
        cases rx
        obtain ⟨its, rv, ht, hz⟩ := I.list h
        refine ⟨"list", _, slot_list_getitem.lookup, ht.isList.typeIs, ?_⟩
        refine wpAny_getItem_list_slice ht.isList hs pl pu (.int k t) (by intro z; cases z; omega) ?_ (by rw [List.size_toArray, ← rv.length]; exact hz)
        rw [slicePick_3 _ _ _ _ hk]
        refine ⟨.ref s.heap.objs.size, _, I.laid (t' := s.toks) (o := .lst (cutS3 vs lo hi k)) (fun b ob q => Heap.get?_push_of_some _ q) (Nat.le_refl _) ?_, rfl, new_lst S (p.cutS3 lo hi k) q _ (I.hok.fresh (Nat.le_refl _))⟩
        exact ⟨Nat.le_trans (cutS3_length _ _ _ _) hz, _, 0, Vals.cutS3 rv lo hi k, Heap.get?_push_size _ rfl⟩
      · cases e
    · cases e
theorem ge_slice3 {lo hi : Option Expr} {k : Expr} {ml mh : MO} {p2 : Pos} (ha : GE X W a ma) (hl : GO X W lo ml) (hh : GO X W hi mh) (hk : GE X W k mk) : GE X W (.Subscript a (.Slice lo hi (some k) p2) pos) (mSl3 ma ml mh mk) := by
  refine ⟨fun pins s σ H Q I ⟨ρ, st, σd, S, E, P⟩ => ?_⟩
  have h0 : tM X W ma σ H fun x H1 => tMO X W ml σ H1 fun l H2 => tMO X W mh σ H2 fun h H3 => tM X W mk σ H3 fun y H4 => ∃ k ρ4 st4 dx d st', y = .int k ∧ SR X.K X.mg ρ4 st4 H4 ∧ Rep X.K X.mg ρ4 H4 dx x ∧ sl3D dx l h k st4 = some (d, st') ∧ Cont X.K X.mg (Rep X.K X.mg) ρ4 H4 d st' Q :=
    tR.bnd S E P fun x H1 dx st1 ρ1 _ a1 S1 E1 R1 P1 => tR.bnd S1 E1 P1 fun l H2 l' st2 ρ2 _ a2 S2 E2 R2 P2 => tR.bnd S2 E2 P2 fun h H3 h' st3 ρ3 _ a3 S3 E3 R3 P3 => tR.bnd S3 E3 P3 fun y H4 dk st4 ρ4 _ a4 S4 E4 R4 P4 => by
      cases R2; cases R3
      split at P4
      · cases R4
        obtain ⟨d, st', e, q⟩ := P4.lift
        exact ⟨_, ρ4, st4, dx, d, st', rfl, S4, ((R1.stp S1 a2).stp S2 a3).stp S3 a4, e, q⟩
      · exact P4.elim
  refine Subscript_ (thn (ha.run pins s σ H _ I h0) fun v s1 ⟨x, H1, I1, r1, q1⟩ => ?_)
  refine wpAny_Slice (thn (hl.run pins s1 σ H1 _ I1 q1) fun vl s2 ⟨l, H2, I2, pl, q2⟩ => thn (hh.run pins s2 σ H2 _ I2 q2) fun vu s3 ⟨h, H3, I3, pu, q3⟩ => ?_)
  rw [evalPart_some]
  refine thn (hk.run pins s3 σ H3 _ I3 q3) fun vk s4 ⟨y, H4, I4, r4, k', ρ4, st4, dx, d, st', ey, S4, R4, e, q⟩ => ?_
  subst ey
  obtain ⟨t, rfl⟩ := r4
  have I5 : L2.Inv X pins σ H4 { s4 with heap := s4.heap.push { cls := .type "slice", data := .fields #[vl, vu, .int k' t] } } := I4.kept (t' := s4.toks) fun b ob q => Heap.get?_push_of_some _ q
  obtain ⟨T, id, hT, ht, hg⟩ := sl3_ok I5 r1 (Heap.IsSliceOf.new ..) pl pu S4 R4 e q
  show wpAny (model X.prog X.w) X.A (subscriptTail a (.Slice lo hi (some k) p2) v (.ref s4.heap.objs.size)) (EP X pins σ Q) X.xe { s4 with heap := s4.heap.push { cls := .type "slice", data := .fields #[vl, vu, .int k' t] } }
  exact tail_any (ops := [v, .ref s4.heap.objs.size]) ht hT hg (by with_unfolding_all rfl)
end
end
end G

/-! G8: built-in functions and classes, called. -/
namespace G
open PySem L2 PySem.Spec PyProof.Rows

/-! ### tuple(x) of what a list can be made of -/
section
open PySem.W
variable {prog : Program} {w : World} {A : Around} {E : Value → Shared → Prop} {s : Shared} {T : String} {r d : Addr} {n : Nat} {P : Nat → Value → Prop} {OK : Heap → Prop}
theorem collect_src {R : List Value → Shared → Prop} (K : KdlSrc prog w T r d n P OK) (hh : A.handled = none) (hok : OK s.heap) (hn : n ≤ sizeLine)
    (hQ : ∀ (h' : Heap) (tk : Nat) (acc : Array Value), (∀ b o, s.heap.get? b = some o → h'.get? b = some o) → ItemsOf P acc n → R acc.toList { s with heap := h', toks := tk }) :
    wpAny (model prog w) A (collect (.ref r)) R E s := by
  have hlt := K.there _ hok
  unfold collect
  refine wpAny_bind (wpAny_runValue (codeAny_builtin F.entry_proto_collect ?_))
  rw [Around.under_plainId F.plain_proto_collect _]
  show wpAny _ A.in1 (newList [] >>= fun l => again (.builtin "list.__iadd__" ⟨[l, .ref r], []⟩)) _ _ s
  refine wpAny_bind (wpAny_newObj_type ?_)
  refine wpAny_pure ⟨plainId_quiet F.plain_list_iadd _, codeAny_builtin F.entry_list_iadd ?_⟩
  rw [Around.under_plainId F.plain_list_iadd _]
  show wpAny _ A.in1 (Builtin.List.listExtendWith (.ref s.heap.objs.size) (.ref r) (.ref s.heap.objs.size)) _ _ _
  have hS : (s.heap.push { cls := .type "list", data := .seq ([] : List Value).toArray }).get? s.heap.objs.size = some { cls := .type "list", data := .seq #[] 0 } := Heap.get?_push_size _ rfl
  refine wpAny_mono (kdl_extend (A := A) (R := fun rr s' => rr = .ok (.ret (.ref s.heap.objs.size)) ∧ ∃ (h' : Heap) (tk : Nat) (acc : Array Value) (c' : Nat), s' = { s with heap := h', toks := tk } ∧
      (∀ b o, s.heap.get? b = some o → h'.get? b = some o) ∧ h'.get? s.heap.objs.size = some { cls := .type "list", dict := none, data := .seq acc c', slots := #[] } ∧ ItemsOf P acc n)
    (s := { s with heap := s.heap.push { cls := .type "list", data := .seq ([] : List Value).toArray } }) K hh (K.keep _ _ hok fun b _ o e => Heap.get?_push_of_some _ e) _ (Nat.ne_of_gt hlt.1) (Nat.ne_of_gt hlt.2) _ 0 hS
    (fun h' tk acc c' hk e hi => ⟨rfl, h', tk, acc, c', rfl, fun b o q => hk b o (Nat.ne_of_lt (Heap.lt_size q)) (Heap.get?_push_of_some _ q), e, hi⟩) hn) (fun fin s' h => ?_) (fun e s' h => ?_)
  · cases fin with
    | done f =>
      obtain ⟨e, h', tk, acc, c', rfl, hk, hS', hi⟩ := h
      cases e
      show wpAny _ A (load s.heap.objs.size >>= _) _ _ _
      exact wpAny_bind (wpAny_load hS' (wpAny_pure (hQ h' tk acc hk hi)))
    | again c' =>
      refine ⟨h.1, codeAny_mono h.2 fun rr s'' hr' => ?_⟩
      obtain ⟨rfl, h', tk, acc, c', rfl, hk, hS', hi⟩ := hr'
      show wpAny _ A (load s.heap.objs.size >>= _) _ _ _
      exact wpAny_bind (wpAny_load hS' (wpAny_pure (hQ h' tk acc hk hi)))
  · exact absurd h.1 (by simp)
theorem new_tuple_dict {R : Value → Shared → Prop} (K : KdlSrc prog w "dict" r d n P OK) (hh : A.handled = none) (hok : OK s.heap) (hn : n ≤ sizeLine)
    (h : ∀ (h' : Heap) (tk : Nat) (acc : Array Value), (∀ b o, s.heap.get? b = some o → h'.get? b = some o) → ItemsOf P acc n →
      R (.ref h'.objs.size) { s with heap := h'.push { cls := .type "tuple", data := .seq acc }, toks := tk }) :
    codeAny (model prog w) A (.call (.builtin "tuple.__new__") ⟨[.type "tuple", .ref r], []⟩) (wants R E) s := by
  refine codeAny_of_tree ?_
  show wpAny _ A.in1 (do checkBuiltinCall "tuple.__new__" ⟨[.type "tuple", .ref r], []⟩; again (.builtin "tuple.__new__" ⟨[.type "tuple", .ref r], []⟩)) _ _ s
  refine wpAny_bind (wpAny_of_eq (F.newCall_tuple_1 _) (wpAny_pure ⟨plainId_quiet F.plain_tuple_new _, codeAny_builtin F.entry_tuple_new ?_⟩))
  rw [Around.under_plainId F.plain_tuple_new _]
  have hsub := sub_tuple_self
  have hinit := init_tuple_lookup
  have hmh := madeHere_tuple
  have hTI : s.TypeIs (.ref r) "dict" := K.type s hok
  have hh1 : A.in1.handled = none := hh
  wp_walk using wpAny_typeOf hTI, collect_src (A := A.in1) K hh1 hok hn
  intro h' tk acc hk hacc
  show wpAny _ _ (Builtin.Tuple.tupleExact acc.toList.toArray >>= fun v => ret v) _ _ _
  unfold Builtin.Tuple.tupleExact
  refine wpAny_bind (wpAny_newObj_type ?_ (by show acc.toList.toArray.size ≤ sizeLine; simp only [Array.toArray_toList]; rw [hacc.1]; exact hn))
  refine wpAny_pure ?_
  have e : acc.toList.toArray = acc := by simp
  rw [e]
  exact h h' tk acc hk hacc
theorem call_tuple_dict {R : Value → Shared → Prop} (K : KdlSrc prog w "dict" r d n P OK) (hh : A.handled = none) (hok : OK s.heap) (hn : n ≤ sizeLine)
    (hQ : ∀ (h' : Heap) (tk : Nat) (acc : Array Value), (∀ b o, s.heap.get? b = some o → h'.get? b = some o) → ItemsOf P acc n →
      R (.ref h'.objs.size) { s with heap := h'.push { cls := .type "tuple", data := .seq acc }, toks := tk }) :
    wpAny (model prog w) A (call (.type "tuple") [.ref r]) R E s := by
  refine callType_codes (Q₁ := fun obj s₁ => s₁.TypeIs obj "tuple" ∧ R obj s₁) F.called_tuple (F.typeCall_tuple_1 _) F.entry_object_init
    (new_tuple_dict (A := A.in1) K hh hok hn fun h' tk acc hk hacc => ⟨⟨_, Heap.get?_push_size _ rfl, rfl⟩, hQ h' tk acc hk hacc⟩) fun obj s₁ h₁ => ?_
  exact ⟨h₁.1, F.args_object_init_2 obj _, object_init_meets F.called_tuple.init.lookup F.called_tuple.made (by decide) prog w A.in1 _ s₁ ⟨h₁.1, rfl, h₁.2⟩⟩
end
theorem call_tuple_dK {X : Cx} (hc : X.calm = true) : CallR X (.type "tuple") (fun xs H Q => ∃ p kvs, xs = [.ref p] ∧ H p = some (.dK kvs) ∧ ∀ q, H q = none → Q (.ref q) (upd H q (.tup (kvs.map fun kv => kV kv.1)))) := by
  intro pins s σ H xs us Q I r h
  obtain ⟨p, kvs, rfl, hk, q⟩ := h
  obtain ⟨u, rfl, rx⟩ := vals1 r
  obtain rfl : u = Value.ref p := rx
  obtain ⟨z, lo, vs, rk, hd⟩ := (show ObjOk X.prog X.w H s.heap p (.dK kvs) from I.hok p _ hk)
  obtain ⟨ep, hat⟩ := hd.dictAt
  have hl : kvs.length = vs.length := Paired.length rk
  refine call_tuple_dict (PySem.W.kdl_dict (knd := mixKind X.prog X.w) (kvs := vs) (ep := ep) lo) (I.ok.hd hc) hat (by rw [← hl]; exact z) fun h' tk acc hkeep hacc => ?_
  have I1 : L2.Inv X pins σ H { s with heap := h', toks := tk } := I.kept (t' := tk) hkeep
  refine ⟨.ref h'.objs.size, upd H h'.objs.size (.tup (kvs.map fun kv => kV kv.1)), I1.laid (t' := tk) (fun b o e => Heap.get?_push_of_some _ e) (Nat.le_refl _) (show ObjOk X.prog X.w _ _ _ (.tup (kvs.map fun kv => kV kv.1)) from ⟨by rw [List.length_map]; exact z, acc.toList, ?_, ?_⟩), rfl, q _ (I1.hok.fresh (Nat.le_refl _))⟩
  · have el : acc.toList.length = acc.size := by simp
    refine vals_of_at (by rw [List.length_map, el, hacc.1, hl]) fun j x w h1 h2 => ?_
    obtain ⟨k, y, hky, hi⟩ := hacc.2 j w (by rw [← Array.getElem?_toList]; exact h2)
    have e1 : (kvs.map (·.1))[j]? = some k := by
      rw [KV.keys rk, List.getElem?_map, hky] <;> rfl
    have e2 : (kvs.map fun kv => kV kv.1)[j]? = some (kV k) := by
      have e3 : (kvs.map fun kv => kV kv.1) = (kvs.map (·.1)).map kV := by rw [List.map_map] <;> rfl
      rw [e3, List.getElem?_map, e1] <;> rfl
    rw [e2] at h1
    cases h1
    exact keyIs_rel hi
  · rw [Array.toArray_toList]
    exact IsTup.new _ _

/-! ### len, abs, int, isinstance, all, any, list, tuple, max, min -/
section
variable {X : Cx}
theorem CallR.or3 {f : Value} {r1 r2 r3 : List V → Hp → VK → Prop} (h1 : CallR X f r1) (h2 : CallR X f r2) (h3 : CallR X f r3) : CallR X f (fun xs H Q => r1 xs H Q ∨ r2 xs H Q ∨ r3 xs H Q) := h1.or (h2.or h3)
theorem reps1 {K : PySem.W.Frag} {mg : Str → Option Value} {ρ : List Addr} {H : Hp} {d : D} {xs : List V} (r : Reps K mg ρ H [d] xs) : ∃ x, xs = [x] ∧ Rep K mg ρ H d x := by
  cases r with
  | cons h t => cases t; exact ⟨_, rfl, h⟩
theorem reps2 {K : PySem.W.Frag} {mg : Str → Option Value} {ρ : List Addr} {H : Hp} {d e : D} {xs : List V} (r : Reps K mg ρ H [d, e] xs) : ∃ x y, xs = [x, y] ∧ Rep K mg ρ H d x ∧ Rep K mg ρ H e y := by
  cases r with
  | cons h t =>
    obtain ⟨y, rfl, h2⟩ := reps1 t
    exact ⟨_, y, rfl, h, h2⟩
theorem dctW_of {st : Store} {n : Nat} {kvs : List (D × D)} (e : st[n]? = some (.dct kvs)) : dctW st n = some kvs := by
  unfold dctW
  rw [e]
theorem dctRW {st : Store} {n : Nat} {kvs : List (D × D)} (e : dctW st n = some kvs) : dctR st n = some kvs := by
  unfold dctR
  rw [dctW_eq e]
def bLen : OpN := fun ds st => match ds with
  | [.tup xs] => some (.int xs.length, st)
  | [.str z] => if z.length ≤ sizeLine then some (.int z.length, st) else none
  | [.loc n] => match lstAt st n, dctW st n with
    | some xs, _ => some (.int xs.length, st)
    | none, some kvs => some (.int kvs.length, st)
    | none, none => none
  | [.rol xs] => some (.int xs.length, st)
  | _ => none
theorem bLen_ok : CallR X (.builtin "len") (rGN X bLen) :=
  CallR.imp ((call_len_seq.or call_len_str).or (call_lenD.or call_len_dT)) fun xs H Q ⟨ρ, st, ds, d, st', S, r, e, q⟩ => by
    unfold bLen at e
    split at e
    · cases e
      obtain ⟨x, rfl, r1⟩ := reps1 r
      obtain ⟨a, vs, rfl, h, p⟩ := tup_sq r1
      exact .inl (.inl ⟨a, vs, rfl, .inr h, by rw [← p.length]; exact q.here S (.int _)⟩)
    · split at e
      · rename_i hz
        cases e
        obtain ⟨x, rfl, r1⟩ := reps1 r
        cases r1
        exact .inl (.inr ⟨_, rfl, hz, q.here S (.int _)⟩)
      · cases e
    · obtain ⟨x, rfl, r1⟩ := reps1 r
      split at e
      · rename_i e1
        cases e
        obtain ⟨a, vs, rfl, _, h, p⟩ := loc_lst S r1 (lstAt_eq e1)
        exact .inl (.inl ⟨a, vs, rfl, .inl (.inl (.inl h)), by rw [← p.length]; exact q.here S (.int _)⟩)
      · rename_i kvs _ e1
        cases e
        have e' := dctRW e1
        obtain ⟨a, rfl, hp, hl, hw⟩ := dct_lay S r1 e'
        rcases hl with ⟨ps, h1, h2⟩ | ⟨ps, h1, h2⟩
        · exact .inr (.inl ⟨a, ps, rfl, hw e1 _ h1 (.inl ⟨_, rfl⟩), by rw [← h2.g.len]; exact q.here S (.int _)⟩)
        · exact .inr (.inr ⟨a, ps, rfl, hw e1 _ h1 (.inr ⟨_, rfl⟩), by rw [← h2.g.len]; exact q.here S (.int _)⟩)
      · cases e
    · cases e
      obtain ⟨x, rfl, r1⟩ := reps1 r
      obtain ⟨a, vs, rfl, h, p⟩ := lst_sq (xs := _) S r1 rfl
      exact .inl (.inl ⟨a, vs, rfl, .inl h, by rw [← p.length]; exact q.here S (.int _)⟩)
    · cases e
def bAbs : OpN := fun ds st => match ds with
  | [.int i] => some (.int (if i < 0 then -i else i), st)
  | _ => none
theorem bAbs_ok : CallR X (.builtin "abs") (rGN X bAbs) :=
  CallR.imp call_abs fun xs H Q ⟨ρ, st, ds, d, st', S, r, e, q⟩ => by
    unfold bAbs at e
    split at e
    · cases e
      obtain ⟨x, rfl, r1⟩ := reps1 r
      cases r1
      exact ⟨_, rfl, q.here S (.int _)⟩
    · cases e
def bInt : OpN := fun ds st => match ds with
  | [.int i] => some (.int i, st)
  | [.bl b] => some (.int (if b then 1 else 0), st)
  | _ => none
theorem bInt_ok : CallR X (.type "int") (rGN X bInt) :=
  CallR.imp call_int1 fun xs H Q ⟨ρ, st, ds, d, st', S, r, e, q⟩ => by
    unfold bInt at e
    split at e
    · cases e
      obtain ⟨x, rfl, r1⟩ := reps1 r
      cases r1
      exact .inl ⟨_, rfl, q.here S (.int _)⟩
    · cases e
      obtain ⟨x, rfl, r1⟩ := reps1 r
      cases r1
      exact .inr ⟨_, rfl, q.here S (.int _)⟩
    · cases e
/-- two of ints -/
def bMax2 : OpN := fun ds st => match ds with
  | [.int i, .int j] => some (.int (if j > i then j else i), st)
  | _ => none
def bMin2 : OpN := fun ds st => match ds with
  | [.int i, .int j] => some (.int (if j < i then j else i), st)
  | _ => none
theorem bMax2_ok (hc : X.calm = true) : CallR X (.builtin "max") (rGN X bMax2) :=
  CallR.imp (call_max2 hc) fun xs H Q ⟨ρ, st, ds, d, st', S, r, e, q⟩ => by
    unfold bMax2 at e
    split at e
    · cases e
      obtain ⟨x, y, rfl, r1, r2⟩ := reps2 r
      cases r1; cases r2
      exact ⟨_, _, rfl, q.here S (.int _)⟩
    · cases e
theorem bMin2_ok (hc : X.calm = true) : CallR X (.builtin "min") (rGN X bMin2) :=
  CallR.imp (call_min2 hc) fun xs H Q ⟨ρ, st, ds, d, st', S, r, e, q⟩ => by
    unfold bMin2 at e
    split at e
    · cases e
      obtain ⟨x, y, rfl, r1, r2⟩ := reps2 r
      cases r1; cases r2
      exact ⟨_, _, rfl, q.here S (.int _)⟩
    · cases e
/-- a list of truths -/
def blsD : List D → Option (List Bool)
  | [] => some []
  | .bl b :: r => (blsD r).map (b :: ·)
  | _ :: _ => none
theorem bls_val {K : PySem.W.Frag} {mg : Str → Option Value} {ρ : List Addr} {H : Hp} : ∀ {xs : List D} {vs : List V} {bs : List Bool}, Reps K mg ρ H xs vs → blsD xs = some bs → vs = bs.map V.bl
  | [], _, _, .nil, e => by cases e; rfl
  | x :: r, _, _, .cons h t, e => by
    cases x with
    | bl b =>
      have e2 : (blsD r).map (b :: ·) = some _ := e
      cases e3 : blsD r with
      | none => rw [e3] at e2; cases e2
      | some bs =>
        rw [e3] at e2
        cases e2
        cases h
        rw [bls_val t e3]
        rfl
    | _ => cases e
def bAll : OpN := fun ds st => match ds with
  | [d] => ((lstD d st).bind blsD).map fun bs => (.bl (bs.all id), st)
  | _ => none
def bAny : OpN := fun ds st => match ds with
  | [d] => ((lstD d st).bind blsD).map fun bs => (.bl (bs.any id), st)
  | _ => none
theorem bls_of {d0 d : D} {st st' : Store} {f : List Bool → Bool} (e : ((lstD d0 st).bind blsD).map (fun bs => (D.bl (f bs), st)) = some (d, st')) : ∃ xs bs, lstD d0 st = some xs ∧ blsD xs = some bs ∧ d = .bl (f bs) ∧ st' = st := by
  cases e1 : lstD d0 st with
  | none => rw [e1] at e; cases e
  | some xs =>
    rw [e1] at e
    cases e2 : blsD xs with
    | none => rw [Option.bind_some, e2] at e; cases e
    | some bs =>
      rw [Option.bind_some, e2] at e
      cases e
      exact ⟨xs, bs, rfl, e2, rfl, rfl⟩
theorem bAll_ok (hc : X.calm = true) : CallR X (.builtin "all") (rGN X bAll) :=
  CallR.imp (cr_all hc) fun xs H Q ⟨ρ, st, ds, d, st', S, r, e, q⟩ => by
    unfold bAll at e
    split at e
    · obtain ⟨x, rfl, r1⟩ := reps1 r
      obtain ⟨xs, bs, e1, e2, rfl, rfl⟩ := bls_of e
      obtain ⟨a, vs, rfl, h, p⟩ := lst_sq S r1 e1
      have := bls_val p e2
      subst this
      exact ⟨a, bs, rfl, h, q.here S (.bl _)⟩
    · cases e
theorem bAny_ok (hc : X.calm = true) : CallR X (.builtin "any") (rGN X bAny) :=
  CallR.imp (cr_any hc) fun xs H Q ⟨ρ, st, ds, d, st', S, r, e, q⟩ => by
    unfold bAny at e
    split at e
    · obtain ⟨x, rfl, r1⟩ := reps1 r
      obtain ⟨xs, bs, e1, e2, rfl, rfl⟩ := bls_of e
      obtain ⟨a, vs, rfl, h, p⟩ := lst_sq S r1 e1
      have := bls_val p e2
      subst this
      exact ⟨a, bs, rfl, h, q.here S (.bl _)⟩
    · cases e
/-- list(x), tuple(x) of a list, a tuple, a dict of ints' and texts' keys -/
def flatKeys (kvs : List (D × D)) : Bool := match kvs with
  | [] => false
  | kv :: _ => match kOf kv.1 with
    | some (.inl _) => true
    | _ => false
def bList : OpN := fun ds st => match ds with
  | [.tup xs] => some (.loc st.length, st ++ [.lst xs])
  | [d] => match lstD d st, (match d with | .loc n => dctW st n | _ => none) with
    | some xs, _ => some (.loc st.length, st ++ [.lst xs])
    | none, some kvs => if flatKeys kvs then some (.loc st.length, st ++ [.lst (kvs.map (·.1))]) else none
    | none, none => none
  | _ => none
def bTuple : OpN := fun ds st => match ds with
  | [.tup xs] => some (.tup xs, st)
  | [d] => match lstD d st, (match d with | .loc n => dctW st n | _ => none) with
    | some xs, _ => some (.tup xs, st)
    | none, some kvs => if kvs.isEmpty || flatKeys kvs then some (.tup (kvs.map (·.1)), st) else none
    | none, none => none
  | _ => none
theorem pk1_keys {K : PySem.W.Frag} {mg : Str → Option Value} {ρ : List Addr} {H : Hp} : ∀ {kvs : List (D × D)} {ps : List (Key × V)}, PK1 K mg ρ H kvs ps → Reps K mg ρ H (kvs.map (·.1)) (ps.map fun kv => kV kv.1)
  | _, _, .nil => .nil
  | _, _, .cons (a := p) (b := q) h t => by
    refine .cons ?_ (pk1_keys t)
    have h1 := h.1
    show Rep K mg ρ H p.1 (kV q.1)
    cases hp : p.1 with
    | int i => rw [hp] at h1; rw [← Option.some.inj h1]; exact .int i
    | str i => rw [hp] at h1; rw [← Option.some.inj h1]; exact .str i
    | _ => rw [hp] at h1; cases h1
theorem flat_lay {ρ : List Addr} {H : Hp} {st : Store} (S : SR X.K X.mg ρ st H) {n : Nat} {v : V} {kvs : List (D × D)} (r : Rep X.K X.mg ρ H (.loc n) v) (e : dctW st n = some kvs) (hf : flatKeys kvs = true) :
    ∃ a ps, v = .ref a ∧ H a = some (.dK ps) ∧ PK1 X.K X.mg ρ H kvs ps := by
  have e' := dctRW e
  obtain ⟨a, rfl, hp, hl, hw⟩ := dct_lay S r e'
  rcases hl with ⟨ps, h1, h2⟩ | ⟨ps, h1, h2⟩
  · exact ⟨a, ps, rfl, hw e _ h1 (.inl ⟨_, rfl⟩), h2⟩
  · exfalso
    have h3 := h2.g
    cases h3 with
    | nil => exact absurd hf (by simp [flatKeys])
    | cons q t =>
      unfold flatKeys at hf
      simp only [q.1, kd2] at hf
      cases hf
theorem bList_ok (hc : X.calm = true) : CallR X (.type "list") (rGN X bList) :=
  CallR.imp (call_list_of.or (call_list_dK hc)) fun xs H Q ⟨ρ, st, ds, d, st', S, r, e, q⟩ => by
    unfold bList at e
    split at e
    · cases e
      obtain ⟨x, rfl, r1⟩ := reps1 r
      obtain ⟨a, vs, rfl, h, p⟩ := tup_sq r1
      exact .inl ⟨a, vs, rfl, .inr h, new_lst S p q⟩
    · obtain ⟨x, rfl, r1⟩ := reps1 r
      split at e
      · rename_i e1
        cases e
        obtain ⟨a, vs, rfl, h, p⟩ := lst_sq S r1 e1
        exact .inl ⟨a, vs, rfl, .inl h, new_lst S p q⟩
      · rename_i e1
        split at e
        · rename_i hf
          cases e
          split at e1
          · obtain ⟨a, ps, rfl, h, p⟩ := flat_lay S r1 e1 hf
            exact .inr ⟨a, ps, rfl, h, new_lst S (pk1_keys p) q⟩
          · cases e1
        · cases e
      · cases e
    · cases e
/-- an empty dict of either kind -/
theorem call_tuple_d0 (hc : X.calm = true) : CallR X (.type "tuple") (fun xs H Q => ∃ ρ st n kvs, Reps X.K X.mg ρ H [.loc n] xs ∧ SR X.K X.mg ρ st H ∧ dctW st n = some kvs ∧ (kvs.isEmpty || flatKeys kvs) = true ∧ Cont X.K X.mg (Rep X.K X.mg) ρ H (.tup (kvs.map (·.1))) st Q) := by
  intro pins s σ H xs us Q I rv ⟨ρ, st, n, kvs, r, S, hd, hf, q⟩
  obtain ⟨x, rfl, r1⟩ := reps1 r
  cases kvs with
  | cons kv more =>
    have hf' : flatKeys (kv :: more) = true := by simpa using hf
    obtain ⟨a, ps, rfl, h, p⟩ := flat_lay S r1 hd hf'
    exact call_tuple_dK hc pins s σ H _ us Q I rv ⟨a, ps, rfl, h, new_tup S (pk1_keys p) q⟩
  | nil =>
    obtain ⟨a, H1, rfl, w, hw⟩ := dct_view (k := .int 0) I S r1 (.int 0) hd rfl
    rcases w.lay with ⟨ps, k', h1, h2, _⟩ | ⟨ps, k', b, h1, h2, h3, h4, _⟩
    · have h0 := hw _ h1 (.inl ⟨_, rfl⟩)
      cases h2
      exact call_tuple_dK hc pins s σ H1 _ us Q w.inv rv ⟨a, [], rfl, h0, new_tup w.sr .nil (Cont.stp q w.stp)⟩
    · cases h4
theorem bTuple_ok (hc : X.calm = true) : CallR X (.type "tuple") (rGN X bTuple) :=
  CallR.imp (call_tuple_of.or (call_tuple_d0 hc)) fun xs H Q ⟨ρ, st, ds, d, st', S, r, e, q⟩ => by
    unfold bTuple at e
    split at e
    · cases e
      obtain ⟨x, rfl, r1⟩ := reps1 r
      obtain ⟨a, vs, rfl, h, p⟩ := tup_sq r1
      exact .inl ⟨a, vs, rfl, .inr ⟨h, q.here S r1⟩⟩
    · split at e
      · rename_i e1
        cases e
        obtain ⟨x, rfl, r1⟩ := reps1 r
        obtain ⟨a, vs, rfl, h, p⟩ := lst_sq S r1 e1
        exact .inl ⟨a, vs, rfl, .inl ⟨h, new_tup S p q⟩⟩
      · rename_i e1
        split at e
        · rename_i hf
          cases e
          split at e1
          · exact .inr ⟨ρ, st, _, _, r, S, e1, hf, q⟩
          · cases e1
        · cases e
      · cases e
    · cases e
/-! ### isinstance -/
def tyD (d : D) (st : Store) : Option Ty := match d with
  | .non => some .non
  | .bl _ => some .bl
  | .int _ => some .int
  | .str _ => some .str
  | .tup _ => some .tup
  | .rol _ => some .lst
  | .loc n => match st[n]? with
    | some (.lst _) => some .lst
    | some (.dct _) => some .dct
    | _ => none
  | _ => none
/-- of a type, or of one beneath it -/
def Ty.sub (a b : Ty) : Bool := a == b || (a == .bl && b == .int)
theorem sub_kit : ∀ a b : Ty, b ≠ .non → kitB a.nm b.nm = some (a.sub b) := by
  intro a b h
  cases a <;> cases b <;> first | exact absurd rfl h | decide +kernel
theorem tyD_val {ρ : List Addr} {H : Hp} {st : Store} (S : SR X.K X.mg ρ st H) {d : D} {v : V} {t : Ty} (r : Rep X.K X.mg ρ H d v) (e : tyD d st = some t) : TyX X.K H v (.type t.nm) := by
  unfold tyD at e
  split at e
  · cases e; cases r; exact .base .non
  · cases e; cases r; exact .base (.bl _)
  · cases e; cases r; exact .base (.int _)
  · cases e; cases r; exact .base (.str _)
  · cases e
    obtain ⟨a, vs, rfl, h, p⟩ := tup_at r
    exact .base (.tup h)
  · cases e
    obtain ⟨a, vs, rfl, h, p⟩ := lst_sq (xs := _) S r rfl
    rcases h with (h | ⟨o, h⟩) | ⟨o, its, n, h1, h2, _⟩
    · exact .base (.lst h)
    · exact .base (.frz h)
    · exact .kList h1 h2
  · split at e
    · rename_i xs hs
      cases e
      obtain ⟨a, vs, rfl, _, h, p⟩ := loc_lst S r hs
      exact .base (.lst h)
    · rename_i kvs hs
      cases e
      have hd := dctW_of hs
      obtain ⟨a, rfl, hp, hl, hw⟩ := dct_lay S r (dctRW hd)
      rcases hl with ⟨ps, h1, h2⟩ | ⟨ps, h1, h2⟩
      · exact .base (.dK (hw hd _ h1 (.inl ⟨_, rfl⟩)))
      · exact .base (.dT (hw hd _ h1 (.inr ⟨_, rfl⟩)))
    · cases e
  · cases e
def bIsi : OpN := fun ds st => match ds with
  | [d, .ty t] => if t = .non then none else (tyD d st).map fun a => (.bl (a.sub t), st)
  | _ => none
theorem bIsi_ok : CallR X (.builtin "isinstance") (rGN X bIsi) :=
  CallR.imp call_isi fun xs H Q ⟨ρ, st, ds, d, st', S, r, e, q⟩ => by
    unfold bIsi at e
    split at e
    · rename_i d0 t
      split at e
      · cases e
      · rename_i ht
        cases e1 : tyD d0 st with
        | none => rw [e1] at e; cases e
        | some a =>
          rw [e1] at e
          cases e
          obtain ⟨x, y, rfl, r1, r2⟩ := reps2 r
          cases r2
          exact ⟨x, _, .type a.nm, .type t.nm, a.sub t, rfl, .ty _, tyD_val S r1 e1, kit_ty (sub_kit a t ht), q.here S (.bl _)⟩
    · cases e
end
end G

/-! G9: repr. -/
namespace G
open PySem L2 PySem.Spec PyProof.Rows

/-! what repr writes: without dicts; an empty dict within tuples -/
mutual
def pdE (st : Store) : D → Option PyData
  | .non => some .none
  | .bl b => some (.bool b)
  | .int i => some (.int i)
  | .str s => some (.str s)
  | .tup xs => (pdsE st xs).map .tuple
  | .loc n => match dctW st n with
    | some [] => some (.dict [])
    | _ => none
  | .rol _ => none
  | .fn _ => none
  | .ty _ => none
def pdsE (st : Store) : List D → Option (List PyData)
  | [] => some []
  | d :: ds => match pdE st d, pdsE st ds with
    | some p, some ps => some (p :: ps)
    | _, _ => none
end
def shownOk (p : PyData) : Bool := p.showable && decide (p.depth ≤ 120) && decide (p.shown.length ≤ sizeLine)
def reprD (d : D) (st : Store) : Option Str := match toP st d with
  | some p => if !p.hasDict && shownOk p then some p.shown else none
  | none => match pdE st d with
    | some p => if shownOk p then some p.shown else none
    | none => none
def bRepr : OpN := fun ds st => match ds with
  | [d] => (reprD d st).map fun z => (.str z, st)
  | _ => none
section
variable {X : Cx} {pins : List (Addr × Obj)} {σ : L2.St} {H : Hp} {s : Shared} {ρ : List Addr} {st : Store}
theorem apart_dict {a : Addr} {kvs : List (Key × V)} (I : L2.Inv X pins σ H s) (h : Rd H a (.dK kvs) ∨ ∃ ks, Rd H a (.dT ks)) : a ≠ sysModules := by
  rcases h with h | ⟨ks, h⟩
  · obtain ⟨_, e, _⟩ := dk_rd I.hok h
    intro z; subst z; simp at e
  · obtain ⟨_, e, _⟩ := dt_rd I.hok h
    intro z; subst z; simp at e
mutual
theorem pdE_reads (I : L2.Inv X pins σ H s) (S : SR X.K X.mg ρ st H) : ∀ (d : D) (v : V) (u : Value) (p : PyData), Rep X.K X.mg ρ H d v → RelV v u → pdE st d = some p → ∃ as, Reads s.heap u p as ∧ sysModules ∉ as
  | .non, _, _, _, r, ru, e => by cases r; cases ru; unfold pdE at e; cases e; exact ⟨_, .none, by simp⟩
  | .bl b, _, _, _, r, ru, e => by cases r; cases ru; unfold pdE at e; cases e; exact ⟨_, .bool _, by simp⟩
  | .int i, _, _, _, r, ru, e => by cases r; obtain ⟨t, rfl⟩ := ru; unfold pdE at e; cases e; exact ⟨_, .int _ _, by simp⟩
  | .str z, _, _, _, r, ru, e => by cases r; obtain ⟨t, rfl⟩ := ru; unfold pdE at e; cases e; exact ⟨_, .str _ _, by simp⟩
  | .tup xs, _, _, _, r, ru, e => by
    unfold pdE at e
    cases e2 : pdsE st xs with
    | none => rw [e2] at e; cases e
    | some ps =>
      rw [e2] at e
      cases e
      obtain ⟨a, vs, rfl, h, q⟩ := tup_sq r
      cases ru
      obtain ⟨its, rv, ⟨o, ho, hc, n, hd⟩, hz⟩ := I.tuple h
      obtain ⟨as, h1, h2⟩ := pdsE_reads I S xs vs its ps q rv e2
      exact ⟨as, .tuple ho hc hd (by simpa using h1), h2⟩
  | .loc n, _, _, _, r, ru, e => by
    unfold pdE at e
    split at e
    · rename_i hd
      cases e
      obtain ⟨a, rfl, hp, hl, hw⟩ := dct_lay S r (dctRW hd)
      cases ru
      have h0 : ∃ o es ep, s.heap.get? a = some o ∧ o.ExactDict ∧ o.data = .dict es ep ∧ es.toList = [] ∧ a ≠ sysModules := by
        rcases hl with ⟨ps, h1, h2⟩ | ⟨ps, h1, h2⟩
        · cases h2
          have h0 := hw hd _ h1 (.inl ⟨_, rfl⟩)
          obtain ⟨z, hs, vs, rel, o, es, ep, e1, e2, e3, e4⟩ := I.hok a _ h0
          cases rel
          have e5 : es.toList = [] := by
            cases hes : es.toList with
            | nil => rfl
            | cons a r => have q := e4.2.1; rw [hes] at q; cases q
          exact ⟨o, es, ep, e1, e2, e3, e5, by intro z; subst z; simp at hs⟩
        · cases h2
          have h0 := hw hd _ h1 (.inr ⟨_, rfl⟩)
          obtain ⟨z, hs, xs, rel, o, es, ep, e1, e2, e3, e4, e5⟩ := I.hok a _ h0
          cases rel
          exact ⟨o, es, ep, e1, e2, e3, e4, by intro z; subst z; simp at hs⟩
      obtain ⟨o, es, ep, e1, e2, e3, e4, e5⟩ := h0
      refine ⟨[a], ?_, by simpa using fun z => e5 z.symm⟩
      exact Reads.dict (kvs := []) (as := []) (bs := []) e1 e2.1 e3 (by rw [e4]; exact .nil) (by rw [e4]; exact .nil)
    · cases e
  | .rol _, _, _, _, _, _, e => by unfold pdE at e; cases e
  | .fn _, _, _, _, _, _, e => by unfold pdE at e; cases e
  | .ty _, _, _, _, _, _, e => by unfold pdE at e; cases e
theorem pdsE_reads (I : L2.Inv X pins σ H s) (S : SR X.K X.mg ρ st H) : ∀ (ds : List D) (vs : List V) (us : List Value) (ps : List PyData), Reps X.K X.mg ρ H ds vs → Vals vs us → pdsE st ds = some ps → ∃ as, ReadsAll s.heap us ps as ∧ sysModules ∉ as
  | [], _, _, _, r, ru, e => by cases r; cases ru; unfold pdsE at e; cases e; exact ⟨_, .nil, by simp⟩
  | d :: ds, _, _, _, r, ru, e => by
    unfold pdsE at e
    split at e
    · rename_i e1 e2
      cases e
      cases r with
      | cons r1 r2 =>
        cases ru with
        | cons v1 v2 =>
          obtain ⟨as, h1, n1⟩ := pdE_reads I S d _ _ _ r1 v1 e1
          obtain ⟨bs, h2, n2⟩ := pdsE_reads I S ds _ _ _ r2 v2 e2
          exact ⟨_, .cons h1 h2, by simp [n1, n2]⟩
    · cases e
end
theorem reprD_val {d : D} {z : Str} (e : reprD d st = some z) : ∃ p, z = p.shown ∧ p.showable = true ∧ p.depth ≤ 120 ∧ p.shown.length ≤ sizeLine ∧ ((toP st d = some p ∧ p.hasDict = false) ∨ pdE st d = some p) := by
  unfold reprD at e
  split at e
  · rename_i p e1
    split at e
    · rename_i h
      cases e
      simp only [shownOk, Bool.and_eq_true, Bool.not_eq_true', decide_eq_true_eq] at h
      exact ⟨p, rfl, h.2.1.1, h.2.1.2, h.2.2, .inl ⟨e1, h.1⟩⟩
    · cases e
  · split at e
    · rename_i p e1
      split at e
      · rename_i h
        cases e
        simp only [shownOk, Bool.and_eq_true, decide_eq_true_eq] at h
        exact ⟨p, rfl, h.1.1, h.1.2, h.2, .inr e1⟩
      · cases e
    · cases e
theorem repr_any {u : Value} {p : PyData} {as : List Addr} {R : Value → Shared → Prop} {A : Around} {E : Value → Shared → Prop} {prog : Program} {w : World} (r : Reads s.heap u p as) (hs : p.showable = true) (hd : p.hasDict = true → sysModules ∉ as) (hg : A.guards = some []) (hu : A.units + 200 < cLine) (hl : p.depth ≤ 120) (hz : p.shown.length ≤ sizeLine)
    (h : ∀ (h' : Heap) (t : Tok) (tk : Nat), (∀ b o, s.heap.get? b = some o → h'.get? b = some o) → R (.str p.shown t) { s with heap := h', toks := tk }) : wpAny (model prog w) A (call (.builtin "repr") [u]) R E s := by
  cases r with
  | none => exact PySem.P.repr_of_none (h s.heap _ _ fun _ _ e => e)
  | bool b => exact PySem.P.repr_of_bool (by
      have := h s.heap s.toks (s.toks + 1) fun _ _ e => e
      cases b <;> exact this)
  | int i t =>
    have h1 : i.natAbs.log2 < 1920 := by
      rw [PyData.showable.eq_def] at hs
      exact of_decide_eq_true hs
    exact PySem.P.repr_of_int h1 (h s.heap _ _ fun _ _ e => e)
  | str x t => exact PySem.P.repr_of_str (h s.heap _ _ fun _ _ e => e) (by simpa [PyData.shown.eq_def] using hz)
  | list a b c d => exact PySem.repr_of_reads' (.list a b c d) hs hd hg (by omega) (fun _ _ e => e) (fun h' u tk k => h h' u tk k) hz
  | tuple a b c d => exact PySem.repr_of_reads' (.tuple a b c d) hs hd hg (by omega) (fun _ _ e => e) (fun h' u tk k => h h' u tk k) hz
  | dict a b c d e => exact PySem.repr_of_reads' (.dict a b c d e) hs hd hg (by omega) (fun _ _ e => e) (fun h' u tk k => h h' u tk k) hz
theorem bRepr_ok (hg : X.A.guards = some []) (hu : X.A.units + 200 < cLine) : CallR X (.builtin "repr") (rGN X bRepr) := by
  intro pins s σ H xs us Q I rv ⟨ρ, st, ds, d, st', S, r, e, q⟩
  unfold bRepr at e
  split at e
  · rename_i d0
    cases e1 : reprD d0 st with
    | none => rw [e1] at e; cases e
    | some z =>
      rw [e1] at e
      cases e
      obtain ⟨p, rfl, hs, hl, hz, hp⟩ := reprD_val e1
      obtain ⟨x, rfl, r1⟩ := reps1 r
      obtain ⟨u, rfl, ru⟩ := vals1 rv
      have rd : ∃ as, Reads s.heap u p as ∧ (p.hasDict = true → sysModules ∉ as) := by
        rcases hp with ⟨h1, h2⟩ | h1
        · obtain ⟨as, h3⟩ := Dp.reads I p x u (toP_dp S r1 h1) ru
          exact ⟨as, h3, fun z => by rw [h2] at z; cases z⟩
        · obtain ⟨as, h3, h4⟩ := pdE_reads I S d0 x u p r1 ru h1
          exact ⟨as, h3, fun _ => h4⟩
      obtain ⟨as, h1, h2⟩ := rd
      exact repr_any h1 hs h2 hg hu hl hz fun h' t tk hk => ⟨.str p.shown, H, I.kept (t' := tk) hk, ⟨t, rfl⟩, q.here S (.str _)⟩
  · cases e
end
end G

/-! G10: methods of built-in types. -/
namespace G
open PySem L2 PySem.Spec PyProof.Rows

section
variable {X : Cx} {W : WX}
/-- o.m(e, ..), o of the built-in type T -/
def mBM (T : Ty) (g : D → OpN) (mo : ME) (ra : MA) : ME := fun σ st => (mo σ st).bind fun x st1 => if tyD x st1 = some T ∧ (T = .str ∨ T = .lst ∨ T = .dct) then (ra σ st1).bind fun ds st2 => lift (g x ds st2) else .fail
theorem tyV_of {ρ : List Addr} {H : Hp} {st : Store} (S : SR X.K X.mg ρ st H) {d : D} {v : V} {T : Ty} (r : Rep X.K X.mg ρ H d v) (e : tyD d st = some T) (hT : T = .str ∨ T = .lst ∨ T = .dct) : tyV X.K T.nm v H := by
  unfold tyD at e
  split at e
  · cases e; rcases hT with h | h | h <;> cases h
  · cases e; rcases hT with h | h | h <;> cases h
  · cases e; rcases hT with h | h | h <;> cases h
  · cases e; cases r; rfl
  · cases e; rcases hT with h | h | h <;> cases h
  · cases e
    obtain ⟨a, vs, rfl, h, p⟩ := lst_sq (xs := _) S r rfl
    exact .inl ⟨rfl, _, h⟩
  · split at e
    · rename_i xs hs
      cases e
      obtain ⟨a, vs, rfl, _, h, p⟩ := loc_lst S r hs
      exact .inl ⟨rfl, _, .inl (.inl h)⟩
    · rename_i kvs hs
      cases e
      have hd := dctW_of hs
      obtain ⟨a, rfl, hp, hl, hw⟩ := dct_lay S r (dctRW hd)
      rcases hl with ⟨ps, h1, h2⟩ | ⟨ps, h1, h2⟩
      · exact .inr (.inr (.inl ⟨rfl, .inl ⟨_, hw hd _ h1 (.inl ⟨_, rfl⟩)⟩⟩))
      · exact .inr (.inr (.inl ⟨rfl, .inr ⟨_, hw hd _ h1 (.inr ⟨_, rfl⟩)⟩⟩))
    · cases e
  · cases e
variable {o e : Expr} {es : List Expr} {mo : ME} {ra : MA} {name : Str} {apos cpos : Pos} {T : Ty} {id : String} {g : D → OpN}
theorem ge_bm0 (pa : PlainAttrs T.nm) (slot : Slot T.nm name id) (hty : typeOf (.builtin id) = pure (.type "method_descriptor")) (hm : MtR X id (rGM X g)) (ho : GE X W o mo)
    (hbase : attributeBase o name X.env (eval o X.env) = eval o X.env) (hline : (apos.endLine == cpos.line) = true) : GE X W (.Call (.Attribute o name apos) [] [] cpos) (mBM T g mo aNil) :=
  PE.imp (pe_bm0 pa slot hty hm ho hbase hline) fun σ H Q ⟨ρ, st, σd, S, E, P⟩ => tR.bnd S E P fun x H1 dx st1 ρ1 _ _ S1 E1 R1 P1 => by
    split at P1
    · rename_i h
      obtain ⟨d, st', e, q⟩ := Post.lift P1
      exact ⟨tyV_of S1 R1 h.1 h.2, ρ1, st1, dx, [], d, st', S1, R1, .nil, e, q⟩
    · exact P1.elim
theorem ge_bm (pa : PlainAttrs T.nm) (slot : Slot T.nm name id) (hty : typeOf (.builtin id) = pure (.type "method_descriptor")) (hm : MtR X id (rGM X g)) (ho : GE X W o mo) (ha : GA X W (e :: es) ra)
    (hbase : attributeBase o name X.env (eval o X.env) = eval o X.env)
    (hfew : ((backTo cpos (starEach (e :: es) X.env)).all (fun x => !x.1) && (backToKw cpos (keywordEach [] X.env)).all (fun x => x.1.isSome)
      && decide ((e :: es).length + ([] : List Keyword).length + (if ([] : List Keyword).isEmpty then 0 else 1) < 30)) = true)
    (hline : (apos.endLine == cpos.line) = true) (hs : starEach (e :: es) X.env = (false, eval e X.env) :: starEach es X.env) (hplain : (backTo cpos (starEach es X.env)).any (·.1) = false) :
    GE X W (.Call (.Attribute o name apos) (e :: es) [] cpos) (mBM T g mo ra) :=
  PE.imp (pe_bm pa slot hty hm ho ha hbase hfew hline hs hplain) fun σ H Q ⟨ρ, st, σd, S, E, P⟩ => tR.bnd S E P fun x H1 dx st1 ρ1 _ _ S1 E1 R1 P1 => by
    split at P1
    · rename_i h
      refine ⟨tyV_of S1 R1 h.1 h.2, tR.bnd S1 E1 P1 fun xs H2 ds st2 ρ2 _ a2 S2 E2 R2 P2 => ?_⟩
      obtain ⟨d, st', e, q⟩ := P2.lift
      exact ⟨ρ2, st2, dx, ds, d, st', S2, R1.stp S1 a2, R2, e, q⟩
    · exact P1.elim
end

/-! ### lists -/
section
variable {X : Cx} {K : PySem.W.Frag} {mg : Str → Option Value} {ρ : List Addr} {H : Hp} {st : Store} {Q : VK}
/-- a list's place holds others -/
theorem put_lst (S : SR K mg ρ st H) {n : Nat} {a : Addr} {xs ys : List D} {vs ws : List V} {d : D} {v : V} (hp : ρ[n]? = some a) (hn : st[n]? = some (.lst xs)) (h : H a = some (.lst vs)) (r : Reps K mg ρ H ys ws) (rd : Rep K mg ρ H d v)
    (q : Cont K mg (Rep K mg) ρ H d (st.set n (.lst ys)) Q) : Q v (upd H a (.lst ws)) := by
  have stp : Stp ρ H ρ (upd H a (.lst ws)) := by
    refine ⟨⟨[], by simp, by simp⟩, fun x u hx hn' => ?_, fun x hx => ?_⟩
    · rw [upd_ne (fun z => hn' (by rw [z]; exact List.mem_of_getElem? hp))]; exact hx
    · by_cases z : x = a
      · rw [z, upd_same]; simp
      · rw [upd_ne z]; exact hx
  obtain ⟨S', s'⟩ := S.put (o := .lst ws) (c' := .lst ys) hp hn ⟨ws, rfl, Reps.stp S stp r⟩
  exact q _ _ _ s' S' (rd.stp S stp)
def mAppend : D → OpN := fun x ds st => match x, ds with
  | .loc n, [y] => match lstAt st n with
    | some xs => if xs.length < sizeLine then some (.non, st.set n (.lst (xs ++ [y]))) else none
    | none => none
  | _, _ => none
theorem mAppend_ok : MtR X "list.append" (rGM X mAppend) :=
  MtR.imp mt_append fun x xs H Q ⟨ρ, st, dx, ds, d, st', S, r1, r2, e, q⟩ => by
    unfold mAppend at e
    split at e
    · split at e
      · rename_i xs hx
        split at e
        · rename_i hl
          cases e
          obtain ⟨y, rfl, ry⟩ := reps1 r2
          obtain ⟨a, vs, rfl, hp, h, p⟩ := loc_lst S r1 (lstAt_eq hx)
          exact ⟨a, vs, y, rfl, rfl, h, by rw [← p.length]; exact hl, put_lst S hp (lstAt_eq hx) h (p.append (.cons ry .nil)) .non q⟩
        · cases e
      · cases e
    · cases e
/-- xs.extend(t), t a tuple -/
theorem extend_tup (l : Addr) (items : Array Value) (n : Nat) (b : Addr) (items2 : Array Value) (n2 : Nat) (dd : Option Addr) (sl : Array (Option Value)) (hs0 : ¬(!items.isEmpty && Builtin.List.listTooLong (items.size + items2.size)) = true) (hs1 : items.size ≤ sizeLine) (hs2 : items.size + items2.size ≤ sizeLine + 1) :
    Meets (Builtin.«list.extend» ⟨[.ref l, .ref b], []⟩) (fun _ R s => s.heap.get? l = some { cls := .type "list", dict := none, data := .seq items n, slots := #[] } ∧ s.heap.get? b = some { cls := .type "tuple", dict := dd, data := .seq items2 n2, slots := sl } ∧ R (.ok (.ret Value.none)) { s with heap := s.heap.update l (Obj.mapSeq fun x => x ++ items2), toks := s.toks }) :=
  .of_wp fun prog w A R s h => by
    obtain ⟨hp, g, d, tk, os⟩ := s
    obtain ⟨hl, hb, h⟩ := h
    have f2 := sub_tuple_tuple
    have f3 := sub_list_list
    have f4 := sub_tuple_list
    have f5 := sub_list_tuple
    have hz' : (items ++ items2).size ≤ sizeLine + 1 := by rw [Array.size_append]; exact hs2
    wp_walk using (wpAny_updateSeq hl rfl (hz := hs1) (_hz' := hz')), AutoSeq1.wpAny_loadPart' hl, AutoSeq1.wpAny_loadPart' hb
    exact ⟨_, rfl, h⟩
theorem mt_extendT : MtR X "list.extend" (fun x vs H Q => ∃ l b xs zs, x = .ref l ∧ vs = [.ref b] ∧ H l = some (.lst xs) ∧ SqT X.K H b zs ∧ xs.length + zs.length ≤ sizeLine ∧ Q .non (upd H l (.lst (xs ++ zs)))) := by
  intro pins s σ H x vs v us Q I rx rv h
  obtain ⟨l, b, xs, zs, rfl, rfl, hH, hB, hz, q⟩ := h
  cases rx
  obtain ⟨u, rfl, ru⟩ := vals1 rv
  cases ru
  obtain ⟨z, its, n, r, hl, e⟩ := I.lstM hH
  obtain ⟨its2, r2, ⟨⟨cls, dd, data, sl⟩, e2, hc, n2, hd⟩, hz2⟩ := I.tuple hB
  simp only at hc hd
  subst hc hd
  have hl2 : zs.length = its2.length := r2.length
  have hsz : its.toArray.size + its2.toArray.size ≤ sizeLine := by rw [List.size_toArray, List.size_toArray]; omega
  have hlong : ¬ (!its.toArray.isEmpty && Builtin.List.listTooLong (its.toArray.size + its2.toArray.size)) = true := by
    rw [notLongL hsz, Bool.and_false]
    exact Bool.false_ne_true
  refine call_meets F.slot_list_extend ⟨_, e, rfl⟩ F.entry_list_extend (F.args_list_extend_2 _ _)
    (extend_tup l its.toArray n b its2.toArray n2 dd sl hlong (by rw [List.size_toArray]; omega) (by omega)) ⟨e, e2, ?_⟩
  refine ⟨.non, _, I.lset (its' := its ++ its2) hH e (by simp) (r.append r2) ?_, rfl, q⟩
  rw [List.length_append]
  omega
def mExtend : D → OpN := fun x ds st => match x, ds with
  | .loc n, [y] => match lstAt st n with
    | some xs => match (match y with | .tup ys => some ys | .loc m => lstAt st m | _ => none) with
      | some ys => if xs.length + ys.length ≤ sizeLine then some (.non, st.set n (.lst (xs ++ ys))) else none
      | none => none
    | none => none
  | _, _ => none
theorem mExtend_ok : MtR X "list.extend" (rGM X mExtend) :=
  MtR.imp (MtR.or mt_extend mt_extendT) fun x xs H Q ⟨ρ, st, dx, ds, d, st', S, r1, r2, e, q⟩ => by
    unfold mExtend at e
    split at e
    · split at e
      · rename_i xs hx
        split at e
        · rename_i ys hy
          split at e
          · rename_i hl
            cases e
            obtain ⟨y, rfl, ry⟩ := reps1 r2
            obtain ⟨a, vs, rfl, hp, h, p⟩ := loc_lst S r1 (lstAt_eq hx)
            split at hy
            · cases hy
              obtain ⟨b, ws, rfl, h2, p2⟩ := tup_sq ry
              exact .inr ⟨a, b, vs, ws, rfl, rfl, h, h2, by rw [← p.length, ← p2.length]; exact hl, put_lst S hp (lstAt_eq hx) h (p.append p2) .non q⟩
            · obtain ⟨b, ws, rfl, _, h2, p2⟩ := loc_lst S ry (lstAt_eq hy)
              exact .inl ⟨a, b, vs, ws, rfl, rfl, h, h2, by rw [← p.length, ← p2.length]; exact hl, put_lst S hp (lstAt_eq hx) h (p.append p2) .non q⟩
            · cases hy
          · cases e
        · cases e
      · cases e
    · cases e
def mPop : D → OpN := fun x ds st => match x, ds with
  | .loc n, [] => match lstAt st n with
    | some xs => match xs.getLast? with
      | some y => some (y, st.set n (.lst xs.dropLast))
      | none => none
    | none => none
  | .loc n, [.int i] => match lstAt st n with
    | some xs => if -(2 ^ 63) ≤ i ∧ i < 2 ^ 63 then (ixN xs.length i).bind fun k => (xs[k]?).map fun y => (y, st.set n (.lst (xs.eraseIdx k))) else none
    | none => none
  | _, _ => none
theorem mPop_ok : MtR X "list.pop" (rGM X mPop) :=
  MtR.imp (MtR.or mt_pop mt_popAt) fun x xs H Q ⟨ρ, st, dx, ds, d, st', S, r1, r2, e, q⟩ => by
    unfold mPop at e
    split at e
    · split at e
      · rename_i xs hx
        split at e
        · rename_i y hy
          cases e
          cases r2
          obtain ⟨a, vs, rfl, hp, h, p⟩ := loc_lst S r1 (lstAt_eq hx)
          rw [List.getLast?_eq_getElem?] at hy
          obtain ⟨w, h1, h2⟩ := p.get hy
          rw [p.length] at h1
          exact .inl ⟨a, vs, w, rfl, rfl, h, h1, put_lst S hp (lstAt_eq hx) h p.dropLast h2 q⟩
        · cases e
      · cases e
    · split at e
      · rename_i xs hx
        split at e
        · rename_i hi
          cases e1 : ixN xs.length _ with
          | none => rw [e1] at e; cases e
          | some k =>
            rw [e1, Option.bind_some] at e
            cases e2 : xs[k]? with
            | none => rw [e2] at e; cases e
            | some y =>
              rw [e2] at e
              cases e
              obtain ⟨w, rfl, rw'⟩ := reps1 r2
              cases rw'
              obtain ⟨a, vs, rfl, hp, h, p⟩ := loc_lst S r1 (lstAt_eq hx)
              obtain ⟨w, h1, h2⟩ := p.get e2
              rw [p.length] at e1
              exact .inr ⟨a, vs, _, k, w, rfl, rfl, h, hi.1, hi.2, (ixN_seq e1).1, h1, put_lst S hp (lstAt_eq hx) h (p.erase k) h2 q⟩
        · cases e
      · cases e
    · cases e
end

/-! ### dicts -/
section
variable {X : Cx}
def mGet : D → OpN := fun x ds st => match x, ds with
  | .loc n, [k] => match dctW st n with
    | some kvs => if kindOk kvs k then some ((dGet kvs k).getD .non, st) else none
    | none => none
  | .loc n, [k, v] => match dctW st n with
    | some kvs => if kindOk kvs k then some ((dGet kvs k).getD v, st) else none
    | none => none
  | _, _ => none
theorem mGet_ok (hu : X.A.units + 1 < cLine) : MtR X "dict.get" (rGM X mGet) := by
  intro pins s σ H x xs v us Q I rx rxs ⟨ρ, st, dx, ds, d, st', S, r1, r2, e, q⟩
  unfold mGet at e
  split at e
  · split at e
    · rename_i kvs hd
      split at e
      · rename_i hk
        cases e
        obtain ⟨y, rfl, ry⟩ := reps1 r2
        obtain ⟨u, rfl, ru⟩ := vals1 rxs
        obtain ⟨a, H1, o, rfl, I1, a1, S1, g, m⟩ := dct_read I S r1 ry hd hk
        cases rx
        refine d_get1 hu I1 g ru fun w' s3 I3 rw' => ?_
        split at m
        · rename_i em
          subst m
          rw [em] at q
          exact ⟨_, H1, I3, rw', q _ _ _ a1 S1 .non⟩
        · rename_i em
          obtain ⟨w, rfl, rw2⟩ := m
          rw [em] at q
          exact ⟨_, H1, I3, rw', q _ _ _ a1 S1 rw2⟩
      · cases e
    · cases e
  · split at e
    · rename_i kvs hd
      split at e
      · rename_i hk
        cases e
        obtain ⟨y, z, rfl, ry, rz⟩ := reps2 r2
        obtain ⟨u, u2, rfl, ru, ru2⟩ := vals2 rxs
        obtain ⟨a, H1, o, rfl, I1, a1, S1, g, m⟩ := dct_read I S r1 ry hd hk
        cases rx
        refine d_get2 hu I1 g ru ru2 fun w' s3 I3 rw' => ?_
        split at m
        · rename_i em
          subst m
          rw [em] at q
          exact ⟨_, H1, I3, rw', q _ _ _ a1 S1 (rz.stp S a1)⟩
        · rename_i em
          obtain ⟨w, rfl, rw2⟩ := m
          rw [em] at q
          exact ⟨_, H1, I3, rw', q _ _ _ a1 S1 rw2⟩
      · cases e
    · cases e
  · cases e
end

/-! ### texts -/
section
variable {X : Cx}
theorem strs_rep {K : PySem.W.Frag} {mg : Str → Option Value} {ρ : List Addr} {H : Hp} : ∀ ys : List Str, Reps K mg ρ H (ys.map D.str) (ys.map V.str)
  | [] => .nil
  | y :: r => .cons (.str y) (strs_rep r)
def mSplit : D → OpN := fun x ds st => match x, ds with
  | .str a, [.str b] => if (b.length == 0) = false ∧ a.length + 2 ≤ sizeLine then some (.loc st.length, st ++ [.lst ((Txt.split a b).map D.str)]) else none
  | _, _ => none
theorem mSplit_ok : MtR X "str.split" (rGM X mSplit) :=
  MtR.imp mt_split fun x xs H Q ⟨ρ, st, dx, ds, d, st', S, r1, r2, e, q⟩ => by
    unfold mSplit at e
    split at e
    · split at e
      · rename_i h
        cases e
        obtain ⟨y, rfl, ry⟩ := reps1 r2
        cases r1; cases ry
        exact ⟨_, _, rfl, rfl, h.1, h.2, new_lst S (strs_rep _) q⟩
      · cases e
    · cases e
def mStrI (f : Str → Str → Int) : D → OpN := fun x ds st => match x, ds with
  | .str a, [.str b] => some (.int (f a b), st)
  | _, _ => none
theorem mStrI_of {id : String} {f : Str → Str → Int} (h : MtR X id (fun x xs H Q => ∃ a b, x = .str a ∧ xs = [.str b] ∧ Q (.int (f a b)) H)) : MtR X id (rGM X (mStrI f)) :=
  MtR.imp h fun x xs H Q ⟨ρ, st, dx, ds, d, st', S, r1, r2, e, q⟩ => by
    unfold mStrI at e
    split at e
    · cases e
      obtain ⟨y, rfl, ry⟩ := reps1 r2
      cases r1; cases ry
      exact ⟨_, _, rfl, rfl, q.here S (.int _)⟩
    · cases e
def mFind : D → OpN := mStrI fun a b => Txt.find a b
def mCount : D → OpN := mStrI fun a b => Txt.count a b
theorem mFind_ok : MtR X "str.find" (rGM X mFind) := mStrI_of mt_find
theorem mCount_ok : MtR X "str.count" (rGM X mCount) := mStrI_of mt_count
/-- a list or a tuple of texts -/
def strsD : List D → Option (List Str)
  | [] => some []
  | .str b :: r => (strsD r).map (b :: ·)
  | _ :: _ => none
theorem strs_val {K : PySem.W.Frag} {mg : Str → Option Value} {ρ : List Addr} {H : Hp} : ∀ {xs : List D} {vs : List V} {bs : List Str}, Reps K mg ρ H xs vs → strsD xs = some bs → vs = bs.map V.str
  | [], _, _, .nil, e => by cases e; rfl
  | x :: r, _, _, .cons h t, e => by
    cases x with
    | str b =>
      have e2 : (strsD r).map (b :: ·) = some _ := e
      cases e3 : strsD r with
      | none => rw [e3] at e2; cases e2
      | some bs =>
        rw [e3] at e2
        cases e2
        cases h
        rw [strs_val t e3]
        rfl
    | _ => cases e
end
end G

/-! G11: statements, loops. -/
namespace G
open PySem L2 PySem.Spec PyProof.Rows

/-- where a statement leads; an exception in the air has the slots of its moment -/
inductive FL where
  | nx (σ : Sig) | bk (σ : Sig) | ct (σ : Sig) | rt (d : D) | xc (e : Exn) (σ : Sig)
abbrev SS := Sig → Store → R FL
/-- an expression's run within a statement -/
def eb {α : Type} (r : R α) (σ : Sig) (k : α → Store → R FL) : R FL := match r with
  | .ok a st => k a st
  | .exc e st => .ok (.xc e σ) st
  | .fail => .fail
@[simp] theorem eb_ok {α : Type} (a : α) (st : Store) (σ : Sig) (k : α → Store → R FL) : eb (.ok a st) σ k = k a st := rfl
@[simp] theorem eb_fail {α : Type} (σ : Sig) (k : α → Store → R FL) : eb (.fail : R α) σ k = .fail := rfl
@[simp] theorem eb_exc {α : Type} (e : Exn) (st : Store) (σ : Sig) (k : α → Store → R FL) : eb (.exc e st : R α) σ k = .ok (.xc e σ) st := rfl
section
variable (K : PySem.W.Frag) (mg : Str → Option Value) (W : WX)
def SPost (ρ : List Addr) (H : Hp) (r : R FL) (D : Ends) : Prop := match r with
  | .fail => False
  | .exc _ _ => False
  | .ok (.nx σd) st => ∀ σ' H' ρ', Stp ρ H ρ' H' → SR K mg ρ' st H' → EnvR K mg ρ' H' σd σ' → D.nx σ' H'
  | .ok (.bk σd) st => ∀ σ' H' ρ', Stp ρ H ρ' H' → SR K mg ρ' st H' → EnvR K mg ρ' H' σd σ' → D.bk σ' H'
  | .ok (.ct σd) st => ∀ σ' H' ρ', Stp ρ H ρ' H' → SR K mg ρ' st H' → EnvR K mg ρ' H' σd σ' → D.ct σ' H'
  | .ok (.rt d) st => Cont K mg (Rep K mg) ρ H d st D.rt
  | .ok (.xc e σd) st => ∀ σ' cls dd H' ρ', Stp ρ H ρ' H' → SR K mg ρ' st H' → EnvR K mg ρ' H' σd σ' → ExcR K mg ρ' H' e cls dd → W cls dd σ' H'
end
section
variable {K : PySem.W.Frag} {mg : Str → Option Value} {W : WX} {σ : L2.St} {ρ ρ1 : List Addr} {H H1 : Hp} {st st' : Store} {σd : Sig}
theorem SPost.stp {r : R FL} {D : Ends} (h : SPost K mg W ρ H r D) (a : Stp ρ H ρ1 H1) : SPost K mg W ρ1 H1 r D := by
  cases r with
  | fail => exact h
  | exc e s => exact h
  | ok f s => cases f with
    | nx σd => exact fun σ' H' ρ' b c e => h σ' H' ρ' (a.trans b) c e
    | bk σd => exact fun σ' H' ρ' b c e => h σ' H' ρ' (a.trans b) c e
    | ct σd => exact fun σ' H' ρ' b c e => h σ' H' ρ' (a.trans b) c e
    | rt d => exact Cont.stp h a
    | xc e σd => exact fun σ' cls dd H' ρ' b c e x => h σ' cls dd H' ρ' (a.trans b) c e x
theorem SPost.eb {α β : Type} {Rl : List Addr → Hp → α → β → Prop} {r : R α} {k : α → Store → R FL} {D : Ends} (h : SPost K mg W ρ H (G.eb r σd k) D) (S : SR K mg ρ st H) (E : EnvR K mg ρ H σd σ) :
    Post K mg Rl W σ ρ H r fun v H1 => ∃ d st1 ρ1, r = .ok d st1 ∧ Stp ρ H ρ1 H1 ∧ SR K mg ρ1 st1 H1 ∧ Rl ρ1 H1 d v ∧ SPost K mg W ρ1 H1 (k d st1) D := by
  cases r with
  | fail => exact h
  | exc e s => exact fun cls dd H' ρ' a b x => h σ cls dd H' ρ' a b (E.stp S a) x
  | ok d s => exact fun v H1 ρ1 a b c => ⟨d, s, ρ1, rfl, a, b, c, SPost.stp h a⟩
end
section
variable (X : Cx) (W : WX)
def tSS (m : SS) : TS := fun D σ H => ∃ ρ st σd, SR X.K X.mg ρ st H ∧ EnvR X.K X.mg ρ H σd σ ∧ SPost X.K X.mg W ρ H (m σd st) D
abbrev HS (s : Stmt) (m : SS) : Prop := PS X s (tSS X W m)
abbrev HSs (s : List Stmt) (m : SS) : Prop := PSs X s (tSS X W m)
end
section
variable {X : Cx} {W : WX} {a b c e : Expr} {es : List Expr} {pos : Pos} {s : Stmt} {ss tt : List Stmt} {ma mb mc : ME} {mt mu : MT} {m n : SS} {ra : MA}
theorem hs_fail : HS X W s fun _ _ => .fail := ⟨fun _ _ _ _ _ _ h => let ⟨_, _, _, _, _, q⟩ := h; q.elim⟩
theorem hss_fail : HSs X W ss fun _ _ => .fail := ⟨fun _ _ _ _ _ _ h => let ⟨_, _, _, _, _, q⟩ := h; q.elim⟩
theorem tR.eb {α β : Type} {Rl : List Addr → Hp → α → β → Prop} {m : Sig → Store → R α} {k : α → Store → R FL} {σ : L2.St} {H : Hp} {ρ : List Addr} {st : Store} {σd : Sig} {D : Ends} {Q1 : β → Hp → Prop}
    (S : SR X.K X.mg ρ st H) (E : EnvR X.K X.mg ρ H σd σ) (P : SPost X.K X.mg W ρ H (G.eb (m σd st) σd k) D)
    (h : ∀ v H1 d st1 ρ1, m σd st = .ok d st1 → Stp ρ H ρ1 H1 → SR X.K X.mg ρ1 st1 H1 → EnvR X.K X.mg ρ1 H1 σd σ → Rl ρ1 H1 d v → SPost X.K X.mg W ρ1 H1 (k d st1) D → Q1 v H1) :
    tR X W Rl m σ H Q1 := ⟨ρ, st, σd, S, E, (P.eb (Rl := Rl) S E).mono fun v H1 ⟨d, st1, ρ1, e, a, b, c, p⟩ => h v H1 d st1 ρ1 e a b (E.stp S a) c p⟩

/-! ### blocks and small statements -/
def sNx : SS := fun σ st => .ok (.nx σ) st
/-- one after another -/
def sSeq (m n : SS) : SS := fun σ st => match m σ st with
  | .ok (.nx σ1) st1 => n σ1 st1
  | r => r
theorem hss_nil : HSs X W [] sNx := PSs.imp pss_nil fun D σ H ⟨ρ, st, σd, S, E, P⟩ => P σ H ρ Stp.refl S E
theorem tSS.seq {D : Ends} {σ : L2.St} {H : Hp} (h : tSS X W (sSeq m n) D σ H) : tSS X W m { D with nx := tSS X W n D } σ H := by
  obtain ⟨ρ, st, σd, S, E, P⟩ := h
  refine ⟨ρ, st, σd, S, E, ?_⟩
  unfold sSeq at P
  split at P
  · rename_i σ1 st1 e
    rw [e]
    exact fun σ' H' ρ' a b c => ⟨ρ', st1, σ1, b, c, P.stp a⟩
  · rename_i hn
    cases e : m σd st with
    | fail => rw [e] at P; exact P
    | exc x y => rw [e] at P; exact P
    | ok f s1 => cases f with
      | nx σ1 => exact (hn σ1 s1 e).elim
      | bk σ1 => rw [e] at P; exact P
      | ct σ1 => rw [e] at P; exact P
      | rt d => rw [e] at P; exact P
      | xc d σ1 => rw [e] at P; exact P
theorem hss_cons (h1 : HS X W s m) (h2 : HSs X W ss n) : HSs X W (s :: ss) (sSeq m n) := PSs.imp (pss_cons h1 h2) fun _ _ _ h => h.seq
theorem hss_one (h1 : HS X W s m) : HSs X W [s] m := pss_one h1
theorem hs_pass : HS X W (.Pass pos) sNx := PS.imp ps_pass fun D σ H ⟨ρ, st, σd, S, E, P⟩ => P σ H ρ Stp.refl S E
def sBk : SS := fun σ st => .ok (.bk σ) st
def sCt : SS := fun σ st => .ok (.ct σ) st
theorem hs_break : HS X W (.Break pos) sBk := PS.imp ps_break fun D σ H ⟨ρ, st, σd, S, E, P⟩ => P σ H ρ Stp.refl S E
theorem hs_continue : HS X W (.Continue pos) sCt := PS.imp ps_continue fun D σ H ⟨ρ, st, σd, S, E, P⟩ => P σ H ρ Stp.refl S E
def sRet (m : ME) : SS := fun σ st => eb (m σ st) σ fun d st1 => .ok (.rt d) st1
theorem hs_ret (ha : GE X W a ma) : HS X W (.Return (some a) pos) (sRet ma) := PS.imp (ps_ret ha) fun D σ H ⟨ρ, st, σd, S, E, P⟩ => tR.eb S E P fun v H1 d st1 ρ1 _ _ S1 E1 R1 P1 => P1 v H1 ρ1 Stp.refl S1 R1
theorem hs_retN : HS X W (.Return none pos) (sRet (mC .non)) := PS.imp ps_retN fun D σ H ⟨ρ, st, σd, S, E, P⟩ => P .non H ρ Stp.refl S .non
def sExpr (m : ME) : SS := fun σ st => eb (m σ st) σ fun _ st1 => .ok (.nx σ) st1
theorem hs_expr (ha : GE X W a ma) (hs : swapsWith a none pos.line X.env = pure false) : HS X W (.Expr a pos) (sExpr ma) := PS.imp (ps_expr ha hs) fun D σ H ⟨ρ, st, σd, S, E, P⟩ => tR.eb S E P fun v H1 d st1 ρ1 _ _ S1 E1 R1 P1 => P1 σ H1 ρ1 Stp.refl S1 E1
theorem hs_doc {x : Str} {j : Nat} {p q : Pos} : HS X W (.Expr (.Constant (.str x) j p) q) sNx := PS.imp ps_doc fun D σ H ⟨ρ, st, σd, S, E, P⟩ => P σ H ρ Stp.refl S E
def sIf (t : MT) (m n : SS) : SS := fun σ st => eb (t σ st) σ fun k st1 => if k = true then m σ st1 else n σ st1
theorem hs_if (hc : GT X W c mt) (ha : HSs X W ss m) (hb : HSs X W tt n) : HS X W (.If c ss tt pos) (sIf mt m n) := PS.imp (ps_if hc ha hb) fun D σ H ⟨ρ, st, σd, S, E, P⟩ => tR.eb S E P fun v H1 d st1 ρ1 _ _ S1 E1 R1 P1 => by
  cases R1
  cases v with
  | true => exact ⟨ρ1, st1, σd, S1, E1, P1⟩
  | false => exact ⟨ρ1, st1, σd, S1, E1, P1⟩

/-! ### while -/
def whileM (t : MT) (m : SS) : Nat → SS
  | 0 => fun _ _ => .fail
  | k + 1 => fun σ st => eb (t σ st) σ fun b st1 => if b = true then (match m σ st1 with
      | .ok (.nx σ1) st2 => whileM t m k σ1 st2
      | .ok (.ct σ1) st2 => whileM t m k σ1 st2
      | .ok (.bk σ1) st2 => .ok (.nx σ1) st2
      | r => r) else .ok (.nx σ) st1
/-- turns enough for any loop -/
def LF : Nat := 4611686018427387904
def sWhile (t : MT) (m : SS) : SS := whileM t m LF
theorem hs_while (hp : PassesOwn (model X.prog X.w) X.A X.env X.xe) (hc : GT X W c mt) (hb : HSs X W ss m) : HS X W (.While c ss [] pos) (sWhile mt m) := PS.imp (ps_while hp hc hb) fun D σ H h => by
  refine ⟨fun k => tSS X W (whileM mt m k) D, ⟨LF, h⟩, fun k σ H h => ?_⟩
  cases k with
  | zero => obtain ⟨_, _, _, _, _, q⟩ := h; exact q.elim
  | succ k =>
    obtain ⟨ρ, st, σd, S, E, P⟩ := h
    refine tR.eb S E P fun v H1 d st1 ρ1 _ _ S1 E1 R1 P1 => ?_
    cases R1
    cases v with
    | false => exact P1 σ H1 ρ1 Stp.refl S1 E1
    | true =>
      refine ⟨tSS X W (whileM mt m k) D, fun σ' H' q => ⟨k, Nat.lt_succ_self k, q⟩, ρ1, st1, σd, S1, E1, ?_⟩
      have P2 : SPost X.K X.mg W ρ1 H1 (match m σd st1 with
        | .ok (.nx σ1) st2 => whileM mt m k σ1 st2
        | .ok (.ct σ1) st2 => whileM mt m k σ1 st2
        | .ok (.bk σ1) st2 => .ok (.nx σ1) st2
        | r => r) D := P1
      cases e : m σd st1 with
      | fail => rw [e] at P2; exact P2
      | exc x y => rw [e] at P2; exact P2
      | ok f s1 =>
        rw [e] at P2
        cases f with
        | nx σ1 => exact fun σ' H' ρ' a b c => ⟨ρ', s1, σ1, b, c, SPost.stp P2 a⟩
        | bk σ1 => exact P2
        | ct σ1 => exact fun σ' H' ρ' a b c => ⟨ρ', s1, σ1, b, c, SPost.stp P2 a⟩
        | rt d => exact P2
        | xc d σ1 => exact P2
end
end G

namespace PySem
open Sem (wp)
open AutoSeq1 (wpAny_loadPart')
theorem enumT_new (t : Addr) (its : Array Value) (ob : Obj) :
    Meets (Builtin.«enumerate.__new__» ⟨[.type "enumerate", .ref t], []⟩) (fun _ R s => (s.heap.get? t = some ob ∧ ob.cls = .type "tuple" ∧ ∃ k, ob.data = .seq its k) ∧
      R (.ok (.ret (.ref (s.heap.push { cls := .type "tuple_iterator", data := .fields #[.ref t, .int 0 0] }).objs.size)))
        { s with heap := (s.heap.push { cls := .type "tuple_iterator", data := .fields #[.ref t, .int 0 0] }).push { cls := .type "enumerate", data := .fields #[.none, .bool false, .ref s.heap.objs.size, rawInt 0, .none, .none] } }) := by
  refine .of_wp fun prog w A R s h => ?_
  obtain ⟨hp, g, d, tk, os⟩ := s
  obtain ⟨⟨look, cl, k, dt⟩, h⟩ := h
  have sub := sub_enumerate
  have tup : Heap.IsTuple (Shared.heap ⟨hp, g, d, tk, os⟩) t its := ⟨ob, look, cl, k, dt⟩
  wp_walk using wpAny_loadPart' look
  refine wpAny_stack_any fun st => wpAny_pure ?_
  split
  · rename_i c _ _ _ _ _
    cases (c == Value.type "enumerate") <;> (wp_walk using wpAny_loadPart' look, wpAny_pyIter_tuple tup; exact ⟨_, rfl, h⟩)
  · wp_walk using wpAny_loadPart' look, wpAny_pyIter_tuple tup
    exact ⟨_, rfl, h⟩

section
variable {prog : Program} {w : World} {A : Around} {E : Value → Shared → Prop} {s : Shared} {it t e : Addr} {i : Nat} {its : Array Value} {x old : Value}
theorem enumT_step {Q : Value → Shared → Prop} (ti : s.heap.IsTupleIter it t i) (tt : s.heap.IsTuple t its) (hx : its[i]? = some x)
    (q : ∀ h', h'.IsTupleIter it t (i + 1) → Heap.SameBut it s.heap h' → Q x { s with heap := h' }) : wpAny (model prog w) A (Builtin.SmallTypes.nextOf (.ref it)) Q E s := by
  obtain ⟨oi, gi, ci, di⟩ := id ti
  obtain ⟨ot, gt, _, nt, dt⟩ := tt
  unfold Builtin.SmallTypes.nextOf
  apply wpAny_bind
  apply wpAny_callSpecial?_slot (name := Str.ofString "__next__") ti.typeIs F.slot_tuple_iterator_next
  apply wpAny_call_entry F.slot_tuple_iterator_next ti.typeIs F.entry_tuple_iterator_next _ (F.args_tuple_iterator_next_1 _)
  have none' : (Value.ref t == Value.none) = false := rfl
  have new : (s.heap.update it (fun o => o.mapFields fun vs => vs.set! 1 (rawInt ((i : Int) + 1)))).IsTupleIter it t (i + 1) := by
    refine ⟨_, Heap.get?_update_self _ gi (Obj.isFreed_of_fields (Obj.data_mapFields di _)), (Obj.cls_mapFields ..).trans ci, ?_⟩
    rw [Obj.data_mapFields di]
    simp [rawInt]
  change wpAny _ A.in1 ((field (.ref it) 0) >>= _) _ _ _
  apply wpAny_bind
  apply wpAny_field gi di (x := .ref t) rfl
  change wpAny _ A.in1 (ite ((Value.ref t == Value.none) = true) _ _) _ _ _
  rw [none']
  apply (fun (h : wpAny _ _ _ _ _ _) => (if_neg Bool.false_ne_true).symm ▸ h)
  change wpAny _ A.in1 ((field (.ref it) 1) >>= _) _ _ _
  apply wpAny_bind
  apply wpAny_field gi di (x := .int i 0) rfl
  change wpAny _ A.in1 ((seqItems? (.ref t)) >>= _) _ _ _
  apply wpAny_bind
  apply wpAny_seqItems gt dt
  simp only [hx, Int.toNat_natCast]
  apply wpAny_bind
  apply wpAny_setField gi di (by simp)
  exact wpAny_pure ⟨x, rfl, wpAny_pure (q _ new (Heap.SameBut.update ..))⟩
/-- what a turn of the enumerate leaves -/
structure EnumTurn (h h' : Heap) (e it t : Addr) (i : Nat) (x : Value) (tk : Tok) : Prop where
  out : IsEnumOut h' e it ((i : Int) + 1) x h.objs.size
  ti : h'.IsTupleIter it t (i + 1)
  pair : h'.get? h.objs.size = some { cls := .type "tuple", data := .seq #[.int i tk, x] }
  size : h'.objs.size = h.objs.size + 1
  keep : ∀ b o, b ≠ e → b ≠ it → h.get? b = some o → h'.get? b = some o
theorem enumT_next {Q : Value → Shared → Prop} (en : IsEnum s.heap e it i old) (ti : s.heap.IsTupleIter it t i) (tt : s.heap.IsTuple t its) (hx : its[i]? = some x) (ne : e ≠ it)
    (q : ∀ h', EnumTurn s.heap h' e it t i x s.toks → Q (.ref s.heap.objs.size) { s with heap := h', toks := s.toks + 1 }) :
    wpAny (model prog w) A (Builtin.«enumerate.__next__» ⟨[.ref e], []⟩) (fun fin s' => ∃ v, fin = .done (.ret v) ∧ Q v s') E s := by
  obtain ⟨g0, gs, gd, tok, os⟩ := s
  have ne' := Ne.symm ne
  change wpAny _ _ ((field (.ref e) 2) >>= _) _ _ _
  apply wpAny_bind
  apply wpAny_field en rfl (x := .ref it) rfl
  apply wpAny_bind
  apply enumT_step ti tt hx
  intro g1 ti1 sb1
  have sb1 : Heap.SameBut it g0 g1 := sb1
  have en1 : IsEnum g1 e it i old := (sb1.2 e ne).trans en
  change wpAny _ _ ((field (.ref e) 3) >>= _) _ _ ⟨g1, gs, gd, tok, os⟩
  apply wpAny_bind
  apply wpAny_field en1 rfl (x := rawInt i) rfl
  change wpAny _ _ ((field (.ref e) 4) >>= _) _ _ ⟨g1, gs, gd, tok, os⟩
  apply wpAny_bind
  apply wpAny_field en1 rfl (x := .none) rfl
  change wpAny _ _ ((mkInt i) >>= _) _ _ ⟨g1, gs, gd, tok, os⟩
  apply wpAny_bind
  apply wpAny_mkInt
  change wpAny _ _ ((setField (.ref e) 3 (rawInt ((i : Int) + 1))) >>= _) _ _ ⟨g1, gs, gd, tok + 1, os⟩
  apply wpAny_bind
  apply wpAny_setField_rec en1 (by simp)
  intro g2 en2 sb2
  have sb2 : Heap.SameBut e g1 g2 := sb2
  have en2 : IsEnum g2 e it ((i : Int) + 1) old := en2
  change wpAny _ _ ((setField (.ref e) 4 .none) >>= _) _ _ ⟨g2, gs, gd, tok + 1, os⟩
  apply wpAny_bind
  apply wpAny_setField_rec en2 (by simp)
  intro g3 en3 sb3
  have sb3 : Heap.SameBut e g2 g3 := sb3
  have en3 : IsEnum g3 e it ((i : Int) + 1) old := en3
  change wpAny _ _ ((newTuple [.int i tok, x]) >>= _) _ _ ⟨g3, gs, gd, tok + 1, os⟩
  refine wpAny_bind (wpAny_newTuple ?_)
  have z3 : g3.objs.size = g0.objs.size := by rw [sb3.1, sb2.1, sb1.1]
  have en4 : IsEnum (g3.push { cls := .type "tuple", data := .seq #[.int i tok, x] }) e it ((i : Int) + 1) old := Heap.get?_push_of_some _ en3
  have ti3 : g3.IsTupleIter it t (i + 1) := (ti1.extBut sb2.extBut ne').extBut sb3.extBut ne'
  have ti4 : (g3.push { cls := .type "tuple", data := .seq #[.int i tok, x] }).IsTupleIter it t (i + 1) := ti3.at fun o z => Heap.get?_push_of_some _ z
  have tp4 : (g3.push { cls := .type "tuple", data := .seq #[.int i tok, x] }).get? g3.objs.size = some { cls := .type "tuple", data := .seq #[.int i tok, x] } := Heap.get?_push_size _ rfl
  have sz4 : (g3.push { cls := .type "tuple", data := .seq #[.int i tok, x] }).objs.size = g0.objs.size + 1 := by rw [Heap.size_push, z3]
  have kp4 : ∀ b o, b ≠ e → b ≠ it → g0.get? b = some o → (g3.push { cls := .type "tuple", data := .seq #[.int i tok, x] }).get? b = some o := fun b o be bi hb =>
    Heap.get?_push_of_some _ (sb3.extBut b o be (sb2.extBut b o be (sb1.extBut b o bi hb)))
  rw [z3] at tp4
  have el : e < g0.objs.size := Heap.lt_size en
  change wpAny _ _ ((Builtin.SmallTypes.ownedTupleIsFree (.ref e)) >>= _) _ _ ⟨g3.push _, gs, gd, tok + 1, os⟩
  rw [z3]
  generalize g3.push { cls := .type "tuple", data := .seq #[.int i tok, x] } = g4 at en4 ti4 tp4 sz4 kp4 ⊢
  apply wpAny_bind
  unfold Builtin.SmallTypes.ownedTupleIsFree
  apply wpAny_bind
  apply wpAny_field en4 rfl (x := .none) rfl
  apply wpAny_pure
  simp only [if_true]
  apply wpAny_bind
  apply wpAny_rule
  apply wpAny_bind
  apply wpAny_field en4 rfl (x := old) rfl
  apply wpAny_bind
  apply wpAny_setField_rec en4 (by simp)
  intro g5 en5 sb5
  have sb5 : Heap.SameBut e g4 g5 := sb5
  have en5 : IsEnum g5 e it ((i : Int) + 1) x := en5
  change wpAny _ _ ((Builtin.SmallTypes.ownedTupleHandOut (.ref e) (.ref g0.objs.size)) >>= _) _ _ ⟨g5, gs, gd, tok + 1, os⟩
  apply wpAny_bind
  unfold Builtin.SmallTypes.ownedTupleHandOut
  apply wpAny_bind
  apply wpAny_setField_rec en5 (by simp)
  intro g6 en6 sb6
  have sb6 : Heap.SameBut e g5 g6 := sb6
  have en6 : IsEnumOut g6 e it ((i : Int) + 1) x g0.objs.size := en6
  apply wpAny_setField_rec en6 (by simp)
  intro g7 en7 sb7
  have sb7 : Heap.SameBut e g6 g7 := sb7
  apply wpAny_bind
  apply wpAny_letGo
  refine wpAny_pure ⟨_, rfl, q g7 ⟨en7, ?_, ?_, ?_, ?_⟩⟩
  · exact ((ti4.extBut sb5.extBut ne').extBut sb6.extBut ne').extBut sb7.extBut ne'
  · have ee : g0.objs.size ≠ e := Nat.ne_of_gt el
    exact sb7.extBut _ _ ee (sb6.extBut _ _ ee (sb5.extBut _ _ ee tp4))
  · show g7.objs.size = g0.objs.size + 1
    rw [sb7.1, sb6.1, sb5.1, sz4]
  · exact fun b o be bi hb => sb7.extBut b o be (sb6.extBut b o be (sb5.extBut b o be (kp4 b o be bi hb)))
theorem enumT_pyNext {Q : Option Value → Shared → Prop} (en : IsEnum s.heap e it i old) (ti : s.heap.IsTupleIter it t i) (tt : s.heap.IsTuple t its) (hx : its[i]? = some x) (ne : e ≠ it)
    (q : ∀ h', EnumTurn s.heap h' e it t i x s.toks → Q (some (.ref s.heap.objs.size)) { s with heap := h', toks := s.toks + 1 }) : wpAny (model prog w) A (pyNext (.ref e)) Q E s := by
  have ty : s.TypeIs (.ref e) "enumerate" := ⟨_, en, rfl⟩
  unfold pyNext
  apply wpAny_bind
  apply wpAny_attempt
  apply wpAny_callSpecial?_slot (name := Str.ofString "__next__") ty F.slot_enumerate_next
  exact wpAny_call_entry F.slot_enumerate_next ty F.entry_enumerate_next (enumT_next en ti tt hx ne fun h' z => wpAny_pure (q h' z)) (F.args_enumerate_next_1 _)
theorem enumT_stop {Q : Value → Shared → Prop} (hh : A.handled = none) (ti : s.heap.IsTupleIter it t i) (tt : s.heap.IsTuple t its) (hx : its[i]? = none)
    (q : ∀ h' a, Heap.ExtBut it s.heap h' → (∃ o, h'.get? a = some o ∧ o.cls = .type "StopIteration") → E (.ref a) { s with heap := h' }) : wpAny (model prog w) A (Builtin.SmallTypes.nextOf (.ref it)) Q E s := by
  obtain ⟨oi, gi, ci, di⟩ := id ti
  obtain ⟨ot, gt, _, nt, dt⟩ := tt
  unfold Builtin.SmallTypes.nextOf
  apply wpAny_bind
  apply wpAny_callSpecial?_slot (name := Str.ofString "__next__") ti.typeIs F.slot_tuple_iterator_next
  apply wpAny_call_entry F.slot_tuple_iterator_next ti.typeIs F.entry_tuple_iterator_next _ (F.args_tuple_iterator_next_1 _)
  have none' : (Value.ref t == Value.none) = false := rfl
  change wpAny _ A.in1 ((field (.ref it) 0) >>= _) _ _ _
  apply wpAny_bind
  apply wpAny_field gi di (x := .ref t) rfl
  change wpAny _ A.in1 (ite ((Value.ref t == Value.none) = true) _ _) _ _ _
  rw [none']
  apply (fun (h : wpAny _ _ _ _ _ _) => (if_neg Bool.false_ne_true).symm ▸ h)
  change wpAny _ A.in1 ((field (.ref it) 1) >>= _) _ _ _
  apply wpAny_bind
  apply wpAny_field gi di (x := .int i 0) rfl
  change wpAny _ A.in1 ((seqItems? (.ref t)) >>= _) _ _ _
  apply wpAny_bind
  apply wpAny_seqItems gt dt
  simp only [hx, Int.toNat_natCast]
  apply wpAny_bind
  apply wpAny_rule
  apply wpAny_bind
  apply wpAny_setField gi di (by simp)
  change wpAny _ A.in1 ((newExc (.type "StopIteration") []) >>= _) _ _ _
  apply wpAny_bind
  simp only [newExc, newTuple]
  refine wpAny_bind (wpAny_newObj_type ?_ (by size_fits))
  refine wpAny_bind (m := firstArgMember _ _) ?_
  refine wpAny_of_eq (a := Value.none) ?_ ?_
  · first
      | rfl
      | (simp only [firstArgMember]; rfl)
  refine wpAny_newObj_type ?_ (by size_fits)
  simp only [raiseNew]
  apply wpAny_bind
  apply wpAny_handled
  have h1 : A.in1.handled = none := hh
  rw [h1]
  change wpAny _ _ (throw _) _ _ _
  apply wpAny_throw
  exact q _ _ (((Heap.SameBut.update ..).extBut.push _).push _) ⟨_, Heap.get?_push_size _ rfl, rfl⟩
theorem enumT_end {Q : Option Value → Shared → Prop} (hh : A.handled = none) (en : IsEnum s.heap e it i old) (ti : s.heap.IsTupleIter it t i) (tt : s.heap.IsTuple t its) (hx : its[i]? = none)
    (q : ∀ h', Heap.ExtBut it s.heap h' → Q none { s with heap := h' }) : wpAny (model prog w) A (pyNext (.ref e)) Q E s := by
  have ty : s.TypeIs (.ref e) "enumerate" := ⟨_, en, rfl⟩
  unfold pyNext
  apply wpAny_bind
  apply wpAny_attempt
  apply wpAny_callSpecial?_slot (name := Str.ofString "__next__") ty F.slot_enumerate_next
  apply wpAny_call_entry F.slot_enumerate_next ty F.entry_enumerate_next _ (F.args_enumerate_next_1 _)
  change wpAny _ A.in1 ((field (.ref e) 2) >>= _) _ _ _
  apply wpAny_bind
  apply wpAny_field en rfl (x := .ref it) rfl
  apply wpAny_bind
  refine enumT_stop hh ti tt hx fun h' a eb ⟨o, ho, hc⟩ => ?_
  refine wpAny_bind (wpAny_isInstance (T := "StopIteration") (b := true) ⟨o, ho, hc⟩ isSubtype_stop ?_)
  exact wpAny_pure (q h' eb)
theorem enumT_call {Q : Value → Shared → Prop} (tt : s.heap.IsTuple t its)
    (q : ∀ h', IsEnum h' (s.heap.objs.size + 1) s.heap.objs.size 0 .none → h'.IsTupleIter s.heap.objs.size t 0 → h'.objs.size = s.heap.objs.size + 2 →
      (∀ b o, s.heap.get? b = some o → h'.get? b = some o) → Q (.ref (s.heap.objs.size + 1)) { s with heap := h' }) : wpAny (model prog w) A (call (.type "enumerate") [.ref t]) Q E s := by
  obtain ⟨ob, look, cl, k, dt⟩ := tt
  refine callType_new F.called_enumerate (by decide) (F.typeCall_enumerate_1 _) (F.newCall_enumerate_1 _) (fun obj => F.args_object_init_2 obj _) F.entry_enumerate_new (enumT_new t its ob) ⟨⟨look, cl, k, dt⟩, ?_⟩
  have z : (s.heap.push { cls := .type "tuple_iterator", data := .fields #[.ref t, .int 0 0] }).objs.size = s.heap.objs.size + 1 := Heap.size_push ..
  show _ ∧ _
  have en : ∀ g : Heap, g.objs.size = s.heap.objs.size + 1 → IsEnum (g.push { cls := .type "enumerate", data := .fields #[.none, .bool false, .ref s.heap.objs.size, rawInt 0, .none, .none] }) (s.heap.objs.size + 1) s.heap.objs.size 0 .none := fun g hg => by
    have p := Heap.get?_push_size g (o := { cls := .type "enumerate", data := .fields #[.none, .bool false, .ref s.heap.objs.size, rawInt 0, .none, .none] }) rfl
    rw [hg] at p
    exact p
  have en := en _ z
  rw [z]
  constructor
  · exact ⟨_, en, rfl⟩
  · refine q _ en ⟨_, Heap.get?_push_of_some _ (Heap.get?_push_size _ rfl), rfl, rfl⟩ ?_ ?_
    · rw [Heap.size_push, z]
    · intro b o hb
      exact Heap.get?_push_of_some _ (Heap.get?_push_of_some _ hb)
end
end PySem

namespace G
open PySem L2 PySem.Spec PyProof.Rows
/-- a tuple's items with their numbers, each in a new pair -/
def Itet (K : PySem.W.Frag) (a : Addr) : It where
  go := fun i H => ∃ (xs : List V) (x : V), SqT K H a xs ∧ xs[i]? = some x
  yld := fun i H v H' => ∃ T x, v = .ref T ∧ H T = none ∧ H' = upd H T (.tup [.int (i : Nat), x]) ∧ ∀ xs, SqT K H a xs → xs[i]? = some x
  stop := fun i H => ∃ xs : List V, SqT K H a xs ∧ xs.length ≤ i
theorem turn_enumT {P : Program} {w : World} {K : PySem.W.Frag} {elts : List Expr} {kk : Nat} {tpos : Pos} (a e it : Addr) :
    Turn P w K (.Tuple elts kk tpos) (Itet K a) [e, it] e (fun i h => (∃ old, IsEnum h e it ((i : Nat) : Int) old) ∧ h.IsTupleIter it a i ∧ e ≠ it) where
  mem := by simp
  obj := by
    intro i h st b hb
    obtain ⟨⟨old, he⟩, ⟨o, ho, hc, hd⟩, _⟩ := st
    simp only [List.mem_cons, List.not_mem_nil, or_false] at hb
    rcases hb with rfl | rfl
    · exact ⟨_, he, fun v z => by cases z⟩
    · refine ⟨o, ho, fun v z => ?_⟩
      rw [hd] at z
      cases z
  keep := by
    intro i h h' st k
    obtain ⟨⟨old, he⟩, hi, hne⟩ := st
    exact ⟨⟨old, k e (by simp) _ he⟩, hi.at fun o z => k it (by simp) o z, hne⟩
  item := by
    intro X hP hw hK hc i pins s σ H E I hf st hg
    subst hP hw hK
    obtain ⟨⟨old, en⟩, ti, ne⟩ := st
    obtain ⟨xs, x, sq, hx⟩ := hg
    obtain ⟨its, rv, pl, hz⟩ := I.tuple sq
    obtain ⟨u, hu, ru⟩ := rv.get hx
    have le : e < s.heap.objs.size := Heap.lt_size en
    have li : it < s.heap.objs.size := by
      obtain ⟨_, z, _⟩ := ti
      exact Heap.lt_size z
    have tt : s.heap.IsTuple a its.toArray := pl
    have hu' : its.toArray[i]? = some u := by simpa using hu
    apply enumT_pyNext en ti tt hu' ne
    intro g tn
    refine ⟨_, rfl, ?_⟩
    apply wpAny_letOwnedTupleGo_enum (s := { s with heap := g, toks := s.toks + 1 }) tn.out
    intro g2 en2 sb
    have pair : g2.get? s.heap.objs.size = some { cls := .type "tuple", data := .seq #[.int i s.toks, u] } := (sb.2 _ (Nat.ne_of_gt le)).trans tn.pair
    have ok : ObjOk X.prog X.w (upd H s.heap.objs.size (.tup [.int (i : Nat), x])) g2 s.heap.objs.size (.tup [.int (i : Nat), x]) := by
      refine ⟨by show 2 ≤ sizeLine; decide, [.int i s.toks, u], ?_, ⟨_, pair, rfl, _, rfl⟩⟩
      exact .cons ⟨_, rfl⟩ (.cons ru .nil)
    have stay : ∀ b ob, b ∉ [e, it] → s.heap.get? b = some ob → g2.get? b = some ob := fun b ob hb z => by
      simp only [List.mem_cons, List.not_mem_nil, or_false, not_or] at hb
      exact (sb.2 b hb.1).trans (tn.keep b ob hb.1 hb.2 z)
    have J := I.turnedNew (t' := s.toks + 1) (ch := [e, it]) stay hf (Nat.le_refl _) ok
    refine ⟨.ref s.heap.objs.size, _, J, rfl, ⟨_, x, rfl, I.hok.fresh (Nat.le_refl _), rfl, fun ys hy => ?_⟩, ⟨⟨u, ?_⟩, tn.ti.at fun o z => (sb.2 it (Ne.symm ne)).trans z, ne⟩, fun b hb => ?_⟩
    · rw [I.tuple_inj hy sq]
      exact hx
    · have e1 : ((i + 1 : Nat) : Int) = (i : Int) + 1 := by omega
      rw [e1]
      exact en2
    · have lt : b < s.heap.objs.size := by
        simp only [List.mem_cons, List.not_mem_nil, or_false] at hb
        rcases hb with rfl | rfl
        · exact le
        · exact li
      rw [upd_ne (Nat.ne_of_lt lt)]
      exact (hf b hb).1
  done := by
    intro X hP hw hK hc i pins s σ H E I hf st hg
    subst hP hw hK
    obtain ⟨⟨old, en⟩, ti, ne⟩ := st
    obtain ⟨xs, sq, hx⟩ := hg
    obtain ⟨its, rv, pl, hz⟩ := I.tuple sq
    obtain ⟨f0, f1, f2, f3, f4, f5⟩ := hf it (by simp)
    have hl := rv.length
    have tt : s.heap.IsTuple a its.toArray := pl
    apply enumT_end (I.ok.hd hc) en ti tt (by simp; omega)
    intro g eb
    exact ⟨rfl, I.turned (t' := s.toks) (fun b o hb z => eb b o hb z) f0 f1 f3 f4 f5⟩
  self := fun A i s Q E st h => wpAny_pyIter_enum st.1.choose_spec h
def iEnumT (K : PySem.W.Frag) (ta : TA) : TI := fun σ H R => ta σ H fun vs H1 => ∃ a xs, vs = [.ref a] ∧ SqT K H1 a xs ∧ R (Itet K a) H1
theorem pi_enumT {X : Cx} {e : Expr} {ta : TA} {p pos tpos : Pos} {elts : List Expr} {kk : Nat} (hg : Gl X "enumerate") (hm : X.mg "enumerate" = none) (ha : PA X [e] ta) (hs : starEach [e] X.env = [(false, eval e X.env)]) :
    PI X (.Tuple elts kk tpos) (.Call (.Name "enumerate" p) [e] [] pos) (iEnumT X.K ta) := by
  refine ⟨fun pins s σ H R I h => ?_⟩
  refine Call_ (ld_blt I hg hm boot_enumerate ?_)
  refine PyProof.Rows.callWith_type1 (thn (ha.run pos pins s σ H _ I h) fun us s1 ⟨vs, H1, I1, r1, a, xs, ex, sq, q⟩ => ?_) hs rfl
  subst ex
  rcases r1 with _ | ⟨r, rr⟩
  cases rr
  cases r
  obtain ⟨its, rv, pl, hz⟩ := I1.tuple sq
  have tt : s1.heap.IsTuple a its.toArray := pl
  apply enumT_call tt
  intro g en ti sz kp
  apply wpAny_pyIter_enum en
  have J : Inv X pins σ H1 { s1 with heap := g } := I1.kept (t' := s1.toks) kp
  refine ⟨s1.heap.objs.size + 1, [s1.heap.objs.size + 1, s1.heap.objs.size], _, _, H1, rfl, J, turn_enumT a (s1.heap.objs.size + 1) s1.heap.objs.size, ⟨⟨.none, en⟩, ti, Nat.succ_ne_self _⟩, fun b hb => ?_, q⟩
  have le : s1.heap.objs.size ≤ b := by
    simp only [List.mem_cons, List.not_mem_nil, or_false] at hb
    rcases hb with rfl | rfl
    · exact Nat.le_succ _
    · exact Nat.le_refl _
  exact I1.fpOk le (I1.hok.fresh le)
end G

/-! G12: what is walked, targets, for, comprehensions. -/
namespace G
open PySem L2 PySem.Spec PyProof.Rows RZ

/-! ### what is walked -/
inductive ItD where
  | seq (xs : List D) | lst (n : Nat) | rng (lo : Int) (n : Nat) | sgn (z : Str) | enm (n : Nat) | zll (m n : Nat) | ztt (xs ys : List D) | ens (xs : List D)
/-- at turn i: an item, or the end -/
def itGet (it : ItD) (i : Nat) (st : Store) : Option (Option D) := match it with
  | .seq xs => some xs[i]?
  | .lst n => (lstAt st n).map fun xs => xs[i]?
  | .rng lo n => some (if i < n then some (.int (lo + i)) else none)
  | .sgn z => some ((z.cps[i]?).map fun c => .str ⟨#[c]⟩)
  | .enm n => (lstAt st n).map fun xs => (xs[i]?).map fun d => .tup [.int i, d]
  | .zll m n => match lstAt st m, lstAt st n with
    | some xs, some ys => some (match xs[i]?, ys[i]? with
      | some x, some y => some (.tup [x, y])
      | _, _ => none)
    | _, _ => none
  | .ztt xs ys => some (match xs[i]?, ys[i]? with
      | some x, some y => some (.tup [x, y])
      | _, _ => none)
  | .ens xs => some ((xs[i]?).map fun d => .tup [.int i, d])
section
variable (K : PySem.W.Frag) (mg : Str → Option Value)
def ItRep (ρ : List Addr) (H : Hp) : ItD → It → Prop
  | .seq xs, J => (∃ a vs, J = Itt K a ∧ H a = some (.tup vs) ∧ Reps K mg ρ H xs vs) ∨ (∃ a vs, J = Itl K a ∧ RoL K ρ H a vs ∧ Reps K mg ρ H xs vs)
  | .lst n, J => ∃ a, J = Itl K a ∧ ρ[n]? = some a
  | .rng lo n, J => J = Itr lo n
  | .sgn z, J => J = Its z
  | .enm n, J => ∃ a, J = Ite K a ∧ ρ[n]? = some a
  | .zll m n, J => ∃ a b, J = Itz K a b ∧ ρ[m]? = some a ∧ ρ[n]? = some b
  | .ens xs, J => ∃ a vs, J = Itet K a ∧ H a = some (.tup vs) ∧ Reps K mg ρ H xs vs
  | .ztt xs ys, J => ∃ a b vs ws, J = ItzT K a b ∧ H a = some (.tup vs) ∧ H b = some (.tup ws) ∧ Reps K mg ρ H xs vs ∧ Reps K mg ρ H ys ws
end
section
variable {K : PySem.W.Frag} {mg : Str → Option Value} {ρ ρ' : List Addr} {H H' : Hp} {st : Store}
theorem tup_keep (S : SR K mg ρ st H) (a : Stp ρ H ρ' H') {x : Addr} {vs : List V} (h : H x = some (.tup vs)) : H' x = some (.tup vs) := a.keep _ _ h (S.tupOut (.inl h))
theorem ItRep.stp (S : SR K mg ρ st H) (a : Stp ρ H ρ' H') {it : ItD} {J : It} (h : ItRep K mg ρ H it J) : ItRep K mg ρ' H' it J := by
  cases it with
  | seq xs =>
    rcases h with ⟨x, vs, e, h1, h2⟩ | ⟨x, vs, e, h1, h2⟩
    · exact .inl ⟨x, vs, e, tup_keep S a h1, Reps.stp S a h2⟩
    · exact .inr ⟨x, vs, e, RoL.stp a h1, Reps.stp S a h2⟩
  | lst n => obtain ⟨x, e, h⟩ := h; exact ⟨x, e, a.get h⟩
  | rng lo n => exact h
  | sgn z => exact h
  | enm n => obtain ⟨x, e, h⟩ := h; exact ⟨x, e, a.get h⟩
  | zll m n => obtain ⟨x, y, e, h, h'⟩ := h; exact ⟨x, y, e, a.get h, a.get h'⟩
  | ens xs => obtain ⟨x, vs, e, h1, h2⟩ := h; exact ⟨x, vs, e, tup_keep S a h1, Reps.stp S a h2⟩
  | ztt xs ys => obtain ⟨x, y, vs, ws, e, h1, h2, h3, h4⟩ := h; exact ⟨x, y, vs, ws, e, tup_keep S a h1, tup_keep S a h2, Reps.stp S a h3, Reps.stp S a h4⟩
theorem lst_of (S : SR K mg ρ st H) {n : Nat} {a : Addr} {xs : List D} (hp : ρ[n]? = some a) (h : lstAt st n = some xs) : ∃ vs, H a = some (.lst vs) ∧ Reps K mg ρ H xs vs := by
  obtain ⟨b, vs, e, h1, h2, h3⟩ := loc_lst S (.loc hp : Rep K mg ρ H (.loc n) (.ref a)) (lstAt_eq h)
  cases e
  exact ⟨vs, h2, h3⟩
theorem Reps.none_of {xs : List D} {vs : List V} {i : Nat} (r : Reps K mg ρ H xs vs) (e : xs[i]? = none) : vs.length ≤ i := by
  rw [← r.length]
  exact List.getElem?_eq_none_iff.mp e
theorem pair_rep {x y : D} {vx vy : V} {T : Addr} (S : SR K mg ρ st H) (hT : H T = none) (rx : Rep K mg ρ H x vx) (ry : Rep K mg ρ H y vy) :
    Stp ρ H ρ (upd H T (.tup [vx, vy])) ∧ SR K mg ρ st (upd H T (.tup [vx, vy])) ∧ Rep K mg ρ (upd H T (.tup [vx, vy])) (.tup [x, y]) (.ref T) :=
  ⟨stp_new hT, S.add hT, .tup upd_same (.cons (rx.stp S (stp_new hT)) (.cons (ry.stp S (stp_new hT)) .nil))⟩
/-- a turn -/
theorem ItRep.turn (S : SR K mg ρ st H) {it : ItD} {J : It} (h : ItRep K mg ρ H it J) (i : Nat) : match itGet it i st with
    | none => True
    | some none => J.stop i H
    | some (some d) => J.go i H ∧ ∀ x H', J.yld i H x H' → Stp ρ H ρ H' ∧ SR K mg ρ st H' ∧ Rep K mg ρ H' d x := by
  cases it with
  | seq xs =>
    show match some xs[i]? with | none => True | some none => J.stop i H | some (some d) => J.go i H ∧ ∀ x H', J.yld i H x H' → Stp ρ H ρ H' ∧ SR K mg ρ st H' ∧ Rep K mg ρ H' d x
    rcases h with ⟨a, vs, rfl, h1, h2⟩ | ⟨a, vs, rfl, h1, h2⟩
    · cases e : xs[i]? with
      | none => exact ⟨vs, .inl (.inl h1), h2.none_of e⟩
      | some d =>
        obtain ⟨v, hv, rv⟩ := h2.get e
        refine ⟨⟨vs, v, .inl (.inl h1), hv⟩, fun x H' ⟨e1, e2⟩ => ?_⟩
        subst e1
        have := e2 vs (.inl (.inl h1))
        rw [hv] at this; cases this
        exact ⟨Stp.refl, S, rv⟩
    · cases e : xs[i]? with
      | none => exact ⟨vs, h1.sq, h2.none_of e⟩
      | some d =>
        obtain ⟨v, hv, rv⟩ := h2.get e
        refine ⟨⟨vs, v, h1.sq, hv⟩, fun x H' ⟨e1, e2⟩ => ?_⟩
        subst e1
        have := e2 vs h1.sq
        rw [hv] at this; cases this
        exact ⟨Stp.refl, S, rv⟩
  | lst n =>
    obtain ⟨a, rfl, hp⟩ := h
    show match (lstAt st n).map (fun xs => xs[i]?) with | none => True | some none => (Itl K a).stop i H | some (some d) => (Itl K a).go i H ∧ ∀ x H', (Itl K a).yld i H x H' → Stp ρ H ρ H' ∧ SR K mg ρ st H' ∧ Rep K mg ρ H' d x
    cases e0 : lstAt st n with
    | none => trivial
    | some xs =>
      obtain ⟨vs, h1, h2⟩ := lst_of S hp e0
      show match some xs[i]? with | none => True | some none => (Itl K a).stop i H | some (some d) => (Itl K a).go i H ∧ ∀ x H', (Itl K a).yld i H x H' → Stp ρ H ρ H' ∧ SR K mg ρ st H' ∧ Rep K mg ρ H' d x
      cases e : xs[i]? with
      | none => exact ⟨vs, .inl (.inl h1), h2.none_of e⟩
      | some d =>
        obtain ⟨v, hv, rv⟩ := h2.get e
        refine ⟨⟨vs, v, .inl (.inl h1), hv⟩, fun x H' ⟨e1, e2⟩ => ?_⟩
        subst e1
        have := e2 vs (.inl (.inl h1))
        rw [hv] at this; cases this
        exact ⟨Stp.refl, S, rv⟩
  | rng lo n =>
    cases (show J = Itr lo n from h)
    show match some (if i < n then some (D.int (lo + i)) else none) with | none => True | some none => (Itr lo n).stop i H | some (some d) => (Itr lo n).go i H ∧ ∀ x H', (Itr lo n).yld i H x H' → Stp ρ H ρ H' ∧ SR K mg ρ st H' ∧ Rep K mg ρ H' d x
    by_cases hi : i < n
    · rw [if_pos hi]
      refine ⟨hi, fun x H' ⟨e1, e2⟩ => ?_⟩
      subst e1 e2
      exact ⟨Stp.refl, S, .int _⟩
    · rw [if_neg hi]
      exact Nat.le_of_not_lt hi
  | sgn z =>
    cases (show J = Its z from h)
    show match some ((z.cps[i]?).map fun c => D.str ⟨#[c]⟩) with | none => True | some none => (Its z).stop i H | some (some d) => (Its z).go i H ∧ ∀ x H', (Its z).yld i H x H' → Stp ρ H ρ H' ∧ SR K mg ρ st H' ∧ Rep K mg ρ H' d x
    cases e : z.cps[i]? with
    | none => exact Array.getElem?_eq_none_iff.mp e
    | some c =>
      refine ⟨(Array.getElem?_eq_some_iff.mp e).1, fun x H' ⟨e1, c', e2, e3⟩ => ?_⟩
      subst e1 e3
      rw [e] at e2; cases e2
      exact ⟨Stp.refl, S, .str _⟩
  | enm n =>
    obtain ⟨a, rfl, hp⟩ := h
    show match (lstAt st n).map (fun xs => (xs[i]?).map fun d => D.tup [.int i, d]) with | none => True | some none => (Ite K a).stop i H | some (some d) => (Ite K a).go i H ∧ ∀ x H', (Ite K a).yld i H x H' → Stp ρ H ρ H' ∧ SR K mg ρ st H' ∧ Rep K mg ρ H' d x
    cases e0 : lstAt st n with
    | none => trivial
    | some xs =>
      obtain ⟨vs, h1, h2⟩ := lst_of S hp e0
      show match some ((xs[i]?).map fun d => D.tup [.int i, d]) with | none => True | some none => (Ite K a).stop i H | some (some d) => (Ite K a).go i H ∧ ∀ x H', (Ite K a).yld i H x H' → Stp ρ H ρ H' ∧ SR K mg ρ st H' ∧ Rep K mg ρ H' d x
      cases e : xs[i]? with
      | none => exact ⟨vs, .inl (.inl h1), h2.none_of e⟩
      | some d =>
        obtain ⟨v, hv, rv⟩ := h2.get e
        refine ⟨⟨vs, v, .inl (.inl h1), hv⟩, fun x H' ⟨T, y, e1, e2, e3, e4⟩ => ?_⟩
        subst e1 e3
        have := e4 vs (.inl (.inl h1))
        rw [hv] at this; cases this
        exact pair_rep S e2 (.int _) rv
  | zll m n =>
    obtain ⟨a, b, rfl, hp, hq⟩ := h
    cases e0 : lstAt st m with
    | none => simp only [itGet, e0]
    | some xs =>
      cases e1 : lstAt st n with
      | none => simp only [itGet, e0, e1]
      | some ys =>
        obtain ⟨vs, h1, h2⟩ := lst_of S hp e0
        obtain ⟨ws, h3, h4⟩ := lst_of S hq e1
        have g1 : SqL K H a vs := .inl (.inl h1)
        have g2 : SqL K H b ws := .inl (.inl h3)
        simp only [itGet, e0, e1]
        cases ex : xs[i]? with
        | none => exact ⟨vs, ws, g1, g2, .inl (h2.none_of ex)⟩
        | some x =>
          cases ey : ys[i]? with
          | none => exact ⟨vs, ws, g1, g2, .inr (h4.none_of ey)⟩
          | some y =>
            obtain ⟨v, hv, rv⟩ := h2.get ex
            obtain ⟨w, hw, rw'⟩ := h4.get ey
            refine ⟨⟨vs, ws, v, w, g1, g2, hv, hw⟩, fun x H' ⟨T, v', w', e1, e2, e3, e4, e5⟩ => ?_⟩
            subst e1 e3
            have q1 := e4 vs g1
            have q2 := e5 ws g2
            rw [hv] at q1; cases q1
            rw [hw] at q2; cases q2
            exact pair_rep S e2 rv rw'
  | ens xs =>
    obtain ⟨a, vs, rfl, h1, h2⟩ := h
    have g1 : SqT K H a vs := .inl (.inl h1)
    show match some ((xs[i]?).map fun d => D.tup [.int i, d]) with | none => True | some none => (Itet K a).stop i H | some (some d) => (Itet K a).go i H ∧ ∀ x H', (Itet K a).yld i H x H' → Stp ρ H ρ H' ∧ SR K mg ρ st H' ∧ Rep K mg ρ H' d x
    cases e : xs[i]? with
    | none => exact ⟨vs, g1, h2.none_of e⟩
    | some d =>
      obtain ⟨v, hv, rv⟩ := h2.get e
      refine ⟨⟨vs, v, g1, hv⟩, fun x H' ⟨T, y, e1, e2, e3, e4⟩ => ?_⟩
      subst e1 e3
      have := e4 vs g1
      rw [hv] at this; cases this
      exact pair_rep S e2 (.int _) rv
  | ztt xs ys =>
    obtain ⟨a, b, vs, ws, rfl, h1, h3, h2, h4⟩ := h
    have g1 : SqT K H a vs := .inl (.inl h1)
    have g2 : SqT K H b ws := .inl (.inl h3)
    simp only [itGet]
    cases ex : xs[i]? with
    | none => exact ⟨vs, ws, g1, g2, .inl (h2.none_of ex)⟩
    | some x =>
      cases ey : ys[i]? with
      | none => exact ⟨vs, ws, g1, g2, .inr (h4.none_of ey)⟩
      | some y =>
        obtain ⟨v, hv, rv⟩ := h2.get ex
        obtain ⟨w, hw, rw'⟩ := h4.get ey
        refine ⟨⟨vs, ws, v, w, g1, g2, hv, hw⟩, fun x H' ⟨T, v', w', e1, e2, e3, e4, e5⟩ => ?_⟩
        subst e1 e3
        have q1 := e4 vs g1
        have q2 := e5 ws g2
        rw [hv] at q1; cases q1
        rw [hw] at q2; cases q2
        exact pair_rep S e2 rv rw'
end

/-! ### how a walk begins -/
abbrev MI := Sig → Store → R ItD
section
variable (X : Cx) (W : WX)
abbrev tMI (m : MI) : TI := tR X W (ItRep X.K X.mg) m
abbrev GI (tg e : Expr) (m : MI) : Prop := PI X tg e (tMI X W m)
end
section
variable {X : Cx} {W : WX} {tg e e2 : Expr} {ma mb : ME} {mi : MI} {ra : MA} {p pos tpos : Pos} {elts : List Expr} {kk : Nat}
theorem PI.imp {t t' : TI} (h : PI X tg e t) (i : ∀ σ H Q, t' σ H Q → t σ H Q) : PI X tg e t' := ⟨fun pins s σ H Q I q => h.run pins s σ H Q I (i σ H Q q)⟩
theorem gi_fail : GI X W tg e fun _ _ => .fail := ⟨fun _ _ _ _ _ _ h => h.nofail.elim⟩
/-- a list, a tuple, a text -/
def iterD (d : D) (st : Store) : Option ItD := match d with
  | .tup xs => some (.seq xs)
  | .rol xs => some (.seq xs)
  | .str z => some (.sgn z)
  | .loc n => (lstAt st n).map fun _ => .lst n
  | _ => none
def iAny (m : ME) : MI := fun σ st => (m σ st).bind fun d st1 => match iterD d st1 with
  | some it => .ok it st1
  | none => .fail
theorem gi_any (ha : GE X W e ma) : GI X W tg e (iAny ma) := by
  refine ⟨fun pins s σ H R I ⟨ρ, st, σd, S, E, P⟩ => ?_⟩
  have h0 : tM X W ma σ H fun x H1 => (∃ a, x = .ref a ∧ (∃ xs, SqL X.K H1 a xs) ∧ R (Itl X.K a) H1) ∨ (∃ a, x = .ref a ∧ (∃ xs, SqT X.K H1 a xs) ∧ R (Itt X.K a) H1) ∨ (∃ z, x = .str z ∧ R (Its z) H1) := tR.bnd S E P fun x H1 d st1 ρ1 _ _ S1 E1 R1 P1 => by
    cases d with
    | tup xs =>
      obtain ⟨a, vs, rfl, h, q⟩ := tup_at R1
      exact .inr (.inl ⟨a, rfl, ⟨vs, .inl (.inl h)⟩, P1 _ H1 ρ1 Stp.refl S1 (.inl ⟨a, vs, rfl, h, q⟩)⟩)
    | rol xs =>
      cases R1 with
      | rol h q => exact .inl ⟨_, rfl, ⟨_, h.sq⟩, P1 _ H1 ρ1 Stp.refl S1 (.inr ⟨_, _, rfl, h, q⟩)⟩
    | str z => cases R1; exact .inr (.inr ⟨z, rfl, P1 _ H1 ρ1 Stp.refl S1 rfl⟩)
    | loc n =>
      cases e0 : lstAt st1 n with
      | none => simp only [iterD, e0, Option.map_none] at P1; exact P1.elim
      | some xs =>
        simp only [iterD, e0, Option.map_some] at P1
        obtain ⟨a, vs, rfl, hp, h, q⟩ := loc_lst S1 R1 (lstAt_eq e0)
        exact .inl ⟨a, rfl, ⟨vs, .inl (.inl h)⟩, P1 _ H1 ρ1 Stp.refl S1 ⟨a, rfl, hp⟩⟩
    | _ => exact P1.elim
  refine thn (ha.run pins s σ H _ I h0) fun v s1 ⟨x, H1, I1, r1, q1⟩ => ?_
  rcases q1 with ⟨a, rfl, ⟨xs, hq⟩, q⟩ | ⟨a, rfl, ⟨xs, hq⟩, q⟩ | ⟨z, rfl, q⟩
  · cases r1
    obtain ⟨its, rv, pl, hz⟩ := I1.list hq
    exact wpAny_pyIter_list pl.isList (pi_one (tk := s1.toks) I1 _ (turn_list a _) ⟨_, Heap.get?_push_size _ rfl, rfl, rfl⟩ q)
  · cases r1
    obtain ⟨its, rv, pl, hz⟩ := I1.tuple hq
    exact wpAny_pyIter_tuple (show s1.heap.IsTuple a its.toArray from pl) (pi_one (tk := s1.toks) I1 _ (turn_tuple a _) ⟨_, Heap.get?_push_size _ rfl, rfl, rfl⟩ q)
  · obtain ⟨t, rfl⟩ := r1
    cases ha : z.cps.all (· < 128)
    · exact wpAny_pyIter_wide ha (pi_one (tk := s1.toks) I1 _ (turn_str _ z t "str_iterator" (.inr rfl)) ⟨_, Heap.get?_push_size _ rfl, rfl, rfl⟩ q)
    · exact wpAny_pyIter_ascii ha (pi_one (tk := s1.toks) I1 _ (turn_str _ z t "str_ascii_iterator" (.inl rfl)) ⟨_, Heap.get?_push_size _ rfl, rfl, rfl⟩ q)
/-- range(a), range(a, b) -/
def iRng1 (r : MA) : MI := fun σ st => (r σ st).bind fun ds st1 => match ds with
  | [.int j] => if -(2 ^ 62) ≤ j ∧ j < 2 ^ 62 then .ok (.rng 0 j.toNat) st1 else .fail
  | _ => .fail
def iRng2 (r : MA) : MI := fun σ st => (r σ st).bind fun ds st1 => match ds with
  | [.int i, .int j] => if -(2 ^ 62) ≤ i ∧ i < 2 ^ 62 ∧ -(2 ^ 62) ≤ j ∧ j < 2 ^ 62 then .ok (.rng i (j - i).toNat) st1 else .fail
  | _ => .fail
theorem gi_range1 {a : Expr} (hg : Gl X "range") (hm : X.mg "range" = none) (ha : GA X W [a] ra) (hs : starEach [a] X.env = [(false, eval a X.env)]) : GI X W tg (.Call (.Name "range" p) [a] [] pos) (iRng1 ra) :=
  PI.imp (pi_range1 hg hm ha hs) fun σ H Q ⟨ρ, st, σd, S, E, P⟩ => tR.bnd S E P fun xs H1 ds st1 ρ1 _ _ S1 E1 R1 P1 => by
    split at P1
    · split at P1
      · rename_i hj
        obtain ⟨x, rfl, r⟩ := reps1 R1
        cases r
        exact ⟨_, rfl, hj.1, hj.2, P1 _ H1 ρ1 Stp.refl S1 rfl⟩
      · exact P1.elim
    · exact P1.elim
theorem gi_range2 {a b : Expr} (hg : Gl X "range") (hm : X.mg "range" = none) (ha : GA X W [a, b] ra) (hs : starEach [a, b] X.env = [(false, eval a X.env), (false, eval b X.env)]) (hs2 : starEach [b] X.env = [(false, eval b X.env)]) : GI X W tg (.Call (.Name "range" p) [a, b] [] pos) (iRng2 ra) :=
  PI.imp (pi_range2 hg hm ha hs hs2) fun σ H Q ⟨ρ, st, σd, S, E, P⟩ => tR.bnd S E P fun xs H1 ds st1 ρ1 _ _ S1 E1 R1 P1 => by
    split at P1
    · split at P1
      · rename_i hj
        obtain ⟨x, y, rfl, r, r'⟩ := reps2 R1
        cases r; cases r'
        exact ⟨_, _, rfl, hj, P1 _ H1 ρ1 Stp.refl S1 rfl⟩
      · exact P1.elim
    · exact P1.elim
/-- enumerate(xs), zip(xs, ys) -/
def iEnm (r : MA) : MI := fun σ st => (r σ st).bind fun ds st1 => match ds with
  | [.loc n] => match lstAt st1 n with
    | some _ => .ok (.enm n) st1
    | none => .fail
  | [.tup xs] => .ok (.ens xs) st1
  | _ => .fail
theorem gi_enum (hg : Gl X "enumerate") (hm : X.mg "enumerate" = none) (ha : GA X W [e] ra) (hs : starEach [e] X.env = [(false, eval e X.env)]) : GI X W (.Tuple elts kk tpos) (.Call (.Name "enumerate" p) [e] [] pos) (iEnm ra) := by
  refine ⟨fun pins s σ H R I ⟨ρ, st, σd, S, E, P⟩ => ?_⟩
  by_cases ht : ∃ xs st1, ra σd st = .ok [.tup xs] st1
  · obtain ⟨xs, st0, er⟩ := ht
    refine (pi_enumT hg hm ha hs).run pins s σ H R I (tR.bnd S E P fun vs H1 ds st1 ρ1 em _ S1 E1 R1 P1 => ?_)
    rw [er] at em
    cases em
    obtain ⟨x, rfl, r⟩ := reps1 R1
    obtain ⟨a, ws, rfl, h, q⟩ := tup_at r
    exact ⟨a, ws, rfl, .inl (.inl h), P1 _ H1 ρ1 Stp.refl S1 ⟨a, ws, rfl, h, q⟩⟩
  · refine (pi_enum hg hm ha hs).run pins s σ H R I (tR.bnd S E P fun vs H1 ds st1 ρ1 em _ S1 E1 R1 P1 => ?_)
    split at P1
    · split at P1
      · rename_i e0
        obtain ⟨x, rfl, r⟩ := reps1 R1
        obtain ⟨a, vs, rfl, hp, h, q⟩ := loc_lst S1 r (lstAt_eq e0)
        exact ⟨a, vs, rfl, .inl (.inl h), P1 _ H1 ρ1 Stp.refl S1 ⟨a, rfl, hp⟩⟩
      · exact P1.elim
    · exact (ht ⟨_, _, em⟩).elim
    · exact P1.elim
def iZip (r : MA) : MI := fun σ st => (r σ st).bind fun ds st1 => match ds with
  | [.loc m, .loc n] => match lstAt st1 m, lstAt st1 n with
    | some _, some _ => .ok (.zll m n) st1
    | _, _ => .fail
  | [.tup xs, .tup ys] => .ok (.ztt xs ys) st1
  | _ => .fail
theorem gi_zip (hg : Gl X "zip") (hm : X.mg "zip" = none) (ha : GA X W [e, e2] ra) (hs : starEach [e, e2] X.env = (false, eval e X.env) :: starEach [e2] X.env) (hpl : (backTo pos (starEach [e2] X.env)).any (·.1) = false) : GI X W (.Tuple elts kk tpos) (.Call (.Name "zip" p) [e, e2] [] pos) (iZip ra) :=
  PI.imp (pi_zipA hg hm ha hs hpl) fun σ H Q ⟨ρ, st, σd, S, E, P⟩ => tR.bnd S E P fun xs H1 ds st1 ρ1 _ _ S1 E1 R1 P1 => by
    split at P1
    · split at P1
      · rename_i e0 e1
        obtain ⟨x, y, rfl, r, r'⟩ := reps2 R1
        obtain ⟨a, vs, rfl, hp, h, q⟩ := loc_lst S1 r (lstAt_eq e0)
        obtain ⟨b, ws, rfl, hp', h', q'⟩ := loc_lst S1 r' (lstAt_eq e1)
        exact ⟨a, b, vs, ws, rfl, .inl ⟨.inl (.inl h), .inl (.inl h'), P1 _ H1 ρ1 Stp.refl S1 ⟨a, b, rfl, hp, hp'⟩⟩⟩
      · exact P1.elim
    · obtain ⟨x, y, rfl, r, r'⟩ := reps2 R1
      obtain ⟨a, vs, rfl, h, q⟩ := tup_at r
      obtain ⟨b, ws, rfl, h', q'⟩ := tup_at r'
      exact ⟨a, b, vs, ws, rfl, .inr ⟨.inl (.inl h), .inl (.inl h'), P1 _ H1 ρ1 Stp.refl S1 ⟨a, b, vs, ws, rfl, h, h', q, q'⟩⟩⟩
    · exact P1.elim
end

/-! ### targets -/
section
variable (X : Cx) (W : WX)
def tMG (g : MG) : TG := fun v σ H Q => ∃ ρ st σd d, SR X.K X.mg ρ st H ∧ EnvR X.K X.mg ρ H σd σ ∧ Rep X.K X.mg ρ H d v ∧ Post X.K X.mg (EnvR X.K X.mg) W σ ρ H (g d σd st) Q
abbrev GG (tg : Expr) (g : MG) : Prop := PG X tg (tMG X W g)
abbrev MGs := List D → Sig → Store → R Sig
def tMGs (g : MGs) : TGs := fun vs σ H Q => ∃ ρ st σd ds, SR X.K X.mg ρ st H ∧ EnvR X.K X.mg ρ H σd σ ∧ Reps X.K X.mg ρ H ds vs ∧ Post X.K X.mg (EnvR X.K X.mg) W σ ρ H (g ds σd st) Q
abbrev GGs (ts : List Expr) (g : MGs) : Prop := PGs X ts (tMGs X W g)
end
section
variable {X : Cx} {W : WX} {tg e a b : Expr} {es : List Expr} {pos : Pos} {g : MG} {gs : MGs} {ma mb : ME}
theorem PG.imp {t t' : TG} (h : PG X tg t) (i : ∀ v σ H Q, t' v σ H Q → t v σ H Q) : PG X tg t' := ⟨fun pins s σ H v u Q I r q => h.run pins s σ H v u Q I r (i v σ H Q q)⟩
theorem PGs.imp {t t' : TGs} (h : PGs X es t) (i : ∀ v σ H Q, t' v σ H Q → t v σ H Q) : PGs X es t' := ⟨fun pins s σ H v u Q I r q => h.run pins s σ H v u Q I r (i v σ H Q q)⟩
theorem gg_fail : GG X W tg fun _ _ _ => .fail := ⟨fun _ _ _ _ _ _ _ _ _ ⟨_, _, _, _, _, _, _, q⟩ => q.elim⟩
theorem ggs_fail : GGs X W es fun _ _ _ => .fail := ⟨fun _ _ _ _ _ _ _ _ _ ⟨_, _, _, _, _, _, _, q⟩ => q.elim⟩
theorem EnvR.set {K : PySem.W.Frag} {mg : Str → Option Value} {ρ : List Addr} {H : Hp} {σd : Sig} {σ : L2.St} (E : EnvR K mg ρ H σd σ) (i : Nat) {d : D} {v : V} (r : Rep K mg ρ H d v) : EnvR K mg ρ H (σd.set i (some d)) (σ.set i (some v)) := by
  refine ⟨by simp [E.len], fun j d' h => ?_⟩
  by_cases e : i = j
  · subst e
    have hl : i < σd.length := by
      have := (List.getElem?_eq_some_iff.mp h).1
      simpa using this
    rw [List.getElem?_set_self hl] at h
    cases h
    exact ⟨v, by rw [List.getElem?_set_self (by rw [← E.len]; exact hl)], r⟩
  · rw [List.getElem?_set_ne e] at h
    obtain ⟨w, h1, h2⟩ := E.at' j d' h
    exact ⟨w, by rw [List.getElem?_set_ne e]; exact h1, h2⟩
def gNm (i : Nat) : MG := fun d σ st => .ok (σ.set i (some d)) st
theorem gg_name {i : Nat} (h : PG X tg (gName i)) : GG X W tg (gNm i) := PG.imp h fun v σ H Q ⟨ρ, st, σd, d, S, E, r, P⟩ => P _ H ρ Stp.refl S (E.set i r)
def gNl : MGs := fun ds σ st => match ds with
  | [] => .ok σ st
  | _ => .fail
def gCn (g : MG) (r : MGs) : MGs := fun ds σ st => match ds with
  | d :: ds => (g d σ st).bind fun σ1 st1 => match r ds σ1 st1 with
    | .ok σ2 st2 => .ok σ2 st2
    | _ => .fail
  | [] => .fail
theorem ggs_nil : GGs X W [] gNl := PGs.imp pgs_nil fun vs σ H Q ⟨ρ, st, σd, ds, S, E, r, P⟩ => by
  cases r with
  | nil => exact ⟨rfl, P _ H ρ Stp.refl S E⟩
  | cons _ _ => exact P.elim
theorem ggs_cons (h1 : GG X W e g) (h2 : GGs X W es gs) (hs : (assignEach (e :: es) X.env).map (·.2) = assign e X.env :: (assignEach es X.env).map (·.2)) : GGs X W (e :: es) (gCn g gs) := PGs.imp (pgs_cons h1 h2 hs) fun vs σ H Q ⟨ρ, st, σd, ds, S, E, r, P⟩ => by
  cases r with
  | nil => exact P.elim
  | cons r1 r2 =>
    refine ⟨_, _, rfl, ρ, st, σd, _, S, E, r1, (P.bnd (Rl := EnvR X.K X.mg)).mono fun σ1 H1 ⟨σd1, st1, ρ1, _, a, S1, E1, P1⟩ => ?_⟩
    refine ⟨ρ1, st1, σd1, _, S1, E1, Reps.stp S a r2, ?_⟩
    split at P1
    · rename_i e2
      rw [e2]
      exact P1
    · exact P1.elim
def gTp (n : Nat) (gs : MGs) : MG := fun d σ st => match d with
  | .tup ds => if ds.length = n then gs ds σ st else .fail
  | _ => .fail
theorem gg_tup {n k : Nat} (hc : X.calm = true) (h : GGs X W es gs) (hn : (assignEach es X.env).length = n) (hst : (assignEach es X.env).findIdx? (·.1) = none) : GG X W (.Tuple es k pos) (gTp n gs) := PG.imp (pg_tup hc h hn hst) fun v σ H Q ⟨ρ, st, σd, d, S, E, r, P⟩ => by
  cases d with
  | tup ds =>
    obtain ⟨a, vs, rfl, h, q⟩ := tup_sq r
    have P' : Post X.K X.mg (EnvR X.K X.mg) W σ ρ H (if ds.length = n then gs ds σd st else .fail) Q := P
    split at P'
    · rename_i hl
      exact ⟨a, vs, rfl, h, by rw [← q.length]; exact hl, ρ, st, σd, ds, S, E, q, P'⟩
    · exact P'.elim
  | _ => exact P.elim
end
end G

/-! G13: stores, assignments, for, comprehensions. -/
namespace G
open PySem L2 PySem.Spec PyProof.Rows RZ

/-! ### o[i] = v -/
def setD (x i v : D) (st : Store) : Option Store := match x with
  | .loc n => match lstAt st n with
    | some xs => match i with
      | .int k => (ixN xs.length k).map fun j => st.set n (.lst (xs.set j v))
      | _ => none
    | none => match dctW st n with
      | some kvs => if kindOk kvs i = true ∧ kvs.length < sizeLine then some (st.set n (.dct (dPut kvs i v))) else none
      | none => none
  | _ => none
section
variable {X : Cx} {W : WX}
def tSetG (X : Cx) : TSet := fun o i v H Q => ∃ ρ st dx di dv st', SR X.K X.mg ρ st H ∧ Rep X.K X.mg ρ H dx o ∧ Rep X.K X.mg ρ H di i ∧ Rep X.K X.mg ρ H dv v ∧ setD dx di dv st = some st' ∧ ∀ H' ρ', Stp ρ H ρ' H' → SR X.K X.mg ρ' st' H' → Q H'
theorem setG_ok (hu : X.A.units + 1 < cLine) : PSet X (tSetG X) := by
  intro pins s σ H o i v ov iv u Q I ro ri rv ⟨ρ, st, dx, di, dv, st', S, r1, r2, r3, e, q⟩
  cases dx with
  | loc n =>
    unfold setD at e
    dsimp only at e
    split at e
    · rename_i xs hx
      split at e
      · rename_i k
        cases e1 : ixN xs.length k with
        | none => rw [e1] at e; cases e
        | some j =>
          rw [e1] at e
          cases e
          cases r2
          obtain ⟨a, vs, rfl, hp, h, p⟩ := loc_lst S r1 (lstAt_eq hx)
          refine set_list pins s σ H _ _ v ov iv u Q I ro ri rv ⟨a, vs, k, j, rfl, rfl, h, by rw [← p.length]; exact e1, ?_⟩
          exact put_lst (Q := fun _ H' => Q H') (d := .non) (v := .non) S hp (lstAt_eq hx) h (p.set r3 j) .non fun _ H' ρ' a1 S1 _ => q H' ρ' a1 S1
      · cases e
    · split at e
      · rename_i kvs hd
        split at e
        · rename_i hk
          cases e
          obtain ⟨a, H1, rfl, w, hw⟩ := dct_view I S r1 r2 hd hk.1
          cases ro
          obtain ⟨H2, g, S2, s2⟩ := w.put hw hd hk.2 (r3.stp S w.stp)
          exact d_setItem hu w.inv g ri rv fun s' I' => ⟨H2, I', q H2 ρ (w.stp.trans s2) S2⟩
        · cases e
      · cases e
  | _ => cases e
variable {tg e a b : Expr} {es : List Expr} {pos : Pos} {g : MG} {gs : MGs} {ma mb : ME}
def gSb (mo mi : ME) : MG := fun d σ st => (mo σ st).bind fun x st1 => (mi σ st1).bind fun i st2 => match setD x i d st2 with
  | some st3 => .ok σ st3
  | none => .fail
theorem gg_sub (hu : X.A.units + 1 < cLine) (ha : GE X W a ma) (hb : GE X W b mb) (hs : ∀ v, assign (.Subscript a b pos) X.env v = (do
      let ov ← holding [v] (eval a X.env)
      let iv ← holding [v, ov] (eval b X.env)
      standAt pos
      holding [v, ov, iv] (setItem ov iv v)
      release [v, ov, iv] [])) : GG X W (.Subscript a b pos) (gSb ma mb) := PG.imp (pg_sub ha hb (setG_ok hu) hs) fun v σ H Q ⟨ρ, st, σd, d, S, E, r, P⟩ => by
  refine tR.bnd (Rm := EnvR X.K X.mg) S E P fun x H1 dx st1 ρ1 _ a1 S1 E1 R1 P1 => tR.bnd S1 E1 P1 fun y H2 dy st2 ρ2 _ a2 S2 E2 R2 P2 => ?_
  split at P2
  · rename_i st3 e3
    exact ⟨ρ2, st2, dx, dy, d, st3, S2, R1.stp S1 a2, R2, (r.stp S a1).stp S1 a2, e3, fun H' ρ' a3 S3 => P2 σ H' ρ' a3 S3 (E2.stp S2 a3)⟩
  · exact P2.elim

/-! ### assignments -/
def sAsg (m : ME) (g : MG) : SS := fun σ st => eb (m σ st) σ fun d st1 => eb (g d σ st1) σ fun σ1 st2 => .ok (.nx σ1) st2
theorem hs_asg (he : GE X W e ma) (hg : GG X W tg g) (hs : swapsWithSole [tg] e pos.line X.env = pure false) (hw : swappedStores [tg] e X.env = pure none) (h1 : (assignEach [tg] X.env).map (·.2) = [assign tg X.env]) : HS X W (.Assign [tg] e pos) (sAsg ma g) :=
  PS.imp (ps_asg he hg hs hw h1) fun D σ H ⟨ρ, st, σd, S, E, P⟩ => tR.eb S E P fun v H1 d st1 ρ1 _ _ S1 E1 R1 P1 =>
    ⟨ρ1, st1, σd, d, S1, E1, R1, (P1.eb (Rl := EnvR X.K X.mg) S1 E1).mono fun σ2 H2 ⟨σd2, st2, ρ2, _, _, S2, E2, P2⟩ => P2 σ2 H2 ρ2 Stp.refl S2 E2⟩
/-- a, b = x, y with plain local names -/
def sPar2 (i j : Nat) (r : MA) : SS := fun σ st => eb (r σ st) σ fun ds st1 => match ds with
  | [x, y] => .ok (.nx ((σ.set i (some x)).set j (some y))) st1
  | _ => .fail
/-- a, b, c = x, y, z with plain local names -/
def sPar3 (i j k : Nat) (r : MA) : SS := fun σ st => eb (r σ st) σ fun ds st1 => match ds with
  | [x, y, z] => .ok (.nx (((σ.set i (some x)).set j (some y)).set k (some z))) st1
  | _ => .fail
variable {ra : MA}
theorem reps3 {K : PySem.W.Frag} {mg : Str → Option Value} {ρ : List Addr} {H : Hp} {d e f : D} {xs : List V} (r : Reps K mg ρ H [d, e, f] xs) : ∃ x y z, xs = [x, y, z] ∧ Rep K mg ρ H d x ∧ Rep K mg ρ H e y ∧ Rep K mg ρ H f z := by
  cases r with
  | cons h t =>
    obtain ⟨y, z, rfl, h2, h3⟩ := reps2 t
    exact ⟨_, y, z, rfl, h, h2, h3⟩
theorem hs_par {i j : Nat} {x y : Str} {px py pt : Pos} {kt k2 : Nat} {pt2 : Pos} (hc : X.calm = true) (hN : X.N.Nodup) (hi : X.N[i]? = some x) (hj : X.N[j]? = some y) (hij : i ≠ j)
    (hx : X.env.scope.names.lookup x = some .local) (hy : X.env.scope.names.lookup y = some .local) (ha : GA X W [a, b] ra)
    (hw : swappedStores [.Tuple [.Name x px, .Name y py] kt pt] (.Tuple [a, b] k2 pt2) X.env = pure (some [x, y])) :
    HS X W (.Assign [.Tuple [.Name x px, .Name y py] kt pt] (.Tuple [a, b] k2 pt2) pos) (sPar2 i j ra) :=
  PS.imp (ps_par hc hN hi hj hij hx hy ha hw) fun D σ H ⟨ρ, st, σd, S, E, P⟩ => tR.eb S E P fun vs H1 ds st1 ρ1 _ _ S1 E1 R1 P1 => by
    split at P1
    · obtain ⟨v, w, rfl, r1, r2⟩ := reps2 R1
      exact ⟨v, w, rfl, P1 _ H1 ρ1 Stp.refl S1 ((E1.set _ r1).set _ r2)⟩
    · exact P1.elim
variable {c : Expr}
theorem hs_par3 {i j l : Nat} {x y z : Str} {px py pz pt : Pos} {kt k2 : Nat} {pt2 : Pos} (hc : X.calm = true) (hN : X.N.Nodup) (hi : X.N[i]? = some x) (hj : X.N[j]? = some y) (hl : X.N[l]? = some z) (hij : i ≠ j) (hil : i ≠ l) (hjl : j ≠ l)
    (hx : X.env.scope.names.lookup x = some .local) (hy : X.env.scope.names.lookup y = some .local) (hz : X.env.scope.names.lookup z = some .local) (ha : GA X W [a, b, c] ra)
    (hw : swappedStores [.Tuple [.Name x px, .Name y py, .Name z pz] kt pt] (.Tuple [a, b, c] k2 pt2) X.env = pure (some [x, y, z])) :
    HS X W (.Assign [.Tuple [.Name x px, .Name y py, .Name z pz] kt pt] (.Tuple [a, b, c] k2 pt2) pos) (sPar3 i j l ra) :=
  PS.imp (ps_par3 hc hN hi hj hl hij hil hjl hx hy hz ha hw) fun D σ H ⟨ρ, st, σd, S, E, P⟩ => tR.eb S E P fun vs H1 ds st1 ρ1 _ _ S1 E1 R1 P1 => by
    split at P1
    · obtain ⟨u, v, w, rfl, r1, r2, r3⟩ := reps3 R1
      exact ⟨u, v, w, rfl, P1 _ H1 ρ1 Stp.refl S1 (((E1.set _ r1).set _ r2).set _ r3)⟩
    · exact P1.elim
/-- x += e and the like, x a local -/
def sAug (i : Nat) (f : Op2) (m : ME) : SS := fun σ st => match σ[i]? with
  | some (some x) => eb (m σ st) σ fun y st1 => match f x y st1 with
    | some (z, st2) => .ok (.nx (σ.set i (some z))) st2
    | none => .fail
  | _ => .fail
theorem hs_aug {i : Nat} {x : Str} {op : Operator} {f : Op2} {px : Pos} (hN : X.N.Nodup) (hi : X.N[i]? = some x) (hx : Loc X.env.scope x) (he : GE X W e ma) (ho : OpR X (inplaceOp op) (rG2 X f)) (hf : X.fn x = true ∨ X.env.scope.names.lookup x = some .local) :
    HS X W (.AugAssign (.Name x px) op e pos) (sAug i f ma) :=
  PS.imp (ps_aug (ti := rG2 X f) hN hi hx he (fun pins s σ H x y v u Q I r1 r2 q => ho pins s σ H x y v u Q I r1 r2 q) hf) fun D σ H ⟨ρ, st, σd, S, E, P⟩ => by
    unfold sAug at P
    split at P
    · rename_i d hd
      obtain ⟨v, h1, h2⟩ := E.at' i d hd
      refine ⟨v, h1, tR.eb S E P fun w H1 d2 st1 ρ1 _ a1 S1 E1 R1 P1 => ?_⟩
      split at P1
      · rename_i z st2 e2
        exact ⟨ρ1, st1, d, d2, z, st2, S1, h2.stp S a1, R1, e2, fun v' H' ρ' a2 S2 r2 => P1 _ H' ρ' a2 S2 ((E1.stp S1 a2).set i r2)⟩
      · exact P1.elim
    · exact P.elim

/-! ### for -/
def forM (it : ItD) (g : MG) (b : SS) : Nat → Nat → SS
  | 0, _ => fun _ _ => .fail
  | k + 1, i => fun σ st => match itGet it i st with
    | none => .fail
    | some none => .ok (.nx σ) st
    | some (some d) => eb (g d σ st) σ fun σ1 st1 => match b σ1 st1 with
      | .ok (.nx σ2) st2 => forM it g b k (i + 1) σ2 st2
      | .ok (.ct σ2) st2 => forM it g b k (i + 1) σ2 st2
      | .ok (.bk σ2) st2 => .ok (.nx σ2) st2
      | r => r
def sFor (mi : MI) (g : MG) (b : SS) : SS := fun σ st => eb (mi σ st) σ fun it st1 => forM it g b LF 0 σ st1
variable {mi : MI} {m : SS} {ss : List Stmt}
theorem hs_for (hp : PassesOwn (model X.prog X.w) X.A X.env X.xe) (hc : X.calm = true) (hi : GI X W tg e mi) (hg : GG X W tg g) (hb : HSs X W ss m) (hs : ∀ x, foldedSetIterable e X.env x = pure x) : HS X W (.For tg e ss [] pos) (sFor mi g m) :=
  PS.imp (ps_for hp hc hi hg hb hs) fun D σ H ⟨ρ, st, σd, S, E, P⟩ => tR.eb S E P fun J H1 it st1 ρ1 _ _ S1 E1 R1 P1 => by
    refine ⟨fun i k σ H => ∃ ρ st σd, SR X.K X.mg ρ st H ∧ EnvR X.K X.mg ρ H σd σ ∧ ItRep X.K X.mg ρ H it J ∧ SPost X.K X.mg W ρ H (forM it g m k i σd st) D, ⟨LF, ρ1, st1, σd, S1, E1, R1, P1⟩, ?_⟩
    rintro i k σ H ⟨ρ, st, σd, S, E, T, P⟩
    cases k with
    | zero => exact P.elim
    | succ k =>
      have P' : SPost X.K X.mg W ρ H (match itGet it i st with
        | none => .fail
        | some none => .ok (.nx σd) st
        | some (some d) => eb (g d σd st) σd fun σ1 st1 => match m σ1 st1 with
          | .ok (.nx σ2) st2 => forM it g m k (i + 1) σ2 st2
          | .ok (.ct σ2) st2 => forM it g m k (i + 1) σ2 st2
          | .ok (.bk σ2) st2 => .ok (.nx σ2) st2
          | r => r) D := P
      have tn := T.turn S i
      split at P'
      · exact P'.elim
      · rename_i e0
        rw [e0] at tn
        exact .inl ⟨tn, P' σ H ρ Stp.refl S E⟩
      · rename_i d e0
        rw [e0] at tn
        refine .inr ⟨tn.1, fun σ' H' => ∃ ρ st σd, SR X.K X.mg ρ st H' ∧ EnvR X.K X.mg ρ H' σd σ' ∧ ItRep X.K X.mg ρ H' it J ∧ SPost X.K X.mg W ρ H' (forM it g m k (i + 1) σd st) D, fun σ' H' q => ⟨k, Nat.lt_succ_self k, q⟩, fun x H' y => ?_⟩
        obtain ⟨a1, S1, r1⟩ := tn.2 x H' y
        have E1 := E.stp S a1
        refine ⟨ρ, st, σd, d, S1, E1, r1, ((P'.stp a1).eb (Rl := EnvR X.K X.mg) S1 E1).mono fun σ2 H2 ⟨σd2, st2, ρ2, _, a2, S2, E2, P2⟩ => ?_⟩
        refine ⟨ρ2, st2, σd2, S2, E2, ?_⟩
        have T2 := (T.stp S a1).stp S1 a2
        cases e1 : m σd2 st2 with
        | fail => rw [e1] at P2; exact P2
        | exc x y => rw [e1] at P2; exact P2
        | ok f s1 =>
          rw [e1] at P2
          cases f with
          | nx σ3 => exact fun σ' H' ρ' a b c => ⟨ρ', s1, σ3, b, c, T2.stp S2 a, SPost.stp P2 a⟩
          | bk σ3 => exact P2
          | ct σ3 => exact fun σ' H' ρ' a b c => ⟨ρ', s1, σ3, b, c, T2.stp S2 a, SPost.stp P2 a⟩
          | rt d => exact P2
          | xc d σ3 => exact P2
end
end G

/-! G14: list comprehensions. -/
namespace G
open PySem L2 PySem.Spec PyProof.Rows RZ

/-! ### targets of a comprehension: names, tuples of names -/
inductive Tg1 where
  | nm (i : Nat) | tp (is : List Nat)
def setAll : List Nat → List D → Sig → Option Sig
  | [], [], σ => some σ
  | i :: is, d :: ds, σ => setAll is ds (σ.set i (some d))
  | _, _, _ => none
def bindT (t : Tg1) (d : D) (σ : Sig) : Option Sig := match t with
  | .nm i => some (σ.set i (some d))
  | .tp is => match d with
    | .tup ds => setAll is ds σ
    | _ => none
def tgNs : List Nat → TGs
  | [] => gNil
  | i :: is => gCons (gName i) (tgNs is)
def tgG (K : PySem.W.Frag) : Tg1 → TG
  | .nm i => gName i
  | .tp is => gTup K is.length (tgNs is)
def Tg1.has : Tg1 → List Nat
  | .nm i => [i]
  | .tp is => is
def wipeD (σ : Sig) : List Nat → Sig
  | [] => σ
  | v :: vs => (wipeD σ vs).set v none
section
variable {K : PySem.W.Frag} {mg : Str → Option Value} {ρ ρ' : List Addr} {H H' : Hp} {st : Store} {σ : L2.St} {σd : Sig} {vs : List Nat}
theorem wipeD_length (σ : Sig) : ∀ vs : List Nat, (wipeD σ vs).length = σ.length
  | [] => rfl
  | v :: vs => by unfold wipeD; rw [List.length_set, wipeD_length σ vs]
theorem wipeD_some {i : Nat} {x : D} : ∀ {vs : List Nat}, (wipeD σd vs)[i]? = some (some x) → σd[i]? = some (some x) ∧ i ∉ vs
  | [], h => ⟨h, by simp⟩
  | v :: vs, h => by
    unfold wipeD at h
    by_cases hi : v = i
    · subst hi
      by_cases hv : v < (wipeD σd vs).length
      · rw [List.getElem?_set_self hv] at h; cases h
      · rw [List.getElem?_eq_none (by simpa using hv)] at h; cases h
    · rw [List.getElem?_set_ne hi] at h
      obtain ⟨h1, h2⟩ := wipeD_some h
      exact ⟨h1, by simp only [List.mem_cons, not_or]; exact ⟨fun e => hi e.symm, h2⟩⟩
theorem EnvR.wipe (E : EnvR K mg ρ H σd σ) : EnvR K mg ρ H (wipeD σd vs) (L2.wipe σ vs) :=
  ⟨by rw [wipeD_length, wipe_length]; exact E.len, fun i d h => by
    obtain ⟨h1, h2⟩ := wipeD_some h
    obtain ⟨v, e, r⟩ := E.at' i d h1
    exact ⟨v, by rw [wipe_out h2]; exact e, r⟩⟩
theorem wipe_set {i : Nat} {x : Option V} : ∀ {vs : List Nat} {σ : L2.St}, i ∈ vs → L2.wipe (σ.set i x) vs = L2.wipe σ vs
  | v :: vs, σ, h => by
    unfold L2.wipe
    by_cases e : i ∈ vs
    · rw [wipe_set e]
    · have ei : i = v := by rcases List.mem_cons.mp h with e1 | e1; exact e1; exact absurd e1 e
      subst ei
      apply List.ext_getElem?
      intro j
      by_cases hj : i = j
      · subst hj
        by_cases hl : i < σ.length
        · rw [List.getElem?_set_self (by rw [wipe_length, List.length_set]; exact hl), List.getElem?_set_self (by rw [wipe_length]; exact hl)]
        · rw [List.getElem?_eq_none (by rw [List.length_set, wipe_length, List.length_set]; omega), List.getElem?_eq_none (by rw [List.length_set, wipe_length]; omega)]
      · rw [List.getElem?_set_ne hj, List.getElem?_set_ne hj]
        by_cases hv : j ∈ vs
        · exact wipe_none hv
        · rw [wipe_out hv, wipe_out hv, List.getElem?_set_ne hj]
where
  wipe_none {j : Nat} {x : Option V} {i : Nat} {σ : L2.St} : ∀ {vs : List Nat}, j ∈ vs → (L2.wipe (σ.set i x) vs)[j]? = (L2.wipe σ vs)[j]?
    | v :: vs, h => by
      unfold L2.wipe
      by_cases e : v = j
      · subst e
        by_cases hl : v < σ.length
        · rw [List.getElem?_set_self (by rw [wipe_length, List.length_set]; exact hl), List.getElem?_set_self (by rw [wipe_length]; exact hl)]
        · rw [List.getElem?_eq_none (by rw [List.length_set, wipe_length, List.length_set]; omega), List.getElem?_eq_none (by rw [List.length_set, wipe_length]; omega)]
      · rw [List.getElem?_set_ne e, List.getElem?_set_ne e]
        exact wipe_none (by rcases List.mem_cons.mp h with h1 | h1; exact absurd h1.symm e; exact h1)
theorem wipe_sub : ∀ {us : List Nat}, (∀ v ∈ us, v ∈ vs) → L2.wipe (L2.wipe σ us) vs = L2.wipe σ vs
  | [], _ => rfl
  | u :: us, h => by
    show L2.wipe ((L2.wipe σ us).set u none) vs = _
    rw [wipe_set (h u List.mem_cons_self)]
    exact wipe_sub fun v hv => h v (List.mem_cons_of_mem _ hv)
theorem wipe_wipe (vs : List Nat) : L2.wipe (L2.wipe σ vs) vs = L2.wipe σ vs := wipe_sub fun _ h => h
theorem tgNs_ok {Q : L2.St → Hp → Prop} {w : L2.St} : ∀ {is : List Nat} {ds : List D} {xs : List V} {σd σd' : Sig} {σ : L2.St}, (∀ i ∈ is, i ∈ vs) → EnvR K mg ρ H σd σ → Reps K mg ρ H ds xs → setAll is ds σd = some σd' → L2.wipe σ vs = w → (∀ σ', EnvR K mg ρ H σd' σ' → L2.wipe σ' vs = w → Q σ' H) → tgNs is xs σ H Q
  | [], [], xs, _, _, σ, _, E, r, e, hw, q => by
    cases r; cases e
    exact ⟨rfl, q σ E hw⟩
  | i :: is, d :: ds, xs, _, _, σ, hv, E, r, e, hw, q => by
    cases r with
    | cons r1 r2 => exact ⟨_, _, rfl, tgNs_ok (fun j hj => hv j (List.mem_cons_of_mem _ hj)) (E.set i r1) r2 e (by rw [wipe_set (hv i List.mem_cons_self)]; exact hw) q⟩
  | [], _ :: _, _, _, _, _, _, _, _, e, _, _ => by cases e
  | _ :: _, [], _, _, _, _, _, _, _, e, _, _ => by cases e
theorem setAll_len : ∀ {is : List Nat} {ds : List D} {σ σ' : Sig}, setAll is ds σ = some σ' → ds.length = is.length
  | [], [], _, _, _ => rfl
  | i :: is, d :: ds, _, _, e => congrArg (· + 1) (setAll_len (is := is) e)
  | [], _ :: _, _, _, e => by cases e
  | _ :: _, [], _, _, e => by cases e
theorem tgG_ok {t : Tg1} {d : D} {x : V} {σd' : Sig} {Q : L2.St → Hp → Prop} {w : L2.St} (hv : ∀ i ∈ t.has, i ∈ vs) (E : EnvR K mg ρ H σd σ) (r : Rep K mg ρ H d x) (e : bindT t d σd = some σd') (hw : L2.wipe σ vs = w) (q : ∀ σ', EnvR K mg ρ H σd' σ' → L2.wipe σ' vs = w → Q σ' H) : tgG K t x σ H Q := by
  cases t with
  | nm i => cases e; exact q _ (E.set i r) (by rw [wipe_set (hv i List.mem_cons_self)]; exact hw)
  | tp is =>
    cases d with
    | tup ds =>
      obtain ⟨a, xs, rfl, h, rr⟩ := tup_sq r
      exact ⟨a, xs, rfl, h, by rw [← rr.length]; exact setAll_len e, tgNs_ok hv E rr e hw q⟩
    | _ => cases e
end
def noW : WX := fun _ _ _ _ => False
section
variable (it : ItD) (t : Tg1) (tt : MT) (te : ME) (dn : Nat) (w : Sig)
def lcM : Nat → Nat → Store → Option Store
  | 0, _, _ => none
  | k + 1, i, st => match itGet it i st with
    | none => none
    | some none => some st
    | some (some d) => match bindT t d w with
      | none => none
      | some σ2 => match tt σ2 st with
        | .ok true st3 => match te σ2 st3 with
          | .ok y st4 => match lstAt st4 dn with
            | some acc => if acc.length < sizeLine then lcM k (i + 1) (st4.set dn (.lst (acc ++ [y]))) else none
            | none => none
          | _ => none
        | .ok false st3 => lcM k (i + 1) st3
        | _ => none
end
def mLc (mi : MI) (t : Tg1) (tt : MT) (te : ME) (vs : List Nat) : ME := fun σ st => (mi σ st).bind fun it st1 => match lcM it t tt te st1.length (wipeD σ vs) LF 0 (st1 ++ [.lst []]) with
  | some st2 => .ok (.loc st1.length) st2
  | none => .fail
section
variable {X : Cx} {W : WX} {tg e elt : Expr} {pos : Pos} {ifs : List Expr} {mi : MI} {t : Tg1} {mt : MT} {me : ME} {vs : List Nat}
theorem lc_step {σ : L2.St} {H : Hp} {Q : VK} (hv : ∀ i ∈ t.has, i ∈ vs) (h : tM X W (mLc mi t mt me vs) σ H Q) : tLc (tMI X W mi) (tgG X.K t) (tMT X noW mt) (tM X noW me) vs σ H Q := by
  obtain ⟨ρ, st, σd, S, E, P⟩ := h
  refine tR.bnd S E P fun J H1 it st1 ρ1 _ _ S1 E1 R1 P1 D hD => ?_
  split at P1
  · rename_i st2 e2
    refine ⟨fun i m H => ∃ ρ st, SR X.K X.mg ρ st H ∧ EnvR X.K X.mg ρ H σd σ ∧ ItRep X.K X.mg ρ H it J ∧ ρ[st1.length]? = some D ∧ lcM it t mt me st1.length (wipeD σd vs) m i st = some st2 ∧ ∀ Hf ρf, Stp ρ H ρf Hf → SR X.K X.mg ρf st2 Hf → Q (.ref D) Hf, ⟨LF, ?_⟩, ?_⟩
    · obtain ⟨S2, s2⟩ := S1.new (c := .lst []) (o := .lst []) hD ⟨[], rfl, .nil⟩
      refine ⟨_, _, S2, E1.stp S1 s2, R1.stp S1 s2, by rw [← S1.len]; simp, e2, fun Hf ρf a b => P1 (.ref D) Hf ρf (s2.trans a) b (.loc (a.get (by rw [← S1.len]; simp)))⟩
    · rintro i m H ⟨ρ, st, S, E, T, hp, el, q⟩
      cases m with
      | zero => cases el
      | succ m =>
        unfold lcM at el
        have tn := T.turn S i
        split at el
        · cases el
        · rename_i e0
          rw [e0] at tn
          cases el
          exact .inl ⟨tn, q H ρ Stp.refl S⟩
        · rename_i d e0
          rw [e0] at tn
          refine .inr ⟨tn.1, fun H' => ∃ ρ st, SR X.K X.mg ρ st H' ∧ EnvR X.K X.mg ρ H' σd σ ∧ ItRep X.K X.mg ρ H' it J ∧ ρ[st1.length]? = some D ∧ lcM it t mt me st1.length (wipeD σd vs) m (i + 1) st = some st2 ∧ ∀ Hf ρf, Stp ρ H' ρf Hf → SR X.K X.mg ρf st2 Hf → Q (.ref D) Hf, fun H' z => ⟨m, Nat.lt_succ_self m, z⟩, fun x H' hy => ?_⟩
          obtain ⟨a1, Sx, rx⟩ := tn.2 x H' hy
          have Ex := E.stp S a1
          have Tx := T.stp S a1
          have hpx := a1.get hp
          split at el
          · cases el
          · rename_i σ2 eb
            refine tgG_ok hv (Ex.wipe (vs := vs)) rx eb (wipe_wipe vs) fun σ' E2 hw => ⟨hw, ρ, st, σ2, Sx, E2, ?_⟩
            split at el
            · rename_i st3 et
              rw [et]
              refine fun b H3 ρ3 a3 S3 hb => ?_
              cases hb
              rw [if_pos rfl]
              refine ⟨ρ3, st3, σ2, S3, E2.stp Sx a3, ?_⟩
              split at el
              · rename_i y st4 ey
                rw [ey]
                refine fun u H4 ρ4 a4 S4 ru => ?_
                split at el
                · rename_i acc ea
                  split at el
                  · rename_i hl
                    have hp4 := a4.get (a3.get hpx)
                    obtain ⟨acv, h1, h2⟩ := lst_of S4 hp4 ea
                    refine ⟨acv, h1, by rw [← h2.length]; exact hl, ?_⟩
                    refine put_lst (Q := fun _ H' => ∃ ρ st, SR X.K X.mg ρ st H' ∧ EnvR X.K X.mg ρ H' σd σ ∧ ItRep X.K X.mg ρ H' it J ∧ ρ[st1.length]? = some D ∧ lcM it t mt me st1.length (wipeD σd vs) m (i + 1) st = some st2 ∧ ∀ Hf ρf, Stp ρ H' ρf Hf → SR X.K X.mg ρf st2 Hf → Q (.ref D) Hf) (d := .non) (v := .non) S4 hp4 (lstAt_eq ea) h1 (h2.append (.cons ru .nil)) .non fun _ H' ρ' a5 S5 _ => ?_
                    exact ⟨ρ', _, S5, ((Ex.stp Sx a3).stp S3 a4).stp S4 a5, ((Tx.stp Sx a3).stp S3 a4).stp S4 a5, a5.get hp4, el, fun Hf ρf b c => q Hf ρf ((((a1.trans a3).trans a4).trans a5).trans b) c⟩
                  · cases el
                · cases el
              · cases el
            · rename_i st3 et
              rw [et]
              refine fun b H3 ρ3 a3 S3 hb => ?_
              cases hb
              rw [if_neg (by decide)]
              exact ⟨ρ3, _, S3, Ex.stp Sx a3, Tx.stp Sx a3, a3.get hpx, el, fun Hf ρf b c => q Hf ρf ((a1.trans a3).trans b) c⟩
            · cases el
  · exact P1.elim
/-- a comprehension's parts, whatever its block -/
structure LcOk (X : Cx) (tg elt : Expr) (ifs : List Expr) (scope : Scope) (t : Tg1) (mt : MT) (me : ME) : Prop where
  tg : ∀ (s : Shared) (H : Hp) (C : Addr) (cl : List (Str × Addr)) (fp : List Addr), PG (X.blk s H scope (compEnvC scope cl C X.env) fp) tg (tgG X.K t)
  ifs : ∀ (s : Shared) (H : Hp) (C : Addr) (cl : List (Str × Addr)) (fp : List Addr), PTs (X.blk s H scope (compEnvC scope cl C X.env) fp) ifs (tMT X noW mt)
  elt : ∀ (s : Shared) (H : Hp) (C : Addr) (cl : List (Str × Addr)) (fp : List Addr), GE (X.blk s H scope (compEnvC scope cl C X.env) fp) noW elt me
variable {scope : Scope} {own : List (Str × Nat)} {sp : Pos}
theorem ge_lc (hc : X.calm = true) (hN : X.N.Nodup) (hi : GI X W tg e mi) (ok : BlkOk X.N X.env.scope scope own) (L : LcOk X tg elt ifs scope t mt me) (hv : ∀ i ∈ t.has, i ∈ own.map (·.2)) (hs : ∀ x, foldedSetIterable e X.env x = pure x) :
    GE X W (.ListComp elt [⟨tg, e, ifs, 0⟩] scope pos) (mLc mi t mt me (own.map (·.2))) :=
  PE.imp (pe_lc hc hN hi ok L.tg L.ifs L.elt hs) fun σ H Q h => lc_step hv h
theorem hs_setLc {i : Nat} {y : Str} {py : Pos} (hc : X.calm = true) (hN : X.N.Nodup) (hy : X.N[i]? = some y) (hyl : X.env.scope.names.lookup y = some .local)
    (hsw : swapsWith (.ListComp elt [⟨tg, e, ifs, 0⟩] scope pos) (some (.Name y py)) sp.line X.env = pure true) (hi : GI X W tg e mi) (ok : BlkOk X.N X.env.scope scope own) (L : LcOk X tg elt ifs scope t mt me) (hv : ∀ i ∈ t.has, i ∈ own.map (·.2)) (hs : ∀ x, foldedSetIterable e X.env x = pure x) :
    HS X W (.Assign [.Name y py] (.ListComp elt [⟨tg, e, ifs, 0⟩] scope pos) sp) (sAsg (mLc mi t mt me (own.map (·.2))) (gNm i)) :=
  PS.imp (ps_setLc hc hN hy hyl hsw hi ok L.tg L.ifs L.elt hs) fun D σ H ⟨ρ, st, σd, S, E, P⟩ =>
    lc_step hv (tR.eb S E P fun v H1 d st1 ρ1 _ _ S1 E1 R1 P1 => P1 _ H1 ρ1 Stp.refl S1 (E1.set i R1))
/-- no test -/
def tTrue : MT := fun _ st => .ok true st
theorem pts_nilG : PTs X [] (tMT X W tTrue) := ⟨fun pins s σ H Q I ⟨ρ, st, σd, S, E, P⟩ => pts_nil.run pins s σ H Q I (P true H ρ Stp.refl S rfl)⟩
end
end G

/-! G15: defs and calls, where no container is within its own repr. -/
namespace G
open PySem L2 PySem.Spec PyProof.Rows RZ

section
variable (P : Program) (w : World) (K : PySem.W.Frag) (mg : Str → Option Value) (base : Heap)
/-- a def's promise at callers that have no repr under way -/
structure FnG (k : Nat) (f : Addr) (fd : FuncData) (ps : List Str) (sp : Sp) : Prop where
  many : ∀ vs H Q E, sp vs H Q E → vs.length = ps.length
  goes : ∀ (A : Around) (out : List Env) (s : Shared) (H : Hp) (ar : Args) (us : List Value) (vs : List V) (Q : VK) (E : XK),
    A.guards = some [] → Room k A → Env0 P w K mg base A out s H → BindsTo s fd ar (ps.zip us) → Vals vs us → sp vs H Q E →
      codeAny (model P w) A (.call (.ref f) ar) (CR (L2.CX P w) out P w H s Q E) s
end
section
variable {P : Program} {w : World} {K : PySem.W.Frag} {mg : Str → Option Value} {base : Heap} {k : Nat} {f : Addr}
theorem FnG.weaken {j : Nat} {fd : FuncData} {ps : List Str} {sp : Sp} (F : FnG P w K mg base j f fd ps sp) (h : j ≤ k) : FnG P w K mg base k f fd ps sp :=
  ⟨F.many, fun A out s H ar us vs Q E g r => F.goes A out s H ar us vs Q E g (r.mono h)⟩
/-- a def by its body's reading at the entry -/
theorem fnG_of {nm ql : Str} {pa : Arguments} {bd : List Stmt} {sc : Scope} {dv kv dc pm cv ct ocl : Value} {an odi : Option Addr} {sl : Array (Option Value)} {N ps : List Str} {sp : Sp}
    (look : K.lookup f = some ⟨ocl, odi, .func (PySem.W.fnOf nm ql pa bd sc dv kv dc pm an cv ct), sl⟩) (code : PySem.W.codeIn K cv ql = true) (S : FnScope N ps sc)
    (many : ∀ vs H Q E, sp vs H Q E → vs.length = ps.length)
    (hb : ∀ (A : Around) (out : List Env) (s : Shared) (H : Hp) (vs : List V) (Q : VK) (E : XK), A.guards = some [] → Room k (A.deeper (envOfC ql sc s.heap.objs.size f cv)) → sp vs H Q E →
      ∃ t, PSs (cxOf (L2.CX P w) P w K mg base N ql sc f cv A out s H E) bd t ∧ t { nx := fun _ H1 => Q .non H1, rt := Q } (L2.start N vs) H) :
    FnG P w K mg base (k + 1) f (PySem.W.fnOf nm ql pa bd sc dv kv dc pm an cv ct) ps sp := by
  constructor
  · exact many
  intro A out s H ar us vs Q E g room env0 bnd rel prom
  have count := many _ _ _ _ prom
  have there : K.In s.heap := env0.mod.kin.keeps (fun b o z => And.left (env0.bs b o z))
  have unlim : s.heap.NoLimit := env0.mod.nolimit.keeps (fun b o z => And.left (env0.bs b o z))
  have kinds : ∀ y ∈ ps.zip us, sc.names.lookup y.1 = some .local ∨ (sc.names.lookup y.1 = some .cell ∧ ((cellsFrom (s.heap.objs.size + 1) sc.names []).lookup y.1).isSome = true) := by
    rintro ⟨n, v⟩ hy
    have q := S.par n (List.of_mem_zip hy).1
    cases q with
    | inl q => exact .inl q
    | inr q => exact Or.inr (And.intro q (PySem.W.cellsFrom_some _ _ _ (Or.inl q)))
  apply codeAny_call_function room.depth (there _ _ look) rfl S.co S.gen rfl (PySem.W.codeRec_of there code)
  apply bnd
  apply wpAny_newFunctionEnv_cells S.kind kinds
  intro env he s1 x
  subst he
  constructor
  · exact unlim.keeps x.toInCall.keep
  apply codeAny_func
  obtain ⟨t, ht, hq⟩ := hb A out s H vs Q E g (room.deeper _) prom
  have I := inv_start (CX := L2.CX P w) (E := E) S room.hd env0 count rel x
  have go := ht.run [] s1 (L2.start N vs) H _ I hq
  apply wpAny_mono go
  · intro fl s' hs
    cases fl with
    | brk => exact (hs.elim fun _ z => z.elim fun _ z => z.2.elim)
    | cont => exact (hs.elim fun _ z => z.elim fun _ z => z.2.elim)
    | next =>
      obtain ⟨σ1, H1, J, q⟩ := hs
      exact ⟨.non, H1, J.os, J.bare, J.base, J.hok, rfl, q⟩
    | ret u =>
      obtain ⟨v, σ1, H1, J, rv, q⟩ := hs
      exact ⟨v, H1, J.os, J.bare, J.base, J.hok, rv, q⟩
  · intro e s' hs
    exact hs
end

/-! ### a def as a run -/
def spG (K : PySem.W.Frag) (mg : Str → Option Value) (n : Nat) (F : List D → Store → R D) : Sp := fun vs H Q E => vs.length = n ∧
  ∃ ρ st ds, SR K mg ρ st H ∧ Reps K mg ρ H ds vs ∧ Post K mg (Rep K mg) (fun c d _ H => E c d H) [] ρ H (F ds st) Q
/-- the entry's slots, then the body -/
def startD (n : Nat) (ds : List D) : Sig := ds.map some ++ List.replicate (n - ds.length) none
def runF (n : Nat) (m : SS) : List D → Store → R D := fun ds st => match m (startD n ds) st with
  | .ok (.rt d) st1 => .ok d st1
  | .ok (.nx _) st1 => .ok .non st1
  | .ok (.xc e _) st1 => .exc e st1
  | _ => .fail
theorem start_env {K : PySem.W.Frag} {mg : Str → Option Value} {ρ : List Addr} {H : Hp} {ds : List D} {vs : List V} {N : List Str} (r : Reps K mg ρ H ds vs) : EnvR K mg ρ H (startD N.length ds) (L2.start N vs) := by
  refine ⟨by simp [startD, L2.start, r.length], fun i d h => ?_⟩
  have hl := r.length
  unfold startD at h
  by_cases hi : i < ds.length
  · rw [List.getElem?_append_left (by simpa using hi), List.getElem?_map] at h
    cases e : ds[i]? with
    | none => rw [e] at h; cases h
    | some d' =>
      rw [e] at h
      cases h
      obtain ⟨v, hv, rv⟩ := r.get e
      refine ⟨v, ?_, rv⟩
      unfold L2.start
      rw [List.getElem?_append_left (by simp; omega), List.getElem?_map, hv]
      rfl
  · rw [List.getElem?_append_right (by simpa using hi), List.getElem?_replicate] at h
    split at h <;> cases h
section
variable {P : Program} {w : World} {K : PySem.W.Frag} {mg : Str → Option Value} {base : Heap} {k : Nat} {f : Addr}
theorem fnG_run {nm ql : Str} {pa : Arguments} {bd : List Stmt} {sc : Scope} {dv kv dc pm cv ct ocl : Value} {an odi : Option Addr} {sl : Array (Option Value)} {N ps : List Str} {m : SS}
    (look : K.lookup f = some ⟨ocl, odi, .func (PySem.W.fnOf nm ql pa bd sc dv kv dc pm an cv ct), sl⟩) (code : PySem.W.codeIn K cv ql = true) (S : FnScope N ps sc)
    (hb : ∀ (A : Around) (out : List Env) (s : Shared) (H : Hp) (E : XK), A.guards = some [] → Room k (A.deeper (envOfC ql sc s.heap.objs.size f cv)) →
      HSs (cxOf (L2.CX P w) P w K mg base N ql sc f cv A out s H E) (fun c d _ H => E c d H) bd m) :
    FnG P w K mg base (k + 1) f (PySem.W.fnOf nm ql pa bd sc dv kv dc pm an cv ct) ps (spG K mg ps.length (runF N.length m)) := by
  refine fnG_of look code S (fun _ _ _ _ h => h.1) fun A out s H vs Q E g room ⟨hl, ρ, st, ds, SS0, RR, P0⟩ => ⟨_, hb A out s H E g room, ρ, st, startD N.length ds, SS0, start_env RR, ?_⟩
  show SPost K mg (fun c d _ H => E c d H) ρ H (m (startD N.length ds) st) { nx := fun _ H1 => Q .non H1, rt := Q }
  unfold runF at P0
  cases e : m (startD N.length ds) st with
  | fail => rw [e] at P0; exact P0
  | exc x y => rw [e] at P0; exact P0.elim
  | ok fl s1 =>
    rw [e] at P0
    cases fl with
    | rt d => exact P0
    | nx σ1 => exact fun σ' H' ρ' a b c => P0 .non H' ρ' a b .non
    | xc x σ1 => exact fun σ' cls dd H' ρ' a b c z => P0 cls dd H' ρ' a b z
    | bk σ1 => exact P0.elim
    | ct σ1 => exact P0.elim
end

/-! ### calls -/
/-- how the written values come to the parameters: perm tells for each parameter which one -/
def pick {α : Type} (perm : List Nat) (l : List α) : List α := perm.filterMap fun i => l[i]?
def BindP (K : PySem.W.Frag) (fd : FuncData) (ps : List Str) (n : Nat) (ks : List Str) (perm : List Nat) : Prop :=
  ∀ (s : Shared) (us ws : List Value), K.In s.heap → us.length = n → ws.length = ks.length → BindsTo s fd ⟨us, ks.zip ws⟩ (ps.zip (pick perm (us ++ ws)))
theorem pick_vals : ∀ {perm : List Nat} {vs : List V} {us : List Value}, Vals vs us → Vals (pick perm vs) (pick perm us)
  | [], _, _, _ => .nil
  | i :: r, vs, us, h => by
    have ih := pick_vals (perm := r) h
    unfold pick at ih ⊢
    rw [List.filterMap_cons, List.filterMap_cons]
    cases e : vs[i]? with
    | none =>
      have e2 : us[i]? = none := by
        rw [List.getElem?_eq_none_iff] at e ⊢
        rw [← h.length]; exact e
      rw [e2]
      exact ih
    | some v =>
      obtain ⟨u, hu, rv⟩ := h.get e
      rw [hu]
      exact .cons rv ih
theorem pick_reps {K : PySem.W.Frag} {mg : Str → Option Value} {ρ : List Addr} {H : Hp} : ∀ {perm : List Nat} {ds : List D} {vs : List V}, Reps K mg ρ H ds vs → Reps K mg ρ H (pick perm ds) (pick perm vs)
  | [], _, _, _ => .nil
  | i :: r, ds, vs, h => by
    have ih := pick_reps (perm := r) h
    unfold pick at ih ⊢
    rw [List.filterMap_cons, List.filterMap_cons]
    cases e : ds[i]? with
    | none =>
      have e2 : vs[i]? = none := by
        rw [List.getElem?_eq_none_iff] at e ⊢
        rw [← h.length]; exact e
      rw [e2]
      exact ih
    | some d =>
      obtain ⟨v, hv, rv⟩ := h.get e
      rw [hv]
      exact .cons rv ih
/-- a call's run: the written arguments a, b, the callee F -/
def mCall (n q : Nat) (perm : List Nat) (F : List D → Store → R D) (ra rb : MA) : ME := fun σ st => (ra σ st).bind fun ds st1 => (rb σ st1).bind fun es st2 =>
  if ds.length = n ∧ es.length = q ∧ (pick perm (ds ++ es)).length = perm.length then F (pick perm (ds ++ es)) st2 else .fail
section
variable {X : Cx} {W : WX} {k : Nat} {f : Addr} {fd : FuncData} {ps ks : List Str} {perm : List Nat} {n q : Nat} {x : Str} {p pos : Pos} {e : Expr} {es : List Expr} {kws : List Keyword} {ra rb : MA} {F : List D → Store → R D}
theorem Post.noσ {α β : Type} {K : PySem.W.Frag} {mg : Str → Option Value} {Rl : List Addr → Hp → α → β → Prop} {σ : L2.St} {ρ : List Addr} {H : Hp} {r : R α} {Q : β → Hp → Prop} (h : Post K mg Rl W σ ρ H r Q) : Post K mg Rl (fun c d _ H => WE W σ c d H) [] ρ H r Q := by
  cases r with
  | fail => exact h
  | ok d s => exact h
  | exc e s => exact h
/-- the call itself, its values known -/
theorem runG_fn {pins : List (Addr × Obj)} {σ : L2.St} {H : Hp} {s : Shared} {Q : VK} {us ws : List Value} {vs zs : List V} {ρ : List Addr} {st : Store} {ds es : List D} (G : FnG X.prog X.w X.K X.mg X.base k f fd ps (spG X.K X.mg ps.length F)) (hg : X.A.guards = some []) (hr : Room k X.A) (hb : BindP X.K fd ps n ks perm) (hp : perm.length = ps.length) (tk : Takes X W)
    (I : Inv X pins σ H s) (r : Vals vs us) (rz : Vals zs ws) (hn : us.length = n) (hk : ws.length = ks.length) (S : SR X.K X.mg ρ st H) (R1 : Reps X.K X.mg ρ H ds vs) (R2 : Reps X.K X.mg ρ H es zs)
    (hl : (pick perm (ds ++ es)).length = perm.length) (h : Post X.K X.mg (Rep X.K X.mg) W σ ρ H (F (pick perm (ds ++ es)) st) Q) : wpAny (model X.prog X.w) X.A (call (.ref f) us (ks.zip ws)) (EP X pins σ Q) X.xe s := by
  have R3 : Reps X.K X.mg ρ H (pick perm (ds ++ es)) (pick perm (vs ++ zs)) := pick_reps (R1.append R2)
  have prom : spG X.K X.mg ps.length F (pick perm (vs ++ zs)) H Q (WE W σ) := ⟨by rw [← R3.length, hl, hp], ρ, st, _, S, R3, h.noσ⟩
  apply wpAny_call
  refine codeAny_mono (G.goes X.A X.stack s H ⟨us, ks.zip ws⟩ _ _ Q (WE W σ) hg hr I.env0 (hb s us ws I.kIn hn hk) (pick_vals (r.append rz)) prom) fun z s' hq => ?_
  rcases z with e | fl
  · exact passAt tk σ pins H s e s' I hq
  · cases fl <;> first
      | exact I.after hq
      | exact False.elim hq
theorem mCall_post {σ : L2.St} {H : Hp} {Q : VK} (h : tM X W (mCall n q perm F ra rb) σ H Q) : tMA X W ra σ H fun vs H1 => tMA X W rb σ H1 fun zs H2 => vs.length = n ∧ zs.length = q ∧ ∃ ρ st ds es, SR X.K X.mg ρ st H2 ∧ Reps X.K X.mg ρ H2 ds vs ∧ Reps X.K X.mg ρ H2 es zs ∧ (pick perm (ds ++ es)).length = perm.length ∧ Post X.K X.mg (Rep X.K X.mg) W σ ρ H2 (F (pick perm (ds ++ es)) st) Q := by
  obtain ⟨ρ, st, σd, S, E, P⟩ := h
  refine tR.bnd S E P fun vs H1 ds st1 ρ1 _ _ S1 E1 R1 P1 => tR.bnd S1 E1 P1 fun zs H2 es st2 ρ2 _ a2 S2 E2 R2 P2 => ?_
  split at P2
  · rename_i hc
    exact ⟨by rw [← R1.length]; exact hc.1, by rw [← R2.length]; exact hc.2.1, ρ2, st2, ds, es, S2, Reps.stp S1 a2 R1, R2, hc.2.2, P2⟩
  · exact P2.elim
/-- f(e, .., k = v, ..) -/
theorem ge_call (G : FnG X.prog X.w X.K X.mg X.base k f fd ps (spG X.K X.mg ps.length F)) (hg : X.A.guards = some []) (hr : Room k X.A) (hb : BindP X.K fd ps n ks perm) (hp : perm.length = ps.length) (tk : Takes X W)
    (hx : Gl X x) (hm : X.mg x = some (.ref f)) (hkp : PySem.W.keepIn X.K (.ref f) = true) (ha : GA X W (e :: es) ra) (hkw : PK X kws (tMA X W rb))
    (hall : (backToKw pos (keywordEach kws X.env)).all (·.1.isSome) = true) (hks : (backToKw pos (keywordEach kws X.env)).filterMap (·.1) = ks) (hkl : ks.length = q)
    (hdb : (x == ("__debug__" : Str)) = false) (he : starEach (e :: es) X.env = (false, eval e X.env) :: starEach es X.env)
    (hpl : ((backTo pos (starEach (e :: es) X.env)).any (·.1) || (backToKw pos (keywordEach kws X.env)).any (·.1.isNone)) = false) :
    GE X W (.Call (.Name x p) (e :: es) kws pos) (mCall n q perm F ra rb) := by
  refine ⟨fun pins s σ H Q I h => ?_⟩
  refine wpAny_Call_Name_kw (ld_glob I hx hm ?_ hdb)
  refine PySem.W.callWith_KW (h₀ := X.base) I.ok.mod.kin hkp hall (thn (ha.run pos pins s σ H _ I (mCall_post h)) fun us s1 ⟨vs, H1, I1, r, q⟩ => ?_) hpl he
  refine thn (hkw.run pos pins s1 σ H1 _ I1 q) fun ws s2 ⟨zs, H2, I2, rz, hn, hq, ρ, st, ds, es', S, R1, R2, hl, q2⟩ => ⟨I2.kIn, ?_⟩
  rw [hks]
  exact runG_fn G hg hr hb hp tk I2 r rz (r.length.symm.trans hn) (rz.length.symm.trans (hq.trans hkl.symm)) S R1 R2 hl q2
/-- f(k = v, ..) -/
theorem ge_callK (G : FnG X.prog X.w X.K X.mg X.base k f fd ps (spG X.K X.mg ps.length F)) (hg : X.A.guards = some []) (hr : Room k X.A) (hb : BindP X.K fd ps 0 ks perm) (hp : perm.length = ps.length) (tk : Takes X W)
    (hx : Gl X x) (hm : X.mg x = some (.ref f)) (hkp : PySem.W.keepIn X.K (.ref f) = true) (hkw : PK X kws (tMA X W rb))
    (hall : (backToKw pos (keywordEach kws X.env)).all (·.1.isSome) = true) (hks : (backToKw pos (keywordEach kws X.env)).filterMap (·.1) = ks) (hkl : ks.length = q)
    (hdb : (x == ("__debug__" : Str)) = false) 
    (hpl : ((backTo pos (starEach [] X.env)).any (·.1) || (backToKw pos (keywordEach kws X.env)).any (·.1.isNone)) = false) :
    GE X W (.Call (.Name x p) [] kws pos) (mCall 0 q perm F aNil rb) := by
  refine ⟨fun pins s σ H Q I h => ?_⟩
  obtain ⟨ρ0, st0, σd0, S0, E0, P0⟩ := mCall_post h
  have q := P0 [] H ρ0 Stp.refl S0 .nil
  refine wpAny_Call_Name_kw (ld_glob I hx hm ?_ hdb)
  refine PySem.W.callWith_KW0 (h₀ := X.base) I.ok.mod.kin hkp hall (thn (hkw.run pos pins s σ H _ I q) fun ws s2 ⟨zs, H2, I2, rz, hn, hq, ρ, st, ds, es', S, R1, R2, hl, q2⟩ => ⟨I2.kIn, ?_⟩) hpl
  rw [hks]
  exact runG_fn G hg hr hb hp tk I2 .nil rz rfl (rz.length.symm.trans (hq.trans hkl.symm)) S R1 R2 hl q2
/-- f(e, ..) with values by place alone -/
def mCallP (n : Nat) (F : List D → Store → R D) (ra : MA) : ME := fun σ st => (ra σ st).bind fun ds st1 => if ds.length = n then F ds st1 else .fail
theorem ge_callP (G : FnG X.prog X.w X.K X.mg X.base k f fd ps (spG X.K X.mg ps.length F)) (hg : X.A.guards = some []) (hr : Room k X.A) (hb : Binds X.K fd ps []) (tk : Takes X W)
    (hx : Gl X x) (hm : X.mg x = some (.ref f)) (hkp : PySem.W.keepIn X.K (.ref f) = true) (ha : GA X W (e :: es) ra)
    (hdb : (x == ("__debug__" : Str)) = false) (he : starEach (e :: es) X.env = (false, eval e X.env) :: starEach es X.env) (hpl : (backTo pos (starEach es X.env)).any (·.1) = false) :
    GE X W (.Call (.Name x p) (e :: es) [] pos) (mCallP ps.length F ra) := by
  refine ⟨fun pins s σ H Q I ⟨ρ, st, σd, S, E, P⟩ => ?_⟩
  refine wpAny_Call_Name_kw (ld_glob I hx hm ?_ hdb)
  have h : tMA X W ra σ H fun vs H1 => vs.length = ps.length ∧ spG X.K X.mg ps.length F vs H1 Q (WE W σ) := tR.bnd S E P fun vs H1 ds st1 ρ1 _ _ S1 E1 R1 P1 => by
    split at P1
    · rename_i hl
      have hl' : vs.length = ps.length := R1.length.symm.trans hl
      exact ⟨hl', hl', ρ1, st1, ds, S1, R1, P1.noσ⟩
    · exact P1.elim
  refine PySem.W.callWith_K (h₀ := X.base) I.ok.mod.kin hkp (thn (ha.run pos pins s σ H _ I h) fun us s1 ⟨vs, H1, I1, r, hl, q⟩ => ⟨I1.kIn, ?_⟩) he hpl
  apply wpAny_call
  have hu : us.length = ps.length := r.length.symm.trans hl
  have b := hb s1 us I1.kIn (by rw [List.append_nil]; exact hu)
  rw [List.append_nil] at b
  refine codeAny_mono (G.goes X.A X.stack s1 H1 ⟨us, []⟩ us vs Q (WE W σ) hg hr I1.env0 b r q) fun z s' hq => ?_
  rcases z with e | fl
  · exact passAt tk σ pins H1 s1 e s' I1 hq
  · cases fl <;> first
      | exact I1.after hq
      | exact False.elim hq
theorem ge_callP0 (G : FnG X.prog X.w X.K X.mg X.base k f fd [] (spG X.K X.mg 0 F)) (hg : X.A.guards = some []) (hr : Room k X.A) (hb : Binds X.K fd [] []) (tk : Takes X W)
    (hx : Gl X x) (hm : X.mg x = some (.ref f)) (hkp : PySem.W.keepIn X.K (.ref f) = true) (hdb : (x == ("__debug__" : Str)) = false) :
    GE X W (.Call (.Name x p) [] [] pos) (mCallP 0 F aNil) := by
  refine ⟨fun pins s σ H Q I ⟨ρ, st, σd, S, E, P⟩ => ?_⟩
  refine wpAny_Call_Name_kw (ld_glob I hx hm ?_ hdb)
  refine PySem.W.callWith_K0 I.kIn hkp ?_
  apply wpAny_call
  refine codeAny_mono (G.goes X.A X.stack s H ⟨[], []⟩ [] [] Q (WE W σ) hg hr I.env0 (hb s [] I.kIn rfl) .nil ⟨rfl, ρ, st, [], S, .nil, P.noσ⟩) fun z s' hq => ?_
  rcases z with e | fl
  · exact passAt tk σ pins H s e s' I hq
  · cases fl <;> first
      | exact I.after hq
      | exact False.elim hq
/-- keywords' values -/
theorem gk_nil : PK X [] (tMA X W aNil) := ⟨fun pos pins s σ H Q I ⟨ρ, st, σd, S, E, P⟩ => pk_nil.run pos pins s σ H Q I (P [] H ρ Stp.refl S .nil)⟩
theorem PK.imp {t t' : TA} (h : PK X kws t) (i : ∀ σ H Q, t' σ H Q → t σ H Q) : PK X kws t' := ⟨fun p pins s σ H Q I q => h.run p pins s σ H Q I (i σ H Q q)⟩
theorem gk_cons {nm : Option Str} {ma : ME} {kp : Pos} (ha : GE X W e ma) (hr : PK X kws (tMA X W ra)) : PK X (⟨nm, e, kp⟩ :: kws) (tMA X W (aCons ma ra)) :=
  PK.imp (pk_cons ha hr) fun σ H Q ⟨ρ, st, σd, S, E, P⟩ => tR.bnd S E P fun x H1 dx st1 ρ1 _ _ S1 E1 R1 P1 => tR.bnd S1 E1 P1 fun xs H2 ds st2 ρ2 _ a2 S2 E2 R2 P2 => P2 _ H2 ρ2 Stp.refl S2 (.cons (R1.stp S1 a2) R2)
end
end G

/-! G16: the law's own call. -/
namespace G
open PySem L2 PySem.Spec PyProof.Rows RZ

section
variable {P : Program} {w : World} {K : PySem.W.Frag} {mg mb : Str → Option Value} {k : Nat} {fa a : Addr} {x : Str} {s : Shared} {vs : List Value} {ns : List Int} {F : List D → Store → R D}
/-- where at most the script is tracked -/
structure OnlyAt (K : PySem.W.Frag) (h : Heap) (H : Hp) (a : Addr) (o : Obj) (xs : List V) : Prop where
  at' : ∀ b u, H b = some u → b = a ∧ u = .frz o (.lst xs)
  out : H a ≠ none → K.lookup a = none
  ob : h.get? a = some o
  cl : ∀ es n, o.data ≠ .dict es n
theorem OnlyAt.notTracked {h : Heap} {H : Hp} {o ob : Obj} {xs : List V} (T : OnlyAt K h H a o xs) {b : Addr} (e : h.get? b = some ob) {es : Array DictEntry} {n : Nat} (d : ob.data = .dict es n) : H b = none := by
  rcases q : H b with _ | u
  · rfl
  · obtain ⟨rfl, -⟩ := T.at' b u q
    have := T.ob
    rw [e] at this
    cases this
    exact absurd d (T.cl es n)
theorem OnlyAt.nsp {h : Heap} {H : Hp} {o : Obj} {xs : List V} (T : OnlyAt K h H a o xs) {b : Addr} {m : Str → Option Value} (z : h.Ns b m) : (hidT h H).Ns b m := by
  obtain ⟨ob, es, ep, e, d, r⟩ := z
  exact ⟨ob, es, ep, hidT_get e (T.notTracked e d), d, r⟩
theorem OnlyAt.kin {h : Heap} {H : Hp} {o : Obj} {xs : List V} (T : OnlyAt K h H a o xs) (X : K.In h) : K.In (hidT h H) := by
  intro b ob e
  refine hidT_get (X b ob e) ?_
  rcases q : H b with _ | u
  · rfl
  · obtain ⟨rfl, -⟩ := T.at' b u q
    rw [T.out (by rw [q]; simp)] at e
    cases e
/-- the call, from such a heap -/
theorem lawG_at {H : Hp} {o : Obj} (X : K.In s.heap) (nm : s.heap.Ns mainGlobals mg) (nb : s.heap.Ns builtinsNs mb) (bb : ∀ x : Str, x ≠ "__name__" → mb x = bootBuiltins x) (lim : s.heap.NoLimit) (gens : s.gens = #[]) (room : Room k callerA)
    (T : OnlyAt K s.heap H a o (ns.map V.int)) (S : SqL K H a (ns.map V.int)) (ok : HOk P w H s.heap)
    (G : ∀ base : Heap, K.In base → base.Ns mainGlobals mg → ∃ fd, FnG P w K mg base k fa fd [x] (spG K mg 1 F) ∧ Binds K fd [x] [])
    (run : ∃ st, F [.rol (ns.map D.int)] [] = .ok (.bl true) st) :
    codeAny (model P w) callerA (.call (.ref fa) ⟨[.ref a], []⟩) (fun r s1 => r = .ok (.ret (.bool true)) ∧ OldK s.heap s1.heap ∧ s1.os = s.os ∧ AllBare s1.gens) s := by
  obtain ⟨st, run⟩ := run
  have kin := T.kin X
  have md : L2.Mod K mg (hidT s.heap H) := by
    refine ⟨kin, T.nsp nm, ⟨mb, T.nsp nb, bb⟩, ?_⟩
    obtain ⟨mc, h1, h2⟩ := lim
    exact ⟨mc, T.nsp h1, h2⟩
  have env0 : Env0 P w K mg (hidT s.heap H) callerA [] s H := by
    constructor
    · rfl
    · exact md
    · exact fun b o e => of_hidT e
    · exact Nat.le_of_eq (hidT_size _ _)
    · trivial
    · exact fun b hb => (nomatch hb)
    · exact ok
    · exact .of_eq gens
  have rol : Rep K mg [] H (.rol (ns.map D.int)) (.ref a) := by
    have ri : ∀ l : List Int, Reps K mg [] H (l.map D.int) (l.map V.int) := fun l => by
      induction l with
      | nil => exact .nil
      | cons z r ih => exact .cons (.int z) ih
    refine .rol (vs := ns.map V.int) ?_ (ri ns)
    rcases S with h | h
    · exact .inl ⟨h, by simp⟩
    · exact .inr (.inr h)
  have sr : SR K mg [] [] H := ⟨rfl, List.nodup_nil, fun n c h => by simp at h⟩
  have prom : spG K mg 1 F [.ref a] H (fun v _ => v = .bl true) (fun _ _ _ => False) := by
    refine ⟨rfl, [], [], [.rol (ns.map D.int)], sr, .cons rol .nil, ?_⟩
    rw [run]
    intro v H1 ρ1 _ _ r
    cases r
    rfl
  obtain ⟨fd, G, B⟩ := G _ kin (T.nsp nm)
  have go := G.goes callerA [] s H ⟨[.ref a], []⟩ [.ref a] [.ref a] _ _ rfl room env0 (B s [.ref a] X rfl) (.cons rfl .nil) prom
  refine codeAny_mono go fun r s1 h => ?_
  rcases r with e | fl
  · obtain ⟨_, _, _, _, _, _, _, _, _, _, _, _, z⟩ := h
    exact z.elim
  · cases fl with
    | ret u =>
      obtain ⟨v, H1, os, bare, un, ok1, rv, q⟩ := h
      cases (show v = V.bl true from q)
      cases (show u = Value.bool true from rv)
      refine ⟨rfl, OldK.of_keep fun b o e => ?_, os, bare⟩
      rcases q : H b with _ | u
      · exact un.keep b o e q (fun z => (nomatch z)) (fun z => (nomatch z))
      · obtain ⟨rfl, rfl⟩ := T.at' b u q
        have z := un.frzs b _ _ q
        have e1 := (ok b _ q).1
        have e2 := (ok1 b _ z).1
        rw [e] at e1
        cases e1
        exact e2
    | next => exact False.elim h
    | brk => exact False.elim h
    | cont => exact False.elim h
theorem lawG (X : K.In s.heap) (nm : s.heap.Ns mainGlobals mg) (nb : s.heap.Ns builtinsNs mb) (bb : ∀ x : Str, x ≠ "__name__" → mb x = bootBuiltins x) (lim : s.heap.NoLimit) (gens : s.gens = #[]) (room : Room k callerA)
    (ha : s.heap.get? a = some { cls := .type "list", data := .seq vs.toArray }) (hi : IntsAre vs ns) (hl : ns.length ≤ sizeLine)
    (G : ∀ base : Heap, K.In base → base.Ns mainGlobals mg → ∃ fd, FnG P w K mg base k fa fd [x] (spG K mg 1 F) ∧ Binds K fd [x] [])
    (run : ∃ st, F [.rol (ns.map D.int)] [] = .ok (.bl true) st) :
    codeAny (model P w) callerA (.call (.ref fa) ⟨[.ref a], []⟩) (fun r s1 => r = .ok (.ret (.bool true)) ∧ OldK s.heap s1.heap ∧ s1.os = s.os ∧ AllBare s1.gens) s := by
  have vals := vals_ints hi
  have len := hi.length
  have nd : ∀ (es : Array DictEntry) (n : Nat), Data.seq vs.toArray 0 ≠ Data.dict es n := fun _ _ z => by cases z
  cases hk : K.lookup a with
  | some o =>
    have e := X a o hk
    rw [ha] at e
    cases e
    refine lawG_at (H := fun _ => none) X nm nb bb lim gens room ⟨fun b u z => (nomatch z), fun z => absurd rfl z, ha, fun es n z => by cases z⟩ ?_ (fun b u z => (nomatch z)) G run
    refine Or.inr ⟨_, vs.toArray, _, hk, rfl, rfl, rfl, ?_, ?_⟩
    · rw [List.size_toArray, len]; exact hl
    · simpa using vals
  | none =>
    have Ha : ∀ b u, (if b = a then some (HO.frz { cls := .type "list", data := .seq vs.toArray } (.lst (ns.map V.int))) else none) = some u → b = a ∧ u = .frz { cls := .type "list", data := .seq vs.toArray } (.lst (ns.map V.int)) := fun b u z => by
      split at z
      · rename_i hb
        cases z
        exact ⟨hb, rfl⟩
      · cases z
    refine lawG_at (H := fun b => if b = a then some (.frz { cls := .type "list", data := .seq vs.toArray } (.lst (ns.map V.int))) else none) X nm nb bb lim gens room ⟨Ha, fun _ => hk, ha, fun es n z => by cases z⟩ ?_ ?_ G run
    · exact Or.inl (Or.inr ⟨_, if_pos rfl⟩)
    · intro b u z
      obtain ⟨rfl, rfl⟩ := Ha b u z
      exact ⟨ha, by rw [List.length_map]; exact hl, vs, _, vals, ha⟩
end
/-- the goal that the head of a claim leaves, from the run of the law at every script -/
theorem walkG {l : PySem.W.OpenLaw} {n k : Nat} {q : Program} {loose : List Str} {XP : (Str → Option Value) → Heap → Prop} {YP : World → Heap → Prop} {d : DefRec} {K : Params → PySem.W.Frag} {x : Str} {F : List D → Store → R D}
    (hn : l.most = some n) (hn2 : n ≤ sizeLine) (hdf : d.params.defaults = []) (hr : Room k callerA) (hY : ∀ (w : World) (h : Heap), YP w h → (K w.params).In h)
    (hF : ∀ (w : World) (mg : Str → Option Value) (fa : Addr) (h : Heap), (K w.params).In h → h.Ns mainGlobals mg → mg d.name = some (.ref fa) →
      ∀ base : Heap, (K w.params).In base → base.Ns mainGlobals mg → ∃ fd, FnG l.prog w (K w.params) mg base k fa fd [x] (spG (K w.params) mg 1 F) ∧ Binds (K w.params) fd [x] [])
    (run : ∀ ns : List Int, ns.length ≤ n → (∀ z ∈ ns, Builtin.Int.intBits z ≤ 1048576) → ∃ st, F [.rol (ns.map D.int)] [] = .ok (.bl true) st) :
    PySem.W.WalkO q loose XP YP l.row.toRowW d [] (fun f vs => PySem.call f vs) := by
  refine Att.attach_callB hn hdf fun w s0 s1 mg mb fa o pm cd doc a vs ns G Y ho hd hcd hmg hobj hints hlen hbits hg => ?_
  have KX := hY w _ Y
  exact lawG KX G.T.g G.T.b G.T.builtins G.T.nolimit hg hr hobj hints (Nat.le_trans hlen hn2) (hF w mg fa _ KX G.T.g hmg) (run ns hlen hbits)
end G

/-! G17: what the rules ask of the text alone, as tests. -/
namespace G
open PySem L2 PySem.Spec PyProof.Rows RZ

/-! ### empty dicts, negation -/
section
variable {X : Cx} {W : WX} {pos : Pos} {a : Expr} {ma : ME}
def mDict0 : ME := fun _ st => .ok (.loc st.length) (st ++ [.dct []])
theorem ge_dict0 : GE X W (.Dict [] [] pos) mDict0 := PE.imp pe_dnewK fun σ H Q ⟨ρ, st, σd, S, E, P⟩ p hp => by
  obtain ⟨S1, s1⟩ := S.new (c := .dct []) (o := .dK []) hp (.inl ⟨[], rfl, .nil⟩)
  exact P _ _ _ s1 S1 (.loc (by rw [← S.len]; simp))
def opNeg : Op1 := fun x st => match x with
  | .int i => some (.int (-i), st)
  | _ => none
theorem opNeg_ok : UnR X (unaryOp .USub) (rG1 X opNeg) := UnR.imp un_neg fun x H Q ⟨ρ, st, dx, d, st', S, r, e, q⟩ => by
  cases dx with
  | int i => cases r; cases e; exact ⟨i, rfl, q.here S (.int _)⟩
  | _ => cases e
end

/-! ### argument lists without stars -/
def plainE : Expr → Bool
  | .Starred _ _ => false
  | _ => true
theorem star_cons {e : Expr} {es : List Expr} {env : Env} (h : plainE e = true) : starEach (e :: es) env = (false, eval e env) :: starEach es env := by
  cases e <;> first | rfl | cases h
theorem back_any (pos : Pos) (l : List (Bool × Sem Value)) : (backTo pos l).any (·.1) = l.any (·.1) := by
  unfold backTo
  rw [List.any_map]
  rfl
theorem star_any {env : Env} : ∀ {es : List Expr}, es.all plainE = true → (starEach es env).any (·.1) = false
  | [], _ => rfl
  | e :: es, h => by
    rw [List.all_cons, Bool.and_eq_true] at h
    rw [star_cons h.1, List.any_cons]
    exact star_any h.2
theorem star_back {env : Env} {pos : Pos} {es : List Expr} (h : es.all plainE = true) : (backTo pos (starEach es env)).any (·.1) = false := by
  rw [back_any]
  exact star_any h
theorem star_len {env : Env} : ∀ {es : List Expr}, (starEach es env).length = es.length
  | [] => rfl
  | e :: es => by
    cases e <;> (show _ + 1 = _ + 1; rw [star_len])
theorem star_few {env : Env} {pos : Pos} {e : Expr} {es : List Expr} (h : (e :: es).all plainE = true) (hl : es.length < 29) :
    ((backTo pos (starEach (e :: es) env)).all (fun x => !x.1) && (backToKw pos (keywordEach [] env)).all (fun x => x.1.isSome)
      && decide ((e :: es).length + ([] : List Keyword).length + (if ([] : List Keyword).isEmpty then 0 else 1) < 30)) = true := by
  have h1 := star_back (env := env) (pos := pos) h
  have h2 : (backTo pos (starEach (e :: es) env)).all (fun x => !x.1) = true := by
    rw [← List.not_any_eq_all_not, h1]
    rfl
  rw [h2]
  have h3 : (e :: es).length + ([] : List Keyword).length + (if ([] : List Keyword).isEmpty then 0 else 1) < 30 := by
    show es.length + 1 + 0 + 0 < 30
    omega
  rw [decide_eq_true h3]
  rfl

/-! ### keywords -/
def kwNames : List Keyword → Option (List Str)
  | [] => some []
  | ⟨some n, _, _⟩ :: r => (kwNames r).map (n :: ·)
  | ⟨none, _, _⟩ :: _ => none
theorem kw_facts {env : Env} {pos : Pos} : ∀ {kws : List Keyword} {ks : List Str}, kwNames kws = some ks →
    (backToKw pos (keywordEach kws env)).all (·.1.isSome) = true ∧ (backToKw pos (keywordEach kws env)).filterMap (·.1) = ks ∧ (backToKw pos (keywordEach kws env)).any (·.1.isNone) = false
  | [], _, h => by cases h; exact ⟨rfl, rfl, rfl⟩
  | ⟨some n, v, p⟩ :: r, ks, h => by
    cases e : kwNames r with
    | none => simp [kwNames, e] at h
    | some l =>
      simp [kwNames, e] at h
      obtain ⟨h1, h2, h3⟩ := kw_facts (env := env) (pos := pos) e
      subst h
      exact ⟨h1, congrArg (n :: ·) h2, h3⟩
  | ⟨none, _, _⟩ :: _, _, h => by cases h

/-! ### tests -/
/-- neither and, or, not, a comparison, nor an if -/
def plainT : Expr → Bool
  | .UnaryOp .Not _ _ => false
  | .BoolOp _ _ _ => false
  | .IfExp _ _ _ _ => false
  | .Compare _ _ _ _ => false
  | _ => true
theorem isTrue_plain {e : Expr} {env : Env} (h : plainT e = true) : ∀ whole, isTrue e env whole = (do let v ← whole; standAt e.pos; holding [v] (truthy v)) := by
  intro whole
  cases e with
  | UnaryOp op a p => cases op <;> first | rfl | cases h
  | BoolOp _ _ _ => cases h
  | IfExp _ _ _ _ => cases h
  | Compare _ _ _ _ => cases h
  | _ => rfl

/-! ### subscripts, what is walked -/
def plainIx : Expr → Bool
  | .Slice _ _ _ _ => false
  | _ => true
theorem plainIx_ok {b : Expr} (h : plainIx b = true) : PlainIx b := by
  intro o i
  cases b <;> first | rfl | cases h
def noSet : Expr → Bool
  | .Set _ _ _ => false
  | _ => true
theorem noSet_ok {e : Expr} {env : Env} (h : noSet e = true) : ∀ x, foldedSetIterable e env x = pure x := by
  intro x
  cases e <;> first | rfl | cases h
def noCall0 : Expr → Bool
  | .Call _ [] [] _ => false
  | _ => true
theorem attr_base {o : Expr} {n : Str} {env : Env} (h : noCall0 o = true) : attributeBase o n env (eval o env) = eval o env := by
  cases o with
  | Call f as ks p =>
    cases as with
    | nil =>
      cases ks with
      | nil => cases h
      | cons k r => cases f <;> rfl
    | cons a r => cases f <;> rfl
  | _ => rfl

/-! ### comprehensions at the right of a store -/
def noComp : Expr → Bool
  | .ListComp _ _ _ _ => false
  | .SetComp _ _ _ _ => false
  | .DictComp _ _ _ _ _ => false
  | _ => true
theorem swaps_no {e : Expr} {t : Option Expr} {l : Nat} {env : Env} (h : noComp e = true) : swapsWith e t l env = pure false := by
  cases e <;> first | rfl | cases h
def notName : Expr → Bool
  | .Name _ _ => false
  | _ => true
theorem swaps_notName {e t : Expr} {l : Nat} {env : Env} (h : notName t = true) : swapsWith e (some t) l env = pure false := by
  cases e <;> cases t <;> first | rfl | cases h

/-! ### several stores at once -/
/-- a target that is a local name on this line -/
def parName (sc : Scope) (line : Nat) : Expr → Option Str
  | .Name x p => if sc.names.lookup x == some .local && p.line == line then some x else none
  | _ => none
/-- what a parallel store does: nothing special (some none), or its names are swapped -/
def parOf (sc : Scope) (ts vs : List Expr) : Option (Option (List Str)) :=
  if !(ts.length == 2 || ts.length == 3) || vs.length != ts.length then some none
  else if vs.any (fun e => !plainE e) then some none
  else
    let ns := ts.filterMap (parName sc ((ts.head?.map (·.pos.line)).getD 0))
    if ns.length != ts.length || ns.eraseDups.length != ns.length then some none
    else if vs.all (foldedForSure 8) then some none
    else if vs.all (constantsAlone 8) then none
    else some (some ns)
def swapOf (sc : Scope) (t e : Expr) : Option (Option (List Str)) := match t, e with
  | .Tuple ts _ _, .Tuple vs _ _ => parOf sc ts vs
  | .List _ _, _ => none
  | _, _ => some none
theorem any_star (vs : List Expr) : (vs.any fun | .Starred .. => true | _ => false) = vs.any (fun e => !plainE e) := by
  congr 1
  funext e
  cases e <;> rfl
theorem par_names {env : Env} {l : Nat} (ts : List Expr) : (ts.filterMap fun
    | .Name id pos => if env.kindOf id == some .local && pos.line == l then some id else none
    | _ => none) = ts.filterMap (parName env.scope l) := by
  congr 1
theorem swapOf_ok {env : Env} {t e : Expr} {r : Option (List Str)} (hb : env.scope.kind = .function) (h : swapOf env.scope t e = some r) : swappedStores [t] e env = pure r := by
  have hk : (env.blockKind != .function) = false := by
    unfold Env.blockKind
    rw [hb]
    rfl
  cases t with
  | Tuple ts k p =>
    cases e with
    | Tuple vs k2 p2 =>
      have h : parOf env.scope ts vs = some r := h
      have n1 := any_star vs
      have n2 := par_names (env := env) (l := (ts.head?.map (·.pos.line)).getD 0) ts
      generalize hA : (vs.any fun | .Starred .. => true | _ => false) = A at n1
      generalize hB : (ts.filterMap fun
        | .Name id pos => if env.kindOf id == some .local && pos.line == (ts.head?.map (·.pos.line)).getD 0 then some id else none
        | _ => none) = B at n2
      subst n1 n2
      unfold parOf at h
      unfold swappedStores
      simp only [hk, Bool.or_false]
      split at h
      · rename_i c
        cases h
        exact if_pos c
      · rename_i c
        refine (if_neg c).trans ?_
        split at h
        · rename_i c2
          cases h
          exact if_pos (hA.trans c2)
        · rename_i c2
          refine (if_neg (c := (vs.any fun | .Starred .. => true | _ => false) = true) (by rw [hA]; exact c2)).trans ?_
          replace h : (if ((ts.filterMap (parName env.scope ((ts.head?.map (·.pos.line)).getD 0))).length != ts.length || (ts.filterMap (parName env.scope ((ts.head?.map (·.pos.line)).getD 0))).eraseDups.length != (ts.filterMap (parName env.scope ((ts.head?.map (·.pos.line)).getD 0))).length) = true then some none
            else if vs.all (foldedForSure 8) = true then some none
            else if vs.all (constantsAlone 8) = true then none else some (some (ts.filterMap (parName env.scope ((ts.head?.map (·.pos.line)).getD 0))))) = some r := h
          rw [← hB] at h
          split at h
          · rename_i c3
            cases h
            exact if_pos c3
          · rename_i c3
            refine (if_neg c3).trans ?_
            split at h
            · rename_i c4
              cases h
              exact if_pos c4
            · rename_i c4
              refine (if_neg c4).trans ?_
              split at h
              · cases h
              · rename_i c5
                cases h
                exact if_neg c5
    | _ => cases h; rfl
  | List _ _ => cases h
  | _ => cases h; rfl
end G

/-! G10b: join, divmod. -/
namespace G
open PySem L2 PySem.Spec PyProof.Rows
section
variable {X : Cx}
def mJoin : D → OpN := fun x ds st => match x, ds with
  | .str a, [y] => match (match y with | .tup ys => strsD ys | y => (lstD y st).bind strsD) with
    | some ys => if (ys.map (·.length)).sum + ys.length * a.length ≤ 16777216 then some (.str (Txt.join a ys), st) else none
    | none => none
  | _, _ => none
theorem mJoin_ok : MtR X "str.join" (rGM X mJoin) :=
  MtR.imp mt_join fun x xs H Q ⟨ρ, st, dx, ds, d, st', S, r1, r2, e, q⟩ => by
    unfold mJoin at e
    split at e
    · rename_i a y
      cases r1
      obtain ⟨v, rfl, r⟩ := reps1 r2
      split at e
      · rename_i ys hy
        split at e
        · rename_i hz
          cases e
          split at hy
          · obtain ⟨p, vs, rfl, h, pr⟩ := tup_at r
            rw [strs_val pr hy] at h
            exact ⟨a, p, ys, rfl, rfl, .inr (.inl (.inl h)), hz, q.here S (.str _)⟩
          · obtain ⟨xs, hx, hs⟩ := Option.bind_eq_some_iff.mp hy
            obtain ⟨p, vs, rfl, h, pr⟩ := lst_sq S r hx
            rw [strs_val pr hs] at h
            exact ⟨a, p, ys, rfl, rfl, .inl h, hz, q.here S (.str _)⟩
        · cases e
      · cases e
    · cases e
def bDivmod : OpN := fun ds st => match ds with
  | [.int i, .int j] => if 0 < j ∧ j < 1073741824 then some (.tup [.int (i / j), .int (i % j)], st) else none
  | _ => none
theorem bDivmod_ok : CallR X (.builtin "divmod") (rGN X bDivmod) :=
  CallR.imp call_divmod fun xs H Q ⟨ρ, st, ds, d, st', S, r, e, q⟩ => by
    unfold bDivmod at e
    split at e
    · split at e
      · rename_i h
        cases e
        obtain ⟨x, y, rfl, r1, r2⟩ := reps2 r
        cases r1; cases r2
        exact ⟨_, _, rfl, h, new_tup S (.cons (.int _) (.cons (.int _) .nil)) q⟩
      · cases e
    · cases e
end
end G

/-! G10c: setdefault. -/
namespace G
open PySem L2 PySem.Spec PyProof.Rows
section
variable {X : Cx}
def mSetd : D → OpN := fun x ds st => match x, ds with
  | .loc n, [k, v] => match dctW st n with
    | some kvs => if (keyD k).isSome = true ∧ kindOk kvs k = true ∧ kvs.length < sizeLine then match dGet kvs k with
        | some d => some (d, st)
        | none => some (v, st.set n (.dct (dPut kvs k v)))
      else none
    | none => none
  | _, _ => none
theorem mSetd_ok : MtR X "dict.setdefault" (rGM X mSetd) := by
  intro pins s σ H x xs v us Q I rx rxs ⟨ρ, st, dx, ds, d, st', S, r1, r2, e, q⟩
  unfold mSetd at e
  split at e
  · rename_i n dk dv
    split at e
    · rename_i kvs hd
      split at e
      · rename_i hc
        obtain ⟨c1, c2, c3⟩ := hc
        obtain ⟨y, z, rfl, ry, rz⟩ := reps2 r2
        obtain ⟨u, u2, rfl, ru, ru2⟩ := vals2 rxs
        obtain ⟨a, H1, rfl, w, hw⟩ := dct_view I S r1 ry hd c2
        cases rx
        obtain ⟨k0, hk0⟩ := Option.isSome_iff_exists.mp c1
        rcases w.lay with ⟨ps, k', h1, h2, h3, rfl⟩ | ⟨ps, k', b, h1, h2, h3, rfl, h4⟩
        · have h0 := hw _ h1 (.inl ⟨_, rfl⟩)
          have g := h2.get h3
          refine d_setd w.inv h0 ru ru2 (by rw [← h2.len]; exact c3) (fun v' hv w' s' I' rw' => ?_) fun hn w' s' I' rw' => ?_
          · split at e
            · rename_i d0 e0
              cases e
              rw [e0] at g
              obtain ⟨v0, g1, g2⟩ := g
              rw [hv] at g1
              cases g1
              exact ⟨_, H1, I', rw', q _ _ _ w.stp w.sr g2⟩
            · rename_i e0
              rw [e0] at g
              have g : valV ps k' = none := g
              rw [hv] at g; cases g
          · split at e
            · rename_i d0 e0
              rw [e0] at g
              obtain ⟨v0, g1, g2⟩ := g
              rw [hn] at g1; cases g1
            · rename_i e0
              cases e
              have rz1 := rz.stp S w.stp
              have stp : Stp ρ H1 ρ (upd H1 a (.dK (putK ps k' z))) := by
                refine ⟨⟨[], by simp, by simp⟩, fun x u hx hn' => ?_, fun x hx => ?_⟩
                · rw [upd_ne (fun z => hn' (by rw [z]; exact List.mem_of_getElem? w.pl))]; exact hx
                · by_cases z : x = a
                  · rw [z, upd_same]; simp
                  · rw [upd_ne z]; exact hx
              obtain ⟨S2, s2⟩ := w.sr.put (o := .dK (putK ps k' z)) (c' := .dct (dPut kvs dk d)) w.pl (dctW_eq hd) (.inl ⟨_, rfl, PKg.one (Paired.mapR (h2.put h3 rz1) fun _ _ q => ⟨q.1, q.2.stp w.sr stp⟩)⟩)
              exact ⟨_, _, I', rw', q _ _ _ (w.stp.trans s2) S2 (rz1.stp w.sr s2)⟩
        · exfalso
          rw [kOf_key hk0] at h3
          cases h3
      · cases e
    · cases e
  · cases e
end
end G

/-! G14b: dict comprehensions, dict of pairs. -/
namespace G
open PySem L2 PySem.Spec PyProof.Rows RZ

/-! ### what values need of the heap -/
structure Mv (K : PySem.W.Frag) (ρ : List Addr) (H : Hp) (ρ' : List Addr) (H' : Hp) : Prop where
  get : ∀ (n : Nat) (a : Addr), ρ[n]? = some a → ρ'[n]? = some a
  tup : ∀ (a : Addr) (vs : List V), H a = some (.tup vs) → H' a = some (.tup vs)
  rol : ∀ (a : Addr) (vs : List V), RoL K ρ H a vs → RoL K ρ' H' a vs
section
variable {K : PySem.W.Frag} {mg : Str → Option Value} {ρ ρ' : List Addr} {H H' : Hp} {st : Store}
mutual
theorem Rep.mv (m : Mv K ρ H ρ' H') : ∀ {d : D} {v : V}, Rep K mg ρ H d v → Rep K mg ρ' H' d v
  | _, _, .non => .non
  | _, _, .bl b => .bl b
  | _, _, .int i => .int i
  | _, _, .str s => .str s
  | _, _, .ty t => .ty t
  | _, _, .tup h r => .tup (m.tup _ _ h) (Reps.mv m r)
  | _, _, .rol h r => .rol (m.rol _ _ h) (Reps.mv m r)
  | _, _, .loc h => .loc (m.get _ _ h)
  | _, _, .fn h => .fn h
theorem Reps.mv (m : Mv K ρ H ρ' H') : ∀ {ds : List D} {vs : List V}, Reps K mg ρ H ds vs → Reps K mg ρ' H' ds vs
  | _, _, .nil => .nil
  | _, _, .cons h r => .cons (Rep.mv m h) (Reps.mv m r)
end
theorem CellR.mv (m : Mv K ρ H ρ' H') : ∀ {c : Cell} {o : HO}, CellR K mg ρ H c o → CellR K mg ρ' H' c o
  | .lst _, _, h => by obtain ⟨vs, e, r⟩ := h; exact ⟨vs, e, Reps.mv m r⟩
  | .dct _, _, h => by
    rcases h with ⟨ps, e, r⟩ | ⟨ps, e, r⟩
    · exact .inl ⟨ps, e, Paired.mapR r fun _ _ q => ⟨q.1, Rep.mv m q.2⟩⟩
    · exact .inr ⟨ps, e, Paired.mapR r fun _ _ q => ⟨q.1, Rep.mv m q.2⟩⟩
  | .obj _ _, _, h => by
    obtain ⟨C, dx, vs, e, g, r⟩ := h
    exact ⟨C, dx, vs, e, g, Paired.mapR r fun _ _ q => ⟨q.1, Rep.mv m q.2⟩⟩
  | .lck c, _, h => by
    obtain ⟨ob, u, e, h⟩ := h
    exact ⟨ob, u, e, CellR.mv m (c := c) h⟩
theorem EnvR.mv (m : Mv K ρ H ρ' H') {σd : Sig} {σ : L2.St} (E : EnvR K mg ρ H σd σ) : EnvR K mg ρ' H' σd σ :=
  ⟨E.len, fun i d h => let ⟨v, e, r⟩ := E.at' i d h; ⟨v, e, Rep.mv m r⟩⟩
theorem ItRep.mv (m : Mv K ρ H ρ' H') {it : ItD} {J : It} (h : ItRep K mg ρ H it J) : ItRep K mg ρ' H' it J := by
  cases it with
  | seq xs =>
    rcases h with ⟨x, vs, e, h1, h2⟩ | ⟨x, vs, e, h1, h2⟩
    · exact .inl ⟨x, vs, e, m.tup _ _ h1, Reps.mv m h2⟩
    · exact .inr ⟨x, vs, e, m.rol _ _ h1, Reps.mv m h2⟩
  | lst n => obtain ⟨x, e, h⟩ := h; exact ⟨x, e, m.get _ _ h⟩
  | rng lo n => exact h
  | sgn z => exact h
  | enm n => obtain ⟨x, e, h⟩ := h; exact ⟨x, e, m.get _ _ h⟩
  | zll p n => obtain ⟨x, y, e, h, h'⟩ := h; exact ⟨x, y, e, m.get _ _ h, m.get _ _ h'⟩
  | ens xs => obtain ⟨x, vs, e, h1, h2⟩ := h; exact ⟨x, vs, e, m.tup _ _ h1, Reps.mv m h2⟩
  | ztt xs ys => obtain ⟨x, y, vs, ws, e, h1, h2, h3, h4⟩ := h; exact ⟨x, y, vs, ws, e, m.tup _ _ h1, m.tup _ _ h2, Reps.mv m h3, Reps.mv m h4⟩
/-- a dict that is no place is changed -/
theorem mv_dict {a : Addr} {ps : List (Key × V)} (h : H a = some (.dK ps)) (o : HO) : Mv K ρ H ρ (upd H a o) := by
  have rd : ∀ {x : Addr} {vs : List V}, Rd H x (.lst vs) → Rd (upd H a o) x (.lst vs) := fun {x vs} z => by
    have ne : x ≠ a := fun e => by
      subst e
      rcases z with z | ⟨ob, z⟩
      · rw [h] at z; cases z
      · rw [h] at z; cases z
    rcases z with z | ⟨ob, z⟩
    · exact .inl (by rw [upd_ne ne]; exact z)
    · exact .inr ⟨ob, by rw [upd_ne ne]; exact z⟩
  refine ⟨fun _ _ z => z, fun x vs z => ?_, fun x vs z => ?_⟩
  · have ne : x ≠ a := fun e => by subst e; rw [h] at z; cases z
    rw [upd_ne ne]; exact z
  · rcases z with ⟨z, n⟩ | z
    · exact .inl ⟨rd z, n⟩
    · exact .inr z
/-- it becomes a place -/
theorem mv_place {a : Addr} {ps : List (Key × V)} (h : H a = some (.dK ps)) : Mv K ρ H (ρ ++ [a]) H := by
  refine ⟨fun n x z => ?_, fun x vs z => z, fun x vs z => ?_⟩
  · rw [List.getElem?_append_left (List.getElem?_eq_some_iff.mp z).1]; exact z
  · rcases z with ⟨z, n⟩ | z
    · refine .inl ⟨z, fun hm => ?_⟩
      rcases List.mem_append.mp hm with hm | hm
      · exact n hm
      · rw [List.mem_singleton.mp hm] at z
        rcases z with z | ⟨ob, z⟩
        · rw [h] at z; cases z
        · rw [h] at z; cases z
    · exact .inr z
theorem SR.mvD (S : SR K mg ρ st H) {a : Addr} {ps : List (Key × V)} (h : H a = some (.dK ps)) (hn : a ∉ ρ) (o : HO) : SR K mg ρ st (upd H a o) :=
  ⟨S.len, S.nd, fun n c e => by
    obtain ⟨b, u, e1, e2, e3⟩ := S.at' n c e
    have ne : b ≠ a := fun z => hn (z ▸ List.mem_of_getElem? e1)
    exact ⟨b, u, e1, by rw [upd_ne ne]; exact e2, CellR.mv (mv_dict h o) e3⟩⟩
theorem SR.mvP (S : SR K mg ρ st H) {a : Addr} {ps : List (Key × V)} {kvs : List (D × D)} (h : H a = some (.dK ps)) (hn : a ∉ ρ) (p : PK1 K mg ρ H kvs ps) : SR K mg (ρ ++ [a]) (st ++ [.dct kvs]) H := by
  refine ⟨by simp [S.len], ?_, fun n c e => ?_⟩
  · rw [List.nodup_append]
    exact ⟨S.nd, by simp, fun x hx y hy => by simp at hy; rintro rfl; exact hn (hy ▸ hx)⟩
  · by_cases hl : n < st.length
    · rw [List.getElem?_append_left hl] at e
      obtain ⟨b, u, e1, e2, e3⟩ := S.at' n c e
      exact ⟨b, u, (mv_place h (K := K)).get _ _ e1, e2, CellR.mv (mv_place h) e3⟩
    · have hn' : n = st.length := by
        have := (List.getElem?_eq_some_iff.mp e).1
        simp at this; omega
      subst hn'
      simp at e
      subst e
      exact ⟨a, _, by rw [← S.len]; simp, h, .inl ⟨ps, rfl, Paired.mapR p fun _ _ q => ⟨q.1, Rep.mv (mv_place h) q.2⟩⟩⟩
end

/-! ### {k: v for ..} -/
section
variable (it : ItD) (t : Tg1) (tt : MT) (tk tv : ME) (w : Sig)
def dcM : Nat → Nat → List (D × D) → Store → Option (List (D × D) × Store)
  | 0, _, _, _ => none
  | k + 1, i, acc, st => match itGet it i st with
    | none => none
    | some none => some (acc, st)
    | some (some d) => match bindT t d w with
      | none => none
      | some σ2 => match tt σ2 st with
        | .ok true st3 => match tk σ2 st3 with
          | .ok y st4 => match tv σ2 st4 with
            | .ok z st5 => if (keyD y).isSome = true ∧ acc.length < sizeLine then dcM k (i + 1) (dPut acc y z) st5 else none
            | _ => none
          | _ => none
        | .ok false st3 => dcM k (i + 1) acc st3
        | _ => none
end
def mDc (mi : MI) (t : Tg1) (tt : MT) (tk tv : ME) (vs : List Nat) : ME := fun σ st => (mi σ st).bind fun it st1 => match dcM it t tt tk tv (wipeD σ vs) LF 0 [] st1 with
  | some (kvs, st2) => .ok (.loc st2.length) (st2 ++ [.dct kvs])
  | none => .fail
theorem key_rep {K : PySem.W.Frag} {mg : Str → Option Value} {ρ : List Addr} {H : Hp} {d : D} {v : V} (r : Rep K mg ρ H d v) (h : (keyD d).isSome = true) : ∃ k, keyD d = some k ∧ v = kV k := by
  cases r with
  | int i => exact ⟨.inl i, rfl, rfl⟩
  | str s => exact ⟨.inr s, rfl, rfl⟩
  | _ => cases h
section
variable {X : Cx} {W : WX} {tg e kx vx : Expr} {pos : Pos} {ifs : List Expr} {mi : MI} {t : Tg1} {mt : MT} {mk mv : ME} {vs : List Nat}
theorem dc_step {σ : L2.St} {H : Hp} {Q : VK} (hv : ∀ i ∈ t.has, i ∈ vs) (h : tM X W (mDc mi t mt mk mv vs) σ H Q) : tDc (tMI X W mi) (tgG X.K t) (tMT X noW mt) (tM X noW mk) (tM X noW mv) vs σ H Q := by
  obtain ⟨ρ, st, σd, S, E, P⟩ := h
  refine tR.bnd S E P fun J H1 it st1 ρ1 _ _ S1 E1 R1 P1 D hD => ?_
  split at P1
  · rename_i kvs st2 e2
    refine ⟨fun i m H => ∃ ρ st acc ps, SR X.K X.mg ρ st H ∧ EnvR X.K X.mg ρ H σd σ ∧ ItRep X.K X.mg ρ H it J ∧ D ∉ ρ ∧ H D = some (.dK ps) ∧ PK1 X.K X.mg ρ H acc ps ∧ Stp ρ1 H1 ρ H ∧ dcM it t mt mk mv (wipeD σd vs) m i acc st = some (kvs, st2), ⟨LF, ?_⟩, ?_⟩
    · refine ⟨ρ1, st1, [], [], S1.add hD, E1.stp S1 (stp_new hD), R1.stp S1 (stp_new hD), fun hm => ?_, upd_same, .nil, stp_new hD, e2⟩
      obtain ⟨_, _, o', _, _, z, _⟩ := S1.mem hm
      rw [hD] at z; cases z
    · rintro i m H ⟨ρ, st, acc, ps, S, E, T, hp, hDd, pk, s1, el⟩
      cases m with
      | zero => cases el
      | succ m =>
        unfold dcM at el
        have tn := T.turn S i
        split at el
        · cases el
        · rename_i e0
          rw [e0] at tn
          cases el
          refine .inl ⟨tn, P1 (.ref D) H (ρ ++ [D]) ?_ (S.mvP hDd hp pk) (.loc (by rw [← S.len]; simp))⟩
          obtain ⟨l, el, fl⟩ := s1.pre
          refine ⟨⟨l ++ [D], by rw [el, List.append_assoc], fun x hx => ?_⟩, s1.keep, s1.there⟩
          rcases List.mem_append.mp hx with hx | hx
          · exact fl x hx
          · rw [List.mem_singleton.mp hx]; exact hD
        · rename_i d e0
          rw [e0] at tn
          refine .inr ⟨tn.1, fun H' => ∃ ρ st acc ps, SR X.K X.mg ρ st H' ∧ EnvR X.K X.mg ρ H' σd σ ∧ ItRep X.K X.mg ρ H' it J ∧ D ∉ ρ ∧ H' D = some (.dK ps) ∧ PK1 X.K X.mg ρ H' acc ps ∧ Stp ρ1 H1 ρ H' ∧ dcM it t mt mk mv (wipeD σd vs) m (i + 1) acc st = some (kvs, st2), fun H' z => ⟨m, Nat.lt_succ_self m, z⟩, fun x H' hy => ?_⟩
          obtain ⟨a1, Sx, rx⟩ := tn.2 x H' hy
          have Ex := E.stp S a1
          have Tx := T.stp S a1
          have hDx := a1.keep _ _ hDd hp
          have hpx := a1.out hDd hp
          have pkx : PK1 X.K X.mg ρ H' acc ps := Paired.mapR pk fun _ _ q => ⟨q.1, q.2.stp S a1⟩
          split at el
          · cases el
          · rename_i σ2 eb
            refine tgG_ok hv (Ex.wipe (vs := vs)) rx eb (wipe_wipe vs) fun σ' E2 hw => ⟨hw, ρ, st, σ2, Sx, E2, ?_⟩
            split at el
            · rename_i st3 et
              rw [et]
              refine fun b H3 ρ3 a3 S3 hb => ?_
              cases hb
              rw [if_pos rfl]
              refine ⟨ρ3, st3, σ2, S3, E2.stp Sx a3, ?_⟩
              split at el
              · rename_i y st4 ey
                rw [ey]
                refine fun u H4 ρ4 a4 S4 ru => ⟨ρ4, st4, σ2, S4, (E2.stp Sx a3).stp S3 a4, ?_⟩
                split at el
                · rename_i z st5 ez
                  rw [ez]
                  refine fun r H5 ρ5 a5 S5 rr => ?_
                  split at el
                  · rename_i hc
                    obtain ⟨k, hk, rfl⟩ := key_rep ru hc.1
                    have h3 := a3.keep _ _ hDx hpx
                    have n3 := a3.out hDx hpx
                    have h4 := a4.keep _ _ h3 n3
                    have n4 := a4.out h3 n3
                    have h5 := a5.keep _ _ h4 n4
                    have n5 := a5.out h4 n4
                    have pk5 : PK1 X.K X.mg ρ5 H5 acc ps := Paired.mapR pkx fun _ _ q => ⟨q.1, ((q.2.stp Sx a3).stp S3 a4).stp S4 a5⟩
                    have m5 := mv_dict (K := X.K) (ρ := ρ5) h5 (.dK (putK ps k r))
                    refine ⟨ps, k, rfl, h5, by rw [← Paired.length pk5]; exact hc.2, ρ5, st5, dPut acc y z, putK ps k r, S5.mvD h5 n5 _, EnvR.mv m5 (((Ex.stp Sx a3).stp S3 a4).stp S4 a5), ItRep.mv m5 (((Tx.stp Sx a3).stp S3 a4).stp S4 a5), n5, upd_same, ?_, ?_, el⟩
                    · have := (PK1.g pk5).put (kOf_key hk) rr
                      exact PKg.one (Paired.mapR this fun _ _ q => ⟨q.1, q.2.mv m5⟩)
                    · have s5 := (((s1.trans a1).trans a3).trans a4).trans a5
                      refine ⟨s5.pre, fun a o ha hn => ?_, fun a ha => ?_⟩
                      · rw [upd_ne (ne_of_none ha hD)]; exact s5.keep _ _ ha hn
                      · by_cases q : a = D
                        · rw [q, upd_same]; simp
                        · rw [upd_ne q]; exact s5.there _ ha
                  · cases el
                · cases el
              · cases el
            · rename_i st3 et
              rw [et]
              refine fun b H3 ρ3 a3 S3 hb => ?_
              cases hb
              rw [if_neg (by decide)]
              exact ⟨ρ3, st3, acc, ps, S3, Ex.stp Sx a3, Tx.stp Sx a3, a3.out hDx hpx, a3.keep _ _ hDx hpx, Paired.mapR pkx fun _ _ q => ⟨q.1, q.2.stp Sx a3⟩, (s1.trans a1).trans a3, el⟩
            · cases el
  · exact P1.elim
end
end G
namespace G
open PySem L2 PySem.Spec PyProof.Rows RZ
section
variable {X : Cx} {W : WX} {tg e kx vx : Expr} {pos : Pos} {ifs : List Expr} {mi : MI} {t : Tg1} {mt : MT} {mk mv : ME}
/-- a dict comprehension's parts, whatever its block -/
structure DcOk (X : Cx) (tg kx vx : Expr) (ifs : List Expr) (scope : Scope) (t : Tg1) (mt : MT) (mk mv : ME) : Prop where
  tg : ∀ (s : Shared) (H : Hp) (C : Addr) (cl : List (Str × Addr)) (fp : List Addr), PG (X.blk s H scope (compEnvC scope cl C X.env) fp) tg (tgG X.K t)
  ifs : ∀ (s : Shared) (H : Hp) (C : Addr) (cl : List (Str × Addr)) (fp : List Addr), PTs (X.blk s H scope (compEnvC scope cl C X.env) fp) ifs (tMT X noW mt)
  key : ∀ (s : Shared) (H : Hp) (C : Addr) (cl : List (Str × Addr)) (fp : List Addr), GE (X.blk s H scope (compEnvC scope cl C X.env) fp) noW kx mk
  val : ∀ (s : Shared) (H : Hp) (C : Addr) (cl : List (Str × Addr)) (fp : List Addr), GE (X.blk s H scope (compEnvC scope cl C X.env) fp) noW vx mv
variable {scope : Scope} {own : List (Str × Nat)}
theorem ge_dc (hc : X.calm = true) (hN : X.N.Nodup) (hi : GI X W tg e mi) (ok : BlkOk X.N X.env.scope scope own) (L : DcOk X tg kx vx ifs scope t mt mk mv) (hv : ∀ i ∈ t.has, i ∈ own.map (·.2)) (hs : ∀ x, foldedSetIterable e X.env x = pure x) :
    GE X W (.DictComp kx vx [⟨tg, e, ifs, 0⟩] scope pos) (mDc mi t mt mk mv (own.map (·.2))) :=
  PE.imp (pe_dc hc hN hi ok L.tg L.ifs L.key L.val hs) fun σ H Q h => dc_step hv h

/-! ### dict(pairs) -/
def prD : D → Option (D × D)
  | .tup [k, v] => if (keyD k).isSome = true then some (k, v) else none
  | _ => none
def prsD : List D → Option (List (D × D))
  | [] => some []
  | d :: ds => match prD d, prsD ds with
    | some p, some ps => some (p :: ps)
    | _, _ => none
def dPuts (acc ps : List (D × D)) : List (D × D) := ps.foldl (fun a p => dPut a p.1 p.2) acc
def bDict : OpN := fun ds st => match ds with
  | [d] => match (lstD d st).bind prsD with
    | some ps => some (.loc st.length, st ++ [.dct (dPuts [] ps)])
    | none => none
  | _ => none
theorem prs_lay {K : PySem.W.Frag} {mg : Str → Option Value} {ρ : List Addr} {H : Hp} : ∀ {xs : List D} {vs : List V} {ps : List (D × D)}, Reps K mg ρ H xs vs → prsD xs = some ps →
    ∃ (as : List Addr) (kvs : List (Key × V)), vs = as.map V.ref ∧ Paired (fun (a : Addr) (kv : Key × V) => SqT K H a [kV kv.1, kv.2]) as kvs ∧ PK1 K mg ρ H ps kvs
  | _, _, _, .nil, e => by cases e; exact ⟨[], [], rfl, .nil, .nil⟩
  | d :: ds, _, _, .cons h r, e => by
    unfold prsD at e
    split at e
    · rename_i p ps e1 e2
      cases e
      obtain ⟨as, kvs, rfl, h1, h2⟩ := prs_lay r e2
      unfold prD at e1
      split at e1
      · rename_i k v
        split at e1
        · rename_i hk
          cases e1
          obtain ⟨a, us, rfl, q, ru⟩ := tup_sq h
          obtain ⟨x, y, rfl, rx, ry⟩ := reps2 ru
          obtain ⟨kk, ek, rfl⟩ := key_rep rx hk
          exact ⟨a :: as, (kk, y) :: kvs, rfl, .cons q h1, .cons ⟨ek, ry⟩ h2⟩
        · cases e1
      · cases e1
    · cases e
theorem puts_merge {K : PySem.W.Frag} {mg : Str → Option Value} {ρ : List Addr} {H : Hp} : ∀ {ps : List (D × D)} {kvs : List (Key × V)} {acc : List (D × D)} {bcc : List (Key × V)}, PK1 K mg ρ H ps kvs → PK1 K mg ρ H acc bcc → PK1 K mg ρ H (dPuts acc ps) (mergeK bcc kvs)
  | _, _, _, _, .nil, h => h
  | p :: ps, q :: kvs, acc, bcc, .cons h t, h2 => by
    show PK1 K mg ρ H (dPuts (dPut acc p.1 p.2) ps) (mergeK (putK bcc q.1 q.2) kvs)
    exact puts_merge t (PKg.one ((PK1.g h2).put (kOf_key h.1) h.2))
theorem new_dct {K : PySem.W.Frag} {mg : Str → Option Value} {ρ : List Addr} {H : Hp} {st : Store} {kvs : List (D × D)} {ps : List (Key × V)} {Q : VK} (S : SR K mg ρ st H) (q : PK1 K mg ρ H kvs ps) (h : Cont K mg (Rep K mg) ρ H (.loc st.length) (st ++ [.dct kvs]) Q) : ∀ p, H p = none → Q (.ref p) (upd H p (.dK ps)) := fun p hp => by
  have stp : Stp ρ H (ρ ++ [p]) (upd H p (.dK ps)) := by
    refine ⟨⟨[p], rfl, fun x hx => by simp at hx; rw [hx]; exact hp⟩, fun x u hx _ => ?_, fun x hx => ?_⟩
    · rw [upd_ne (ne_of_none hx hp)]; exact hx
    · by_cases e : x = p
      · rw [e, upd_same]; simp
      · rw [upd_ne e]; exact hx
  obtain ⟨S', s'⟩ := S.new (c := .dct kvs) hp (.inl ⟨ps, rfl, Paired.mapR q fun _ _ z => ⟨z.1, z.2.stp S stp⟩⟩)
  exact h _ _ _ s' S' (.loc (by rw [← S.len]; simp))
theorem bDict_ok (hc : X.calm = true) : CallR X (.type "dict") (rGN X bDict) :=
  CallR.imp (call_dictP hc) fun xs H Q ⟨ρ, st, ds, d, st', S, r, e, q⟩ => by
    unfold bDict at e
    split at e
    · split at e
      · rename_i ps e1
        cases e
        obtain ⟨xs, hx, hp⟩ := Option.bind_eq_some_iff.mp e1
        obtain ⟨x, rfl, r1⟩ := reps1 r
        obtain ⟨a, vs, rfl, h, pr⟩ := lst_sq S r1 hx
        obtain ⟨as, kvs, rfl, h1, h2⟩ := prs_lay pr hp
        exact ⟨a, as, kvs, rfl, h, h1, new_dct S (puts_merge h2 .nil) q⟩
      · cases e
    · cases e
end
end G

/-! G10d: list(range(n)). -/
namespace G
open PySem L2 PySem.Spec PyProof.Rows
def rgD (n : Int) : List D := (List.range n.toNat).map fun i : Nat => .int (i : Int)
def mLRg (ma : ME) : ME := fun σ st => (ma σ st).bind fun d st1 => match d with
  | .int n => if -1000000 ≤ n ∧ n ≤ 16777216 then .ok (.loc st1.length) (st1 ++ [.lst (rgD n)]) else .fail
  | _ => .fail
theorem rg_reps {K : PySem.W.Frag} {mg : Str → Option Value} {ρ : List Addr} {H : Hp} (n : Int) : Reps K mg ρ H (rgD n) (rgV 0 n) := by
  unfold rgD rgV
  rw [Int.sub_zero]
  generalize List.range n.toNat = l
  induction l with
  | nil => exact .nil
  | cons x l ih =>
    refine .cons ?_ ih
    show Rep K mg ρ H (.int (x : Int)) (.int (0 + (x : Int)))
    rw [Int.zero_add]
    exact .int _
section
variable {X : Cx} {W : WX} {a : Expr} {ma : ME} {p p2 pos pos2 : Pos}
theorem ge_listRg (hc : X.calm = true) (hgl : Gl X "list") (hml : X.mg "list" = none) (hg : Gl X "range") (hm : X.mg "range" = none) (ha : GE X W a ma) (na : starEach [a] X.env = (false, eval a X.env) :: starEach [] X.env) :
    GE X W (.Call (.Name "list" p) [.Call (.Name "range" p2) [a] [] pos2] [] pos) (mLRg ma) :=
  PE.imp (pe_listRg hc hgl hml (prg_1 hg hm ha na)) fun σ H Q ⟨ρ, st, σd, S, E, P⟩ => tR.bnd S E P fun v H1 d st1 ρ1 _ _ S1 E1 R1 P1 => by
    split at P1
    · rename_i n _
      cases R1
      split at P1
      · rename_i hn
        exact ⟨n, rfl, ⟨by decide, by decide, by omega, by omega, by omega⟩, new_lst S1 (rg_reps n) P1⟩
      · exact P1.elim
    · exact P1.elim
end
end G

/-! G10e: sorted of tuples with unlike texts in front; sorted(d.items()). -/
namespace G
open PySem PySem.W PyProof.Rows SrtO
/-- the order of texts -/
def ltS (x y : Str) : Bool := decide (x.cps.toList < y.cps.toList)
theorem ltS_irr (x : Str) : ltS x x = false := decide_eq_false (List.lt_irrefl _)
theorem swo_ltS {α : Type} (k : α → Str) : Swo fun v u => ltS (k v) (k u) := by
  refine ⟨fun x y h => ?_, fun x y z h1 h2 => ?_⟩
  · have a := of_decide_eq_true h
    exact decide_eq_false fun b => List.lt_irrefl _ (List.lt_trans a b)
  · have a := of_decide_eq_false h1
    have b := of_decide_eq_false h2
    refine decide_eq_false fun c => ?_
    have a' := List.not_lt.mp a
    have b' := List.not_lt.mp b
    exact absurd c (List.not_lt.mpr (by first | exact List.le_trans b' a' | exact List.le_trans a' b'))
/-- a tuple with the text y in front -/
def TxIn (h : Heap) (v : Value) (y : Str) : Prop := ∃ (a : Addr) (o : Obj) (t : Tok) (xs : Array Value) (n : Nat), v = .ref a ∧ h.get? a = some o ∧ o.cls = .type "tuple" ∧ o.data = .seq xs n ∧ xs[0]? = some (.str y t)
theorem TxIn.keeps {h h' : Heap} {v : Value} {y : Str} (x : TxIn h v y) (k : ∀ b o, h.get? b = some o → o.cls = .type "tuple" → h'.get? b = some o) : TxIn h' v y := by
  obtain ⟨a, o, t, xs, n, e, ho, hc, hd, hx⟩ := x
  exact ⟨a, o, t, xs, n, e, k _ _ ho hc, hc, hd, hx⟩
section
variable {prog : Program} {w : World} {A : Around} {E : Value → Shared → Prop} {s : Shared}
theorem tx_firsts {h : Heap} {k : Value → Str} : ∀ vs : List Value, (∀ v ∈ vs, TxIn h v (k v)) → ∃ fs : List Value, KatTups h vs fs ∧ fs.length = vs.length ∧ ∀ f ∈ fs, ∃ y t, f = Value.str y t
  | [], _ => ⟨[], KatTups.nil, rfl, fun _ h => nomatch h⟩
  | v :: vs, H => by
    obtain ⟨fs, h1, h2, h3⟩ := tx_firsts vs fun u hu => H u (List.mem_cons_of_mem _ hu)
    obtain ⟨a, o, t, xs, n, rfl, ho, hc, hd, hx⟩ := H v List.mem_cons_self
    refine ⟨.str _ t :: fs, KatTups.cons ho hc hd hx h1, by simp [h2], fun f hf => ?_⟩
    rcases List.mem_cons.mp hf with rfl | hf
    · exact ⟨_, _, rfl⟩
    · exact h3 f hf
theorem kat_self {b : Bool} {Q : Bool → Shared → Prop} (h : Q false s) : ∀ (l : List Value) (i : Nat), KatLex prog w A b false Q (l.zip l) i s
  | [], _ => kat_nil h
  | v :: l, i => by
    refine kat_cons (SeqAt.EqAt.same (A := A) (s := s) v prog w _ _ ?_)
    exact kat_yes (kat_self h l (i + 1))
theorem tx_cmp {vs : List Value} {k : Value → Str} (hp : ∀ v ∈ vs, TxIn s.heap v (k v)) (hi : ∀ v ∈ vs, ∀ u ∈ vs, k v = k u → v = u) : Cmp prog w A s (tuples' true) (fun p => p.1 ∈ vs) (lt2 fun v u => ltS (k v) (k u)) := by
  intro p q hm hm'
  have h1 := hp _ hm
  have h2 := hp _ hm'
  show wpAny (model prog w) A (keyLt' (tuples' true) p.1 q.1) (fun r s' => s' = s ∧ r = ltS (k p.1) (k q.1)) (fun _ _ => False) s
  by_cases e : k p.1 = k q.1
  · have e2 := hi _ hm _ hm' e
    rw [← e2, ltS_irr]
    obtain ⟨a, o, t, xs, n, e1, ho, hc, hd, hx⟩ := h1
    rw [e1]
    refine kat_lt ho hd ho hd ?_
    rw [decide_eq_false (Nat.lt_irrefl _)]
    exact kat_self ⟨rfl, rfl⟩ _ _
  · obtain ⟨a, o, t, xs, n, e1, ho, hc, hd, hx⟩ := h1
    obtain ⟨a', o', t', xs', n', e1', ho', hc', hd', hx'⟩ := h2
    generalize k p.1 = x at *
    generalize k q.1 = y at *
    rw [e1, e1']
    refine kat_lt ho hd ho' hd' ?_
    have g : ∀ {ys : Array Value} {v : Value}, ys[0]? = some v → ∃ r, ys.toList = v :: r := fun {ys v} h => by
      rw [← Array.getElem?_toList] at h
      cases q : ys.toList with
      | nil => rw [q] at h; cases h
      | cons z r => rw [q] at h; cases h; exact ⟨r, rfl⟩
    obtain ⟨r, er⟩ := g hx
    obtain ⟨r', er'⟩ := g hx'
    rw [er, er']
    show KatLex prog w A true _ _ ((Value.str x t, Value.str y t') :: r.zip r') 0 s
    refine kat_cons (wpAny_eqBool_str ?_)
    refine kat_go (fun z => absurd (of_decide_eq_true z) e) fun _ => kat_no ?_
    show wpAny _ _ (oneLt' true _ _) _ _ _
    exact oneLt_str ⟨rfl, rfl⟩
theorem tx_sortable {a : Addr} {vs : List Value} {k : Value → Str} (h0 : 0 < vs.length) (hp : ∀ v ∈ vs, TxIn s.heap v (k v)) (hi : ∀ v ∈ vs, ∀ u ∈ vs, k v = k u → v = u) (ha : ∀ o, s.heap.get? a = some o → o.cls ≠ .type "tuple") : SortableO prog w A s a vs fun v u => ltS (k v) (k u) := by
  intro h' keep
  have hp' : ∀ v ∈ vs, TxIn h' v (k v) := fun v hm => (hp v hm).keeps fun b o e c => keep b o (fun z => by subst z; exact ha o e c) e
  obtain ⟨fs, h1, h2, h3⟩ := tx_firsts vs hp'
  refine ⟨tuples' true, fun Q E hq => ?_, tx_cmp hp' hi⟩
  refine PySem.W.kat_kind (T := .type "str") h1 (by omega) (fun f hm => ?_) (by rfl) ?_
  · obtain ⟨x, t, rfl⟩ := h3 f hm
    exact PySem.W.Looks.now
  · have e : (Value.type "str" != Value.type "tuple") = true := by first | decide +kernel | rfl | decide
    rw [e]
    exact hq
theorem sorted_tx {l : Addr} {vs : List Value} {k : Value → Str} {Q : Value → Shared → Prop} (hl : s.heap.IsList l vs.toArray) (hz : vs.length ≤ sizeLine) (hp : ∀ v ∈ vs, TxIn s.heap v (k v)) (hi : ∀ v ∈ vs, ∀ u ∈ vs, k v = k u → v = u)
    (h : ∀ (h' : Heap) (d : Addr) (out : List Value), Srtd (fun v u => ltS (k v) (k u)) out → Stb (fun v u => ltS (k v) (k u)) out vs → (∀ b o, s.heap.get? b = some o → h'.get? b = some o) → s.heap.objs.size ≤ d → (∃ n, h'.get? d = some (seqObj "list" out.toArray n)) → Q (.ref d) { s with heap := h' }) :
    wpAny (model prog w) A (call (.builtin "sorted") [.ref l]) Q E s := by
  refine sorted_ord (swo_ltS k) hl hz (fun h2 h₁ a ha kk => ?_) fun out hs hb => ?_
  · refine tx_sortable (s := { s with heap := h₁ }) (by omega) (fun v hm => (hp v hm).keeps fun b o e _ => (kk b o e).2) hi fun o e => ?_
    have e' : some o = some (seqObj "list" vs.toArray 0) := e.symm.trans ha
    cases e'
    intro c
    exact absurd (Value.type.inj c) (by decide)
  · exact h _ _ out hs hb (fun b o e => sortedAll_old e) (Nat.le_succ _) (sortedAll_at s.heap vs out.toArray)
end
end G
namespace G
open PySem L2 PySem.Spec PyProof.Rows
/-! ### by values -/
abbrev ltK (k : V → Str) (x y : V) : Bool := ltS (k x) (k y)
def rSortTx (K : PySem.W.Frag) : List V → Hp → VK → Prop := fun vs H Q => ∃ (a : Addr) (xs : List V) (k : V → Str), vs = [V.ref a] ∧ SqL K H a xs ∧ (∀ x ∈ xs, ∃ t r, x = V.ref t ∧ H t = some (.tup (.str (k x) :: r))) ∧ (∀ x ∈ xs, ∀ y ∈ xs, k x = k y → x = y) ∧
  ∀ ys p, SrtO.Srtd (ltK k) ys → ys.Perm xs → H p = none → Q (.ref p) (upd H p (.lst ys))
section
variable {X : Cx}
theorem tx_of {pins : List (Addr × Obj)} {σ : L2.St} {H : Hp} {s : Shared} (I : Inv X pins σ H s) {t : Addr} {y : Str} {r : List V} (ht : H t = some (.tup (.str y :: r))) : TxIn s.heap (.ref t) y := by
  obtain ⟨_, its2, r2, o, ho, hc, n, hd⟩ := I.hok _ _ ht
  cases r2 with
  | cons h1 h2 =>
    obtain ⟨tk, rfl⟩ := h1
    exact ⟨t, o, tk, _, n, rfl, ho, hc, hd, rfl⟩
theorem cr_sortTx : CallR X (.builtin "sorted") (rSortTx X.K) := by
  intro pins s σ H vs us Q I r h
  obtain ⟨a, xs, k, rfl, hs, hx, hi, q⟩ := h
  obtain ⟨its, rv, hl, hz⟩ := I.list hs
  obtain ⟨u, rfl, ru⟩ := vals1 r
  obtain rfl : u = Value.ref a := ru
  obtain ⟨e1, e2⟩ := refs_back rv fun x m => by
    obtain ⟨t, _, e, _⟩ := hx x m
    exact ⟨t, e⟩
  have mx : ∀ v ∈ its, backV v ∈ xs := fun v hv => by rw [e1]; exact List.mem_map.mpr ⟨_, hv, rfl⟩
  refine sorted_tx (k := fun u => k (backV u)) hl.isList (by rw [← rv.length]; exact hz) (fun v hv => ?_) (fun v hv u hu e => ?_) fun h' d out h1 h2 kp hd hn => ?_
  · obtain ⟨t, rfl⟩ := e2 v hv
    obtain ⟨t', r', e, ht⟩ := hx _ (mx _ hv)
    cases e
    exact tx_of I ht
  · have := hi _ (mx _ hv) _ (mx _ hu) e
    obtain ⟨t, rfl⟩ := e2 v hv
    obtain ⟨t', rfl⟩ := e2 u hu
    cases this
    rfl
  · have h3 : ∀ u ∈ out, ∃ a, u = Value.ref a := fun u hu => e2 u (h2.perm.mem_iff.mp hu)
    obtain ⟨n, hn⟩ := hn
    have hb : (out.map backV).Perm xs := by
      rw [e1]
      exact h2.perm.map backV
    refine ⟨.ref d, upd H d (.lst (out.map backV)), I.laid (t' := s.toks) kp hd ⟨?_, out, n, vals_back h3, hn⟩, rfl, q _ d (SrtO.srtd_map h1) hb (I.hok.fresh hd)⟩
    rw [hb.length_eq]
    exact hz
end
/-! ### by data -/
def txD : D → Option Str
  | .tup (.str s :: _) => some s
  | _ => none
def txsD : List D → Option (List (Str × D))
  | [] => some []
  | d :: ds => match txD d, txsD ds with
    | some s, some l => some ((s, d) :: l)
    | _, _ => none
/-- put in among sorted ones -/
def insT {α : Type} (p : Str × α) : List (Str × α) → List (Str × α)
  | [] => [p]
  | q :: l => if ltS p.1 q.1 = true then p :: q :: l else q :: insT p l
def srtT {α : Type} (l : List (Str × α)) : List (Str × α) := l.foldr insT []
theorem insT_perm {α : Type} (p : Str × α) : ∀ l : List (Str × α), (insT p l).Perm (p :: l)
  | [] => .refl _
  | q :: l => by
    unfold insT
    split
    · exact .refl _
    · exact ((insT_perm p l).cons q).trans (.swap p q l)
theorem srtT_perm {α : Type} : ∀ l : List (Str × α), (srtT l).Perm l
  | [] => .refl _
  | p :: l => (insT_perm p _).trans ((srtT_perm l).cons p)
theorem ltS_tot {x y : Str} (h : ltS x y = false) (n : x ≠ y) : ltS y x = true := by
  refine decide_eq_true ?_
  have a := List.not_lt.mp (of_decide_eq_false h)
  rcases List.le_iff_lt_or_eq.mp a with b | b
  · exact b
  · exact absurd (by cases x; cases y; simp at b ⊢; exact b.symm) n
theorem ltS_tr {x y z : Str} (h : ltS x y = true) (h' : ltS y z = true) : ltS x z = true := decide_eq_true (List.lt_trans (of_decide_eq_true h) (of_decide_eq_true h'))
def Asc {α : Type} (l : List (Str × α)) : Prop := l.Pairwise fun p q => ltS p.1 q.1 = true
theorem insT_asc {α : Type} (p : Str × α) : ∀ l : List (Str × α), Asc l → (∀ q ∈ l, p.1 ≠ q.1) → Asc (insT p l)
  | [], _, _ => List.pairwise_singleton _ _
  | q :: l, h, n => by
    unfold insT
    have h' := List.pairwise_cons.mp h
    split
    · rename_i hl
      refine List.pairwise_cons.mpr ⟨fun z hz => ?_, h⟩
      rcases List.mem_cons.mp hz with rfl | hz
      · exact hl
      · exact ltS_tr hl (h'.1 z hz)
    · rename_i hl
      refine List.pairwise_cons.mpr ⟨fun z hz => ?_, insT_asc p l h'.2 fun z hz => n z (List.mem_cons_of_mem _ hz)⟩
      rcases List.mem_cons.mp ((insT_perm p l).mem_iff.mp hz) with rfl | hz
      · exact ltS_tot (Bool.eq_false_iff.mpr hl) (n q List.mem_cons_self)
      · exact h'.1 z hz
theorem srtT_asc {α : Type} : ∀ l : List (Str × α), (l.map (·.1)).Nodup → Asc (srtT l)
  | [], _ => .nil
  | p :: l, h => by
    have h' := List.nodup_cons.mp h
    refine insT_asc p _ (srtT_asc l h'.2) fun q hq e => h'.1 ?_
    show p.1 ∈ _
    rw [e]
    exact List.mem_map.mpr ⟨q, (srtT_perm l).mem_iff.mp hq, rfl⟩
theorem asc_uniq {α : Type} : ∀ {l m : List (Str × α)}, Asc l → Asc m → l.Perm m → l = m
  | [], m, _, _, p => p.symm.eq_nil.symm
  | x :: l, [], _, _, p => absurd p.length_eq (by simp)
  | x :: l, y :: m, hl, hm, p => by
    have hl' := List.pairwise_cons.mp hl
    have hm' := List.pairwise_cons.mp hm
    have e : x = y := by
      rcases List.mem_cons.mp (p.mem_iff.mp (List.mem_cons_self (a := x))) with e | hx
      · exact e
      · rcases List.mem_cons.mp (p.symm.mem_iff.mp (List.mem_cons_self (a := y))) with e | hy
        · exact e.symm
        · have := ltS_tr (hm'.1 x hx) (hl'.1 y hy)
          rw [ltS_irr] at this
          cases this
    subst e
    rw [asc_uniq hl'.2 hm'.2 p.cons_inv]
end G

/-! G10f: sorted, by data. -/
namespace G
open PySem L2 PySem.Spec PyProof.Rows
def kOfV (H : Hp) (v : V) : Str := match v with
  | .ref t => match H t with
    | some (.tup (.str s :: _)) => s
    | _ => default
  | _ => default
theorem kOfV_at {H : Hp} {t : Addr} {s : Str} {r : List V} (h : H t = some (.tup (.str s :: r))) : kOfV H (.ref t) = s := by
  unfold kOfV; simp only [h]
section
variable {K : PySem.W.Frag} {mg : Str → Option Value} {ρ : List Addr} {H : Hp}
abbrev TxP (K : PySem.W.Frag) (mg : Str → Option Value) (ρ : List Addr) (H : Hp) (p : Str × D) (q : Str × V) : Prop := p.1 = q.1 ∧ Rep K mg ρ H p.2 q.2 ∧ ∃ t r, q.2 = .ref t ∧ H t = some (.tup (.str q.1 :: r))
theorem txs_lay : ∀ {xs : List D} {vs : List V} {ps : List (Str × D)}, Reps K mg ρ H xs vs → txsD xs = some ps → ∃ qs : List (Str × V), vs = qs.map (·.2) ∧ Paired (TxP K mg ρ H) ps qs
  | [], _, _, .nil, e => by cases e; exact ⟨[], rfl, .nil⟩
  | d :: ds, _, _, .cons (v := v) h r, e => by
    unfold txsD at e
    split at e
    · rename_i s l e1 e2
      cases e
      obtain ⟨qs, rfl, q⟩ := txs_lay r e2
      unfold txD at e1
      split at e1
      · rename_i s' rest
        cases e1
        obtain ⟨a, vs, rfl, ha, rv⟩ := tup_at h
        cases rv with
        | cons h1 h2 =>
          cases h1
          exact ⟨(s, .ref a) :: qs, rfl, .cons ⟨rfl, h, a, _, rfl, ha⟩ q⟩
      · cases e1
    · cases e
theorem ins_pair {p : Str × D} {q : Str × V} (h : TxP K mg ρ H p q) : ∀ {ps : List (Str × D)} {qs : List (Str × V)}, Paired (TxP K mg ρ H) ps qs → Paired (TxP K mg ρ H) (insT p ps) (insT q qs)
  | _, _, .nil => .cons h .nil
  | p' :: _, q' :: _, .cons h' t => by
    unfold insT
    rw [h.1, h'.1]
    split
    · exact .cons h (.cons h' t)
    · exact .cons h' (ins_pair h t)
theorem srt_pair : ∀ {ps : List (Str × D)} {qs : List (Str × V)}, Paired (TxP K mg ρ H) ps qs → Paired (TxP K mg ρ H) (srtT ps) (srtT qs)
  | _, _, .nil => .nil
  | _, _, .cons h t => ins_pair h (srt_pair t)
theorem tx_keys : ∀ {ps : List (Str × D)} {qs : List (Str × V)}, Paired (TxP K mg ρ H) ps qs → ps.map (·.1) = qs.map (·.1)
  | _, _, .nil => rfl
  | _, _, .cons h t => by rw [List.map_cons, List.map_cons, h.1, tx_keys t]
theorem tx_reps : ∀ {ps : List (Str × D)} {qs : List (Str × V)}, Paired (TxP K mg ρ H) ps qs → Reps K mg ρ H (ps.map (·.2)) (qs.map (·.2))
  | _, _, .nil => .nil
  | _, _, .cons h t => .cons h.2.1 (tx_reps t)
theorem tx_all : ∀ {ps : List (Str × D)} {qs : List (Str × V)}, Paired (TxP K mg ρ H) ps qs → ∀ q ∈ qs, kOfV H q.2 = q.1 ∧ ∃ t r, q.2 = .ref t ∧ H t = some (.tup (.str q.1 :: r))
  | _, _, .nil, _, h => nomatch h
  | _, _, .cons h t, q, hq => by
    rcases List.mem_cons.mp hq with rfl | hq
    · obtain ⟨_, _, a, r, e, ha⟩ := h
      exact ⟨by rw [e]; exact kOfV_at ha, a, r, e, ha⟩
    · exact tx_all t q hq
end
theorem nodup_key {α : Type} : ∀ {qs : List (Str × α)}, (qs.map (·.1)).Nodup → ∀ p ∈ qs, ∀ q ∈ qs, p.1 = q.1 → p = q
  | [], _, _, h, _, _, _ => nomatch h
  | x :: l, n, p, hp, q, hq, e => by
    have n' := List.nodup_cons.mp n
    rcases List.mem_cons.mp hp with e1 | h1
    · rcases List.mem_cons.mp hq with e2 | h2
      · rw [e1, e2]
      · exact absurd (show x.1 ∈ _ by rw [← e1, e]; exact List.mem_map.mpr ⟨q, h2, rfl⟩) n'.1
    · rcases List.mem_cons.mp hq with e2 | h2
      · exact absurd (show x.1 ∈ _ by rw [← e2, ← e]; exact List.mem_map.mpr ⟨p, h1, rfl⟩) n'.1
      · exact nodup_key n'.2 p h1 q h2 e
/-- a sorted list of the same values is srtT's -/
theorem srt_is {H : Hp} {qs : List (Str × V)} (n : (qs.map (·.1)).Nodup) (h : ∀ q ∈ qs, kOfV H q.2 = q.1) {ys : List V} (hs : SrtO.Srtd (ltK (kOfV H)) ys) (p : ys.Perm (qs.map (·.2))) : ys = (srtT qs).map (·.2) := by
  have e1 : (qs.map (·.2)).map (fun y => (kOfV H y, y)) = qs := by
    rw [List.map_map]
    conv => rhs; rw [← List.map_id qs]
    refine List.map_congr_left fun q hq => ?_
    show (kOfV H q.2, q.2) = q
    rw [h q hq]
  have p1 : (ys.map fun y => (kOfV H y, y)).Perm qs := by
    have := p.map (fun y => (kOfV H y, y))
    rw [e1] at this
    exact this
  have n1 : ((ys.map fun y => (kOfV H y, y)).map (·.1)).Nodup := ((p1.map (·.1)).nodup_iff).mpr n
  have a1 : Asc (ys.map fun y => (kOfV H y, y)) := by
    unfold Asc
    rw [List.pairwise_map]
    rw [List.map_map] at n1
    have n2 : ys.Pairwise fun a b => kOfV H a ≠ kOfV H b := List.pairwise_map.mp n1
    exact (hs.and n2).imp fun {a b} ⟨x, y⟩ => ltS_tot x (fun z => y z.symm)
  have := asc_uniq a1 (srtT_asc qs n) (p1.trans (srtT_perm qs).symm)
  rw [← this, List.map_map]
  conv => lhs; rw [← List.map_id ys]
  rfl
def srtD (ps : List (Str × D)) : Option (List D) := if (ps.map (·.1)).Nodup then some ((srtT ps).map (·.2)) else none
def bSorted : OpN := fun ds st => match ds with
  | [d] => match ((lstD d st).bind txsD).bind srtD with
    | some ys => some (.loc st.length, st ++ [.lst ys])
    | none => none
  | _ => none
section
variable {X : Cx}
theorem bSorted_ok : CallR X (.builtin "sorted") (rGN X bSorted) :=
  CallR.imp cr_sortTx fun xs H Q ⟨ρ, st, ds, d, st', S, r, e, q⟩ => by
    unfold bSorted at e
    split at e
    · split at e
      · rename_i ys e1
        cases e
        obtain ⟨ps, e2, e3⟩ := Option.bind_eq_some_iff.mp e1
        obtain ⟨us, hx, hp⟩ := Option.bind_eq_some_iff.mp e2
        unfold srtD at e3
        split at e3
        · rename_i n
          cases e3
          obtain ⟨x, rfl, r1⟩ := reps1 r
          obtain ⟨a, vs, rfl, h, pr⟩ := lst_sq S r1 hx
          obtain ⟨qs, rfl, pq⟩ := txs_lay pr hp
          have n' : (qs.map (·.1)).Nodup := by rw [← tx_keys pq]; exact n
          have al := tx_all pq
          refine ⟨a, _, kOfV H, rfl, h, fun x hx => ?_, fun x hx y hy e => ?_, fun ys p hs hy hn => ?_⟩
          · obtain ⟨q', hq, rfl⟩ := List.mem_map.mp hx
            obtain ⟨e, t, r', e2, e3⟩ := al q' hq
            exact ⟨t, r', e2, by rw [e]; exact e3⟩
          · obtain ⟨q1, hq1, rfl⟩ := List.mem_map.mp hx
            obtain ⟨q2, hq2, rfl⟩ := List.mem_map.mp hy
            rw [(al q1 hq1).1, (al q2 hq2).1] at e
            rw [nodup_key n' q1 hq1 q2 hq2 e]
          · have := srt_is n' (fun q hq => (al q hq).1) hs hy
            rw [this]
            exact new_lst S (tx_reps (srt_pair pq)) q p hn
        · cases e3
      · cases e
    · cases e
end
end G

/-! G10g: sorted(d.items()), keys texts. -/
namespace G
open PySem L2 PySem.Spec PyProof.Rows
def kH (h : Heap) (v : Value) : Str := match v with
  | .ref a => match h.get? a with
    | some o => match o.data with
      | .seq xs _ => match xs[0]? with
        | some (Value.str y _) => y
        | _ => default
      | _ => default
    | none => default
  | _ => default
theorem kH_of {h : Heap} {v : Value} {y : Str} (x : TxIn h v y) : kH h v = y := by
  obtain ⟨a, o, t, xs, n, rfl, ho, hc, hd, hx⟩ := x
  unfold kH
  simp only [ho, hd, hx]
section
variable {X : Cx}
def rItemsK : V → List V → Hp → VK → Prop := fun x xs H Q => ∃ (a : Addr) (kvs : List (Key × V)), x = .ref a ∧ xs = [] ∧ H a = some (.dK kvs) ∧ ∀ p, H p = none → Q (.ref p) (upd H p (L2.DX.itemsO p a))
theorem mt_itemsK : MtR X "dict.items" rItemsK := by
  intro pins s σ H x xs v us Q I rx rxs h
  obtain ⟨a, kvs, rfl, rfl, ha, q⟩ := h
  cases rx
  cases rxs
  obtain ⟨z, hd, vs, kv, o, es, ep, ho, hx, hdat, _⟩ := dk_of I.hok ha
  refine DT.callItems (es := es) (ep := ep) hd ⟨o, ho, hx, hdat⟩ ?_
  have hf : H s.heap.objs.size = none := I.hok.fresh (Nat.le_refl _)
  exact ⟨.ref s.heap.objs.size, upd H s.heap.objs.size (L2.DX.itemsO s.heap.objs.size a), I.laid (t' := s.toks) (fun b u e => Heap.get?_push_of_some _ e) (Nat.le_refl _) (L2.DX.itemsO_ok (Heap.get?_push_size _ rfl)), rfl, q _ hf⟩
abbrev entS (e : Str × V) : Key × V := (Sum.inr e.1, e.2)
def rSortIK : List V → Hp → VK → Prop := fun vs H Q => ∃ (p a : Addr) (ks : List (Str × V)), vs = [.ref p] ∧ H p = some (L2.DX.itemsO p a) ∧ H a = some (.dK (ks.map entS)) ∧
  ∀ (H' : Hp) (l : Addr) (ts : List Addr), (∀ b o, H b = some o → H' b = some o) → H l = none → H' l = some (.lst (ts.map V.ref)) → Paired (fun (t : Addr) (q : Str × V) => H' t = some (.tup [.str q.1, q.2])) ts (srtT ks) → Q (.ref l) H'
theorem nodup_ents : ∀ {ks : List (Str × V)}, ((ks.map entS).map (·.1)).Nodup → (ks.map (·.1)).Nodup
  | [], _ => .nil
  | k :: ks, h => by
    rw [List.map_cons, List.map_cons, List.nodup_cons] at h
    rw [List.map_cons, List.nodup_cons]
    refine ⟨fun hm => h.1 ?_, nodup_ents h.2⟩
    obtain ⟨q, hq, e⟩ := List.mem_map.mp hm
    exact List.mem_map.mpr ⟨entS q, List.mem_map.mpr ⟨q, hq, rfl⟩, by show Sum.inr q.1 = Sum.inr k.1; rw [e]⟩
theorem paired_fst {κ : Type} {kvs : List (κ × V)} {vs : List (κ × Value)} (h : KV kvs vs) : kvs.map (·.1) = vs.map (·.1) := by
  unfold KV at h
  induction h with
  | nil => rfl
  | cons r _ ih => rw [List.map_cons, List.map_cons, r.1, ih]
theorem zip_fst {α β : Type} : ∀ {as : List α} {ks : List β} {z : α × β}, z ∈ as.zip ks → ∃ j : Nat, as[j]? = some z.1 ∧ ks[j]? = some z.2 := fun {as ks z} h => by
  obtain ⟨j, hj⟩ := List.mem_iff_getElem?.mp h
  exact ⟨j, List.getElem?_zip_eq_some.mp hj⟩
theorem paired_map {α β γ : Type} {F : α → β → Prop} {f : γ → α} {g : γ → β} : ∀ {l : List γ}, (∀ z ∈ l, F (f z) (g z)) → Paired F (l.map f) (l.map g)
  | [], _ => .nil
  | z :: l, h => .cons (h z List.mem_cons_self) (paired_map fun y hy => h y (List.mem_cons_of_mem _ hy))
theorem cr_sortedIK (hc : X.calm = true) : CallR X (.builtin "sorted") rSortIK := by
  intro pins s σ H xs us Q I r h
  obtain ⟨p, a, ks, rfl, hp, ha, q⟩ := h
  obtain rfl := Vals.ref1 r
  have view : s.heap.IsItemsView p a := (show ObjOk X.prog X.w H s.heap p (L2.DX.itemsO p a) from I.hok p _ hp).1
  obtain ⟨z, hd, vs, kv, o, es, ep, ho, hx, hdat, _, prs, hn⟩ := dk_of I.hok ha
  have nk : (ks.map (·.1)).Nodup := nodup_ents (by rw [paired_fst kv]; exact hn)
  have l1 : (ks.map entS).length = vs.length := Paired.length kv
  rw [List.length_map] at l1 z
  have l2 : es.size = vs.length := by rw [← prs.length, Array.length_toList]
  have hh : X.A.handled = none := I.ok.hd hc
  refine DT.sortedI (es := es) (ep := ep) hh view ⟨o, ho, hx, hdat⟩ (by omega) fun h' tk as hk hlt hl hG => ?_
  have lak : as.length = ks.length := by omega
  have nd : as.Nodup := List.Pairwise.imp (fun h => Nat.ne_of_lt h) hG.rise
  -- the pairs that were made
  have pr : ∀ (j : Nat) (b : Addr), as[j]? = some b → ∃ (e : Str × V) (key val : Value) (t : Tok), ks[j]? = some e ∧ key = .str e.1 t ∧ RelV e.2 val ∧ h'.get? b = some { cls := .type "tuple", data := .seq #[key, val] } := by
    intro j b hj
    obtain ⟨en, he, hg⟩ := hG.pairs j b hj
    have hj' : j < ks.length := by rw [← lak]; exact (List.getElem?_eq_some_iff.mp hj).1
    have hkj : ks[j]? = some ks[j] := List.getElem?_eq_getElem hj'
    obtain ⟨u, hu, ru⟩ := kv_get kv (i := j) (k := Sum.inr ks[j].1) (v := ks[j].2) (by rw [List.getElem?_map, hkj]; rfl)
    obtain ⟨g1, g2⟩ := prs.get? (by rw [Array.getElem?_toList]; exact he) hu
    obtain ⟨t, et⟩ := relV_key (show keyIs (Sum.inr ks[j].1) en.key = true from g1)
    exact ⟨ks[j], en.key, en.val, t, hkj, et, by rw [g2]; exact ru, hg⟩
  have hob : (h'.push { cls := .type "list", data := .seq (as.map Value.ref).toArray }).get? h'.objs.size = some (seqObj "list" (as.map Value.ref).toArray 0) := Heap.get?_push_size _ rfl
  have kb : ∀ b o, s.heap.get? b = some o → (h'.push { cls := .type "list", data := .seq (as.map Value.ref).toArray }).get? b = some o := fun b o e => Heap.get?_push_of_some _ (hk b o e)
  have ne0 : ∀ b o, h'.get? b = some o → b ≠ h'.objs.size := fun b o e => Nat.ne_of_lt (Heap.lt_size e)
  generalize hh2 : h'.push { cls := .type "list", data := .seq (as.map Value.ref).toArray } = h2 at hob kb ⊢
  have ka : ∀ b o, h'.get? b = some o → h2.get? b = some o := fun b o e => by rw [← hh2]; exact Heap.get?_push_of_some _ e
  have txin : ∀ (j : Nat) (b : Addr), as[j]? = some b → ∃ e, ks[j]? = some e ∧ TxIn h2 (.ref b) e.1 := fun j b hj => by
    obtain ⟨e, key, val, t, h1, rfl, h3, h4⟩ := pr j b hj
    exact ⟨e, h1, b, _, t, _, 0, rfl, ka _ _ h4, rfl, rfl, rfl⟩
  have at_ : ∀ v ∈ as.map Value.ref, ∃ (j : Nat) (b : Addr) (e : Str × V), v = .ref b ∧ as[j]? = some b ∧ ks[j]? = some e ∧ TxIn h2 v e.1 := by
    intro v hv'
    obtain ⟨b, hb, rfl⟩ := List.mem_map.mp hv'
    obtain ⟨j, hj⟩ := List.mem_iff_getElem?.mp hb
    obtain ⟨e, he, ht⟩ := txin j b hj
    exact ⟨j, b, e, rfl, hj, he, ht⟩
  refine wpAny_call_entry PyProof.Rows.slot_list_sort ⟨_, hob, rfl⟩ PyProof.Rows.entry_list_sort
    (SrtO.list_sort_ord (s := { s with heap := h2, toks := tk }) (swo_ltS (kH h2)) hob (by rw [List.length_map]; omega) (fun h2' => tx_sortable (s := { s with heap := h2, toks := tk }) (k := kH h2) (by omega) (fun v hv => ?_) (fun v hv u hu e => ?_) fun o e => ?_) fun out h1 h2' => ⟨.none, rfl, ?_⟩) (PyProof.Rows.args_list_sort _)
  · obtain ⟨j, b, e, _, _, _, ht⟩ := at_ v hv
    rw [kH_of ht]
    exact ht
  · obtain ⟨j, b, e1, rfl, hj, he1, ht⟩ := at_ v hv
    obtain ⟨j', b', e2, rfl, hj', he2, ht'⟩ := at_ u hu
    rw [kH_of ht, kH_of ht'] at e
    have e12 : e1 = e2 := nodup_key nk e1 (List.mem_of_getElem? he1) e2 (List.mem_of_getElem? he2) e
    have hjl : j < (ks.map (·.1)).length := by rw [List.length_map]; exact (List.getElem?_eq_some_iff.mp he1).1
    have ejj : j = j' := (List.getElem?_inj hjl nk).mp (by rw [List.getElem?_map, List.getElem?_map, he1, he2, e12])
    subst ejj
    rw [hj] at hj'
    cases hj'
    rfl
  · have e' : some o = some (seqObj "list" (as.map Value.ref).toArray 0) := e.symm.trans hob
    cases e'
    intro c
    exact absurd (Value.type.inj c) (by decide)
  · show EP X pins σ Q (.ref h'.objs.size) { s with heap := sortedHeap h2 h'.objs.size (as.map Value.ref) out.toArray, toks := tk }
    obtain ⟨zs, pz, ez⟩ := perm_lift (fun z : Addr × Str × V => Value.ref z.1) h2'.perm (as.zip ks) (by
      rw [show (fun z : Addr × Str × V => Value.ref z.1) = Value.ref ∘ (fun z : Addr × Str × V => z.1) from rfl, ← List.map_map, List.map_fst_zip (by rw [lak]; exact Nat.le_refl _)])
    have idx : ∀ z ∈ zs, ∃ j : Nat, as[j]? = some z.1 ∧ ks[j]? = some z.2 := fun z' hz' => zip_fst (pz.mem_iff.mp hz')
    have hperm : (zs.map (·.2)).Perm ks := by
      have e := pz.map (·.2)
      have m2 : (as.zip ks).map (·.2) = ks := List.map_snd_zip (by rw [lak]; exact Nat.le_refl _)
      rw [m2] at e
      exact e
    have kz : ∀ z ∈ zs, kH h2 (.ref z.1) = z.2.1 := fun z' hz' => by
      obtain ⟨j, j1, j2⟩ := idx z' hz'
      obtain ⟨e, he, ht⟩ := txin j _ j1
      rw [j2] at he
      cases he
      exact kH_of ht
    have nz : ((zs.map (·.2)).map (·.1)).Nodup := ((hperm.map (·.1)).nodup_iff).mpr nk
    have hsort : Asc (zs.map (·.2)) := by
      unfold Asc
      rw [← ez] at h1
      have h1' : zs.Pairwise fun x y => ltS (kH h2 (.ref y.1)) (kH h2 (.ref x.1)) = false := List.pairwise_map.mp h1
      rw [List.map_map] at nz
      have n2 : zs.Pairwise fun a b => a.2.1 ≠ b.2.1 := List.pairwise_map.mp nz
      rw [List.pairwise_map]
      refine List.Pairwise.imp_of_mem (fun {x y} hx hy h => ?_) (h1'.and n2)
      rw [kz x hx, kz y hy] at h
      exact ltS_tot h.1 fun z => h.2 z.symm
    have hsz : zs.map (·.2) = srtT ks := asc_uniq hsort (srtT_asc ks nk) (hperm.trans (srtT_perm ks).symm)
    have kF : ∀ b o, b ≠ h'.objs.size → h2.get? b = some o → (sortedHeap h2 h'.objs.size (as.map Value.ref) out.toArray).get? b = some o := fun b o hb e => (PyProof.Rows.sortedHeap_old hb (Heap.lt_size e)).trans e
    have kS : ∀ b o, s.heap.get? b = some o → (sortedHeap h2 h'.objs.size (as.map Value.ref) out.toArray).get? b = some o := fun b o e => kF b o (ne0 _ _ (hk b o e)) (kb b o e)
    obtain ⟨eF, heF⟩ := PyProof.Rows.sortedHeap_at (vs := as.map Value.ref) (out := out.toArray) hob
    have I1 : Inv X pins σ H { s with heap := sortedHeap h2 h'.objs.size (as.map Value.ref) out.toArray, toks := tk } := I.kept (t' := tk) kS
    have hn0 : H h'.objs.size = none := I.hok.fresh (Nat.le_of_lt hlt)
    have hlen : ((zs.map (·.1)).map V.ref).length ≤ sizeLine := by
      have e := hperm.length_eq
      rw [List.length_map] at e
      rw [List.length_map, List.length_map]
      omega
    have rv : Vals ((zs.map (·.1)).map V.ref) out := by
      rw [← ez, List.map_map]
      exact vals_maps (fun z : Addr × Str × V => V.ref z.1) (fun z => Value.ref z.1) zs fun _ _ => rfl
    have I2 : Inv X pins σ (upd H h'.objs.size (.lst ((zs.map (·.1)).map V.ref))) { s with heap := sortedHeap h2 h'.objs.size (as.map Value.ref) out.toArray, toks := tk } :=
      I1.take (h' := sortedHeap h2 h'.objs.size (as.map Value.ref) out.toArray) (t' := tk) (fun b ob _ e => e) (I.fpOk (Nat.le_of_lt hlt) hn0) ⟨hlen, out, eF, rv, heF⟩
    obtain ⟨H2, I3, g, qt⟩ := L2.DX.takeT (P := fun b vs => ∃ (j : Nat) (e : Str × V), as[j]? = some b ∧ ks[j]? = some e ∧ vs = [.str e.1, e.2]) I as _ I2 nd fun b hb => by
      obtain ⟨j, hj⟩ := List.mem_iff_getElem?.mp hb
      obtain ⟨e, key, val, t, he, hkq, hrv, hg⟩ := pr j b hj
      have hbl : s.heap.objs.size ≤ b := Nat.le_of_lt (hG.above b hb)
      refine ⟨hbl, ?_, [.str e.1, e.2], ⟨j, e, hj, he, rfl⟩, fun H3 => ⟨(by rw [sizeLine_eq]; show 2 ≤ 16777216; omega), [key, val], .cons ⟨t, hkq⟩ (.cons hrv .nil), ⟨_, kF _ _ (ne0 _ _ hg) (ka _ _ hg), rfl, 0, rfl⟩⟩⟩
      rw [upd_ne (ne0 _ _ hg)]
      exact I.hok.fresh hbl
    have gr : ∀ b o, H b = some o → H2 b = some o := fun b o e => g b o (by rw [upd_ne (ne_of_none e hn0)]; exact e)
    refine ⟨.ref h'.objs.size, H2, I3, rfl, q H2 h'.objs.size (zs.map (·.1)) gr hn0 (g _ _ upd_same) ?_⟩
    rw [← hsz]
    refine paired_map fun z' hz' => ?_
    obtain ⟨i, i1, i2⟩ := idx z' hz'
    obtain ⟨vs', ⟨j, e, j1, j2, ev⟩, hH⟩ := qt z'.1 (List.mem_of_getElem? i1)
    have eij : i = j := (List.getElem?_inj (List.getElem?_eq_some_iff.mp i1).1 nd).mp (i1.trans j1.symm)
    subst eij
    have ee : e = z'.2 := Option.some.inj (j2.symm.trans i2)
    rw [ev, ee] at hH
    exact hH
end
end G

/-! G14c: [(x,) + d[x] for x in d]. -/
namespace G
open PySem L2 PySem.Spec PyProof.Rows RZ
def kvI (kvs : List (D × D)) (k : D) : Option D := match dGet kvs k with
  | some (.tup vs) => if (keyD k).isSome = true ∧ vs.isEmpty = false ∧ vs.length + 1 ≤ sizeLine then some (.tup (k :: vs)) else none
  | _ => none
def kvL (kvs : List (D × D)) : List (D × D) → Option (List D)
  | [] => some []
  | p :: l => match kvI kvs p.1, kvL kvs l with
    | some y, some ys => some (y :: ys)
    | _, _ => none
def mKV (i j : Nat) : ME := fun σ st => if j < σ.length then match σ[i]? with
  | some (some (.loc n)) => match dctW st n with
    | some kvs => if kvs.isEmpty = false ∧ kvs.length < sizeLine then match kvL kvs kvs with
        | some ys => .ok (.loc st.length) (st ++ [.lst ys])
        | none => .fail
      else .fail
    | none => .fail
  | _ => .fail else .fail
theorem rep_key {K : PySem.W.Frag} {mg : Str → Option Value} {ρ : List Addr} {H : Hp} {d : D} {k : Key} (h : keyD d = some k) : Rep K mg ρ H d (kV k) := by
  cases d <;> first | (cases h; first | exact .int _ | exact .str _) | cases h
theorem kvL_at {kvs : List (D × D)} : ∀ {l : List (D × D)} {ys : List D}, kvL kvs l = some ys → ys.length = l.length ∧ ∀ (i : Nat) (p : D × D), l[i]? = some p → ∃ y, ys[i]? = some y ∧ kvI kvs p.1 = some y
  | [], _, h => by cases h; exact ⟨rfl, fun i p z => by simp at z⟩
  | q :: l, ys, h => by
    unfold kvL at h
    split at h
    · rename_i y ys' h1 h2
      cases h
      obtain ⟨a, b⟩ := kvL_at h2
      refine ⟨by simp [a], fun i p z => ?_⟩
      cases i with
      | zero => cases z; exact ⟨y, rfl, h1⟩
      | succ i => exact b i p z
    · cases h
/-- d[k] by the key alone -/
def rLk : R2 := fun x y H Q => ∃ a kvs k v, x = .ref a ∧ y = kV k ∧ Rd H a (.dK kvs) ∧ valV kvs k = some v ∧ Q v H
section
variable {X : Cx}
theorem ix_lk (hu : X.A.units + 1 < cLine) : IxR X rLk := by
  intro value slice pins s σ H x y v u Q I rx ry h hs
  obtain ⟨a, kvs, k, w, rfl, rfl, hr, hv, q⟩ := h
  cases rx
  have g : DGet H a (kV k) (some w) := .inl ⟨kvs, k, hr, rfl, hv.symm⟩
  exact tail_any (dict_typeIs I g) (PySem.F.slot_dict_getitem.lookup) (d_getItem hu I g ry fun w' s' I' r' => ⟨w, H, I', r', q⟩) hs
end
section
variable {K : PySem.W.Frag} {mg : Str → Option Value} {ρ : List Addr} {H H' : Hp} {st : Store}
/-- the heap has grown -/
theorem SR.grow (S : SR K mg ρ st H) (g : ∀ b o, H b = some o → H' b = some o) : SR K mg ρ st H' ∧ Stp ρ H ρ H' := by
  have stp : Stp ρ H ρ H' := ⟨⟨[], by simp, by simp⟩, fun a o h _ => g a o h, fun a h => by
    cases e : H a with
    | none => exact absurd e h
    | some o => rw [g a o e]; simp⟩
  refine ⟨⟨S.len, S.nd, fun n c e => ?_⟩, stp⟩
  obtain ⟨a, o, e1, e2, e3⟩ := S.at' n c e
  exact ⟨a, o, e1, g _ _ e2, CellR.stp S stp e3⟩
/-- an item that was made -/
def KvE (K : PySem.W.Frag) (mg : Str → Option Value) (ρ : List Addr) (H : Hp) (Hx : Hp) (y : D) (v : V) : Prop := ∃ (t : Addr) (ds : List D) (ws : List V), y = .tup ds ∧ v = .ref t ∧ Hx t = some (.tup ws) ∧ Reps K mg ρ H ds ws
theorem kve_mono {Hx Hy : Hp} (g : ∀ b o, Hx b = some o → Hy b = some o) {ys : List D} {acc : List V} (h : Paired (KvE K mg ρ H Hx) ys acc) : Paired (KvE K mg ρ H Hy) ys acc :=
  Paired.mapR h fun _ _ ⟨t, ds, ws, e1, e2, e3, e4⟩ => ⟨t, ds, ws, e1, e2, g _ _ e3, e4⟩
theorem Paired.snoc {α β : Type} {F : α → β → Prop} {x : α} {y : β} (h : F x y) : ∀ {l₁ : List α} {l₂ : List β}, Paired F l₁ l₂ → Paired F (l₁ ++ [x]) (l₂ ++ [y])
  | _, _, .nil => .cons h .nil
  | _, _, .cons a t => .cons a (Paired.snoc h t)
theorem Paired.at {α β : Type} {F : α → β → Prop} : ∀ {l₁ : List α} {l₂ : List β} {i : Nat} {y : β}, Paired F l₁ l₂ → l₂[i]? = some y → ∃ x, l₁[i]? = some x ∧ F x y
  | _, _, 0, _, .cons h t, e => by cases e; exact ⟨_, rfl, h⟩
  | _, _, i + 1, _, .cons h t, e => Paired.at (i := i) t e
  | _, _, _, _, .nil, e => by simp at e
end
section
variable {X : Cx} {W : WX} {x d : Str} {p1 p2 p3 p4 p5 p6 p7 p8 pos : Pos} {scope : Scope} {own : List (Str × Nat)} {i j : Nat}
def teKV (X : Cx) (i j : Nat) : TE := tOp (rCatA X.K) (tTup (tCons (tVar j) tNil)) (tOp rLk (tVar i) (tVar j))
theorem kv_step {σ : L2.St} {H : Hp} {Q : VK} {vs : List Nat} (hj : j ∈ vs) (hi : i ∉ vs) (h : tM X W (mKV i j) σ H Q) : tLockE (tLc (iKeys (tVar i)) (gName j) tYes (teKV X i j) vs) σ H Q := by
  obtain ⟨ρ, st, σd, S, E, P⟩ := h
  unfold mKV at P
  split at P
  rotate_left
  · exact P.elim
  rename_i hjl
  rw [E.len] at hjl
  split at P
  · rename_i n hn
    split at P
    · rename_i kvs hd
      split at P
      · rename_i hc
        split at P
        · rename_i ys hy
          obtain ⟨v, hσ, rv⟩ := E.at' i _ hn
          obtain ⟨a, rfl, hp, hl, hw⟩ := dct_lay S rv (dctRW hd)
          obtain ⟨yl, yat⟩ := kvL_at hy
          -- the keys are ints and texts
          have dk : ∃ ps, Rd H a (.dK ps) ∧ PK1 X.K X.mg ρ H kvs ps := by
            rcases hl with z | ⟨ps, h1, h2⟩
            · exact z
            · exfalso
              cases kvs with
              | nil => exact absurd hc.1 (by simp)
              | cons kv r =>
                obtain ⟨y, _, e⟩ := yat 0 kv rfl
                cases h2 with
                | cons z _ =>
                  obtain ⟨⟨ds, e1, _⟩, _⟩ := z
                  unfold kvI at e
                  split at e
                  · split at e
                    · rename_i hk
                      rw [e1] at hk
                      exact absurd hk.1 (by simp [keyD])
                    · cases e
                  · cases e
          obtain ⟨ps, hr, pk⟩ := dk
          have ha : H a = some (.dK ps) := hw hd _ hr (.inl ⟨_, rfl⟩)
          have lp : kvs.length = ps.length := Paired.length pk
          refine ⟨a, .dK ps, ha, trivial, fun od => ⟨.ref a, hσ, a, od, rfl, .inl ⟨ps, upd_same, ?_⟩⟩⟩
          intro D hD
          generalize hL : upd H a (.frz od (.dK ps)) = HL at hD ⊢
          have hLa : HL a = some (.frz od (.dK ps)) := by rw [← hL]; exact upd_same
          have hLo : ∀ b o, b ≠ a → H b = some o → HL b = some o := fun b o ne e => by rw [← hL, upd_ne ne]; exact e
          have hDa : D ≠ a := fun e => by rw [e, hLa] at hD; cases hD
          have hDH : H D = none := by rw [← hL, upd_ne hDa] at hD; exact hD
          refine ⟨fun k m Hx => m = ps.length + 1 - k ∧ k ≤ ps.length ∧ (∀ b o, HL b = some o → Hx b = some o) ∧ ∃ acc, Hx D = some (.lst acc) ∧ Paired (KvE X.K X.mg ρ H Hx) (ys.take k) acc, ⟨_, rfl, Nat.zero_le _, fun b o e => ?_, [], upd_same, ?_⟩, ?_⟩
          · rw [upd_ne (ne_of_none e hD)]; exact e
          · rw [List.take_zero]; exact .nil
          · rintro k m Hx ⟨rfl, hk, g, acc, hacc, pa⟩
            have la : (ys.take k).length = acc.length := Paired.length pa
            by_cases hlast : ps.length ≤ k
            · refine .inl ⟨⟨g _ _ hLa, hlast⟩, g _ _ hLa, ?_⟩
              have ek : k = ps.length := Nat.le_antisymm hk hlast
              have et : ys.take k = ys := List.take_of_length_le (by rw [yl, ek, lp]; exact Nat.le_refl _)
              rw [et] at pa
              -- the heap behind it, first without the new list
              have fin : ∃ Hc : Hp, (∀ b o, H b = some o → Hc b = some o) ∧ Hc D = none ∧ upd Hx a (.dK ps) = upd Hc D (.lst acc) := by
                refine ⟨fun b => if b = D then none else upd Hx a (.dK ps) b, fun b o e => ?_, if_pos rfl, funext fun b => ?_⟩
                · have ne : b ≠ D := fun z => by rw [z, hDH] at e; cases e
                  show (if b = D then none else upd Hx a (.dK ps) b) = _
                  rw [if_neg ne]
                  by_cases q : b = a
                  · rw [q, upd_same, ← ha, ← q]; exact e
                  · rw [upd_ne q]; exact g _ _ (hLo b o q e)
                · by_cases q : b = D
                  · rw [q, upd_same, upd_ne hDa]; exact hacc
                  · rw [upd_ne q]
                    show _ = if b = D then none else upd Hx a (.dK ps) b
                    rw [if_neg q]
              obtain ⟨Hc, gc, hcD, ec⟩ := fin
              obtain ⟨S1, s1⟩ := S.grow gc
              rw [ec]
              have gx : ∀ t ws, Hx t = some (.tup ws) → upd Hc D (.lst acc) t = some (.tup ws) := fun t ws e => by
                rw [← ec]
                have ne : t ≠ a := fun z => by rw [z, g _ _ hLa] at e; cases e
                rw [upd_ne ne]; exact e
              have stp : Stp ρ Hc (ρ ++ [D]) (upd Hc D (.lst acc)) := by
                refine ⟨⟨[D], rfl, fun x hx => by simp at hx; rw [hx]; exact hcD⟩, fun x u hx _ => ?_, fun x hx => ?_⟩
                · rw [upd_ne (ne_of_none hx hcD)]; exact hx
                · by_cases e : x = D
                  · rw [e, upd_same]; simp
                  · rw [upd_ne e]; exact hx
              have reps : ∀ {zs : List G.D} {ac : List V}, Paired (KvE X.K X.mg ρ H Hx) zs ac → Reps X.K X.mg (ρ ++ [D]) (upd Hc D (.lst acc)) zs ac := fun {zs ac} z => by
                induction z with
                | nil => exact .nil
                | cons h _ ih =>
                  obtain ⟨t, ds, ws, rfl, rfl, e3, e4⟩ := h
                  exact .cons (.tup (gx _ _ e3) (Reps.stp S1 stp (Reps.stp S s1 e4))) ih
              obtain ⟨S2, s2⟩ := S1.new (c := .lst ys) (o := .lst acc) hcD ⟨acc, rfl, reps pa⟩
              exact P (.ref D) _ (ρ ++ [D]) (s1.trans s2) S2 (.loc (by rw [← S.len]; simp))
            · have hlt : k < ps.length := Nat.lt_of_not_le hlast
              refine .inr ⟨⟨g _ _ hLa, hlt⟩, fun H' => (∀ b o, HL b = some o → H' b = some o) ∧ ∃ acc, H' D = some (.lst acc) ∧ Paired (KvE X.K X.mg ρ H H') (ys.take (k + 1)) acc, fun H' z => ⟨ps.length + 1 - (k + 1), by omega, rfl, hlt, z.1, z.2⟩, fun xx H' hyl => ?_⟩
              obtain ⟨rfl, kk, vv, hkv, rfl⟩ := hyl
              obtain ⟨kd, hkd, ek, er⟩ := Paired.at pk hkv
              obtain ⟨y, hyk, ey⟩ := yat k kd hkd
              -- the dict's item
              have hg := PKg.get (kOf_key ek) pk.g
              unfold kvI at ey
              split at ey
              · rename_i tv hget
                split at ey
                · rename_i hcc
                  cases ey
                  rw [hget] at hg
                  obtain ⟨wv, hval, rw'⟩ := hg
                  obtain ⟨bt, ws, rfl, hbt, rws⟩ := tup_at rw'
                  have hbL : H' bt = some (.tup ws) := g _ _ (hLo bt (.tup ws) (fun z => by rw [z, ha] at hbt; cases hbt) hbt)
                  have hj' : ((L2.wipe σ vs).set j (some (kV kk)))[j]? = some (some (kV kk)) := List.getElem?_set_self (by rw [wipe_length]; exact hjl)
                  have hi' : ((L2.wipe σ vs).set j (some (kV kk)))[i]? = some (some (.ref a)) := by
                    rw [List.getElem?_set_ne (fun z => hi (by rw [← z]; exact hj)), wipe_out hi]
                    exact hσ
                  refine ⟨by rw [wipe_set hj, wipe_wipe], ?_⟩
                  show teKV X i j ((L2.wipe σ vs).set j (some (kV kk))) H' _
                  refine ⟨kV kk, hj', ?_⟩
                  refine ⟨by show 1 ≤ sizeLine; decide, fun p hp => ⟨.ref a, hi', kV kk, hj', a, ps, kk, .ref bt, rfl, rfl, ?_, hval, ?_⟩⟩
                  · exact .inr ⟨od, by rw [upd_ne (ne_of_none (g _ _ hLa) hp)]; exact g _ _ hLa⟩
                  · have hbp : upd H' p (.tup [kV kk]) bt = some (.tup ws) := by rw [upd_ne (ne_of_none hbL hp)]; exact hbL
                    have wne : ws ≠ [] := fun z => by
                      subst z
                      cases rws
                      exact absurd hcc.2.1 (by simp)
                    refine ⟨p, bt, [kV kk], ws, rfl, rfl, .inl (.inl upd_same), .inl (.inl hbp), ?_, (fun z => nomatch z), (fun _ z => absurd z wne), fun _ _ p2 hp2 => ?_⟩
                    · have := hcc.2.2
                      rw [← rws.length]
                      show 1 + _ ≤ _
                      omega
                    · have g2 : ∀ b o, H' b = some o → upd (upd H' p (.tup [kV kk])) p2 (.tup (kV kk :: ws)) b = some o := fun b o e => by
                        have e1 : upd H' p (.tup [kV kk]) b = some o := by rw [upd_ne (ne_of_none e hp)]; exact e
                        rw [upd_ne (ne_of_none e1 hp2)]; exact e1
                      refine ⟨acc, g2 _ _ hacc, ?_, fun b o e => ?_, acc ++ [.ref p2], upd_same, ?_⟩
                      · have := hc.2
                        rw [← la, List.length_take]
                        omega
                      · have ne : b ≠ D := fun z => by rw [z, hD] at e; cases e
                        rw [upd_ne ne]
                        exact g2 _ _ (g _ _ e)
                      · have g3 : ∀ t us, upd (upd H' p (.tup [kV kk])) p2 (.tup (kV kk :: ws)) t = some (.tup us) → upd (upd (upd H' p (.tup [kV kk])) p2 (.tup (kV kk :: ws))) D (.lst (acc ++ [.ref p2])) t = some (.tup us) := fun t us e => by
                          have ne : t ≠ D := fun z => by rw [z, g2 _ _ hacc] at e; cases e
                          rw [upd_ne ne]; exact e
                        rw [List.take_add_one, hyk]
                        refine Paired.snoc ⟨p2, _, _, rfl, rfl, g3 _ _ upd_same, .cons ?_ rws⟩ (Paired.mapR pa fun _ _ ⟨t, ds, us, e1, e2, e3, e4⟩ => ⟨t, ds, us, e1, e2, g3 _ _ (g2 _ _ e3), e4⟩)
                        exact rep_key ek
                · cases ey
              · cases ey
        · exact P.elim
      · exact P.elim
    · exact P.elim
  · exact P.elim
theorem ge_kv {k : Nat} (hc : X.calm = true) (hN : X.N.Nodup) (hu : X.A.units + 1 < cLine) (ok : BlkOk X.N X.env.scope scope own) (hj : j ∈ own.map (·.2)) (hi : i ∉ own.map (·.2)) (hd : PE X (.Name d p8) (tVar i))
    (ht : ∀ (s : Shared) (H : Hp) (C : Addr) (cl : List (Str × Addr)) (fp : List Addr), PG (X.blk s H scope (compEnvC scope cl C X.env) fp) (.Name x p7) (gName j))
    (hx : ∀ (s : Shared) (H : Hp) (C : Addr) (cl : List (Str × Addr)) (fp : List Addr) (p : Pos), PE (X.blk s H scope (compEnvC scope cl C X.env) fp) (.Name x p) (tVar j))
    (hd2 : ∀ (s : Shared) (H : Hp) (C : Addr) (cl : List (Str × Addr)) (fp : List Addr), PE (X.blk s H scope (compEnvC scope cl C X.env) fp) (.Name d p3) (tVar i)) :
    GE X W (.ListComp (.BinOp (.Tuple [.Name x p1] k p2) .Add (.Subscript (.Name d p3) (.Name x p4) p5) p6) [⟨.Name x p7, .Name d p8, [], 0⟩] scope pos) (mKV i j) :=
  PE.imp (pe_lock (pe_lc hc hN (pi_keys hd) ok ht (fun _ _ _ _ _ => pts_nil) (fun s H C cl fp => pe_op op_catA (pe_tup (pa_cons (hx s H C cl fp p1) pa_nil rfl)) (pe_ix (ix_lk hu) (hd2 s H C cl fp) (hx s H C cl fp p4) fun _ _ => rfl)) (fun _ => rfl))) fun σ H Q h => kv_step hj hi h
end
end G

/-! G10h: sorted(d.items()), by data. -/
namespace G
open PySem L2 PySem.Spec PyProof.Rows
def txkD : List (D × D) → Option (List (Str × D))
  | [] => some []
  | (.str s, d) :: l => match txkD l with
    | some r => some ((s, d) :: r)
    | none => none
  | _ :: _ => none
def prSD (q : Str × D) : D := .tup [.str q.1, q.2]
def mSIt (mo : ME) : ME := fun σ st => (mo σ st).bind fun d st1 => if tyD d st1 = some .dct then match d with
    | .loc n => match dctW st1 n with
      | some kvs => if kvs.isEmpty = false then match txkD kvs with
          | some ks => .ok (.loc st1.length) (st1 ++ [.lst ((srtT ks).map prSD)])
          | none => .fail
        else .fail
      | none => .fail
    | _ => .fail
  else .fail
section
variable {K : PySem.W.Frag} {mg : Str → Option Value} {ρ : List Addr} {H : Hp} {st : Store}
theorem txk_lay : ∀ {kvs : List (D × D)} {ps : List (Key × V)} {ks : List (Str × D)}, PK1 K mg ρ H kvs ps → txkD kvs = some ks → ∃ qs : List (Str × V), ps = qs.map entS ∧ Paired (fun (p : Str × D) (q : Str × V) => p.1 = q.1 ∧ Rep K mg ρ H p.2 q.2) ks qs
  | [], _, _, .nil, e => by cases e; exact ⟨[], rfl, .nil⟩
  | (k, d) :: l, _, _, .cons (b := q) h t, e => by
    cases k with
    | str s =>
      unfold txkD at e
      split at e
      · rename_i r e1
        cases e
        obtain ⟨qs, rfl, z⟩ := txk_lay t e1
        obtain ⟨k', v⟩ := q
        have h1 : (some (Sum.inr s) : Option Key) = some k' := h.1
        cases h1
        exact ⟨(s, v) :: qs, rfl, .cons ⟨rfl, h.2⟩ z⟩
      · cases e
    | _ => cases e
abbrev KyP (K : PySem.W.Frag) (mg : Str → Option Value) (ρ : List Addr) (H : Hp) (p : Str × D) (q : Str × V) : Prop := p.1 = q.1 ∧ Rep K mg ρ H p.2 q.2
theorem ins_pair2 {p : Str × D} {q : Str × V} (h : KyP K mg ρ H p q) : ∀ {ps : List (Str × D)} {qs : List (Str × V)}, Paired (KyP K mg ρ H) ps qs → Paired (KyP K mg ρ H) (insT p ps) (insT q qs)
  | _, _, .nil => .cons h .nil
  | p' :: _, q' :: _, .cons h' t => by
    unfold insT
    rw [h.1, h'.1]
    split
    · exact .cons h (.cons h' t)
    · exact .cons h' (ins_pair2 h t)
theorem srt_pair2 : ∀ {ps : List (Str × D)} {qs : List (Str × V)}, Paired (KyP K mg ρ H) ps qs → Paired (KyP K mg ρ H) (srtT ps) (srtT qs)
  | _, _, .nil => .nil
  | _, _, .cons h t => ins_pair2 h (srt_pair2 t)
end
section
variable {X : Cx} {W : WX} {o : Expr} {mo : ME} {p apos cpos pos : Pos}
theorem ge_sortItems (hc : X.calm = true) (hg : Gl X "sorted") (hm : X.mg "sorted" = none) (ho : GE X W o mo) (hbase : attributeBase o "items" X.env (eval o X.env) = eval o X.env) (hline : (apos.endLine == cpos.line) = true) :
    GE X W (.Call (.Name "sorted" p) [.Call (.Attribute o "items" apos) [] [] cpos] [] pos) (mSIt mo) :=
  PE.imp (pe_callB (cr_sortedIK hc) hg hm (by decide +kernel) (pa_cons (pe_bm0 PySem.F.plainAttrs_dict PySem.F.slot_dict_items F.type_dict_items mt_itemsK ho hbase hline) pa_nil rfl) (by decide) (by decide) rfl rfl) fun σ H Q ⟨ρ, st, σd, S, E, P⟩ => tR.bnd S E P fun x H1 dx st1 ρ1 _ _ S1 E1 R1 P1 => by
    split at P1
    · rename_i h
      split at P1
      · rename_i n
        split at P1
        · rename_i kvs hd
          split at P1
          · rename_i hne
            split at P1
            · rename_i ks hk
              obtain ⟨a, rfl, hp, hl, hw⟩ := dct_lay S1 R1 (dctRW hd)
              have dk : ∃ ps, Rd H1 a (.dK ps) ∧ PK1 X.K X.mg ρ1 H1 kvs ps := by
                rcases hl with z | ⟨ps, h1, h2⟩
                · exact z
                · exfalso
                  cases kvs with
                  | nil => exact absurd hne (by simp)
                  | cons kv r =>
                    obtain ⟨k, v⟩ := kv
                    cases h2 with
                    | cons z _ =>
                      obtain ⟨⟨ds, e1, _⟩, _⟩ := z
                      have e1 : k = .tup ds := e1
                      subst e1
                      unfold txkD at hk
                      cases hk
              obtain ⟨ps, hr, pk⟩ := dk
              have ha : H1 a = some (.dK ps) := hw hd _ hr (.inl ⟨_, rfl⟩)
              obtain ⟨qs, rfl, pq⟩ := txk_lay pk hk
              refine ⟨tyV_of S1 R1 h (.inr (.inr rfl)), a, _, rfl, rfl, ha, fun pv hpv => ⟨pv, a, qs, rfl, upd_same, ?_, fun H' l ts g hl0 hl1 pt => ?_⟩⟩
              · rw [upd_ne (ne_of_none ha hpv)]; exact ha
              · have g1 : ∀ b o, H1 b = some o → H' b = some o := fun b o e => g b o (by rw [upd_ne (ne_of_none e hpv)]; exact e)
                have hl2 : H1 l = none := by
                  by_cases q : l = pv
                  · rw [q]; exact hpv
                  · rw [upd_ne q] at hl0; exact hl0
                -- the heap without the new list
                have fin : ∃ Hc : Hp, (∀ b o, H1 b = some o → Hc b = some o) ∧ Hc l = none ∧ H' = upd Hc l (.lst (ts.map V.ref)) := by
                  refine ⟨fun b => if b = l then none else H' b, fun b o e => ?_, if_pos rfl, funext fun b => ?_⟩
                  · have ne : b ≠ l := fun z => by rw [z, hl2] at e; cases e
                    show (if b = l then none else H' b) = _
                    rw [if_neg ne]; exact g1 _ _ e
                  · by_cases q : b = l
                    · rw [q, upd_same]; exact hl1
                    · rw [upd_ne q]
                      show _ = if b = l then none else H' b
                      rw [if_neg q]
                obtain ⟨Hc, gc, hcl, ec⟩ := fin
                obtain ⟨S2, s2⟩ := S1.grow gc
                have stp : Stp ρ1 Hc (ρ1 ++ [l]) (upd Hc l (.lst (ts.map V.ref))) := by
                  refine ⟨⟨[l], rfl, fun x hx => by simp at hx; rw [hx]; exact hcl⟩, fun x u hx _ => ?_, fun x hx => ?_⟩
                  · rw [upd_ne (ne_of_none hx hcl)]; exact hx
                  · by_cases e : x = l
                    · rw [e, upd_same]; simp
                    · rw [upd_ne e]; exact hx
                have reps : ∀ {zs : List (Str × D)} {qs : List (Str × V)} {ts : List Addr}, Paired (KyP X.K X.mg ρ1 H1) zs qs → Paired (fun (t : Addr) (q : Str × V) => H' t = some (.tup [.str q.1, q.2])) ts qs → Reps X.K X.mg (ρ1 ++ [l]) H' (zs.map prSD) (ts.map V.ref) := fun {zs qs ts} z => by
                  intro y
                  induction z generalizing ts with
                  | nil => cases y; exact .nil
                  | cons h _ ih =>
                    cases y with
                    | cons h2 t2 =>
                      refine .cons ?_ (ih t2)
                      unfold prSD
                      rw [h.1]
                      refine .tup h2 (.cons (.str _) (.cons ?_ .nil))
                      rw [ec]
                      exact Rep.stp S2 stp (Rep.stp S1 s2 h.2)
                obtain ⟨S3, s3⟩ := S2.new (c := .lst ((srtT ks).map prSD)) (o := .lst (ts.map V.ref)) hcl ⟨_, rfl, by rw [← ec]; exact reps (srt_pair2 pq) pt⟩
                rw [ec]
                exact P1 (.ref l) _ (ρ1 ++ [l]) (s2.trans s3) S3 (.loc (by rw [← S1.len]; simp))
            · exact P1.elim
          · exact P1.elim
        · exact P1.elim
      · exact P1.elim
    · exact P1.elim
end
end G

/-! G18: the reader: text to runs, and that it is sound. -/
namespace G
open PySem L2 PySem.Spec PyProof.Rows RZ

/-! ### options -/
def ap1 {α β : Type} (f : α → β) (a : Option α) : Option β := match a with
  | some a => some (f a)
  | none => none
def ap2 {α β γ : Type} (f : α → β → γ) (a : Option α) (b : Option β) : Option γ := match a with
  | some a => match b with
    | some b => some (f a b)
    | none => none
  | none => none
def ap3 {α β γ δ : Type} (f : α → β → γ → δ) (a : Option α) (b : Option β) (c : Option γ) : Option δ := match a with
  | some a => match b with
    | some b => match c with
      | some c => some (f a b c)
      | none => none
    | none => none
  | none => none
def gd {α : Type} (b : Bool) (a : Option α) : Option α := match b with
  | true => a
  | false => none
theorem ap1_eq {α β : Type} {f : α → β} {a : Option α} {m : β} (h : ap1 f a = some m) : ∃ x, a = some x ∧ m = f x := by
  cases a with
  | none => cases h
  | some x => cases h; exact ⟨x, rfl, rfl⟩
theorem ap2_eq {α β γ : Type} {f : α → β → γ} {a : Option α} {b : Option β} {m : γ} (h : ap2 f a b = some m) : ∃ x y, a = some x ∧ b = some y ∧ m = f x y := by
  cases a with
  | none => cases h
  | some x => cases b with
    | none => cases h
    | some y => cases h; exact ⟨x, y, rfl, rfl, rfl⟩
theorem ap3_eq {α β γ δ : Type} {f : α → β → γ → δ} {a : Option α} {b : Option β} {c : Option γ} {m : δ} (h : ap3 f a b c = some m) : ∃ x y z, a = some x ∧ b = some y ∧ c = some z ∧ m = f x y z := by
  cases a with
  | none => cases h
  | some x => cases b with
    | none => cases h
    | some y => cases c with
      | none => cases h
      | some z => cases h; exact ⟨x, y, z, rfl, rfl, rfl, rfl⟩
theorem gd_eq {α : Type} {b : Bool} {a : Option α} {m : α} (h : gd b a = some m) : b = true ∧ a = some m := by
  cases b with
  | true => exact ⟨rfl, h⟩
  | false => cases h

/-! ### what the reader knows -/
structure FnE where
  ps : List Str
  pats : List (Nat × List Str × List Nat)
structure Ctx where
  N : List Str
  sc : Scope
  cells : Option Scope
  k : Nat
  blt : List Str
  fns : List (Str × FnE)
  cons : List (Str × D)
  call : Str → List D → Store → R D
structure Known (X : Cx) (c : Ctx) (x : Str) (fe : FnE) : Prop where
  ex : ∃ f fd, FnG X.prog X.w X.K X.mg X.base c.k f fd fe.ps (spG X.K X.mg fe.ps.length (c.call x)) ∧ X.mg x = some (.ref f) ∧ PySem.W.keepIn X.K (.ref f) = true ∧ Binds X.K fd fe.ps [] ∧
    ∀ n ks perm, (n, ks, perm) ∈ fe.pats → perm.length = fe.ps.length ∧ BindP X.K fd fe.ps n ks perm
structure Tk (X : Cx) (W : WX) (c : Ctx) : Prop where
  calm : X.calm = true
  N : X.N = c.N
  nd : c.N.Nodup
  sc : X.env.scope = c.sc
  kind : c.sc.kind = .function
  guards : X.A.guards = some []
  room : Room c.k X.A
  takes : Takes X W
  fn : match c.cells with
    | none => ∀ x, X.fn x = true
    | some s => ∀ x, X.fn x = (s.names.lookup x == some .cell)
  own : c.cells = none → PassesOwn (model X.prog X.w) X.A X.env X.xe
  blt : ∀ x, c.blt.contains x = true → X.mg x = none
  fns : ∀ x fe, c.fns.lookup x = some fe → Known X c x fe
  cons : ∀ x d, c.cons.lookup x = some d → ∃ v u, X.mg x = some u ∧ RelV v u ∧ ∀ ρ H, Rep X.K X.mg ρ H d v
def slotOf : List Str → Str → Option Nat
  | [], _ => none
  | y :: r, x => if y = x then some 0 else ap1 (· + 1) (slotOf r x)
theorem slotOf_ok : ∀ {N : List Str} {x : Str} {i : Nat}, slotOf N x = some i → N[i]? = some x
  | y :: r, x, i, h => by
    unfold slotOf at h
    split at h
    · rename_i e
      cases h
      simp [e]
    · obtain ⟨j, h1, rfl⟩ := ap1_eq h
      exact slotOf_ok (N := r) h1
/-- the runs that the reader has found for smaller parts -/
structure Ev where
  e : Expr → Option ME
  t : Expr → Option MT
  w : Expr → Option MT
  a : List Expr → Option MA
  o : Option Expr → Option MO
  i : Expr → Expr → Option MI
  g : Expr → Option MG
  gs : List Expr → Option MGs
  kw : List Keyword → Option MA
  s : Stmt → Option SS
  b : List Stmt → Option SS
structure Snd (X : Cx) (W : WX) (v : Ev) : Prop where
  e : ∀ e m, v.e e = some m → GE X W e m
  t : ∀ e m, v.t e = some m → GT X W e m
  w : ∀ e m, v.w e = some m → GW X W e m
  a : ∀ e m, v.a e = some m → GA X W e m
  o : ∀ e m, v.o e = some m → GO X W e m
  i : ∀ g e m, v.i g e = some m → GI X W g e m
  g : ∀ e m, v.g e = some m → GG X W e m
  gs : ∀ e m, v.gs e = some m → GGs X W e m
  kw : ∀ e m, v.kw e = some m → PK X e (tMA X W m)
  s : ∀ e m, v.s e = some m → HS X W e m
  b : ∀ e m, v.b e = some m → HSs X W e m
def Sound (r : Ctx → Ev) : Prop := ∀ (c : Ctx) (X : Cx) (W : WX), Tk X W c → Snd X W (r c)

section
variable {X : Cx} {W : WX} {c : Ctx}
theorem Tk.units (T : Tk X W c) : X.A.units + 200 < cLine := by have := T.room.un; omega
theorem Tk.gl (T : Tk X W c) {x : Str} (h : c.sc.names.lookup x = some .globalImplicit) : Gl X x := by
  show X.env.scope.names.lookup x = _
  rw [T.sc]; exact h
theorem Tk.fnl (T : Tk X W c) {x : Str} (h : (match c.cells with | none => true | some s => c.sc.names.lookup x == some .local || s.names.lookup x == some .cell) = true) : X.fn x = true ∨ X.env.scope.names.lookup x = some .local := by
  have := T.fn
  split at h
  · rename_i e
    rw [e] at this
    exact .inl (this x)
  · rename_i s e
    rw [e] at this
    rcases Bool.or_eq_true_iff.mp h with h | h
    · right; rw [T.sc]; simpa using h
    · left; rw [this]; exact h

/-! ### names, constants -/
def special (x : Str) : Bool := (x == ("__debug__" : Str)) || (x == ("__classdict__" : Str)) || (x == ("__name__" : Str))
theorem special_no {x : Str} (h : special x = false) : (x == ("__debug__" : Str)) = false ∧ (x == ("__classdict__" : Str)) = false ∧ x ≠ ("__name__" : Str) := by
  unfold special at h
  simp only [Bool.or_eq_false_iff] at h
  exact ⟨h.1.1, h.1.2, by simpa using h.2⟩
def tyOf (x : Str) : Option Ty :=
  if x = "str" then some .str else if x = "int" then some .int else if x = "tuple" then some .tup else if x = "list" then some .lst else if x = "dict" then some .dct else if x = "bool" then some .bl else if x = "set" then some .set else none
theorem tyOf_ok {x : Str} {t : Ty} (h : tyOf x = some t) : bootBuiltins x = some (.type t.nm) := by
  unfold tyOf at h
  repeat' split at h
  all_goals first
    | (rename_i e; subst e; cases h; decide +kernel)
    | cases h
def rName (c : Ctx) (x : Str) : Option ME := gd (!special x) (match c.sc.names.lookup x with
  | some .local => ap1 mVar (slotOf c.N x)
  | some .cell => ap1 mVar (slotOf c.N x)
  | some .free => ap1 mVar (slotOf c.N x)
  | some .globalImplicit => match c.fns.lookup x with
    | some _ => some (mC (.fn x))
    | none => match c.cons.lookup x with
      | some d => some (mC d)
      | none => gd (c.blt.contains x) (ap1 (fun t => mC (.ty t)) (tyOf x))
  | _ => none)
theorem rName_ok (T : Tk X W c) {x : Str} {m : ME} {pos : Pos} (h : rName c x = some m) : GE X W (.Name x pos) m := by
  obtain ⟨h0, h⟩ := gd_eq h
  obtain ⟨d1, d2, d3⟩ := special_no (x := x) (by simpa using h0)
  have var : ∀ k, c.sc.names.lookup x = some k → (k = .local ∨ k = .cell ∨ k = .free) → ap1 mVar (slotOf c.N x) = some m → GE X W (.Name x pos) m := fun k hk hk' h => by
    obtain ⟨i, hi, rfl⟩ := ap1_eq h
    refine ge_var (pe_var (by rw [T.N]; exact slotOf_ok hi) ?_ d1 d2)
    unfold Vis
    rw [T.sc, hk]
    rcases hk' with rfl | rfl | rfl
    · exact .inl rfl
    · exact .inr (.inl rfl)
    · exact .inr (.inr rfl)
  split at h
  · rename_i hk; exact var _ hk (.inl rfl) h
  · rename_i hk; exact var _ hk (.inr (.inl rfl)) h
  · rename_i hk; exact var _ hk (.inr (.inr rfl)) h
  · rename_i hk
    split at h
    · rename_i fe hf
      cases h
      obtain ⟨f, fd, _, hm, _⟩ := (T.fns x fe hf).ex
      exact ge_const (v := .ref f) (pe_glob (T.gl hk) hm rfl d1) fun ρ H => .fn hm
    · split at h
      · rename_i d hd
        cases h
        obtain ⟨v, u, hm, hv, hr⟩ := T.cons x d hd
        exact ge_const (v := v) (pe_glob (T.gl hk) hm hv d1) hr
      obtain ⟨hb, h⟩ := gd_eq h
      obtain ⟨t, ht, rfl⟩ := ap1_eq h
      exact ge_const (v := .ty t.nm) (pe_bltn (T.gl hk) (T.blt x hb) (tyOf_ok ht) rfl d3 d1) fun ρ H => .ty t
  · cases h
def rConst : Const → Option ME
  | .none => some (mC .non)
  | .bool b => some (mC (.bl b))
  | .int i => some (mC (.int i))
  | .str s => some (mC (.str s))
  | _ => none
theorem rConst_ok {v : Const} {k : Nat} {pos : Pos} {m : ME} (h : rConst v = some m) : GE X W (.Constant v k pos) m := by
  cases v with
  | none => cases h; exact ge_const pe_non fun _ _ => .non
  | bool b => cases h; exact ge_const pe_bl fun _ _ => .bl b
  | int i => cases h; exact ge_const pe_int fun _ _ => .int i
  | str s => cases h; exact ge_const pe_str fun _ _ => .str s
  | _ => cases h

/-! ### operators -/
def rBin : Operator → Option Op2
  | .Add => some opAdd
  | .Sub => some opSub
  | .Mult => some opMul
  | .Mod => some opMod
  | .FloorDiv => some opDiv
  | .Pow => some opPow
  | _ => none
theorem rBin_ok {op : Operator} {f : Op2} (h : rBin op = some f) : OpR X (binaryOp op) (rG2 X f) := by
  cases op <;> cases h
  · exact opAdd_ok
  · exact opSub_ok
  · exact opMul_ok
  · exact opMod_ok
  · exact opPow_ok
  · exact opDiv_ok
def rCmp : CmpOp → Op2
  | .Eq => opEq false
  | .NotEq => opEq true
  | .Lt => opLt
  | .LtE => opLe
  | .Gt => opGt
  | .GtE => opGe
  | .Is => opIsN false
  | .IsNot => opIsN true
  | .In => opIn false
  | .NotIn => opIn true
theorem rCmp_ok (T : Tk X W c) (op : CmpOp) : OpR X (compareOp op) (rG2 X (rCmp op)) := by
  have hu := T.units
  cases op
  · exact opEq_ok (by omega)
  · exact opNe_ok (by omega)
  · exact opLt_ok
  · exact opLe_ok
  · exact opGt_ok
  · exact opGe_ok
  · exact opIsN_ok
  · exact opIsNot_ok
  · exact opIn_ok (by omega)
  · exact opNotIn_ok (by omega)
/-- a op b op2 c -/
def mChain (f g : Op2) (ma mb mc : ME) : ME := fun σ st => (ma σ st).bind fun x st1 => (mb σ st1).bind fun y st2 => match f x y st2 with
  | some (.bl true, st3) => (mc σ st3).bind fun z st4 => lift (g y z st4)
  | some (.bl false, st3) => .ok (.bl false) st3
  | _ => .fail
section
variable {a b d : Expr} {ma mb md : ME} {pos : Pos}
theorem tChain_of {f g : Op2} {σ : L2.St} {H : Hp} {Q : VK} (h : tM X W (mChain f g ma mb md) σ H Q) : tChain (rG2 X f) (rG2 X g) (tM X W ma) (tM X W mb) (tM X W md) σ H Q := by
  obtain ⟨ρ, st, σd, S, E, P⟩ := h
  refine tR.bnd S E P fun x H1 dx st1 ρ1 _ _ S1 E1 R1 P1 => tR.bnd S1 E1 P1 fun y H2 dy st2 ρ2 _ a2 S2 E2 R2 P2 => ?_
  split at P2
  · rename_i st3 e3
    refine ⟨ρ2, st2, dx, dy, _, st3, S2, R1.stp S1 a2, R2, e3, fun v H3 ρ3 a3 S3 r3 => ?_⟩
    cases r3
    refine ⟨true, rfl, ?_⟩
    rw [if_pos rfl]
    have E3 := E2.stp S2 a3
    refine tR.bnd S3 E3 (Post.stp P2 a3) fun z H4 dz st4 ρ4 _ a4 S4 E4 R4 P4 => ?_
    obtain ⟨d, st', e, q⟩ := P4.lift
    exact ⟨ρ4, st4, dy, dz, d, st', S4, (R2.stp S2 a3).stp S3 a4, R4, e, q⟩
  · rename_i st3 e3
    refine ⟨ρ2, st2, dx, dy, _, st3, S2, R1.stp S1 a2, R2, e3, fun v H3 ρ3 a3 S3 r3 => ?_⟩
    cases r3
    refine ⟨false, rfl, ?_⟩
    rw [if_neg (by decide)]
    exact P2 (.bl false) H3 ρ3 a3 S3 (.bl false)
  · exact P2.elim
theorem ge_chain {op op2 : CmpOp} {f g : Op2} (hf : OpR X (compareOp op) (rG2 X f)) (hg : OpR X (compareOp op2) (rG2 X g)) (ha : GE X W a ma) (hb : GE X W b mb) (hd : GE X W d md) (hm : lastMarks [op, op2] [b, d] = false) :
    GE X W (.Compare a [op, op2] [b, d] pos) (mChain f g ma mb md) := PE.imp (pe_chain hf hg ha hb hd hm) fun _ _ _ h => tChain_of h
theorem gt_chain {op op2 : CmpOp} {f g : Op2} (hf : OpR X (compareOp op) (rG2 X f)) (hg : OpR X (compareOp op2) (rG2 X g)) (ha : GE X W a ma) (hb : GE X W b mb) (hd : GE X W d md) (hm : lastMarks [op, op2] [b, d] = false) :
    GT X W (.Compare a [op, op2] [b, d] pos) (mBl (mChain f g ma mb md)) := PT.imp (pt_chain hf hg ha hb hd hm) fun _ _ _ h => tChain_of (tM_bl h)
end
/-! ### built-in functions and methods -/
def bltFn0 (x : Str) : Option OpN :=
  if x = "len" then some bLen else if x = "abs" then some bAbs else if x = "int" then some bInt else if x = "max" then some bMax2 else if x = "min" then some bMin2 else if x = "all" then some bAll else if x = "any" then some bAny
  else if x = "list" then some bList else if x = "tuple" then some bTuple else if x = "isinstance" then some bIsi else if x = "repr" then some bRepr else if x = "divmod" then some bDivmod else none
theorem bltFn0_ok (T : Tk X W c) {x : Str} {g : OpN} {e : Expr} {es : List Expr} {ra : MA} {p pos : Pos} (h : bltFn0 x = some g) (hk : c.sc.names.lookup x = some .globalImplicit) (hb : c.blt.contains x = true) (hp : (e :: es).all plainE = true) (ha : GA X W (e :: es) ra) :
    GE X W (.Call (.Name x p) (e :: es) [] pos) (mCB g ra) := by
  have hg := T.gl hk
  have hm := T.blt x hb
  rw [List.all_cons, Bool.and_eq_true] at hp
  have s1 := star_cons (env := X.env) (es := es) hp.1
  have s2 := star_back (env := X.env) (pos := pos) hp.2
  have hu := T.units
  unfold bltFn0 at h
  repeat' split at h
  all_goals first
    | (rename_i e; subst e; cases h)
    | (cases h; done)
  · exact ge_callB bLen_ok hg hm (by decide +kernel) ha (by decide) (by decide) s1 s2
  · exact ge_callB bAbs_ok hg hm (by decide +kernel) ha (by decide) (by decide) s1 s2
  · exact ge_callTy bInt_ok hg hm (by decide +kernel) ha (by decide) (by decide) s1 s2
  · exact ge_callB (bMax2_ok T.calm) hg hm (by decide +kernel) ha (by decide) (by decide) s1 s2
  · exact ge_callB (bMin2_ok T.calm) hg hm (by decide +kernel) ha (by decide) (by decide) s1 s2
  · exact ge_callB (bAll_ok T.calm) hg hm (by decide +kernel) ha (by decide) (by decide) s1 s2
  · exact ge_callB (bAny_ok T.calm) hg hm (by decide +kernel) ha (by decide) (by decide) s1 s2
  · exact ge_callTy (bList_ok T.calm) hg hm (by decide +kernel) ha (by decide) (by decide) s1 s2
  · exact ge_callTy (bTuple_ok T.calm) hg hm (by decide +kernel) ha (by decide) (by decide) s1 s2
  · exact ge_callB bIsi_ok hg hm (by decide +kernel) ha (by decide) (by decide) s1 s2
  · exact ge_callB (bRepr_ok T.guards hu) hg hm (by decide +kernel) ha (by decide) (by decide) s1 s2
  · exact ge_callB bDivmod_ok hg hm (by decide +kernel) ha (by decide) (by decide) s1 s2
def bltFn (x : Str) : Option OpN := match bltFn0 x with
  | some g => some g
  | none => if x = "dict" then some bDict else if x = "sorted" then some bSorted else none
theorem bltFn_ok (T : Tk X W c) {x : Str} {g : OpN} {e : Expr} {es : List Expr} {ra : MA} {p pos : Pos} (h : bltFn x = some g) (hk : c.sc.names.lookup x = some .globalImplicit) (hb : c.blt.contains x = true) (hp : (e :: es).all plainE = true) (ha : GA X W (e :: es) ra) :
    GE X W (.Call (.Name x p) (e :: es) [] pos) (mCB g ra) := by
  unfold bltFn at h
  split at h
  · rename_i g0 e0
    cases h
    exact bltFn0_ok T e0 hk hb hp ha
  · split at h
    · rename_i e0
      subst e0
      cases h
      rw [List.all_cons, Bool.and_eq_true] at hp
      exact ge_callTy (bDict_ok T.calm) (T.gl hk) (T.blt _ hb) (by decide +kernel) ha (by decide) (by decide) (star_cons (env := X.env) (es := es) hp.1) (star_back (env := X.env) (pos := pos) hp.2)
    · split at h
      · rename_i e0
        subst e0
        cases h
        rw [List.all_cons, Bool.and_eq_true] at hp
        exact ge_callB bSorted_ok (T.gl hk) (T.blt _ hb) (by decide +kernel) ha (by decide) (by decide) (star_cons (env := X.env) (es := es) hp.1) (star_back (env := X.env) (pos := pos) hp.2)
      · cases h
/-- methods by their names and the number of their arguments -/
def mtFn (x : Str) (n : Nat) : Option (Ty × (D → OpN)) := match n with
  | 0 => if x = "pop" then some (.lst, mPop) else none
  | _ => if x = "append" then some (.lst, mAppend) else if x = "extend" then some (.lst, mExtend) else if x = "pop" then some (.lst, mPop) else if x = "get" then some (.dct, mGet) else if x = "split" then some (.str, mSplit)
    else if x = "find" then some (.str, mFind) else if x = "count" then some (.str, mCount) else if x = "join" then some (.str, mJoin) else if x = "setdefault" then some (.dct, mSetd) else none
theorem mtFn_ok0 (T : Tk X W c) {x : Str} {ty : Ty} {g : D → OpN} {o : Expr} {mo : ME} {p pos : Pos} (h : mtFn x 0 = some (ty, g)) (hb : noCall0 o = true) (hl : (p.endLine == pos.line) = true) (ho : GE X W o mo) :
    GE X W (.Call (.Attribute o x p) [] [] pos) (mBM ty g mo aNil) := by
  have hbase := attr_base (n := x) (env := X.env) hb
  simp only [mtFn] at h
  split at h
  · rename_i e
    subst e
    cases h
    exact ge_bm0 PySem.F.plainAttrs_list PySem.F.slot_list_pop rfl mPop_ok ho hbase hl
  · cases h
theorem mtFn_ok (T : Tk X W c) {x : Str} {ty : Ty} {g : D → OpN} {o e : Expr} {es : List Expr} {mo : ME} {ra : MA} {p pos : Pos} (h : mtFn x (es.length + 1) = some (ty, g)) (hb : noCall0 o = true) (hl : (p.endLine == pos.line) = true) (hp : (e :: es).all plainE = true) (hn : es.length < 29)
    (ho : GE X W o mo) (ha : GA X W (e :: es) ra) : GE X W (.Call (.Attribute o x p) (e :: es) [] pos) (mBM ty g mo ra) := by
  have hbase := attr_base (n := x) (env := X.env) hb
  have hfew := star_few (env := X.env) (pos := pos) hp hn
  rw [List.all_cons, Bool.and_eq_true] at hp
  have s1 := star_cons (env := X.env) (es := es) hp.1
  have s2 := star_back (env := X.env) (pos := pos) hp.2
  have hu := T.units
  simp only [mtFn] at h
  repeat' split at h
  all_goals first
    | (rename_i e; subst e; cases h)
    | (cases h; done)
  · exact ge_bm PySem.F.plainAttrs_list PySem.F.slot_list_append rfl mAppend_ok ho ha hbase hfew hl s1 s2
  · exact ge_bm PySem.F.plainAttrs_list PySem.F.slot_list_extend rfl mExtend_ok ho ha hbase hfew hl s1 s2
  · exact ge_bm PySem.F.plainAttrs_list PySem.F.slot_list_pop rfl mPop_ok ho ha hbase hfew hl s1 s2
  · exact ge_bm PySem.F.plainAttrs_dict PySem.F.slot_dict_get rfl (mGet_ok (by omega)) ho ha hbase hfew hl s1 s2
  · exact ge_bm PySem.F.plainAttrs_str PySem.F.slot_str_split rfl mSplit_ok ho ha hbase hfew hl s1 s2
  · exact ge_bm PySem.F.plainAttrs_str PySem.F.slot_str_find rfl mFind_ok ho ha hbase hfew hl s1 s2
  · exact ge_bm PySem.F.plainAttrs_str PySem.F.slot_str_count rfl mCount_ok ho ha hbase hfew hl s1 s2
  · exact ge_bm PySem.F.plainAttrs_str PySem.F.slot_str_join rfl mJoin_ok ho ha hbase hfew hl s1 s2
  · exact ge_bm PySem.F.plainAttrs_dict PySem.F.slot_dict_setdefault rfl mSetd_ok ho ha hbase hfew hl s1 s2
end
end G

/-! G19: the reader's rules. -/
namespace G
open PySem L2 PySem.Spec PyProof.Rows RZ

section
variable {X : Cx} {W : WX} {c : Ctx} {r : Ctx → Ev}
/-! ### stores of names -/
def stName (c : Ctx) (x : Str) : Option Nat :=
  gd ((c.sc.names.lookup x == some .local || c.sc.names.lookup x == some .cell) && (match c.cells with | none => true | some s => c.sc.names.lookup x == some .local || s.names.lookup x == some .cell)) (slotOf c.N x)
theorem stName_ok (T : Tk X W c) {x : Str} {i : Nat} {pos : Pos} (h : stName c x = some i) : PG X (.Name x pos) (gName i) := by
  obtain ⟨h1, h2⟩ := gd_eq h
  rw [Bool.and_eq_true] at h1
  refine pg_name (by rw [T.N]; exact T.nd) (by rw [T.N]; exact slotOf_ok h2) ?_ (T.fnl h1.2)
  unfold L2.Loc
  rw [T.sc]
  simpa using h1.1
def stNames (c : Ctx) : List Expr → Option (List Nat)
  | [] => some []
  | .Name x _ :: l => ap2 (· :: ·) (stName c x) (stNames c l)
  | _ => none
theorem stNames_ok (T : Tk X W c) : ∀ {es : List Expr} {is : List Nat}, stNames c es = some is → PGs X es (tgNs is) ∧ (assignEach es X.env).length = is.length ∧ (assignEach es X.env).findIdx? (·.1) = none
  | [], is, h => by cases h; exact ⟨pgs_nil, rfl, rfl⟩
  | .Name x p :: l, is, h => by
    obtain ⟨i, js, h1, h2, rfl⟩ := ap2_eq h
    obtain ⟨a, b, d⟩ := stNames_ok T h2
    refine ⟨pgs_cons (stName_ok T h1) a rfl, congrArg (· + 1) b, ?_⟩
    show ((false, assign (.Name x p) X.env) :: assignEach l X.env).findIdx? (·.1) = none
    rw [List.findIdx?_cons, d]
    rfl
  | .Tuple _ _ _ :: _, _, h => by cases h
  | .BoolOp _ _ _ :: _, _, h => by cases h
  | .NamedExpr _ _ _ :: _, _, h => by cases h
  | .BinOp _ _ _ _ :: _, _, h => by cases h
  | .UnaryOp _ _ _ :: _, _, h => by cases h
  | .Lambda _ _ _ _ :: _, _, h => by cases h
  | .IfExp _ _ _ _ :: _, _, h => by cases h
  | .Dict _ _ _ :: _, _, h => by cases h
  | .Set _ _ _ :: _, _, h => by cases h
  | .ListComp _ _ _ _ :: _, _, h => by cases h
  | .SetComp _ _ _ _ :: _, _, h => by cases h
  | .DictComp _ _ _ _ _ :: _, _, h => by cases h
  | .GeneratorExp _ _ _ _ :: _, _, h => by cases h
  | .Await _ _ :: _, _, h => by cases h
  | .Yield _ _ :: _, _, h => by cases h
  | .YieldFrom _ _ :: _, _, h => by cases h
  | .Compare _ _ _ _ :: _, _, h => by cases h
  | .Call _ _ _ _ :: _, _, h => by cases h
  | .FormattedValue _ _ _ _ :: _, _, h => by cases h
  | .JoinedStr _ _ :: _, _, h => by cases h
  | .Constant _ _ _ :: _, _, h => by cases h
  | .Attribute _ _ _ :: _, _, h => by cases h
  | .Subscript _ _ _ :: _, _, h => by cases h
  | .Starred _ _ :: _, _, h => by cases h
  | .List _ _ :: _, _, h => by cases h
  | .Slice _ _ _ _ :: _, _, h => by cases h
def rTg1 (c : Ctx) : Expr → Option Tg1
  | .Name x _ => ap1 Tg1.nm (stName c x)
  | .Tuple es _ _ => ap1 Tg1.tp (stNames c es)
  | _ => none
theorem rTg1_ok (T : Tk X W c) {tg : Expr} {t : Tg1} (h : rTg1 c tg = some t) : PG X tg (tgG X.K t) := by
  cases tg with
  | Name x p =>
    obtain ⟨i, h1, rfl⟩ := ap1_eq h
    exact stName_ok T h1
  | Tuple es k p =>
    obtain ⟨is, h1, rfl⟩ := ap1_eq h
    obtain ⟨a, b, d⟩ := stNames_ok T h1
    exact pg_tup T.calm a b d
  | _ => cases h

/-! ### comprehensions -/
def Ctx.blk (c : Ctx) (scope : Scope) : Ctx := { c with sc := relS scope c.sc, cells := some scope }
def ownOf (N : List Str) : List (Str × NameKind) → List (Str × Nat)
  | [] => []
  | (x, k) :: l => if k == .local || k == .cell then match slotOf N x with
      | some i => (x, i) :: ownOf N l
      | none => ownOf N l
    else ownOf N l
theorem takes_no : Takes X noW := fun _ _ x => by
  obtain ⟨_, _, _, _, _, _, _, _, _, _, _, _, _, _, _, _, z⟩ := x
  exact z.elim
theorem Tk.blk (T : Tk X W c) {scope : Scope} (hk : scope.kind = .function) (s : Shared) (H : Hp) (C : Addr) (cl : List (Str × Addr)) (fp : List Addr) : Tk (X.blk s H scope (compEnvC scope cl C X.env) fp) noW (c.blk scope) where
  calm := T.calm
  N := T.N
  nd := T.nd
  sc := by
    show relS scope X.env.scope = relS scope c.sc
    rw [T.sc]
  kind := hk
  guards := T.guards
  room := T.room
  takes := takes_no
  fn := fun x => rfl
  own := fun z => by cases z
  blt := T.blt
  fns := fun x fe h => ⟨(T.fns x fe h).ex⟩
  cons := T.cons
def rIfs (v : Ev) : List Expr → Option MT
  | [] => some tTrue
  | [q] => v.t q
  | _ => none
def rLc (r : Ctx → Ev) (c : Ctx) (elt : Expr) (gs : List Comprehension) (scope : Scope) : Option ME := match gs with
  | [⟨tg, it, ifs, 0⟩] => match rTg1 (c.blk scope) tg with
    | some t => gd (blkC c.N c.sc scope (ownOf c.N scope.names) && noSet it && t.has.all (fun i => ((ownOf c.N scope.names).map (·.2)).contains i))
        (ap3 (fun mi tt me => mLc mi t tt me ((ownOf c.N scope.names).map (·.2))) ((r c).i tg it) (rIfs (r (c.blk scope)) ifs) ((r (c.blk scope)).e elt))
    | none => none
  | _ => none
theorem rLc_parts (hr : Sound r) (T : Tk X W c) {elt : Expr} {gs : List Comprehension} {scope : Scope} {m : ME} (h : rLc r c elt gs scope = some m) :
    ∃ tg it ifs t mi tt me, gs = [⟨tg, it, ifs, 0⟩] ∧ m = mLc mi t tt me ((ownOf c.N scope.names).map (·.2)) ∧ GI X W tg it mi ∧ BlkOk X.N X.env.scope scope (ownOf c.N scope.names) ∧ LcOk X tg elt ifs scope t tt me ∧ (∀ i ∈ t.has, i ∈ (ownOf c.N scope.names).map (·.2)) ∧ (∀ x, foldedSetIterable it X.env x = pure x) := by
  unfold rLc at h
  split at h
  · rename_i tg it ifs
    split at h
    · rename_i t ht
      obtain ⟨h1, h2⟩ := gd_eq h
      obtain ⟨mi, tt, me, e1, e2, e3, rfl⟩ := ap3_eq h2
      simp only [Bool.and_eq_true] at h1
      obtain ⟨⟨b1, b2⟩, b3⟩ := h1
      have ok := blkOk_by b1
      rw [← T.N, ← T.sc] at ok
      refine ⟨tg, it, ifs, t, mi, tt, me, rfl, rfl, (hr c X W T).i _ _ _ e1, ?_, ⟨fun s H C cl fp => ?_, fun s H C cl fp => ?_, fun s H C cl fp => ?_⟩, fun i hi => ?_, noSet_ok b2⟩
      · rw [← T.N]; exact ok
      · exact rTg1_ok (T.blk ok.kind s H C cl fp) ht
      · have S := hr _ _ _ (T.blk ok.kind s H C cl fp)
        unfold rIfs at e2
        split at e2
        · cases e2; exact pts_nilG
        · exact pts_one (S.t _ _ e2)
        · cases e2
      · exact (hr _ _ _ (T.blk ok.kind s H C cl fp)).e _ _ e3
      · have := List.all_eq_true.mp b3 i hi
        simpa using this
    · cases h
  · cases h
theorem rLc_ok (hr : Sound r) (T : Tk X W c) {elt : Expr} {gs : List Comprehension} {scope : Scope} {m : ME} {pos : Pos} (h : rLc r c elt gs scope = some m) : GE X W (.ListComp elt gs scope pos) m := by
  obtain ⟨tg, it, ifs, t, mi, tt, me, rfl, rfl, h1, h2, h3, h4, h5⟩ := rLc_parts hr T h
  exact ge_lc T.calm (by rw [T.N]; exact T.nd) h1 h2 h3 h4 h5

/-- [(x,) + d[x] for x in d] -/
def visC (c : Ctx) (x : Str) : Bool := !special x && (c.sc.names.lookup x == some .local || c.sc.names.lookup x == some .cell || c.sc.names.lookup x == some .free)
theorem visC_ok (T : Tk X W c) {x : Str} {i : Nat} {pos : Pos} (h : visC c x = true) (hs : slotOf c.N x = some i) : PE X (.Name x pos) (tVar i) := by
  unfold visC at h
  simp only [Bool.and_eq_true, Bool.not_eq_true', Bool.or_eq_true, beq_iff_eq] at h
  obtain ⟨h0, hk⟩ := h
  obtain ⟨d1, d2, d3⟩ := special_no (x := x) h0
  refine pe_var (by rw [T.N]; exact slotOf_ok hs) ?_ d1 d2
  unfold Vis
  rw [T.sc]
  rcases hk with (hk | hk) | hk
  · rw [hk]; exact .inl rfl
  · rw [hk]; exact .inr (.inl rfl)
  · rw [hk]; exact .inr (.inr rfl)
def rKV (c : Ctx) (elt : Expr) (gs : List Comprehension) (scope : Scope) : Option ME := match elt, gs with
  | .BinOp (.Tuple [.Name x _] _ _) .Add (.Subscript (.Name d _) (.Name x2 _) _) _, [⟨.Name x3 _, .Name d2 _, [], 0⟩] =>
    gd (decide (x2 = x) && decide (x3 = x) && decide (d2 = d)) (match stName (c.blk scope) x, slotOf c.N x, slotOf c.N d with
      | some j, some j2, some i => gd (blkC c.N c.sc scope (ownOf c.N scope.names) && ((ownOf c.N scope.names).map (·.2)).contains j && !((ownOf c.N scope.names).map (·.2)).contains i && visC c d && visC (c.blk scope) d && visC (c.blk scope) x && j == j2) (some (mKV i j))
      | _, _, _ => none)
  | _, _ => none
theorem rKV_ok (T : Tk X W c) {elt : Expr} {gs : List Comprehension} {scope : Scope} {m : ME} {pos : Pos} (h : rKV c elt gs scope = some m) : GE X W (.ListComp elt gs scope pos) m := by
  unfold rKV at h
  split at h
  · rename_i x p1 k p2 d p3 x2 p4 p5 p6 x3 p7 d2 p8
    obtain ⟨h1, h2⟩ := gd_eq h
    simp only [Bool.and_eq_true, decide_eq_true_eq] at h1
    obtain ⟨⟨rfl, rfl⟩, rfl⟩ := h1
    split at h2
    · rename_i j j2 i e1 e2 e3
      obtain ⟨h3, h4⟩ := gd_eq h2
      cases h4
      simp only [Bool.and_eq_true, Bool.not_eq_true', beq_iff_eq] at h3
      obtain ⟨⟨⟨⟨⟨⟨b1, b2⟩, b3⟩, b4⟩, b5⟩, b6⟩, rfl⟩ := h3
      have ok := blkOk_by b1
      rw [← T.N, ← T.sc] at ok
      have hu := T.units
      refine ge_kv T.calm (by rw [T.N]; exact T.nd) (by omega) (own := ownOf c.N scope.names) (by rw [← T.N]; exact ok) (by simpa using b2) (by simpa using b3) (visC_ok T b4 e3) (fun s H C cl fp => ?_) (fun s H C cl fp p => ?_) (fun s H C cl fp => ?_)
      · exact stName_ok (T.blk ok.kind s H C cl fp) e1
      · exact visC_ok (T.blk ok.kind s H C cl fp) b6 e2
      · exact visC_ok (T.blk ok.kind s H C cl fp) b5 e3
    · cases h2
  · cases h
def rDc (r : Ctx → Ev) (c : Ctx) (kx vx : Expr) (gs : List Comprehension) (scope : Scope) : Option ME := match gs with
  | [⟨tg, it, ifs, 0⟩] => match rTg1 (c.blk scope) tg with
    | some t => gd (blkC c.N c.sc scope (ownOf c.N scope.names) && noSet it && t.has.all (fun i => ((ownOf c.N scope.names).map (·.2)).contains i))
        (match (r (c.blk scope)).e kx with
          | some mk => ap3 (fun mi tt mv => mDc mi t tt mk mv ((ownOf c.N scope.names).map (·.2))) ((r c).i tg it) (rIfs (r (c.blk scope)) ifs) ((r (c.blk scope)).e vx)
          | none => none)
    | none => none
  | _ => none
theorem rDc_ok (hr : Sound r) (T : Tk X W c) {kx vx : Expr} {gs : List Comprehension} {scope : Scope} {m : ME} {pos : Pos} (h : rDc r c kx vx gs scope = some m) : GE X W (.DictComp kx vx gs scope pos) m := by
  unfold rDc at h
  split at h
  · rename_i tg it ifs
    split at h
    · rename_i t ht
      obtain ⟨h1, h2⟩ := gd_eq h
      split at h2
      · rename_i mk ek
        obtain ⟨mi, tt, mv, e1, e2, e3, rfl⟩ := ap3_eq h2
        simp only [Bool.and_eq_true] at h1
        obtain ⟨⟨b1, b2⟩, b3⟩ := h1
        have ok := blkOk_by b1
        rw [← T.N, ← T.sc] at ok
        have hv : ∀ i ∈ t.has, i ∈ (ownOf c.N scope.names).map (·.2) := fun i hi => by
          have := List.all_eq_true.mp b3 i hi
          simpa using this
        have ok' : BlkOk X.N X.env.scope scope (ownOf c.N scope.names) := by rw [← T.N]; exact ok
        refine ge_dc T.calm (by rw [T.N]; exact T.nd) ((hr c X W T).i _ _ _ e1) ok' ⟨fun s H C cl fp => ?_, fun s H C cl fp => ?_, fun s H C cl fp => ?_, fun s H C cl fp => ?_⟩ hv (noSet_ok b2)
        · exact rTg1_ok (T.blk ok.kind s H C cl fp) ht
        · have S := hr _ _ _ (T.blk ok.kind s H C cl fp)
          unfold rIfs at e2
          split at e2
          · cases e2; exact pts_nilG
          · exact pts_one (S.t _ _ e2)
          · cases e2
        · exact (hr _ _ _ (T.blk ok.kind s H C cl fp)).e _ _ ek
        · exact (hr _ _ _ (T.blk ok.kind s H C cl fp)).e _ _ e3
      · cases h2
    · cases h
  · cases h

/-! ### calls -/
def patOf : List (Nat × List Str × List Nat) → Nat → List Str → Option (List Nat)
  | [], _, _ => none
  | (n, ks, perm) :: l, m, js => if n = m ∧ ks = js then some perm else patOf l m js
theorem patOf_ok : ∀ {l : List (Nat × List Str × List Nat)} {n : Nat} {ks : List Str} {perm : List Nat}, patOf l n ks = some perm → (n, ks, perm) ∈ l
  | (n', ks', perm') :: l, n, ks, perm, h => by
    unfold patOf at h
    split at h
    · rename_i e
      cases h
      obtain ⟨rfl, rfl⟩ := e
      exact List.mem_cons_self
    · exact List.mem_cons_of_mem _ (patOf_ok h)
def rFn (v : Ev) (F : List D → Store → R D) (fe : FnE) (as : List Expr) (ks : List Keyword) : Option ME := match ks with
  | [] => match as with
    | [] => gd fe.ps.isEmpty (some (mCallP 0 F aNil))
    | e :: es => gd ((e :: es).all plainE) (ap1 (mCallP fe.ps.length F) (v.a (e :: es)))
  | k :: ks => match kwNames (k :: ks) with
    | none => none
    | some nm => match as with
      | [] => ap2 (fun perm rb => mCall 0 nm.length perm F aNil rb) (patOf fe.pats 0 nm) (v.kw (k :: ks))
      | e :: es => gd ((e :: es).all plainE) (ap3 (fun perm ra rb => mCall (es.length + 1) nm.length perm F ra rb) (patOf fe.pats (es.length + 1) nm) (v.a (e :: es)) (v.kw (k :: ks)))
theorem rFn_ok (T : Tk X W c) {v : Ev} (S : Snd X W v) {x : Str} {fe : FnE} {as : List Expr} {ks : List Keyword} {m : ME} {p pos : Pos} (hk : c.sc.names.lookup x = some .globalImplicit) (hs : special x = false) (hf : c.fns.lookup x = some fe)
    (h : rFn v (c.call x) fe as ks = some m) : GE X W (.Call (.Name x p) as ks pos) m := by
  obtain ⟨d1, _, _⟩ := special_no hs
  have hg := T.gl hk
  obtain ⟨f, fd, hG, hm, hkp, hB, hP⟩ := (T.fns x fe hf).ex
  unfold rFn at h
  split at h
  · split at h
    · obtain ⟨h1, h2⟩ := gd_eq h
      cases h2
      obtain ⟨ps, pats⟩ := fe
      cases ps with
      | nil => exact ge_callP0 hG T.guards T.room hB T.takes hg hm hkp d1
      | cons _ _ => cases h1
    · rename_i e es
      obtain ⟨h1, h2⟩ := gd_eq h
      obtain ⟨ra, e1, rfl⟩ := ap1_eq h2
      rw [List.all_cons, Bool.and_eq_true] at h1
      exact ge_callP hG T.guards T.room hB T.takes hg hm hkp (S.a _ _ e1) d1 (star_cons h1.1) (star_back h1.2)
  · rename_i k ks
    split at h
    · cases h
    · rename_i nm hn
      obtain ⟨k1, k2, k3⟩ := kw_facts (env := X.env) (pos := pos) hn
      split at h
      · obtain ⟨perm, rb, e1, e2, rfl⟩ := ap2_eq h
        obtain ⟨hl, hb⟩ := hP _ _ _ (patOf_ok e1)
        exact ge_callK hG T.guards T.room hb hl T.takes hg hm hkp (S.kw _ _ e2) k1 k2 rfl d1 (by rw [k3]; rfl)
      · rename_i e es
        obtain ⟨h1, h2⟩ := gd_eq h
        obtain ⟨perm, ra, rb, e1, e2, e3, rfl⟩ := ap3_eq h2
        obtain ⟨hl, hb⟩ := hP _ _ _ (patOf_ok e1)
        have h3 := star_back (env := X.env) (pos := pos) h1
        rw [List.all_cons, Bool.and_eq_true] at h1
        exact ge_call hG T.guards T.room hb hl T.takes hg hm hkp (S.a _ _ e2) (S.kw _ _ e3) k1 k2 rfl d1 (star_cons h1.1) (by rw [h3, k3]; rfl)
def rCall (r : Ctx → Ev) (c : Ctx) (f : Expr) (as : List Expr) (ks : List Keyword) (pos : Pos) : Option ME := match f with
  | .Name x _ => match c.sc.names.lookup x with
    | some .globalImplicit => gd (!special x) (match c.fns.lookup x with
      | some fe => rFn (r c) (c.call x) fe as ks
      | none => match ks with
        | [] => match as with
          | [] => none
          | e :: es => gd (c.blt.contains x && (e :: es).all plainE) (ap2 mCB (bltFn x) ((r c).a (e :: es)))
        | _ => none)
    | _ => none
  | .Attribute o x p => match ks with
    | [] => gd (noCall0 o && p.endLine == pos.line) (match as with
      | [] => match mtFn x 0 with
        | some (ty, g) => ap1 (fun mo => mBM ty g mo aNil) ((r c).e o)
        | none => none
      | e :: es => gd ((e :: es).all plainE && decide (es.length < 29)) (match mtFn x (es.length + 1) with
        | some (ty, g) => ap2 (mBM ty g) ((r c).e o) ((r c).a (e :: es))
        | none => none))
    | _ => none
  | _ => none
theorem rCall_ok (T : Tk X W c) (S : Snd X W (r c)) {f : Expr} {as : List Expr} {ks : List Keyword} {m : ME} {pos : Pos} (h : rCall r c f as ks pos = some m) : GE X W (.Call f as ks pos) m := by
  cases f with
  | Name x p =>
    simp only [rCall] at h
    split at h
    · rename_i hk
      obtain ⟨h1, h2⟩ := gd_eq h
      have hs : special x = false := by simpa using h1
      split at h2
      · rename_i fe hf
        exact rFn_ok T S hk hs hf h2
      · split at h2
        · split at h2
          · cases h2
          · rename_i e es
            obtain ⟨h3, h4⟩ := gd_eq h2
            rw [Bool.and_eq_true] at h3
            obtain ⟨g, ra, e1, e2, rfl⟩ := ap2_eq h4
            exact bltFn_ok T e1 hk h3.1 h3.2 (S.a _ _ e2)
        · cases h2
    · cases h
  | Attribute o x p =>
    simp only [rCall] at h
    split at h
    · obtain ⟨h1, h2⟩ := gd_eq h
      rw [Bool.and_eq_true] at h1
      split at h2
      · split at h2
        · rename_i ty g hm
          obtain ⟨mo, e1, rfl⟩ := ap1_eq h2
          exact mtFn_ok0 T hm h1.1 h1.2 (S.e _ _ e1)
        · cases h2
      · rename_i e es
        obtain ⟨h3, h4⟩ := gd_eq h2
        rw [Bool.and_eq_true] at h3
        split at h4
        · rename_i ty g hm
          obtain ⟨mo, ra, e1, e2, rfl⟩ := ap2_eq h4
          exact mtFn_ok T hm h1.1 h1.2 h3.1 (by simpa using h3.2) (S.e _ _ e1) (S.a _ _ e2)
        · cases h4
    · cases h
  | _ => cases h
end
end G

/-! G20: the reader itself, and its soundness. -/
namespace G
open PySem L2 PySem.Spec PyProof.Rows RZ

/-! ### += -/
def opIAdd : Op2 := fun x y st => match x, y with
  | .int i, .int j => some (.int (i + j), st)
  | .str a, .str b => if a.length + b.length ≤ sizeLine then some (.str (a ++ b), st) else none
  | _, _ => none
section
variable {X : Cx}
theorem opIAdd_ok : OpR X (inplaceOp .Add) (rG2 X opIAdd) := by
  intro pins s σ H x y v u Q I rx ry ⟨ρ, st, dx, dy, d, st', S, r1, r2, e, q⟩
  unfold opIAdd at e
  split at e
  · cases r1; cases r2; cases e
    exact iop_add pins s σ H _ _ v u Q I rx ry ⟨_, _, rfl, rfl, q.here S (.int _)⟩
  · split at e
    · rename_i hl
      cases r1; cases r2; cases e
      exact iop_add_str pins s σ H _ _ v u Q I rx ry ⟨_, _, rfl, rfl, hl, q.here S (.str _)⟩
    · cases e
  · cases e
def opISub : Op2 := fun x y st => match x, y with
  | .int i, .int j => some (.int (i - j), st)
  | _, _ => none
theorem opISub_ok : OpR X (inplaceOp .Sub) (rG2 X opISub) := by
  intro pins s σ H x y v u Q I rx ry ⟨ρ, st, dx, dy, d, st', S, r1, r2, e, q⟩
  unfold opISub at e
  split at e
  · cases r1; cases r2; cases e
    exact iop_sub pins s σ H _ _ v u Q I rx ry ⟨_, _, rfl, rfl, q.here S (.int _)⟩
  · cases e
def rAug : Operator → Option Op2
  | .Add => some opIAdd
  | .Sub => some opISub
  | _ => none
theorem rAug_ok {op : Operator} {f : Op2} (h : rAug op = some f) : OpR X (inplaceOp op) (rG2 X f) := by
  cases op <;> cases h
  · exact opIAdd_ok
  · exact opISub_ok
end

section
variable {X : Cx} {W : WX} {c : Ctx} {r : Ctx → Ev}
/-! ### list(range(n)) -/
def rLR (r : Ctx → Ev) (c : Ctx) (f : Expr) (as : List Expr) (ks : List Keyword) : Option ME := match f, as, ks with
  | .Name x _, [.Call (.Name y _) [a] [] _], [] => gd (decide (x = "list") && decide (y = "range") && c.sc.names.lookup x == some .globalImplicit && c.sc.names.lookup y == some .globalImplicit && c.blt.contains x && c.blt.contains y && plainE a) (ap1 mLRg ((r c).e a))
  | _, _, _ => none
theorem rLR_ok (T : Tk X W c) (S : Snd X W (r c)) {f : Expr} {as : List Expr} {ks : List Keyword} {m : ME} {pos : Pos} (h : rLR r c f as ks = some m) : GE X W (.Call f as ks pos) m := by
  unfold rLR at h
  split at h
  · obtain ⟨h1, h2⟩ := gd_eq h
    obtain ⟨ma, e1, rfl⟩ := ap1_eq h2
    simp only [Bool.and_eq_true, decide_eq_true_eq, beq_iff_eq] at h1
    obtain ⟨⟨⟨⟨⟨⟨rfl, rfl⟩, k1⟩, k2⟩, b1⟩, b2⟩, hp⟩ := h1
    exact ge_listRg T.calm (T.gl k1) (T.blt _ b1) (T.gl k2) (T.blt _ b2) (S.e _ _ e1) (star_cons hp)
  · cases h
/-! ### sorted(d.items()) -/
def rSI (r : Ctx → Ev) (c : Ctx) (f : Expr) (as : List Expr) (ks : List Keyword) : Option ME := match f, as, ks with
  | .Name x _, [.Call (.Attribute o y p) [] [] q], [] => gd (decide (x = "sorted") && decide (y = "items") && c.sc.names.lookup x == some .globalImplicit && c.blt.contains x && noCall0 o && p.endLine == q.line) (ap1 mSIt ((r c).e o))
  | _, _, _ => none
theorem rSI_ok (T : Tk X W c) (S : Snd X W (r c)) {f : Expr} {as : List Expr} {ks : List Keyword} {m : ME} {pos : Pos} (h : rSI r c f as ks = some m) : GE X W (.Call f as ks pos) m := by
  unfold rSI at h
  split at h
  · obtain ⟨h1, h2⟩ := gd_eq h
    obtain ⟨mo, e1, rfl⟩ := ap1_eq h2
    simp only [Bool.and_eq_true, decide_eq_true_eq] at h1
    obtain ⟨⟨⟨⟨⟨rfl, rfl⟩, k1⟩, b1⟩, nc⟩, hl⟩ := h1
    exact ge_sortItems T.calm (T.gl (by simpa using k1)) (T.blt _ b1) (S.e _ _ e1) (attr_base nc) hl
  · cases h
/-! ### expressions -/
def rE (r : Ctx → Ev) (c : Ctx) (e : Expr) : Option ME := match e with
  | .Constant v _ _ => rConst v
  | .Name x _ => rName c x
  | .BinOp a op b _ => ap3 mBin (rBin op) ((r c).e a) ((r c).e b)
  | .UnaryOp op a _ => match op with
    | .Not => ap1 mNt ((r c).e a)
    | .USub => ap1 (mUn opNeg) ((r c).e a)
    | _ => none
  | .BoolOp op es p => match es with
    | [] => none
    | [a] => (r c).e a
    | a :: b :: es => match op with
      | .And => ap2 mAn ((r c).e a) ((r c).e (.BoolOp .And (b :: es) p))
      | .Or => ap2 mOo ((r c).e a) ((r c).e (.BoolOp .Or (b :: es) p))
  | .IfExp q a b _ => ap3 mIf ((r c).t q) ((r c).e a) ((r c).e b)
  | .Compare a ops bs _ => match ops, bs with
    | [op], [b] => gd (!behindInMarks op b) (ap2 (mBin (rCmp op)) ((r c).e a) ((r c).e b))
    | [op, op2], [b, d] => gd (!lastMarks [op, op2] [b, d]) (ap3 (mChain (rCmp op) (rCmp op2)) ((r c).e a) ((r c).e b) ((r c).e d))
    | _, _ => none
  | .Tuple es _ _ => ap1 mTup ((r c).a es)
  | .List es _ => ap1 mLst ((r c).a es)
  | .Dict ks vs _ => match ks, vs with
    | [], [] => some mDict0
    | _, _ => none
  | .Subscript a ix _ => match ix with
    | .Slice lo hi st _ => match st with
      | none => ap3 mSl ((r c).e a) ((r c).o lo) ((r c).o hi)
      | some k => match (r c).e k with
        | some mk => ap3 (fun ma ml mh => mSl3 ma ml mh mk) ((r c).e a) ((r c).o lo) ((r c).o hi)
        | none => none
    | ix => gd (plainIx ix) (ap2 (mBin opIx) ((r c).e a) ((r c).e ix))
  | .ListComp elt gs sc _ => match rKV c elt gs sc with
    | some m => some m
    | none => rLc r c elt gs sc
  | .DictComp kx vx gs sc _ => rDc r c kx vx gs sc
  | .Call f as ks p => match rLR r c f as ks with
    | some m => some m
    | none => match rSI r c f as ks with
      | some m => some m
      | none => rCall r c f as ks p
  | _ => none
theorem rE_ok (hr : Sound r) (T : Tk X W c) {e : Expr} {m : ME} (h : rE r c e = some m) : GE X W e m := by
  have S := hr c X W T
  have hu := T.units
  cases e with
  | Constant v k p => exact rConst_ok h
  | Name x p => exact rName_ok T h
  | BinOp a op b p =>
    obtain ⟨f, ma, mb, e1, e2, e3, rfl⟩ := ap3_eq h
    exact ge_bin (rBin_ok e1) (S.e _ _ e2) (S.e _ _ e3)
  | UnaryOp op a p =>
    cases op with
    | Not =>
      obtain ⟨ma, e1, rfl⟩ := ap1_eq h
      exact ge_not (S.e _ _ e1)
    | USub =>
      obtain ⟨ma, e1, rfl⟩ := ap1_eq h
      exact ge_un opNeg_ok (S.e _ _ e1)
    | _ => cases h
  | BoolOp op es p =>
    cases es with
    | nil => cases h
    | cons a es =>
      cases es with
      | nil => exact ge_one (S.e _ _ h)
      | cons b es =>
        cases op with
        | And =>
          obtain ⟨ma, mb, e1, e2, rfl⟩ := ap2_eq h
          exact ge_and (S.e _ _ e1) (S.e _ _ e2)
        | Or =>
          obtain ⟨ma, mb, e1, e2, rfl⟩ := ap2_eq h
          exact ge_or (S.e _ _ e1) (S.e _ _ e2)
  | IfExp q a b p =>
    obtain ⟨mq, ma, mb, e1, e2, e3, rfl⟩ := ap3_eq h
    exact ge_if (S.t _ _ e1) (S.e _ _ e2) (S.e _ _ e3)
  | Compare a ops bs p =>
    simp only [rE] at h
    split at h
    · obtain ⟨h1, h2⟩ := gd_eq h
      obtain ⟨ma, mb, e1, e2, rfl⟩ := ap2_eq h2
      exact ge_cmp (rCmp_ok T _) (S.e _ _ e1) (S.e _ _ e2) (by simpa using h1)
    · obtain ⟨h1, h2⟩ := gd_eq h
      obtain ⟨ma, mb, md, e1, e2, e3, rfl⟩ := ap3_eq h2
      exact ge_chain (rCmp_ok T _) (rCmp_ok T _) (S.e _ _ e1) (S.e _ _ e2) (S.e _ _ e3) (by simpa using h1)
    · cases h
  | Tuple es k p =>
    obtain ⟨ra, e1, rfl⟩ := ap1_eq h
    exact ge_tup (S.a _ _ e1)
  | List es p =>
    obtain ⟨ra, e1, rfl⟩ := ap1_eq h
    exact ge_lst (S.a _ _ e1)
  | Dict ks vs p =>
    simp only [rE] at h
    split at h
    · cases h; exact ge_dict0
    · cases h
  | Subscript a ix p =>
    simp only [rE] at h
    split at h
    · split at h
      · obtain ⟨ma, ml, mh, e1, e2, e3, rfl⟩ := ap3_eq h
        exact ge_slice (S.e _ _ e1) (S.o _ _ e2) (S.o _ _ e3)
      · split at h
        · rename_i mk ek
          obtain ⟨ma, ml, mh, e1, e2, e3, rfl⟩ := ap3_eq h
          exact ge_slice3 (S.e _ _ e1) (S.o _ _ e2) (S.o _ _ e3) (S.e _ _ ek)
        · cases h
    · obtain ⟨h1, h2⟩ := gd_eq h
      obtain ⟨ma, mb, e1, e2, rfl⟩ := ap2_eq h2
      exact ge_ix (by omega) (S.e _ _ e1) (S.e _ _ e2) (plainIx_ok h1)
  | ListComp elt gs sc p =>
    simp only [rE] at h
    split at h
    · rename_i m0 e0
      cases h
      exact rKV_ok T e0
    · exact rLc_ok hr T h
  | DictComp kx vx gs sc p => exact rDc_ok hr T h
  | Call f as ks p =>
    simp only [rE] at h
    split at h
    · rename_i m0 e0
      cases h
      exact rLR_ok T S e0
    · split at h
      · rename_i m0 e0
        cases h
        exact rSI_ok T S e0
      · exact rCall_ok T S h
  | _ => cases h
/-! ### tests -/
def rT (v : Ev) (e : Expr) : Option MT := match e with
  | .Compare a ops bs _ => match ops, bs with
    | [op], [b] => gd (!behindInMarks op b) (ap2 (fun ma mb => mBl (mBin (rCmp op) ma mb)) (v.e a) (v.e b))
    | [op, op2], [b, d] => gd (!lastMarks [op, op2] [b, d]) (ap3 (fun ma mb md => mBl (mChain (rCmp op) (rCmp op2) ma mb md)) (v.e a) (v.e b) (v.e d))
    | _, _ => none
  | .BoolOp op es p => v.w (.BoolOp op es p)
  | .UnaryOp .Not a _ => ap1 tNt (v.t a)
  | e => gd (plainT e) (ap1 mTru (v.e e))
theorem rT_ok (T : Tk X W c) {v : Ev} (S : Snd X W v) {e : Expr} {m : MT} (h : rT v e = some m) : GT X W e m := by
  have plain : ∀ {e : Expr} {m : MT}, gd (plainT e) (ap1 mTru (v.e e)) = some m → GT X W e m := fun {e m} h => by
    obtain ⟨h1, h2⟩ := gd_eq h
    obtain ⟨ma, e1, rfl⟩ := ap1_eq h2
    exact gt_truth (S.e _ _ e1) (isTrue_plain h1)
  cases e with
  | Compare a ops bs p =>
    simp only [rT] at h
    split at h
    · obtain ⟨h1, h2⟩ := gd_eq h
      obtain ⟨ma, mb, e1, e2, rfl⟩ := ap2_eq h2
      exact gt_cmp (rCmp_ok T _) (S.e _ _ e1) (S.e _ _ e2) (by simpa using h1)
    · obtain ⟨h1, h2⟩ := gd_eq h
      obtain ⟨ma, mb, md, e1, e2, e3, rfl⟩ := ap3_eq h2
      exact gt_chain (rCmp_ok T _) (rCmp_ok T _) (S.e _ _ e1) (S.e _ _ e2) (S.e _ _ e3) (by simpa using h1)
    · cases h
  | BoolOp op es p => exact (S.w _ _ h).pt
  | UnaryOp op a p =>
    cases op with
    | Not =>
      obtain ⟨ma, e1, rfl⟩ := ap1_eq h
      exact gt_not (S.t _ _ e1)
    | _ => exact plain h
  | _ => exact plain h
def rW (v : Ev) (e : Expr) : Option MT := match e with
  | .BoolOp op es p => match es with
    | [] => none
    | [a] => v.t a
    | a :: b :: es => match op with
      | .And => ap2 tAn (v.t a) (v.w (.BoolOp .And (b :: es) p))
      | .Or => ap2 tOo (v.t a) (v.w (.BoolOp .Or (b :: es) p))
  | _ => none
theorem rW_ok {v : Ev} (S : Snd X W v) {e : Expr} {m : MT} (h : rW v e = some m) : GW X W e m := by
  cases e with
  | BoolOp op es p =>
    cases es with
    | nil => cases h
    | cons a es =>
      cases es with
      | nil => cases op with
        | And => exact gw_and1 (S.t _ _ h)
        | Or => exact gw_or1 (S.t _ _ h)
      | cons b es =>
        cases op with
        | And =>
          obtain ⟨ma, mb, e1, e2, rfl⟩ := ap2_eq h
          exact gw_and (S.t _ _ e1) (S.w _ _ e2)
        | Or =>
          obtain ⟨ma, mb, e1, e2, rfl⟩ := ap2_eq h
          exact gw_or (S.t _ _ e1) (S.w _ _ e2)
  | _ => cases h
/-! ### lists of expressions, what is walked, targets -/
def rA (v : Ev) (es : List Expr) : Option MA := match es with
  | [] => some aNil
  | e :: es => gd (plainE e) (ap2 aCons (v.e e) (v.a es))
theorem rA_ok {v : Ev} (S : Snd X W v) {es : List Expr} {m : MA} (h : rA v es = some m) : GA X W es m := by
  cases es with
  | nil => cases h; exact ga_nil
  | cons e es =>
    obtain ⟨h1, h2⟩ := gd_eq h
    obtain ⟨ma, ra, e1, e2, rfl⟩ := ap2_eq h2
    exact ga_cons (S.e _ _ e1) (S.a _ _ e2) (star_cons h1)
def rO (v : Ev) (o : Option Expr) : Option MO := match o with
  | none => some oNone
  | some e => ap1 oSome (v.e e)
theorem rO_ok {v : Ev} (S : Snd X W v) {o : Option Expr} {m : MO} (h : rO v o = some m) : GO X W o m := by
  cases o with
  | none => cases h; exact go_none
  | some e =>
    obtain ⟨ma, e1, rfl⟩ := ap1_eq h
    exact go_some (S.e _ _ e1)
def rKw (v : Ev) (ks : List Keyword) : Option MA := match ks with
  | [] => some aNil
  | ⟨_, e, _⟩ :: ks => ap2 aCons (v.e e) (v.kw ks)
theorem rKw_ok {v : Ev} (S : Snd X W v) {ks : List Keyword} {m : MA} (h : rKw v ks = some m) : PK X ks (tMA X W m) := by
  cases ks with
  | nil => cases h; exact gk_nil
  | cons k ks =>
    obtain ⟨n, e, p⟩ := k
    obtain ⟨ma, ra, e1, e2, rfl⟩ := ap2_eq h
    exact gk_cons (S.e _ _ e1) (S.kw _ _ e2)
def isTup : Expr → Bool
  | .Tuple _ _ _ => true
  | _ => false
/-- the run of range, enumerate, zip -/
def rIt (v : Ev) (tg : Expr) (x : Str) (as : List Expr) : Option MI := gd (as.all plainE) (match as with
  | [a] => if x = "range" then ap1 iRng1 (v.a [a]) else if x = "enumerate" then gd (isTup tg) (ap1 iEnm (v.a [a])) else none
  | [a, b] => if x = "range" then ap1 iRng2 (v.a [a, b]) else if x = "zip" then gd (isTup tg) (ap1 iZip (v.a [a, b])) else none
  | _ => none)
theorem rIt_ok (T : Tk X W c) {v : Ev} (S : Snd X W v) {tg : Expr} {x : Str} {as : List Expr} {m : MI} {p pos : Pos} (hk : c.sc.names.lookup x = some .globalImplicit) (hb : c.blt.contains x = true) (h : rIt v tg x as = some m) : GI X W tg (.Call (.Name x p) as [] pos) m := by
  have hg := T.gl hk
  have hm := T.blt x hb
  have z0 := gd_eq h
  clear h
  obtain ⟨h0, h⟩ := z0
  split at h
  · rename_i a
    have ha : plainE a = true := by simpa using h0
    split at h
    · rename_i e
      subst e
      obtain ⟨ra, e1, rfl⟩ := ap1_eq h
      exact gi_range1 hg hm (S.a _ _ e1) (star_cons ha)
    · split at h
      · rename_i e
        subst e
        obtain ⟨h1, h2⟩ := gd_eq h
        obtain ⟨ra, e1, rfl⟩ := ap1_eq h2
        cases tg with
        | Tuple es k tp => exact gi_enum hg hm (S.a _ _ e1) (star_cons ha)
        | _ => cases h1
      · cases h
  · rename_i a b
    have hab : plainE a = true ∧ plainE b = true := by simpa using h0
    split at h
    · rename_i e
      subst e
      obtain ⟨ra, e1, rfl⟩ := ap1_eq h
      have sb : starEach [b] X.env = [(false, eval b X.env)] := star_cons hab.2
      exact gi_range2 hg hm (S.a _ _ e1) (by rw [star_cons hab.1, sb]) sb
    · split at h
      · rename_i e
        subst e
        obtain ⟨h1, h2⟩ := gd_eq h
        obtain ⟨ra, e1, rfl⟩ := ap1_eq h2
        cases tg with
        | Tuple es k tp => exact gi_zip hg hm (S.a _ _ e1) (star_cons hab.1) (star_back (by simpa using hab.2))
        | _ => cases h1
      · cases h
  · cases h
def isIt (x : Str) : Bool := x == "range" || x == "enumerate" || x == "zip"
def rI (r : Ctx → Ev) (c : Ctx) (tg e : Expr) : Option MI := match e with
  | .Call (.Name x _) as [] _ => match c.sc.names.lookup x with
    | some .globalImplicit => match isIt x && c.blt.contains x with
      | true => rIt (r c) tg x as
      | false => ap1 iAny ((r c).e e)
    | _ => ap1 iAny ((r c).e e)
  | e => ap1 iAny ((r c).e e)
theorem rI_ok (T : Tk X W c) (S : Snd X W (r c)) {tg e : Expr} {m : MI} (h : rI r c tg e = some m) : GI X W tg e m := by
  have any : ∀ {e : Expr} {m : MI}, ap1 iAny ((r c).e e) = some m → GI X W tg e m := fun {e m} h => by
    obtain ⟨ma, e1, rfl⟩ := ap1_eq h
    exact gi_any (S.e _ _ e1)
  unfold rI at h
  split at h
  · split at h
    · rename_i hk
      split at h
      · rename_i hb
        rw [Bool.and_eq_true] at hb
        exact rIt_ok T S hk hb.2 h
      · exact any h
    · exact any h
  · exact any h
def rG (r : Ctx → Ev) (c : Ctx) (e : Expr) : Option MG := match e with
  | .Name x _ => ap1 gNm (stName c x)
  | .Tuple es _ _ => gd (es.all plainE) (ap1 (gTp es.length) ((r c).gs es))
  | .Subscript a b _ => gd (plainIx b) (ap2 gSb ((r c).e a) ((r c).e b))
  | _ => none
theorem assign_len {env : Env} : ∀ {es : List Expr}, (assignEach es env).length = es.length
  | [] => rfl
  | e :: es => by
    cases e <;> (show _ + 1 = _ + 1; rw [assign_len])
theorem assign_cons {e : Expr} {es : List Expr} {env : Env} (h : plainE e = true) : assignEach (e :: es) env = (false, assign e env) :: assignEach es env := by
  cases e <;> first | rfl | cases h
theorem assign_star {env : Env} : ∀ {es : List Expr}, es.all plainE = true → (assignEach es env).findIdx? (·.1) = none
  | [], _ => rfl
  | e :: es, h => by
    rw [List.all_cons, Bool.and_eq_true] at h
    rw [assign_cons h.1, List.findIdx?_cons, assign_star h.2]
    rfl
theorem assign_sub {a b : Expr} {p : Pos} {env : Env} (h : plainIx b = true) : ∀ v, assign (.Subscript a b p) env v = (do
      let ov ← holding [v] (eval a env)
      let iv ← holding [v, ov] (eval b env)
      standAt p
      holding [v, ov, iv] (setItem ov iv v)
      release [v, ov, iv] []) := by
  intro v
  cases b <;> first | rfl | cases h
theorem rG_ok (T : Tk X W c) (S : Snd X W (r c)) {e : Expr} {m : MG} (h : rG r c e = some m) : GG X W e m := by
  have hu := T.units
  cases e with
  | Name x p =>
    obtain ⟨i, e1, rfl⟩ := ap1_eq h
    exact gg_name (stName_ok T e1)
  | Tuple es k p =>
    obtain ⟨h1, h2⟩ := gd_eq h
    obtain ⟨gs, e1, rfl⟩ := ap1_eq h2
    exact gg_tup T.calm (S.gs _ _ e1) assign_len (assign_star h1)
  | Subscript a b p =>
    obtain ⟨h1, h2⟩ := gd_eq h
    obtain ⟨ma, mb, e1, e2, rfl⟩ := ap2_eq h2
    exact gg_sub (by omega) (S.e _ _ e1) (S.e _ _ e2) (assign_sub h1)
  | _ => cases h
def rGs (v : Ev) (es : List Expr) : Option MGs := match es with
  | [] => some gNl
  | e :: es => gd (plainE e) (ap2 gCn (v.g e) (v.gs es))
theorem rGs_ok {v : Ev} (S : Snd X W v) {es : List Expr} {m : MGs} (h : rGs v es = some m) : GGs X W es m := by
  cases es with
  | nil => cases h; exact ggs_nil
  | cons e es =>
    obtain ⟨h1, h2⟩ := gd_eq h
    obtain ⟨g, gs, e1, e2, rfl⟩ := ap2_eq h2
    exact ggs_cons (S.g _ _ e1) (S.gs _ _ e2) (by rw [assign_cons h1]; rfl)

/-! ### statements -/
def locNm (c : Ctx) (x : Str) : Option Nat := gd (c.sc.names.lookup x == some .local) (slotOf c.N x)
theorem locNm_ok (T : Tk X W c) {x : Str} {i : Nat} (h : locNm c x = some i) : X.env.scope.names.lookup x = some .local ∧ X.N[i]? = some x := by
  obtain ⟨h1, h2⟩ := gd_eq h
  exact ⟨by rw [T.sc]; simpa using h1, by rw [T.N]; exact slotOf_ok h2⟩
def rPar (v : Ev) (c : Ctx) (ns : List Str) (t e : Expr) : Option SS := match t, e with
  | .Tuple [.Name x _, .Name y _] _ _, .Tuple [a, b] _ _ => match locNm c x, locNm c y with
    | some i, some j => gd (decide (i ≠ j) && decide (ns = [x, y])) (ap1 (sPar2 i j) (v.a [a, b]))
    | _, _ => none
  | .Tuple [.Name x _, .Name y _, .Name z _] _ _, .Tuple [a, b, d] _ _ => match locNm c x, locNm c y, locNm c z with
    | some i, some j, some k => gd (decide (i ≠ j) && decide (i ≠ k) && decide (j ≠ k) && decide (ns = [x, y, z])) (ap1 (sPar3 i j k) (v.a [a, b, d]))
    | _, _, _ => none
  | _, _ => none
theorem rPar_ok (T : Tk X W c) {v : Ev} (S : Snd X W v) {ns : List Str} {t e : Expr} {m : SS} {pos : Pos} (hw : swappedStores [t] e X.env = pure (some ns)) (h : rPar v c ns t e = some m) : HS X W (.Assign [t] e pos) m := by
  have nd : X.N.Nodup := by rw [T.N]; exact T.nd
  unfold rPar at h
  split at h
  · split at h
    · rename_i e1 e2
      obtain ⟨h1, h2⟩ := gd_eq h
      obtain ⟨ra, e3, rfl⟩ := ap1_eq h2
      simp only [Bool.and_eq_true, decide_eq_true_eq] at h1
      obtain ⟨h1, rfl⟩ := h1
      obtain ⟨l1, n1⟩ := locNm_ok T e1
      obtain ⟨l2, n2⟩ := locNm_ok T e2
      exact hs_par T.calm nd n1 n2 h1 l1 l2 (S.a _ _ e3) hw
    · cases h
  · split at h
    · rename_i e1 e2 e4
      obtain ⟨h1, h2⟩ := gd_eq h
      obtain ⟨ra, e3, rfl⟩ := ap1_eq h2
      simp only [Bool.and_eq_true, decide_eq_true_eq] at h1
      obtain ⟨⟨⟨h1, h3⟩, h4⟩, rfl⟩ := h1
      obtain ⟨l1, n1⟩ := locNm_ok T e1
      obtain ⟨l2, n2⟩ := locNm_ok T e2
      obtain ⟨l3, n3⟩ := locNm_ok T e4
      exact hs_par3 T.calm nd n1 n2 n3 h1 h3 h4 l1 l2 l3 (S.a _ _ e3) hw
    · cases h
  · cases h
theorem sw_cell {elt : Expr} {gs : List Comprehension} {scope : Scope} {pos py : Pos} {y : Str} {l : Nat} {env : Env} (hy : env.scope.names.lookup y = some .cell) : swapsWith (.ListComp elt gs scope pos) (some (.Name y py)) l env = pure false := by
  have ky : env.kindOf y = some .cell := hy
  have e : (some NameKind.cell == some NameKind.local) = false := by decide
  unfold swapsWith
  simp only [ky, e, Bool.and_false, Bool.false_and]
def rAsg (r : Ctx → Ev) (c : Ctx) (t e : Expr) : Option SS := match t with
  | .Name x py => match e with
    | .ListComp elt gs sc pos => if (c.sc.names.lookup x == some .cell) = true then ap2 sAsg (rLc r c elt gs sc) ((r c).g (.Name x py)) else gd (py.line == pos.line && c.sc.names.lookup x == some .local && !(sc.names.any fun (n, k) => n == x && (k == .local || k == .cell))) (match slotOf c.N x with
      | some i => ap1 (fun m => sAsg m (gNm i)) (rLc r c elt gs sc)
      | none => none)
    | e => gd (noComp e) (ap2 sAsg ((r c).e e) ((r c).g (.Name x py)))
  | t => match swapOf c.sc t e with
    | some none => gd (plainE t) (ap2 sAsg ((r c).e e) ((r c).g t))
    | some (some ns) => rPar (r c) c ns t e
    | none => none
theorem rAsg_ok (hr : Sound r) (T : Tk X W c) {t e : Expr} {m : SS} {pos : Pos} (h : rAsg r c t e = some m) : HS X W (.Assign [t] e pos) m := by
  have S := hr c X W T
  have hk : X.env.scope.kind = .function := by rw [T.sc]; exact T.kind
  have other : ∀ {t e : Expr} {m : SS}, notName t = true → (match swapOf c.sc t e with
      | some none => gd (plainE t) (ap2 sAsg ((r c).e e) ((r c).g t))
      | some (some ns) => rPar (r c) c ns t e
      | none => none) = some m → HS X W (.Assign [t] e pos) m := fun {t e m} hn h => by
    split at h
    · rename_i hw
      obtain ⟨h1, h2⟩ := gd_eq h
      obtain ⟨ma, g, e1, e2, rfl⟩ := ap2_eq h2
      exact hs_asg (S.e _ _ e1) (S.g _ _ e2) (swaps_notName hn) (swapOf_ok hk (by rw [T.sc]; exact hw)) (by rw [assign_cons h1]; rfl)
    · rename_i ns hw
      exact rPar_ok T S (swapOf_ok hk (by rw [T.sc]; exact hw)) h
    · cases h
  cases t with
  | Name x py =>
    have gen : ∀ {e : Expr} {m : SS}, gd (noComp e) (ap2 sAsg ((r c).e e) ((r c).g (.Name x py))) = some m → HS X W (.Assign [.Name x py] e pos) m := fun {e m} h => by
      obtain ⟨h1, h2⟩ := gd_eq h
      obtain ⟨ma, g, e1, e2, rfl⟩ := ap2_eq h2
      exact hs_asg (S.e _ _ e1) (S.g _ _ e2) (show swapsWith e (some (.Name x py)) pos.line X.env = pure false from swaps_no h1) (swapOf_ok hk rfl) rfl
    cases e with
    | ListComp elt gs sc p2 =>
      simp only [rAsg] at h
      split at h
      · rename_i hcell
        obtain ⟨ma, g, e1, e2, rfl⟩ := ap2_eq h
        refine hs_asg (rLc_ok hr T e1) (S.g _ _ e2) (show swapsWith (.ListComp elt gs sc p2) (some (.Name x py)) pos.line X.env = pure false from sw_cell (by rw [T.sc]; simpa using hcell)) (swapOf_ok hk rfl) rfl
      obtain ⟨h1, h2⟩ := gd_eq h
      simp only [Bool.and_eq_true, Bool.not_eq_true'] at h1
      obtain ⟨⟨b1, b2⟩, b3⟩ := h1
      have hl : X.env.scope.names.lookup x = some .local := by rw [T.sc]; simpa using b2
      split at h2
      · rename_i i hi
        obtain ⟨me, e1, rfl⟩ := ap1_eq h2
        obtain ⟨tg, it, ifs, t, mi, tt, me, rfl, rfl, h1, h2, h3, h4, h5⟩ := rLc_parts hr T e1
        exact hs_setLc T.calm (by rw [T.N]; exact T.nd) (by rw [T.N]; exact slotOf_ok hi) hl (sw_true hk hl b1 b3) h1 h2 h3 h4 h5
      · cases h2
    | _ => exact gen h
  | _ => exact other rfl h
def rS (r : Ctx → Ev) (c : Ctx) (s : Stmt) : Option SS := match s with
  | .Pass _ => some sNx
  | .Break _ => some sBk
  | .Continue _ => some sCt
  | .Return o _ => match o with
    | none => some (sRet (mC .non))
    | some e => ap1 sRet ((r c).e e)
  | .Expr e _ => match e with
    | .Constant (.str _) _ _ => some sNx
    | e => gd (noComp e) (ap1 sExpr ((r c).e e))
  | .If q a b _ => ap3 sIf ((r c).t q) ((r c).b a) ((r c).b b)
  | .While q a b _ => match b with
    | [] => gd c.cells.isNone (ap2 sWhile ((r c).t q) ((r c).b a))
    | _ => none
  | .For tg it a b _ => match b with
    | [] => gd (c.cells.isNone && noSet it) (ap3 sFor ((r c).i tg it) ((r c).g tg) ((r c).b a))
    | _ => none
  | .AugAssign t op e _ => match t with
    | .Name x _ => match stName c x with
      | some i => ap2 (sAug i) (rAug op) ((r c).e e)
      | none => none
    | _ => none
  | .Assign ts e _ => match ts with
    | [t] => rAsg r c t e
    | _ => none
  | _ => none
theorem rS_ok (hr : Sound r) (T : Tk X W c) {s : Stmt} {m : SS} (h : rS r c s = some m) : HS X W s m := by
  have S := hr c X W T
  cases s with
  | Pass p => cases h; exact hs_pass
  | Break p => cases h; exact hs_break
  | Continue p => cases h; exact hs_continue
  | Return o p =>
    cases o with
    | none => cases h; exact hs_retN
    | some e =>
      obtain ⟨ma, e1, rfl⟩ := ap1_eq h
      exact hs_ret (S.e _ _ e1)
  | Expr e p =>
    simp only [rS] at h
    split at h
    · cases h; exact hs_doc
    · obtain ⟨h1, h2⟩ := gd_eq h
      obtain ⟨ma, e1, rfl⟩ := ap1_eq h2
      exact hs_expr (S.e _ _ e1) (swaps_no h1)
  | If q a b p =>
    obtain ⟨mq, ma, mb, e1, e2, e3, rfl⟩ := ap3_eq h
    exact hs_if (S.t _ _ e1) (S.b _ _ e2) (S.b _ _ e3)
  | While q a b p =>
    simp only [rS] at h
    split at h
    · obtain ⟨h1, h2⟩ := gd_eq h
      obtain ⟨mq, ma, e1, e2, rfl⟩ := ap2_eq h2
      exact hs_while (T.own (by simpa using h1)) (S.t _ _ e1) (S.b _ _ e2)
    · cases h
  | For tg it a b p =>
    simp only [rS] at h
    split at h
    · obtain ⟨h1, h2⟩ := gd_eq h
      obtain ⟨mi, g, ma, e1, e2, e3, rfl⟩ := ap3_eq h2
      rw [Bool.and_eq_true] at h1
      exact hs_for (T.own (by simpa using h1.1)) T.calm (S.i _ _ _ e1) (S.g _ _ e2) (S.b _ _ e3) (noSet_ok h1.2)
    · cases h
  | AugAssign t op e p =>
    cases t with
    | Name x p2 =>
      simp only [rS] at h
      split at h
      · rename_i i hi
        obtain ⟨f, ma, e1, e2, rfl⟩ := ap2_eq h
        obtain ⟨h1, h2⟩ := gd_eq hi
        rw [Bool.and_eq_true] at h1
        refine hs_aug (by rw [T.N]; exact T.nd) (by rw [T.N]; exact slotOf_ok h2) ?_ (S.e _ _ e2) (rAug_ok e1) (T.fnl h1.2)
        unfold L2.Loc
        rw [T.sc]
        simpa using h1.1
      · cases h
    | _ => cases h
  | Assign ts e p =>
    simp only [rS] at h
    split at h
    · exact rAsg_ok hr T h
    · cases h
  | _ => cases h
def rB (v : Ev) (ss : List Stmt) : Option SS := match ss with
  | [] => some sNx
  | s :: ss => match ss with
    | [] => v.s s
    | s2 :: ss => ap2 sSeq (v.s s) (v.b (s2 :: ss))
theorem rB_ok {v : Ev} (S : Snd X W v) {ss : List Stmt} {m : SS} (h : rB v ss = some m) : HSs X W ss m := by
  cases ss with
  | nil => cases h; exact hss_nil
  | cons s ss =>
    cases ss with
    | nil => exact hss_one (S.s _ _ h)
    | cons s2 ss =>
      obtain ⟨m1, m2, e1, e2, rfl⟩ := ap2_eq h
      exact hss_cons (S.s _ _ e1) (S.b _ _ e2)
end

/-! ### the reader -/
def step (r : Ctx → Ev) (c : Ctx) : Ev where
  e := rE r c
  t := rT (r c)
  w := rW (r c)
  a := rA (r c)
  o := rO (r c)
  i := rI r c
  g := rG r c
  gs := rGs (r c)
  kw := rKw (r c)
  s := rS r c
  b := rB (r c)
def ev : Nat → Ctx → Ev
  | 0 => fun _ => ⟨fun _ => none, fun _ => none, fun _ => none, fun _ => none, fun _ => none, fun _ _ => none, fun _ => none, fun _ => none, fun _ => none, fun _ => none, fun _ => none⟩
  | n + 1 => step (ev n)
theorem step_ok {r : Ctx → Ev} (hr : Sound r) : Sound (step r) := fun c X W T =>
  have S := hr c X W T
  ⟨fun _ _ h => rE_ok hr T h, fun _ _ h => rT_ok T S h, fun _ _ h => rW_ok S h, fun _ _ h => rA_ok S h, fun _ _ h => rO_ok S h, fun _ _ _ h => rI_ok T S h, fun _ _ h => rG_ok T S h, fun _ _ h => rGs_ok S h, fun _ _ h => rKw_ok S h, fun _ _ h => rS_ok hr T h, fun _ _ h => rB_ok S h⟩
theorem ev_ok : ∀ n, Sound (ev n)
  | 0 => fun _ _ _ _ => ⟨fun _ _ h => (nomatch h), fun _ _ h => (nomatch h), fun _ _ h => (nomatch h), fun _ _ h => (nomatch h), fun _ _ h => (nomatch h), fun _ _ _ h => (nomatch h), fun _ _ h => (nomatch h), fun _ _ h => (nomatch h), fun _ _ h => (nomatch h), fun _ _ h => (nomatch h), fun _ _ h => (nomatch h)⟩
  | n + 1 => step_ok (ev_ok n)
end G

/-! G21: a program's defs as runs, all at once. -/
namespace G
open PySem L2 PySem.Spec PyProof.Rows RZ

abbrev CallF := Str → List D → Store → R D
structure DefE where
  name : Str
  st : Stmt
  N : List Str
  ps : List Str
  pats : List (Nat × List Str × List Nat)
  body : CallF → SS
def findD : List DefE → Str → Option DefE
  | [], _ => none
  | d :: l, x => if d.name = x then some d else findD l x
theorem findD_mem : ∀ {T : List DefE} {x : Str} {d : DefE}, findD T x = some d → d ∈ T ∧ d.name = x
  | d :: l, x, e, h => by
    unfold findD at h
    split at h
    · rename_i hx
      cases h
      exact ⟨List.mem_cons_self, hx⟩
    · obtain ⟨a, b⟩ := findD_mem (T := l) h
      exact ⟨List.mem_cons_of_mem _ a, b⟩
/-- the program's calls, to the depth n -/
def runT (T : List DefE) : Nat → CallF
  | 0, _ => fun _ _ => .fail
  | n + 1, x => match findD T x with
    | some d => runF d.N.length (d.body (runT T n))
    | none => fun _ _ => .fail
def fnsOf : List DefE → List (Str × FnE)
  | [] => []
  | d :: l => (d.name, ⟨d.ps, d.pats⟩) :: fnsOf l
theorem fnsOf_look : ∀ {T : List DefE} {x : Str} {fe : FnE}, (fnsOf T).lookup x = some fe → ∃ d, findD T x = some d ∧ fe = ⟨d.ps, d.pats⟩
  | d :: l, x, fe, h => by
    unfold fnsOf at h
    rw [List.lookup_cons] at h
    unfold findD
    split at h
    · rename_i e
      cases h
      rw [if_pos (by simpa using (beq_iff_eq.mp e).symm)]
      exact ⟨d, rfl, rfl⟩
    · rename_i e
      have hn : ¬ d.name = x := fun z => by
        rw [z] at e
        simp at e
      rw [if_neg hn]
      exact fnsOf_look h
def ctxOf (fs : List (Str × FnE)) (cons : List (Str × D)) (blt : List Str) (N : List Str) (sc : Scope) (k : Nat) (call : CallF) : Ctx := ⟨N, sc, none, k, blt, fs, cons, call⟩
/-- what is known of a def's object -/
structure Fact (K : PySem.W.Frag) (mg : Str → Option Value) (d : DefE) : Prop where
  ex : ∃ f fd, L2.Fun K d.name d.name d.st f fd ∧ mg d.name = some (.ref f) ∧ Binds K fd d.ps [] ∧ ∀ n ks perm, (n, ks, perm) ∈ d.pats → perm.length = d.ps.length ∧ BindP K fd d.ps n ks perm
def scopeC (N ps : List Str) (sc : Scope) : Bool :=
  decide (sc.kind = .function) && !sc.isCoroutine && !sc.isGenerator && decide N.Nodup && decide (N.take ps.length = ps) && ps.all (fun x => sc.names.lookup x == some .local || sc.names.lookup x == some .cell) && sc.names.all (fun y => y.2 != .free)
theorem scopeC_ok {N ps : List Str} {sc : Scope} (h : scopeC N ps sc = true) : FnScope N ps sc := by
  unfold scopeC at h
  simp only [Bool.and_eq_true, decide_eq_true_eq, Bool.not_eq_true', List.all_eq_true, Bool.or_eq_true, beq_iff_eq, bne_iff_ne, ne_eq] at h
  obtain ⟨⟨⟨⟨⟨⟨h1, h2⟩, h3⟩, h4⟩, h5⟩, h6⟩, h7⟩ := h
  exact ⟨h1, h2, h3, h4, h5, h6, h7⟩
/-- the text of a def reads as its run -/
structure Reads1 (fs : List (Str × FnE)) (cons : List (Str × D)) (blt : List Str) (d : DefE) : Prop where
  sc : scopeC d.N d.ps (defScope d.st) = true
  body : ∃ n, ∀ k call, (ev n (ctxOf fs cons blt d.N (defScope d.st) k call)).b (defBody d.st) = some (d.body call)
section
variable {P : Program} {w : World} {K : PySem.W.Frag} {mg : Str → Option Value} {base : Heap} {T : List DefE} {blt : List Str} {cons : List (Str × D)}
theorem tab_ok (hT : ∀ d ∈ T, Fact K mg d ∧ Reads1 (fnsOf T) cons blt d) (hb : ∀ x, blt.contains x = true → mg x = none) (hcn : ∀ x d, cons.lookup x = some d → ∃ v u, mg x = some u ∧ RelV v u ∧ ∀ ρ H, Rep K mg ρ H d v) : ∀ (n : Nat) (x : Str) (d : DefE), findD T x = some d →
    ∃ f fd, FnG P w K mg base n f fd d.ps (spG K mg d.ps.length (runT T n x)) ∧ mg x = some (.ref f) ∧ PySem.W.keepIn K (.ref f) = true ∧ Binds K fd d.ps [] ∧ ∀ m ks perm, (m, ks, perm) ∈ d.pats → perm.length = d.ps.length ∧ BindP K fd d.ps m ks perm
  | 0, x, d, h => by
    obtain ⟨hm, rfl⟩ := findD_mem h
    obtain ⟨⟨f, fd, F, g, b, p⟩⟩ := (hT d hm).1
    refine ⟨f, fd, ⟨fun _ _ _ _ z => z.1, fun A out s H ar us vs Q E _ _ _ _ _ ⟨_, _, _, _, _, _, z⟩ => ?_⟩, g, F.kp, b, p⟩
    exact z.elim
  | n + 1, x, d, h => by
    have ih := tab_ok hT hb hcn n
    obtain ⟨hm, hx⟩ := findD_mem h
    subst hx
    obtain ⟨⟨f, fd, F, g, b, p⟩, R⟩ := hT d hm
    refine ⟨f, fd, ?_, g, F.kp, b, p⟩
    obtain ⟨oc, od, kV, doc, pm, an, cdv, ct, osl, rfl, lk, hcd⟩ := F.ex
    obtain ⟨sc, nn, bd⟩ := R
    have S := scopeC_ok sc
    show FnG P w K mg base (n + 1) f _ d.ps (spG K mg d.ps.length (match findD T d.name with
      | some d => runF d.N.length (d.body (runT T n))
      | none => fun _ _ => .fail))
    rw [h]
    refine fnG_run lk hcd S fun A out s H E hg room => ?_
    refine (ev_ok nn (ctxOf (fnsOf T) cons blt d.N (defScope d.st) n (runT T n)) _ (fun c d _ H => E c d H) ?_).b _ _ (bd n (runT T n))
    exact {
      calm := rfl
      N := rfl
      nd := S.nd
      sc := rfl
      kind := S.kind
      guards := hg
      room := room
      takes := takes_of rfl rfl rfl rfl
      fn := fun _ => rfl
      own := fun _ => passes_of rfl
      blt := hb
      cons := hcn
      fns := fun x fe hf => by
        obtain ⟨d', h1, rfl⟩ := fnsOf_look hf
        exact ⟨ih x d' h1⟩ }
end
/-- how keywords bind, by a computation -/
theorem bindP_of {K : PySem.W.Frag} {x : Str} {st : Stmt} {f : Addr} {fd : FuncData} {ps ks : List Str} {n : Nat} {perm : List Nat} (F : L2.Fun K x x st f fd)
    (h : ∀ (kV doc pm : Value) (an : Option Addr) (cdv ct : Value) (us ws : List Value), us.length = n → ws.length = ks.length →
      bindArgs (PySem.W.fnOf x x (defArgs st) (defBody st) (defScope st) .none kV doc pm an cdv ct) ⟨us, ks.zip ws⟩ = pure (ps.zip (pick perm (us ++ ws)))) : BindP K fd ps n ks perm := by
  obtain ⟨oc, od, kV, doc, pm, an, cdv, ct, osl, rfl, lk, hcd⟩ := F.ex
  exact fun s us ws _ h1 h2 => .of_eq (h kV doc pm an cdv ct us ws h1 h2)
end G

/-! V1: values without places; runs that draw; worlds: what is still one's own, what stays for ever, the hands. -/
namespace V
open PySem L2 G

/-- values: lists and dicts that nobody changes any more are values, too; a hand is a hand -/
inductive U where
  | non | bl (b : Bool) | int (i : Int) | str (s : Str) | tup (xs : List U) | lst (xs : List U) | scr (ns : List Int) | dct (kvs : List (U × U)) | st (xs : List U) | obj (c : Str) (fs : List (Str × U)) | fn (x : Str) | ty (t : Ty) | hnd
  deriving Inhabited
structure UX where
  cls : Str
  fs : List (Str × U)
/-- a run: it draws numbers, and ends -/
inductive W (α : Type) : Type where
  | ret (a : α) | exc (x : UX) | fail | pick (m : Nat) (k : Nat → W α)
section
variable {α β γ : Type}
def W.bind : W α → (α → W β) → W β
  | .ret a, f => f a
  | .exc x, _ => .exc x
  | .fail, _ => .fail
  | .pick m k, f => .pick m fun i => (k i).bind f
def W.Ok : W α → (α → Prop) → (UX → Prop) → Prop
  | .ret a, Q, _ => Q a
  | .exc x, _, E => E x
  | .fail, _, _ => False
  | .pick m k, Q, E => ∀ i, i < m → (k i).Ok Q E
@[simp] theorem bind_ret (a : α) (f : α → W β) : (W.ret a).bind f = f a := rfl
@[simp] theorem bind_exc (x : UX) (f : α → W β) : (W.exc x).bind f = .exc x := rfl
@[simp] theorem bind_fail (f : α → W β) : (W.fail : W α).bind f = .fail := rfl
@[simp] theorem bind_pick (m : Nat) (k : Nat → W α) (f : α → W β) : (W.pick m k).bind f = .pick m fun i => (k i).bind f := rfl
theorem bind_assoc (w : W α) (f : α → W β) (g : β → W γ) : (w.bind f).bind g = w.bind fun a => (f a).bind g := by
  induction w with
  | ret a => rfl
  | exc x => rfl
  | fail => rfl
  | pick m k ih => simp only [bind_pick, ih]
theorem bind_ret_id (w : W α) : w.bind W.ret = w := by
  induction w with
  | ret a => rfl
  | exc x => rfl
  | fail => rfl
  | pick m k ih => simp only [bind_pick, ih]
@[simp] theorem ok_ret {a : α} {Q : α → Prop} {E : UX → Prop} : (W.ret a).Ok Q E = Q a := rfl
@[simp] theorem ok_exc {x : UX} {Q : α → Prop} {E : UX → Prop} : (W.exc x : W α).Ok Q E = E x := rfl
@[simp] theorem ok_fail {Q : α → Prop} {E : UX → Prop} : (W.fail : W α).Ok Q E = False := rfl
@[simp] theorem ok_pick {m : Nat} {k : Nat → W α} {Q : α → Prop} {E : UX → Prop} : (W.pick m k).Ok Q E = ∀ i, i < m → (k i).Ok Q E := rfl
theorem ok_bind {w : W α} {f : α → W β} {Q : β → Prop} {E : UX → Prop} : (w.bind f).Ok Q E = w.Ok (fun a => (f a).Ok Q E) E := by
  induction w with
  | ret a => rfl
  | exc x => rfl
  | fail => rfl
  | pick m k ih => simp only [bind_pick, ok_pick, ih]
theorem W.Ok.mono {w : W α} {Q Q' : α → Prop} {E E' : UX → Prop} (h : w.Ok Q E) (q : ∀ a, Q a → Q' a) (e : ∀ x, E x → E' x) : w.Ok Q' E' := by
  induction w with
  | ret a => exact q a h
  | exc x => exact e x h
  | fail => exact h
  | pick m k ih => exact fun i hi => ih i (h i hi)
/-- no exception -/
def NoX : UX → Prop := fun _ => False
theorem W.Ok.to {w : W α} {Q Q' : α → Prop} {E : UX → Prop} (h : w.Ok Q NoX) (q : ∀ a, Q a → Q' a) : w.Ok Q' E := h.mono q fun _ z => z.elim
/-- what has to be so -/
def need (p : Prop) [Decidable p] (a : α) : W α := if p then .ret a else .fail
theorem need_pos {p : Prop} [Decidable p] {a : α} (h : p) : need p a = .ret a := if_pos h
theorem ok_need {p : Prop} [Decidable p] {a : α} {Q : α → Prop} {E : UX → Prop} : (need p a).Ok Q E = (p ∧ Q a) := by
  unfold need
  by_cases h : p
  · rw [if_pos h]; simp [h]
  · rw [if_neg h]; simp [h]
def ofO : Option α → W α
  | some a => .ret a
  | none => .fail
@[simp] theorem ofO_some (a : α) : ofO (some a) = .ret a := rfl
@[simp] theorem ofO_none : (ofO none : W α) = .fail := rfl
end

/-! ### worlds -/
inductive Kd where
  | ow | fz | hd
  deriving DecidableEq
/-- how many numbers may be drawn in all -/
def Nmax : Nat := 2 ^ 300000
structure Wd where
  K : Nat → Kd
  st : Store
  R : Nat
def HandC (st : Store) (n R : Nat) : Prop := ∃ g m c : Nat, lstAt st n = some [.int g, .int m, .int c] ∧ m < 2147483648 ∧ c + R ≤ Nmax
structure Good (w : Wd) : Prop where
  hd : ∀ n, w.K n = .hd → HandC w.st n w.R
  lt : ∀ n, w.K n ≠ .ow → n < w.st.length
  mx : w.R ≤ Nmax

mutual
inductive Den (K : Nat → Kd) (st : Store) : D → U → Prop where
  | non : Den K st .non .non
  | bl (b : Bool) : Den K st (.bl b) (.bl b)
  | int (i : Int) : Den K st (.int i) (.int i)
  | str {s : Str} : s.length ≤ sizeLine → Den K st (.str s) (.str s)
  | ty (t : Ty) : Den K st (.ty t) (.ty t)
  | fn (x : Str) : Den K st (.fn x) (.fn x)
  | tup {ds : List D} {us : List U} : ds.length ≤ sizeLine → Dens K st ds us → Den K st (.tup ds) (.tup us)
  | scr (ns : List Int) : ns.length ≤ sizeLine → Den K st (.rol (ns.map D.int)) (.scr ns)
  | lst {n : Nat} {ds : List D} {us : List U} : K n = .fz → st[n]? = some (.lst ds) → ds.length ≤ sizeLine → Dens K st ds us → Den K st (.loc n) (.lst us)
  | dct {n : Nat} {kvs : List (D × D)} {us : List (U × U)} : K n = .fz → st[n]? = some (.dct kvs) → kvs.length ≤ sizeLine → DenK K st kvs us → Den K st (.loc n) (.dct us)
  | hnd {n : Nat} : K n = .hd → Den K st (.loc n) .hnd
inductive Dens (K : Nat → Kd) (st : Store) : List D → List U → Prop where
  | nil : Dens K st [] []
  | cons {d : D} {u : U} {ds : List D} {us : List U} : Den K st d u → Dens K st ds us → Dens K st (d :: ds) (u :: us)
inductive DenK (K : Nat → Kd) (st : Store) : List (D × D) → List (U × U) → Prop where
  | nil : DenK K st [] []
  | cons {k v : D} {a b : U} {r : List (D × D)} {s : List (U × U)} : Den K st k a → Den K st v b → DenK K st r s → DenK K st ((k, v) :: r) ((a, b) :: s)
end
/-- what stays for ever stays -/
structure Keep (K : Nat → Kd) (st : Store) (K' : Nat → Kd) (st' : Store) : Prop where
  fz : ∀ n, K n = .fz → K' n = .fz ∧ st'[n]? = st[n]?
  hd : ∀ n, K n = .hd → K' n = .hd
section
variable {K K' : Nat → Kd} {st st' : Store}
mutual
theorem Den.keep (k : Keep K st K' st') : ∀ {d : D} {u : U}, Den K st d u → Den K' st' d u
  | _, _, .non => .non
  | _, _, .bl b => .bl b
  | _, _, .int i => .int i
  | _, _, .str h => .str h
  | _, _, .ty t => .ty t
  | _, _, .fn x => .fn x
  | _, _, .tup h r => .tup h (Dens.keep k r)
  | _, _, .scr ns h => .scr ns h
  | _, _, .lst h e l r => .lst (k.fz _ h).1 (by rw [(k.fz _ h).2]; exact e) l (Dens.keep k r)
  | _, _, .dct h e l r => .dct (k.fz _ h).1 (by rw [(k.fz _ h).2]; exact e) l (DenK.keep k r)
  | _, _, .hnd h => .hnd (k.hd _ h)
theorem Dens.keep (k : Keep K st K' st') : ∀ {ds : List D} {us : List U}, Dens K st ds us → Dens K' st' ds us
  | _, _, .nil => .nil
  | _, _, .cons h r => .cons (Den.keep k h) (Dens.keep k r)
theorem DenK.keep (k : Keep K st K' st') : ∀ {ds : List (D × D)} {us : List (U × U)}, DenK K st ds us → DenK K' st' ds us
  | _, _, .nil => .nil
  | _, _, .cons h i r => .cons (Den.keep k h) (Den.keep k i) (DenK.keep k r)
end
theorem Dens.length : ∀ {ds : List D} {us : List U}, Dens K st ds us → ds.length = us.length
  | _, _, .nil => rfl
  | _, _, .cons _ r => congrArg (· + 1) (Dens.length r)
theorem DenK.length : ∀ {ds : List (D × D)} {us : List (U × U)}, DenK K st ds us → ds.length = us.length
  | _, _, .nil => rfl
  | _, _, .cons _ _ r => congrArg (· + 1) (DenK.length r)
theorem Dens.get : ∀ {ds : List D} {us : List U} {i : Nat} {u : U}, Dens K st ds us → us[i]? = some u → ∃ d, ds[i]? = some d ∧ Den K st d u
  | _, _, _, _, .nil, e => by simp at e
  | _, _, 0, _, .cons h _, e => by simp at e; subst e; exact ⟨_, rfl, h⟩
  | _, _, i + 1, _, .cons _ r, e => by
    obtain ⟨v, h1, h2⟩ := Dens.get (i := i) r (by simpa using e)
    exact ⟨v, by simpa using h1, h2⟩
theorem Dens.none {ds : List D} {us : List U} {i : Nat} (h : Dens K st ds us) (e : us[i]? = none) : ds[i]? = none := by
  rw [List.getElem?_eq_none_iff] at e ⊢
  rw [h.length]
  exact e
theorem Dens.append : ∀ {xs ys : List D} {us vs : List U}, Dens K st xs us → Dens K st ys vs → Dens K st (xs ++ ys) (us ++ vs)
  | _, _, _, _, .nil, s => s
  | _, _, _, _, .cons h r, s => .cons h (Dens.append r s)
theorem Dens.take : ∀ {xs : List D} {us : List U} (n : Nat), Dens K st xs us → Dens K st (xs.take n) (us.take n)
  | _, _, 0, _ => by simp only [List.take_zero]; exact .nil
  | _, _, _ + 1, .nil => .nil
  | _, _, n + 1, .cons h r => .cons h (Dens.take n r)
theorem Dens.drop : ∀ {xs : List D} {us : List U} (n : Nat), Dens K st xs us → Dens K st (xs.drop n) (us.drop n)
  | _, _, 0, r => r
  | _, _, _ + 1, .nil => .nil
  | _, _, n + 1, .cons _ r => Dens.drop n r
theorem Dens.set {d : D} {u : U} (h : Den K st d u) : ∀ {xs : List D} {us : List U} (n : Nat), Dens K st xs us → Dens K st (xs.set n d) (us.set n u)
  | _, _, _, .nil => .nil
  | _, _, 0, .cons _ r => .cons h r
  | _, _, n + 1, .cons q r => .cons q (Dens.set h n r)
theorem Dens.reverse {xs : List D} {us : List U} (h : Dens K st xs us) : Dens K st xs.reverse us.reverse := by
  induction xs generalizing us with
  | nil => cases h; exact .nil
  | cons x r ih =>
    cases h with
    | cons h1 h2 =>
      rw [List.reverse_cons, List.reverse_cons]
      exact (ih h2).append (.cons h1 .nil)
theorem Dens.erase : ∀ {xs : List D} {us : List U} (n : Nat), Dens K st xs us → Dens K st (xs.eraseIdx n) (us.eraseIdx n)
  | _, _, _, .nil => .nil
  | _, _, 0, .cons _ r => r
  | _, _, n + 1, .cons q r => .cons q (Dens.erase n r)
theorem Dens.dropLast {xs : List D} {us : List U} (h : Dens K st xs us) : Dens K st xs.dropLast us.dropLast := by
  rw [List.dropLast_eq_take, List.dropLast_eq_take, h.length]
  exact h.take _
theorem Dens.rep {xs : List D} {us : List U} (h : Dens K st xs us) : ∀ k : Nat, Dens K st (List.replicate k xs).flatten (List.replicate k us).flatten
  | 0 => .nil
  | k + 1 => by
    rw [List.replicate_succ, List.replicate_succ, List.flatten_cons, List.flatten_cons]
    exact h.append (Dens.rep h k)
theorem DenK.append : ∀ {xs ys : List (D × D)} {us vs : List (U × U)}, DenK K st xs us → DenK K st ys vs → DenK K st (xs ++ ys) (us ++ vs)
  | _, _, _, _, .nil, s => s
  | _, _, _, _, .cons h i r, s => .cons h i (DenK.append r s)
theorem DenK.keys : ∀ {xs : List (D × D)} {us : List (U × U)}, DenK K st xs us → Dens K st (xs.map (·.1)) (us.map (·.1))
  | _, _, .nil => .nil
  | _, _, .cons h _ r => .cons h (DenK.keys r)
theorem DenK.vals : ∀ {xs : List (D × D)} {us : List (U × U)}, DenK K st xs us → Dens K st (xs.map (·.2)) (us.map (·.2))
  | _, _, .nil => .nil
  | _, _, .cons _ h r => .cons h (DenK.vals r)
end

/-- one world comes behind another: of what was own only A may change -/
structure Ext (A : Nat → Prop) (g : Nat) (w w' : Wd) : Prop where
  len : w.st.length ≤ w'.st.length
  keep : Keep w.K w.st w'.K w'.st
  ow : ∀ n, n < w.st.length → w.K n = .ow → ¬ A n → w'.K n = .ow ∧ w'.st[n]? = w.st[n]?
  bud : w.R ≤ w'.R + g
def noA : Nat → Prop := fun _ => False
def fromA (b : Nat) : Nat → Prop := fun n => b ≤ n
section
variable {A : Nat → Prop} {g g' : Nat} {w w' w'' : Wd}
theorem Ext.refl : Ext A g w w := ⟨Nat.le_refl _, ⟨fun _ h => ⟨h, rfl⟩, fun _ h => h⟩, fun _ _ h _ => ⟨h, rfl⟩, by omega⟩
theorem Keep.trans {K K' K'' : Nat → Kd} {st st' st'' : Store} (a : Keep K st K' st') (b : Keep K' st' K'' st'') : Keep K st K'' st'' :=
  ⟨fun n h => ⟨(b.fz n (a.fz n h).1).1, ((b.fz n (a.fz n h).1).2).trans (a.fz n h).2⟩, fun n h => b.hd n (a.hd n h)⟩
theorem Ext.trans (a : Ext A g w w') (b : Ext A g' w' w'') : Ext A (g + g') w w'' :=
  ⟨Nat.le_trans a.len b.len, a.keep.trans b.keep, fun n h1 h2 h3 =>
    let ⟨x, y⟩ := a.ow n h1 h2 h3
    let ⟨x', y'⟩ := b.ow n (Nat.lt_of_lt_of_le h1 a.len) x h3
    ⟨x', y'.trans y⟩, by have := a.bud; have := b.bud; omega⟩
/-- what is new to the first may change behind it -/
theorem Ext.new (a : Ext A g w w') (b : Ext (fun n => A n ∨ w.st.length ≤ n) g' w' w'') : Ext A (g + g') w w'' :=
  ⟨Nat.le_trans a.len b.len, a.keep.trans b.keep, fun n h1 h2 h3 =>
    let ⟨x, y⟩ := a.ow n h1 h2 h3
    let ⟨x', y'⟩ := b.ow n (Nat.lt_of_lt_of_le h1 a.len) x (fun z => z.elim h3 fun z => by omega)
    ⟨x', y'.trans y⟩, by have := a.bud; have := b.bud; omega⟩
theorem Ext.mono (a : Ext A g w w') (h : g ≤ g') : Ext A g' w w' := ⟨a.len, a.keep, a.ow, by have := a.bud; omega⟩
theorem Ext.imp {B : Nat → Prop} (a : Ext A g w w') (h : ∀ n, n < w.st.length → A n → B n) : Ext B g w w' :=
  ⟨a.len, a.keep, fun n h1 h2 h3 => a.ow n h1 h2 fun z => h3 (h n h1 z), a.bud⟩
theorem Ext.any (a : Ext noA g w w') : Ext A g w w' := a.imp fun _ _ z => z.elim
theorem Ext.den (a : Ext A g w w') {d : D} {u : U} (h : Den w.K w.st d u) : Den w'.K w'.st d u := h.keep a.keep
theorem Ext.dens (a : Ext A g w w') {d : List D} {u : List U} (h : Dens w.K w.st d u) : Dens w'.K w'.st d u := h.keep a.keep
theorem Ext.denk (a : Ext A g w w') {d : List (D × D)} {u : List (U × U)} (h : DenK w.K w.st d u) : DenK w'.K w'.st d u := h.keep a.keep
end
/-- a new cell -/
def Wd.add (w : Wd) (c : Cell) (k : Kd) : Wd := ⟨fun n => if n = w.st.length then k else w.K n, w.st ++ [c], w.R⟩
/-- what one has changes -/
def Wd.put (w : Wd) (n : Nat) (c : Cell) : Wd := ⟨w.K, w.st.set n c, w.R⟩
/-- what one has becomes for ever -/
def Wd.frz (w : Wd) (n : Nat) : Wd := ⟨fun m => if m = n then .fz else w.K m, w.st, w.R⟩
section
variable {w : Wd} {n : Nat} {c : Cell}
theorem Good.ow (h : Good w) {n : Nat} (hn : w.st.length ≤ n) : w.K n = .ow := by
  by_cases e : w.K n = .ow
  · exact e
  · have := h.lt n e
    omega
theorem Wd.add_ext (h : Good w) {k : Kd} {g : Nat} {A : Nat → Prop} : Ext A g w (w.add c k) := by
  refine ⟨by simp [Wd.add], ⟨fun n hn => ?_, fun n hn => ?_⟩, fun n hn h1 _ => ?_, by simp [Wd.add]⟩
  · have := h.lt n (by rw [hn]; decide)
    exact ⟨by simp only [Wd.add]; rw [if_neg (by omega)]; exact hn, by simp only [Wd.add]; rw [List.getElem?_append_left this]⟩
  · have := h.lt n (by rw [hn]; decide)
    simp only [Wd.add]; rw [if_neg (by omega)]; exact hn
  · exact ⟨by simp only [Wd.add]; rw [if_neg (by omega)]; exact h1, by simp only [Wd.add]; rw [List.getElem?_append_left hn]⟩
theorem Wd.add_good (h : Good w) {k : Kd} (hk : k ≠ .hd) : Good (w.add c k) := by
  refine ⟨fun n hn => ?_, fun n hn => ?_, h.mx⟩
  · simp only [Wd.add] at hn
    split at hn
    · exact (hk hn).elim
    · obtain ⟨g, m, c', e, r⟩ := h.hd n hn
      have := h.lt n (by rw [hn]; decide)
      refine ⟨g, m, c', ?_, r⟩
      simp only [Wd.add]
      unfold lstAt at e ⊢
      rw [List.getElem?_append_left this]
      exact e
  · simp only [Wd.add] at hn ⊢
    split at hn
    · simp; omega
    · have := h.lt n hn
      simp; omega
theorem Wd.add_at (w : Wd) (c : Cell) (k : Kd) : (w.add c k).st[w.st.length]? = some c ∧ (w.add c k).K w.st.length = k := by
  constructor
  · simp [Wd.add]
  · simp [Wd.add]
theorem Wd.put_ext (hk : w.K n = .ow) {g : Nat} {A : Nat → Prop} (hA : A n) : Ext A g w (w.put n c) := by
  refine ⟨by simp [Wd.put], ⟨fun m hm => ⟨hm, ?_⟩, fun m hm => hm⟩, fun m hm h1 h2 => ⟨h1, ?_⟩, by simp [Wd.put]⟩
  · simp only [Wd.put]; rw [List.getElem?_set_ne (by rintro rfl; rw [hk] at hm; cases hm)]
  · simp only [Wd.put]; rw [List.getElem?_set_ne (by rintro rfl; exact h2 hA)]
theorem Wd.put_good (h : Good w) (hk : w.K n = .ow) : Good (w.put n c) := by
  refine ⟨fun m hm => ?_, fun m hm => by simpa [Wd.put] using h.lt m hm, h.mx⟩
  obtain ⟨g, m', c', e, r⟩ := h.hd m hm
  refine ⟨g, m', c', ?_, r⟩
  simp only [Wd.put]
  unfold lstAt at e ⊢
  rw [List.getElem?_set_ne (by rintro rfl; have z : w.K n = .hd := hm; rw [hk] at z; cases z)]
  exact e
theorem Wd.frz_ext (hk : w.K n = .ow) {g : Nat} {A : Nat → Prop} (hA : A n) : Ext A g w (w.frz n) := by
  refine ⟨Nat.le_refl _, ⟨fun m hm => ⟨?_, rfl⟩, fun m hm => ?_⟩, fun m hm h1 h2 => ⟨?_, rfl⟩, by simp [Wd.frz]⟩
  · simp only [Wd.frz]; split
    · rfl
    · exact hm
  · simp only [Wd.frz]; rw [if_neg (by rintro rfl; rw [hk] at hm; cases hm)]; exact hm
  · simp only [Wd.frz]; rw [if_neg (by rintro rfl; exact h2 hA)]; exact h1
theorem Wd.frz_good (h : Good w) (hk : w.K n = .ow) (hn : n < w.st.length) : Good (w.frz n) := by
  refine ⟨fun m hm => ?_, fun m hm => ?_, h.mx⟩
  · simp only [Wd.frz] at hm
    split at hm
    · cases hm
    · exact h.hd m hm
  · simp only [Wd.frz] at hm
    split at hm
    · rename_i e; subst e; exact hn
    · exact h.lt m hm
end
end V

/-! V2: frames; what it means that a run is told by a run of values. -/
namespace V
open PySem L2 G

/-- what stands in a slot: a value, or a list, a dict of one's own -/
inductive O where
  | v (u : U) | lst (us : List U) | dct (kvs : List (U × U))
def O.own : O → Bool
  | .v _ => false
  | _ => true
def O.view : O → U
  | .v u => u
  | .lst us => .lst us
  | .dct kvs => .dct kvs
abbrev Fr := List (Option O)
/-- a list, a dict of one's own at a place -/
def LstAt (w : Wd) (n : Nat) (us : List U) : Prop := ∃ ds, w.K n = .ow ∧ w.st[n]? = some (.lst ds) ∧ ds.length ≤ sizeLine ∧ Dens w.K w.st ds us
def DctAt (w : Wd) (n : Nat) (us : List (U × U)) : Prop := ∃ ds, w.K n = .ow ∧ w.st[n]? = some (.dct ds) ∧ ds.length ≤ sizeLine ∧ DenK w.K w.st ds us
def OD (base : Nat) (w : Wd) (d : D) : O → Prop
  | .v u => Den w.K w.st d u
  | .lst us => ∃ n, d = .loc n ∧ base ≤ n ∧ LstAt w n us
  | .dct kvs => ∃ n, d = .loc n ∧ base ≤ n ∧ DctAt w n kvs
structure FrR (base : Nat) (w : Wd) (υ : Fr) (σ : Sig) : Prop where
  len : υ.length = σ.length
  at' : ∀ (i : Nat) (o : O), υ[i]? = some (some o) → ∃ d, σ[i]? = some (some d) ∧ OD base w d o
  inj : ∀ (i j : Nat) (o o' : O) (n : Nat), υ[i]? = some (some o) → υ[j]? = some (some o') → o.own = true → o'.own = true → σ[i]? = some (some (.loc n)) → σ[j]? = some (some (.loc n)) → i = j
/-- one frame tells less than another -/
inductive FrLe : Fr → Fr → Prop where
  | nil : FrLe [] []
  | no {a b : Fr} {x : Option O} : FrLe a b → FrLe (none :: a) (x :: b)
  | eq {a b : Fr} {x : Option O} : FrLe a b → FrLe (x :: a) (x :: b)
section
variable {base : Nat} {w w' : Wd} {υ υ' : Fr} {σ : Sig} {A : Nat → Prop} {g : Nat}
theorem LstAt.lt {n : Nat} {us : List U} (h : LstAt w n us) : n < w.st.length := by
  obtain ⟨ds, _, e, _⟩ := h
  exact (List.getElem?_eq_some_iff.mp e).1
theorem DctAt.lt {n : Nat} {us : List (U × U)} (h : DctAt w n us) : n < w.st.length := by
  obtain ⟨ds, _, e, _⟩ := h
  exact (List.getElem?_eq_some_iff.mp e).1
theorem LstAt.ext {n : Nat} {us : List U} (h : LstAt w n us) (e : Ext A g w w') (hA : ¬ A n) : LstAt w' n us := by
  have hl := h.lt
  obtain ⟨ds, k, x, l, r⟩ := h
  obtain ⟨a, b⟩ := e.ow n hl k hA
  exact ⟨ds, a, b.trans x, l, e.dens r⟩
theorem DctAt.ext {n : Nat} {us : List (U × U)} (h : DctAt w n us) (e : Ext A g w w') (hA : ¬ A n) : DctAt w' n us := by
  have hl := h.lt
  obtain ⟨ds, k, x, l, r⟩ := h
  obtain ⟨a, b⟩ := e.ow n hl k hA
  exact ⟨ds, a, b.trans x, l, e.denk r⟩
theorem OD.ext {d : D} {o : O} (h : OD base w d o) (e : Ext A g w w') (hA : ∀ n, d = .loc n → o.own = true → ¬ A n) : OD base w' d o := by
  cases o with
  | v u => exact e.den h
  | lst us => obtain ⟨n, hd, hb, x⟩ := h; exact ⟨n, hd, hb, x.ext e (hA n hd rfl)⟩
  | dct us => obtain ⟨n, hd, hb, x⟩ := h; exact ⟨n, hd, hb, x.ext e (hA n hd rfl)⟩
theorem FrR.ext (h : FrR base w υ σ) (e : Ext noA g w w') : FrR base w' υ σ :=
  ⟨h.len, fun i o x => let ⟨d, a, b⟩ := h.at' i o x; ⟨d, a, b.ext e fun _ _ _ z => z⟩, h.inj⟩
theorem FrLe.len (h : FrLe υ' υ) : υ'.length = υ.length := by
  induction h with
  | nil => rfl
  | no _ ih => simp [ih]
  | eq _ ih => simp [ih]
theorem FrLe.at' (h : FrLe υ' υ) : ∀ (i : Nat) (o : O), υ'[i]? = some (some o) → υ[i]? = some (some o) := by
  induction h with
  | nil => intro i o e; simp at e
  | no _ ih =>
    intro i o e
    cases i with
    | zero => simp at e
    | succ i => simpa using ih i o (by simpa using e)
  | eq _ ih =>
    intro i o e
    cases i with
    | zero => simpa using e
    | succ i => simpa using ih i o (by simpa using e)
theorem FrR.le (h : FrR base w υ σ) (l : FrLe υ' υ) : FrR base w υ' σ :=
  ⟨l.len.trans h.len, fun i o x => h.at' i o (l.at' i o x), fun i j o o' n a b c d e f => h.inj i j o o' n (l.at' _ _ a) (l.at' _ _ b) c d e f⟩
theorem FrR.val (h : FrR base w υ σ) {i : Nat} {u : U} (e : υ[i]? = some (some (.v u))) : ∃ d, σ[i]? = some (some d) ∧ Den w.K w.st d u := h.at' i _ e
/-- a slot is set to a value -/
theorem FrR.setV (h : FrR base w υ σ) {i : Nat} {d : D} {u : U} (r : Den w.K w.st d u) : FrR base w (υ.set i (some (.v u))) (σ.set i (some d)) := by
  have self : ∀ (j : Nat) (o : O), (υ.set i (some (.v u)))[j]? = some (some o) → (j = i ∧ o = .v u ∧ j < υ.length) ∨ (j ≠ i ∧ υ[j]? = some (some o)) := fun j o e => by
    rw [List.getElem?_set] at e
    split at e
    · split at e
      · cases e; rename_i a b; exact .inl ⟨a.symm, rfl, by omega⟩
      · cases e
    · rename_i a; exact .inr ⟨fun z => a z.symm, e⟩
  refine ⟨by simp [h.len], fun j o e => ?_, fun j k o o' n e1 e2 o1 o2 s1 s2 => ?_⟩
  · rcases self j o e with ⟨rfl, rfl, hl⟩ | ⟨hj, e⟩
    · exact ⟨d, by rw [List.getElem?_set_self (by rw [← h.len]; exact hl)], r⟩
    · obtain ⟨x, a, b⟩ := h.at' j o e
      exact ⟨x, by rw [List.getElem?_set_ne (fun z => hj z.symm)]; exact a, b⟩
  · rcases self j o e1 with ⟨_, rfl, _⟩ | ⟨hj, e1⟩
    · cases o1
    · rcases self k o' e2 with ⟨_, rfl, _⟩ | ⟨hk, e2⟩
      · cases o2
      · rw [List.getElem?_set_ne (fun z => hj z.symm)] at s1
        rw [List.getElem?_set_ne (fun z => hk z.symm)] at s2
        exact h.inj j k o o' n e1 e2 o1 o2 s1 s2
/-- a slot is set to what is new and one's own -/
theorem FrR.setO (h : FrR base w υ σ) {i n : Nat} {o : O} (r : OD base w (.loc n) o) (f : ∀ (j : Nat) (o' : O), υ[j]? = some (some o') → o'.own = true → j ≠ i → σ[j]? ≠ some (some (.loc n))) : FrR base w (υ.set i (some o)) (σ.set i (some (.loc n))) := by
  have self : ∀ (j : Nat) (o' : O), (υ.set i (some o))[j]? = some (some o') → (j = i ∧ o' = o ∧ j < υ.length) ∨ (j ≠ i ∧ υ[j]? = some (some o')) := fun j o' e => by
    rw [List.getElem?_set] at e
    split at e
    · split at e
      · cases e; rename_i a b; exact .inl ⟨a.symm, rfl, by omega⟩
      · cases e
    · rename_i a; exact .inr ⟨fun z => a z.symm, e⟩
  refine ⟨by simp [h.len], fun j o' e => ?_, fun j k o1' o2' m e1 e2 o1 o2 s1 s2 => ?_⟩
  · rcases self j o' e with ⟨rfl, rfl, hl⟩ | ⟨hj, e⟩
    · exact ⟨.loc n, by rw [List.getElem?_set_self (by rw [← h.len]; exact hl)], r⟩
    · obtain ⟨x, a, b⟩ := h.at' j o' e
      exact ⟨x, by rw [List.getElem?_set_ne (fun z => hj z.symm)]; exact a, b⟩
  · rcases self j o1' e1 with ⟨rfl, rfl, hl⟩ | ⟨hj, e1x⟩
    · rcases self k o2' e2 with ⟨rfl, _, _⟩ | ⟨hk, e2⟩
      · rfl
      · rw [List.getElem?_set_self (by rw [← h.len]; exact hl)] at s1
        cases s1
        rw [List.getElem?_set_ne (fun z => hk z.symm)] at s2
        exact (f k o2' e2 o2 hk s2).elim
    · rcases self k o2' e2 with ⟨rfl, rfl, hl⟩ | ⟨hk, e2⟩
      · rw [List.getElem?_set_self (by rw [← h.len]; exact hl)] at s2
        cases s2
        rw [List.getElem?_set_ne (fun z => hj z.symm)] at s1
        exact (f j o1' e1x o1 hj s1).elim
      · rw [List.getElem?_set_ne (fun z => hj z.symm)] at s1
        rw [List.getElem?_set_ne (fun z => hk z.symm)] at s2
        exact h.inj j k o1' o2' m e1x e2 o1 o2 s1 s2
/-- what is one's own in a slot changes where it lies -/
theorem FrR.put (h : FrR base w υ σ) (k : Good w) {i n : Nat} {o o' : O} {c : Cell} (e : υ[i]? = some (some o)) (ho : o.own = true) (s : σ[i]? = some (some (.loc n)))
    (hk : w.K n = .ow) (hn : n < w.st.length) (r : OD base (w.put n c) (.loc n) o') (ho' : o'.own = true) : FrR base (w.put n c) (υ.set i (some o')) σ := by
  have self : ∀ (j : Nat) (o2 : O), (υ.set i (some o'))[j]? = some (some o2) → (j = i ∧ o2 = o') ∨ (j ≠ i ∧ υ[j]? = some (some o2)) := fun j o2 e => by
    rw [List.getElem?_set] at e
    split at e
    · split at e
      · cases e; rename_i a b; exact .inl ⟨a.symm, rfl⟩
      · cases e
    · rename_i a; exact .inr ⟨fun z => a z.symm, e⟩
  refine ⟨by simp [h.len], fun j o2 e2 => ?_, fun j m o1 o2 p e1 e2 h1 h2 s1 s2 => ?_⟩
  · rcases self j o2 e2 with ⟨rfl, rfl⟩ | ⟨hj, e2⟩
    · exact ⟨_, s, r⟩
    · obtain ⟨x, a, b⟩ := h.at' j o2 e2
      refine ⟨x, a, b.ext (Wd.put_ext (A := fun z => z = n) (g := 0) hk rfl) fun z hz ho2 hzn => ?_⟩
      subst hzn hz
      exact hj (h.inj j i o2 o z e2 e ho2 ho a s)
  · rcases self j o1 e1 with ⟨rfl, rfl⟩ | ⟨hj, e1x⟩
    · rcases self m o2 e2 with ⟨rfl, _⟩ | ⟨hm, e2⟩
      · rfl
      · exact h.inj _ _ _ _ _ e e2 ho h2 s1 s2
    · rcases self m o2 e2 with ⟨rfl, rfl⟩ | ⟨hm, e2⟩
      · exact h.inj _ _ _ _ _ e1x e h1 ho s1 s2
      · exact h.inj _ _ _ _ _ e1x e2 h1 h2 s1 s2
/-- what is one's own in a slot becomes for ever -/
theorem FrR.frz (h : FrR base w υ σ) {i : Nat} {o : O} (e : υ[i]? = some (some o)) (ho : o.own = true) : ∃ n, σ[i]? = some (some (.loc n)) ∧ w.K n = .ow ∧ n < w.st.length ∧ base ≤ n ∧ FrR base (w.frz n) (υ.set i (some (.v o.view))) σ := by
  have main : ∀ n, σ[i]? = some (some (.loc n)) → w.K n = .ow → n < w.st.length → Den (w.frz n).K (w.frz n).st (.loc n) o.view → FrR base (w.frz n) (υ.set i (some (.v o.view))) σ := fun n s hk hn r => by
    have self : ∀ (j : Nat) (o2 : O), (υ.set i (some (.v o.view)))[j]? = some (some o2) → (j = i ∧ o2 = .v o.view) ∨ (j ≠ i ∧ υ[j]? = some (some o2)) := fun j o2 e => by
      rw [List.getElem?_set] at e
      split at e
      · split at e
        · cases e; rename_i a b; exact .inl ⟨a.symm, rfl⟩
        · cases e
      · rename_i a; exact .inr ⟨fun z => a z.symm, e⟩
    refine ⟨by simp [h.len], fun j o2 e2 => ?_, fun j m o1 o2 p e1 e2 h1 h2 s1 s2 => ?_⟩
    · rcases self j o2 e2 with ⟨rfl, rfl⟩ | ⟨hj, e2⟩
      · exact ⟨_, s, r⟩
      · obtain ⟨x, a, b⟩ := h.at' j o2 e2
        refine ⟨x, a, b.ext (Wd.frz_ext (A := fun z => z = n) (g := 0) hk rfl) fun z hz ho2 hzn => ?_⟩
        subst hzn hz
        exact hj (h.inj j i o2 o z e2 e ho2 ho a s)
    · rcases self j o1 e1 with ⟨rfl, rfl⟩ | ⟨hj, e1⟩
      · cases h1
      · rcases self m o2 e2 with ⟨rfl, rfl⟩ | ⟨hm, e2⟩
        · cases h2
        · exact h.inj _ _ _ _ _ e1 e2 h1 h2 s1 s2
  obtain ⟨d, s, r⟩ := h.at' i o e
  cases o with
  | v u => cases ho
  | lst us =>
    obtain ⟨n, rfl, hb, x⟩ := r
    have hl := x.lt
    obtain ⟨ds, hk, e1, e2, e3⟩ := x
    refine ⟨n, s, hk, hl, hb, main n s hk hl ?_⟩
    have kp := (Wd.frz_ext (w := w) (n := n) (A := fun z => z = n) (g := 0) hk rfl)
    exact .lst (by simp [Wd.frz]) e1 e2 (kp.dens e3)
  | dct us =>
    obtain ⟨n, rfl, hb, x⟩ := r
    have hl := x.lt
    obtain ⟨ds, hk, e1, e2, e3⟩ := x
    refine ⟨n, s, hk, hl, hb, main n s hk hl ?_⟩
    have kp := (Wd.frz_ext (w := w) (n := n) (A := fun z => z = n) (g := 0) hk rfl)
    exact .dct (by simp [Wd.frz]) e1 e2 (kp.denk e3)
end

/-! ### runs told -/
def ExnD (w : Wd) (x : Exn) (y : UX) : Prop := x.cls = y.cls ∧ Paired (fun (p : Str × D) (q : Str × U) => p.1 = q.1 ∧ Den w.K w.st p.2 q.2) x.fs y.fs
def Sat {α β : Type} (A : Nat → Prop) (C c : Nat) (w : Wd) (r : R α) (m : W β) (Rl : Wd → α → β → Prop) : Prop :=
  c * C ≤ w.R → ∀ Q E, m.Ok Q E → match r with
    | .ok a st' => ∃ w' b, w'.st = st' ∧ Good w' ∧ Ext A (c * C) w w' ∧ Rl w' a b ∧ Q b
    | .exc x st' => ∃ w' y, w'.st = st' ∧ Good w' ∧ Ext A (c * C) w w' ∧ ExnD w' x y ∧ E y
    | .fail => False
section
variable {α β γ δ : Type} {A : Nat → Prop} {C c c1 c2 : Nat} {w : Wd} {r : R α} {m : W β} {Rl : Wd → α → β → Prop}
theorem sat_ok {a : α} {b : β} (g : Good w) (h : Rl w a b) : Sat A C c w (.ok a w.st) (.ret b) Rl := fun _ Q E q => ⟨w, b, rfl, g, Ext.refl, h, q⟩
theorem sat_fail {r : R α} : Sat A C c w r (.fail : W β) Rl := fun _ Q E q => q.elim
theorem Sat.mono (h : Sat A C c1 w r m Rl) (hc : c1 ≤ c2) {Rl' : Wd → α → β → Prop} (hr : ∀ w' a b, Good w' → Ext A (c1 * C) w w' → Rl w' a b → Rl' w' a b) : Sat A C c2 w r m Rl' := by
  have hm : c1 * C ≤ c2 * C := Nat.mul_le_mul_right C hc
  intro hR Q E q
  have h := h (Nat.le_trans hm hR) Q E q
  cases r with
  | ok a st => obtain ⟨w', b, e, g, x, y, z⟩ := h; exact ⟨w', b, e, g, x.mono hm, hr _ _ _ g x y, z⟩
  | exc a st => obtain ⟨w', b, e, g, x, y, z⟩ := h; exact ⟨w', b, e, g, x.mono hm, y, z⟩
  | fail => exact h
theorem Sat.bind {k : α → Store → R γ} {f : β → W δ} {Rl' : Wd → γ → δ → Prop} (h : Sat A C c1 w r m Rl)
    (h2 : ∀ w' a b, Good w' → Ext A (c1 * C) w w' → Rl w' a b → Sat A C c2 w' (k a w'.st) (f b) Rl') : Sat A C (c1 + c2) w (r.bind k) (m.bind f) Rl' := by
  intro hR Q E q
  rw [Nat.add_mul] at hR
  rw [ok_bind] at q
  have h := h (by omega) _ E q
  cases r with
  | fail => exact h
  | exc a st =>
    obtain ⟨w', b, e, g, x, y, z⟩ := h
    exact ⟨w', b, e, g, x.mono (by rw [Nat.add_mul]; omega), y, z⟩
  | ok a st =>
    obtain ⟨w', b, rfl, g, x, y, z⟩ := h
    have := x.bud
    have h2 := h2 w' a b g x y (by omega) _ E z
    show match k a w'.st with
      | .ok a st' => _
      | .exc x st' => _
      | .fail => False
    rw [Nat.add_mul]
    split at h2
    · obtain ⟨w2, b2, e2, g2, x2, y2⟩ := h2
      exact ⟨w2, b2, e2, g2, x.trans x2, y2⟩
    · obtain ⟨w2, b2, e2, g2, x2, y2⟩ := h2
      exact ⟨w2, b2, e2, g2, x.trans x2, y2⟩
    · exact h2
/-- an operation by values -/
def OpOk (w : Wd) (o : Option (D × Store)) (m : W U) : Prop := ∀ Q E, m.Ok Q E → ∃ d w' u, o = some (d, w'.st) ∧ Good w' ∧ Ext noA 0 w w' ∧ Den w'.K w'.st d u ∧ Q u
theorem OpOk.sat {o : Option (D × Store)} {m : W U} (h : OpOk w o m) : Sat noA C c w (lift o) m (fun w' d u => Den w'.K w'.st d u) := fun _ Q E q => by
  obtain ⟨d, w', u, rfl, g, x, y, z⟩ := h Q E q
  exact ⟨w', u, rfl, g, x.mono (by omega), y, z⟩
theorem opok_ret {d : D} {u : U} (g : Good w) (h : Den w.K w.st d u) : OpOk w (some (d, w.st)) (.ret u) := fun Q E q => ⟨d, w, u, rfl, g, Ext.refl, h, q⟩
theorem opok_need {p : Prop} [Decidable p] {d : D} {u : U} {o : Option (D × Store)} (g : Good w) (e : p → o = some (d, w.st)) (h : p → Den w.K w.st d u) : OpOk w o (need p u) := fun Q E q => by
  rw [ok_need] at q
  exact ⟨d, w, u, e q.1, g, Ext.refl, h q.1, q.2⟩
theorem opok_fail {o : Option (D × Store)} : OpOk w o .fail := fun Q E q => q.elim
/-- a new list that stays -/
theorem opok_new {p : Prop} [Decidable p] {ds : List D} {us : List U} {o : Option (D × Store)} (g : Good w) (e : p → o = some (.loc w.st.length, w.st ++ [.lst ds])) (hl : p → ds.length ≤ sizeLine) (h : p → Dens w.K w.st ds us) : OpOk w o (need p (.lst us)) := fun Q E q => by
  rw [ok_need] at q
  have x : Ext noA 0 w (w.add (.lst ds) .fz) := Wd.add_ext g
  have ⟨a, b⟩ := Wd.add_at w (.lst ds) .fz
  exact ⟨_, w.add (.lst ds) .fz, .lst us, e q.1, Wd.add_good g (by decide), x, .lst b a (hl q.1) (x.dens (h q.1)), q.2⟩
theorem opok_newR {ds : List D} {us : List U} {o : Option (D × Store)} (g : Good w) (e : o = some (.loc w.st.length, w.st ++ [.lst ds])) (hl : ds.length ≤ sizeLine) (h : Dens w.K w.st ds us) : OpOk w o (.ret (.lst us)) := by
  have := opok_new (p := True) g (fun _ => e) (fun _ => hl) fun _ => h
  rwa [need_pos trivial] at this
theorem opok_newKR {ds : List (D × D)} {us : List (U × U)} {o : Option (D × Store)} (g : Good w) (e : o = some (.loc w.st.length, w.st ++ [.dct ds])) (hl : ds.length ≤ sizeLine) (h : DenK w.K w.st ds us) : OpOk w o (.ret (.dct us)) := fun Q E q => by
  have x : Ext noA 0 w (w.add (.dct ds) .fz) := Wd.add_ext g
  have ⟨a, b⟩ := Wd.add_at w (.dct ds) .fz
  exact ⟨_, w.add (.dct ds) .fz, .dct us, e, Wd.add_good g (by decide), x, .dct b a hl (x.denk h), q⟩
end
end V

/-! V3: operations by values. -/
namespace V
open PySem L2 G

section
variable {w : Wd} {dx dy : D} {x y : U} {ds : List D} {us : List U}

/-! ### lists as they are read -/
theorem den_lst {K : Nat → Kd} {st : Store} {d : D} (h : Den K st d (.lst us)) : ∃ n ds, d = .loc n ∧ K n = .fz ∧ st[n]? = some (.lst ds) ∧ ds.length ≤ sizeLine ∧ Dens K st ds us ∧ lstAt st n = some ds ∧ dctW st n = none ∧ lstD d st = some ds := by
  cases h with
  | lst hk e l r =>
    refine ⟨_, _, rfl, hk, e, l, r, ?_, ?_, ?_⟩
    · unfold lstAt; rw [e]
    · unfold dctW; rw [e]
    · unfold lstD; simp only [e]
theorem den_dct {K : Nat → Kd} {st : Store} {d : D} {kus : List (U × U)} (h : Den K st d (.dct kus)) : ∃ n kvs, d = .loc n ∧ K n = .fz ∧ st[n]? = some (.dct kvs) ∧ kvs.length ≤ sizeLine ∧ DenK K st kvs kus ∧ dctW st n = some kvs ∧ lstAt st n = none ∧ lstD d st = none := by
  cases h with
  | dct hk e l r =>
    refine ⟨_, _, rfl, hk, e, l, r, ?_, ?_, ?_⟩
    · unfold dctW; rw [e]
    · unfold lstAt; rw [e]
    · unfold lstD; simp only [e]
theorem lstD_new {K : Nat → Kd} {st : Store} {n : Nat} {ds : List D} (e : st[n]? = some (.lst ds)) : lstAt st n = some ds ∧ dctW st n = none ∧ lstD (.loc n) st = some ds := by
  refine ⟨?_, ?_, ?_⟩
  · unfold lstAt; rw [e]
  · unfold dctW; rw [e]
  · unfold lstD; simp only [e]

theorem dct_new {st : Store} {n : Nat} {ds : List (D × D)} (e : st[n]? = some (.dct ds)) : dctW st n = some ds := by
  unfold dctW; rw [e]

theorem dct_new2 {st : Store} {n : Nat} {ds : List (D × D)} (e : st[n]? = some (.dct ds)) : lstAt st n = none := by
  unfold lstAt; rw [e]

/-! ### arithmetic -/
def uAdd : U → U → W U
  | .int i, .int j => .ret (.int (i + j))
  | .str a, .str b => need (a.length + b.length ≤ sizeLine) (.str (a ++ b))
  | .tup xs, .tup ys => need (xs.length + ys.length ≤ sizeLine) (.tup (xs ++ ys))
  | .lst xs, .lst ys => need (xs.length + ys.length ≤ sizeLine) (.lst (xs ++ ys))
  | _, _ => .fail
theorem str_app_len (a b : Str) : (a ++ b).length = a.length + b.length := by
  show (Str.append a b).cps.size = _
  unfold Str.append Str.length
  simp
theorem uAdd_ok (g : Good w) (hx : Den w.K w.st dx x) (hy : Den w.K w.st dy y) : OpOk w (opAdd dx dy w.st) (uAdd x y) := by
  unfold uAdd; split
  · cases hx; cases hy; exact opok_ret g (.int _)
  · cases hx; cases hy; exact opok_need g (fun h => if_pos h) fun h => .str (by rw [str_app_len]; exact h)
  · cases hx with | tup l1 r1 => cases hy with | tup l2 r2 =>
    exact opok_need g (fun h => by simp only [opAdd]; rw [if_pos (by rw [r1.length, r2.length]; exact h)]) fun h => .tup (by rw [List.length_append, r1.length, r2.length]; exact h) (r1.append r2)
  · obtain ⟨n, xs, rfl, _, _, _, r1, e1, _⟩ := den_lst hx
    obtain ⟨m, ys, rfl, _, _, _, r2, e2, _⟩ := den_lst hy
    exact opok_new g (fun h => by simp only [opAdd, e1, e2]; rw [if_pos (by rw [r1.length, r2.length]; exact h)]) (fun h => by rw [List.length_append, r1.length, r2.length]; exact h) fun h => r1.append r2
  · exact opok_fail
def uSub : U → U → W U
  | .int i, .int j => .ret (.int (i - j))
  | _, _ => .fail
theorem uSub_ok (g : Good w) (hx : Den w.K w.st dx x) (hy : Den w.K w.st dy y) : OpOk w (opSub dx dy w.st) (uSub x y) := by
  unfold uSub; split
  · cases hx; cases hy; exact opok_ret g (.int _)
  · exact opok_fail
def uMod : U → U → W U
  | .int i, .int j => need (0 < j) (.int (i % j))
  | _, _ => .fail
theorem uMod_ok (g : Good w) (hx : Den w.K w.st dx x) (hy : Den w.K w.st dy y) : OpOk w (opMod dx dy w.st) (uMod x y) := by
  unfold uMod; split
  · cases hx; cases hy; exact opok_need g (fun h => if_pos h) fun _ => .int _
  · exact opok_fail
def uDiv : U → U → W U
  | .int i, .int j => need (0 < j ∧ j < 1073741824) (.int (i / j))
  | _, _ => .fail
theorem uDiv_ok (g : Good w) (hx : Den w.K w.st dx x) (hy : Den w.K w.st dy y) : OpOk w (opDiv dx dy w.st) (uDiv x y) := by
  unfold uDiv; split
  · cases hx; cases hy; exact opok_need g (fun h => if_pos h) fun _ => .int _
  · exact opok_fail
def uPow : U → U → W U
  | .int i, .int j => need (0 ≤ j ∧ (Builtin.Int.intBits i : Int) * j ≤ 2 ^ 27) (.int (i ^ j.toNat))
  | _, _ => .fail
theorem uPow_ok (g : Good w) (hx : Den w.K w.st dx x) (hy : Den w.K w.st dy y) : OpOk w (opPow dx dy w.st) (uPow x y) := by
  unfold uPow; split
  · cases hx; cases hy; exact opok_need g (fun h => if_pos h) fun _ => .int _
  · exact opok_fail
def uMul : U → U → W U
  | .int i, .int j => need (((-(2 ^ 64) < i ∧ i < 2 ^ 64) ∨ (-(2 ^ 64) < j ∧ j < 2 ^ 64)) ∨ i.natAbs.log2 + j.natAbs.log2 < 1000000) (.int (i * j))
  | .str z, .int k => need (-(2 ^ 63) ≤ k ∧ k < 2 ^ 63 ∧ z.length * k.toNat ≤ sizeLine) (.str (strMul z k))
  | .lst xs, .int k => need (-(2 ^ 63) ≤ k ∧ k < 2 ^ 63 ∧ xs.length * k.toNat ≤ sizeLine) (.lst (List.replicate k.toNat xs).flatten)
  | .tup xs, .int k => need (xs.length ≠ 0 ∧ 2 ≤ k ∧ k ≤ 1000 ∧ xs.length ≤ 1000) (.tup (List.replicate k.toNat xs).flatten)
  | _, _ => .fail
theorem rep_len {α : Type} (xs : List α) (k : Nat) : ((List.replicate k xs).flatten).length = k * xs.length := by simp
theorem uMul_ok (g : Good w) (hx : Den w.K w.st dx x) (hy : Den w.K w.st dy y) : OpOk w (opMul dx dy w.st) (uMul x y) := by
  unfold uMul; split
  · cases hx; cases hy; exact opok_need g (fun h => if_pos h) fun _ => .int _
  · cases hx; cases hy; exact opok_need g (fun h => if_pos h) fun h => .str (by rw [strMul_length, Nat.mul_comm]; exact h.2.2)
  · obtain ⟨n, xs, rfl, _, _, _, r1, e1, _⟩ := den_lst hx
    cases hy
    exact opok_new g (fun h => by simp only [opMul, e1]; rw [if_pos (by rw [r1.length]; exact h)]) (fun h => by rw [rep_len, r1.length, Nat.mul_comm]; exact h.2.2) fun h => r1.rep _
  · rename_i xs k
    cases hx with | tup l1 r1 => ?_
    cases hy
    refine opok_need g (fun h => by simp only [opMul]; rw [if_pos ⟨fun z => h.1 (by rw [← r1.length, z]; rfl), h.2.1, h.2.2.1, by rw [r1.length]; exact h.2.2.2⟩]) fun h => .tup ?_ (r1.rep _)
    rw [rep_len, r1.length]
    have h1 : k.toNat ≤ 1000 := by omega
    have h2 : (1000 * 1000 : Nat) ≤ sizeLine := by decide
    exact Nat.le_trans (Nat.mul_le_mul h1 h.2.2.2) h2
  · exact opok_fail
def uNeg : U → W U
  | .int i => .ret (.int (-i))
  | _ => .fail
theorem uNeg_ok (g : Good w) (hx : Den w.K w.st dx x) : OpOk w (opNeg dx w.st) (uNeg x) := by
  unfold uNeg; split
  · cases hx; exact opok_ret g (.int _)
  · exact opok_fail
def uCmp (p : Int → Int → Bool) : U → U → W U
  | .int i, .int j => .ret (.bl (p i j))
  | _, _ => .fail
theorem uCmp_ok {p : Int → Int → Bool} (g : Good w) (hx : Den w.K w.st dx x) (hy : Den w.K w.st dy y) : OpOk w (opCmpI p dx dy w.st) (uCmp p x y) := by
  unfold uCmp; split
  · cases hx; cases hy; exact opok_ret g (.bl _)
  · exact opok_fail
abbrev uLt : U → U → W U := uCmp fun i j => decide (i < j)
abbrev uLe : U → U → W U := uCmp fun i j => decide (i ≤ j)
abbrev uGt : U → U → W U := uCmp fun i j => decide (j < i)
abbrev uGe : U → U → W U := uCmp fun i j => decide (j ≤ i)
def uIsN (neg : Bool) : U → U → W U
  | .non, .non => .ret (.bl (!neg))
  | .ty _, _ => .fail
  | .fn _, _ => .fail
  | _, .non => .ret (.bl neg)
  | _, _ => .fail
theorem uIsN_ok {neg : Bool} (g : Good w) (hx : Den w.K w.st dx x) (hy : Den w.K w.st dy y) : OpOk w (opIsN neg dx dy w.st) (uIsN neg x y) := by
  unfold uIsN; split
  · cases hx; cases hy; exact opok_ret g (.bl _)
  · exact opok_fail
  · exact opok_fail
  · rename_i h1 h2 h3
    cases hy
    cases hx with
    | non => exact (h1 rfl).elim
    | ty t => exact (h2 t rfl).elim
    | fn t => exact (h3 t rfl).elim
    | _ => exact opok_ret g (.bl _)
  · exact opok_fail

/-! ### equality -/
mutual
def uP : U → Nat → Option PyData
  | .non, _ => some .none
  | .bl b, _ => some (.bool b)
  | .int i, _ => some (.int i)
  | .str s, _ => some (.str s)
  | .tup xs, k => (uPs xs k).map .tuple
  | .lst xs, k => match k with
    | 0 => none
    | k + 1 => (uPs xs k).map .list
  | _, _ => none
def uPs : List U → Nat → Option (List PyData)
  | [], _ => some []
  | u :: us, k => match uP u k, uPs us k with
    | some p, some ps => some (p :: ps)
    | _, _ => none
end
mutual
theorem Den.py {K : Nat → Kd} {st : Store} : ∀ {d : D} {u : U} {k : Nat} {p : PyData}, Den K st d u → uP u k = some p → pdW (pdS k st) d = some p
  | _, _, _, _, .non, e => e
  | _, _, _, _, .bl _, e => e
  | _, _, _, _, .int _, e => e
  | _, _, _, _, .str _, e => e
  | _, _, _, _, .ty _, e => by simp [uP] at e
  | _, _, _, _, .fn _, e => by simp [uP] at e
  | _, _, _, _, .scr _ _, e => by simp [uP] at e
  | _, _, _, _, .hnd _, e => by simp [uP] at e
  | _, _, _, _, .dct _ _ _ _, e => by simp [uP] at e
  | _, _, k, _, .tup l r, e => by
    simp only [uP, Option.map_eq_some_iff] at e
    obtain ⟨ps, e, rfl⟩ := e
    simp only [pdW, Dens.py r e, Option.map_some]
  | _, _, 0, _, .lst _ _ _ _, e => by simp [uP] at e
  | _, _, k + 1, _, .lst hk e1 l r, e => by
    simp only [uP, Option.map_eq_some_iff] at e
    obtain ⟨ps, e, rfl⟩ := e
    have : lstAt st _ = some _ := (lstD_new (K := K) e1).1
    simp only [pdW, pdS, this, Dens.py r e, Option.map_some]
theorem Dens.py {K : Nat → Kd} {st : Store} : ∀ {ds : List D} {us : List U} {k : Nat} {ps : List PyData}, Dens K st ds us → uPs us k = some ps → pdsW (pdS k st) ds = some ps
  | _, _, _, _, .nil, e => e
  | _, _, k, _, .cons (u := u) (us := us) h r, e => by
    simp only [uPs] at e
    split at e
    · rename_i p ps e1 e2
      cases e
      simp only [pdsW, Den.py h e1, Dens.py r e2]
    · cases e
end
def uPy (u : U) : Option PyData := uP u 8
theorem Den.toP {K : Nat → Kd} {st : Store} {d : D} {u : U} {p : PyData} (h : Den K st d u) (e : uPy u = some p) : toP st d = some p := h.py e
def uEqv (x y : U) : Option Bool := match uPy x, uPy y with
  | some p, some q => if SeqAt.shaped p && SeqAt.shaped q then some (PyData.eqv p q) else none
  | _, _ => none
def uEq (neg : Bool) : U → U → W U
  | .str a, .str b => .ret (.bl ((a == b) != neg))
  | x, y => ofO ((uEqv x y).map fun b => .bl (b != neg))
theorem uEq_ok {neg : Bool} (g : Good w) (hx : Den w.K w.st dx x) (hy : Den w.K w.st dy y) : OpOk w (opEq neg dx dy w.st) (uEq neg x y) := by
  unfold uEq; split
  · cases hx; cases hy; exact opok_ret g (.bl _)
  · rename_i h1
    have n : ∀ a b, dx = .str a → dy = .str b → False := fun a b e1 e2 => by
      subst e1 e2
      cases hx; cases hy
      exact h1 _ _ rfl rfl
    have e : opEq neg dx dy w.st = (eqD dx dy w.st).map fun b => (.bl (b != neg), w.st) := by
      unfold opEq
      split
      · exact (n _ _ rfl rfl).elim
      · rfl
    rw [e]
    cases q : uEqv x y with
    | none => exact opok_fail
    | some b =>
      have : eqD dx dy w.st = some b := by
        unfold uEqv at q
        split at q
        · rename_i p p' e1 e2
          unfold eqD
          rw [hx.toP e1, hy.toP e2]
          exact q
        · cases q
      rw [this]
      exact opok_ret g (.bl _)

/-! ### dicts -/
def keyU : U → Option Key
  | .int i => some (.inl i)
  | .str s => some (.inr s)
  | _ => none
def keysU : List U → Option (List Key)
  | [] => some []
  | u :: us => match keyU u, keysU us with
    | some k, some ks => some (k :: ks)
    | _, _ => none
def kOfU : U → Option DK
  | .tup us => (keysU us).map .inr
  | .int i => some (.inl (.inl i))
  | .str s => some (.inl (.inr s))
  | _ => none
theorem Den.keyD {K : Nat → Kd} {st : Store} {d : D} {u : U} (h : Den K st d u) : keyD d = keyU u := by
  cases h <;> rfl
theorem Dens.keysD {K : Nat → Kd} {st : Store} : ∀ {ds : List D} {us : List U}, Dens K st ds us → keysD ds = keysU us
  | _, _, .nil => rfl
  | _, _, .cons (u := u) (us := us) h r => by
    simp only [G.keysD, keysU, h.keyD, Dens.keysD r] <;> (cases keyU u <;> cases keysU us <;> rfl)
theorem Den.kOf {K : Nat → Kd} {st : Store} {d : D} {u : U} (h : Den K st d u) : kOf d = kOfU u := by
  cases h with
  | tup l r => simp only [G.kOf, kOfU, r.keysD]
  | _ => rfl
def uGetK (kvs : List (U × U)) (k : U) : Option U := (kvs.find? fun kv => decide (kOfU kv.1 = kOfU k)).map (·.2)
def uPutK (kvs : List (U × U)) (k v : U) : List (U × U) :=
  if (kvs.any fun kv => decide (kOfU kv.1 = kOfU k)) = true then kvs.map fun kv => if kOfU kv.1 = kOfU k then (kv.1, v) else kv else kvs ++ [(k, v)]
def kindOkU (kvs : List (U × U)) (k : U) : Bool := match kvs with
  | [] => (kOfU k).isSome
  | kv :: _ => sameKind (kOfU kv.1) (kOfU k)
theorem DenK.kind {K : Nat → Kd} {st : Store} {kvs : List (D × D)} {us : List (U × U)} {d : D} {u : U} (h : DenK K st kvs us) (hk : Den K st d u) : kindOk kvs d = kindOkU us u := by
  cases h with
  | nil => simp only [kindOk, kindOkU, hk.kOf]
  | cons h1 h2 r => simp only [kindOk, kindOkU, hk.kOf, h1.kOf]
theorem DenK.get {K : Nat → Kd} {st : Store} : ∀ {kvs : List (D × D)} {us : List (U × U)} {d : D} {u : U}, DenK K st kvs us → Den K st d u →
    (uGetK us u = none ∧ dGet kvs d = none) ∨ ∃ x y, uGetK us u = some y ∧ dGet kvs d = some x ∧ Den K st x y
  | _, _, _, _, .nil, _ => .inl ⟨rfl, rfl⟩
  | _, _, d, u, .cons (k := k) (a := a) h1 h2 r, hk => by
    have ih := DenK.get r hk
    by_cases e : kOfU a = kOfU u
    · have e' : G.kOf k = G.kOf d := by rw [h1.kOf, hk.kOf]; exact e
      refine .inr ⟨_, _, ?_, ?_, h2⟩
      · simp [uGetK, e]
      · simp [dGet, e']
    · have e' : ¬ G.kOf k = G.kOf d := by rw [h1.kOf, hk.kOf]; exact e
      have x1 : ∀ v r, uGetK ((a, v) :: r) u = uGetK r u := fun v r => by simp [uGetK, e]
      have x2 : ∀ v r, dGet ((k, v) :: r) d = dGet r d := fun v r => by simp [dGet, e']
      rw [x1, x2]
      exact ih
theorem DenK.any {K : Nat → Kd} {st : Store} : ∀ {kvs : List (D × D)} {us : List (U × U)} {d : D} {u : U}, DenK K st kvs us → Den K st d u →
    (kvs.any fun kv => decide (kOf kv.1 = kOf d)) = us.any fun kv => decide (kOfU kv.1 = kOfU u)
  | _, _, _, _, .nil, _ => rfl
  | _, _, d, u, .cons h1 h2 r, hk => by
    rw [List.any_cons, List.any_cons, DenK.any r hk, h1.kOf, hk.kOf]
theorem DenK.repl {K : Nat → Kd} {st : Store} {d v : D} {u b : U} (hk : Den K st d u) (hv : Den K st v b) : ∀ {kvs : List (D × D)} {us : List (U × U)}, DenK K st kvs us →
    DenK K st (kvs.map fun kv => if kOf kv.1 = kOf d then (kv.1, v) else kv) (us.map fun kv => if kOfU kv.1 = kOfU u then (kv.1, b) else kv)
  | _, _, .nil => .nil
  | _, _, .cons h1 h2 r => by
    simp only [List.map_cons, h1.kOf, hk.kOf]
    split
    · exact .cons h1 hv (by simpa only [hk.kOf] using DenK.repl hk hv r)
    · exact .cons h1 h2 (by simpa only [hk.kOf] using DenK.repl hk hv r)
theorem DenK.put {K : Nat → Kd} {st : Store} {kvs : List (D × D)} {us : List (U × U)} {d v : D} {u b : U} (h : DenK K st kvs us) (hk : Den K st d u) (hv : Den K st v b) : DenK K st (dPut kvs d v) (uPutK us u b) := by
  unfold dPut uPutK
  rw [h.any hk]
  split
  · exact h.repl hk hv
  · exact h.append (.cons hk hv .nil)
theorem dPut_len (kvs : List (D × D)) (k v : D) : (dPut kvs k v).length ≤ kvs.length + 1 := by
  unfold dPut
  split <;> simp

/-! ### in -/
def uIn (x y : U) : Option Bool := match y with
  | .str b => match x with
    | .str a => some (inStr a b)
    | _ => none
  | .dct kvs => if kindOkU kvs x then some (uGetK kvs x).isSome else none
  | y => match uPy x, uPy y with
    | some p, some (.list ps) => if SeqAt.shaped p && SeqAt.shaped (.list ps) then some (ps.any fun z => PyData.eqv z p) else none
    | some p, some (.tuple ps) => if SeqAt.shaped p && SeqAt.shaped (.tuple ps) then some (ps.any fun z => PyData.eqv z p) else none
    | _, _ => none
def uInN (neg : Bool) (x y : U) : W U := ofO ((uIn x y).map fun b => .bl (b != neg))
theorem uIn_ok {b : Bool} (hx : Den w.K w.st dx x) (hy : Den w.K w.st dy y) (e : uIn x y = some b) : inD dx dy w.st = some b := by
  have dep : ∀ {y : U} {dy : D}, Den w.K w.st dy y → (match uPy x, uPy y with
      | some p, some (.list ps) => if SeqAt.shaped p && SeqAt.shaped (.list ps) then some (ps.any fun z => PyData.eqv z p) else none
      | some p, some (.tuple ps) => if SeqAt.shaped p && SeqAt.shaped (.tuple ps) then some (ps.any fun z => PyData.eqv z p) else none
      | _, _ => none) = some b → (match toP w.st dx, toP w.st dy with
      | some p, some (.list ps) => if SeqAt.shaped p && SeqAt.shaped (.list ps) then some (ps.any fun z => PyData.eqv z p) else none
      | some p, some (.tuple ps) => if SeqAt.shaped p && SeqAt.shaped (.tuple ps) then some (ps.any fun z => PyData.eqv z p) else none
      | _, _ => none) = some b := fun hy e => by
    split at e
    · rename_i e1 e2
      rw [hx.toP e1, hy.toP e2]; exact e
    · rename_i e1 e2
      rw [hx.toP e1, hy.toP e2]; exact e
    · cases e
  unfold uIn at e
  cases hy with
  | str l =>
    cases x with
    | str a => cases hx; exact e
    | _ => cases e
  | dct hk e1 l r =>
    have h2 := dct_new e1
    simp only at e
    unfold inD
    simp only [h2, r.kind hx]
    split at e
    · cases e
      rename_i hh
      rw [if_pos hh]
      rcases r.get hx with ⟨a, b⟩ | ⟨_, _, a, b, _⟩
      · rw [a, b]; rfl
      · rw [a, b]; rfl
    · cases e
  | lst hk e1 l r =>
    have h2 := (lstD_new (K := w.K) e1).2.1
    unfold inD
    simp only [h2]
    exact dep (.lst hk e1 l r) e
  | tup l r =>
    unfold inD
    exact dep (.tup l r) e
  | non => exact dep .non e
  | bl b => exact dep (.bl b) e
  | int i => exact dep (.int i) e
  | ty t => exact dep (.ty t) e
  | fn t => exact dep (.fn t) e
  | scr ns h => exact dep (.scr ns h) e
  | hnd h => simp [uPy, uP] at e
theorem uInN_ok {neg : Bool} (g : Good w) (hx : Den w.K w.st dx x) (hy : Den w.K w.st dy y) : OpOk w (opIn neg dx dy w.st) (uInN neg x y) := by
  unfold uInN
  cases e : uIn x y with
  | none => exact opok_fail
  | some b =>
    unfold opIn
    rw [uIn_ok hx hy e]
    exact opok_ret g (.bl _)

/-! ### places -/
theorem Dens.atI {K : Nat → Kd} {st : Store} {ds : List D} {us : List U} {i : Int} {u : U} (h : Dens K st ds us) (e : atI us i = some u) : ∃ d, atI ds i = some d ∧ Den K st d u := by
  unfold L2.atI at e ⊢
  rw [h.length]
  cases q : ixN us.length i with
  | none => rw [q] at e; cases e
  | some k => rw [q] at e; exact h.get e
def uIx : U → U → W U
  | .tup xs, .int i => ofO (atI xs i)
  | .lst xs, .int i => ofO (atI xs i)
  | .scr ns, .int i => ofO ((atI ns i).map .int)
  | .str z, .int i => need (z.length ≤ sizeLine ∧ (atI z.cps.toList i).isSome) (.str ⟨#[(atI z.cps.toList i).getD 0]⟩)
  | .dct kvs, k => if kindOkU kvs k then ofO (uGetK kvs k) else .fail
  | _, _ => .fail
theorem atI_map {α β : Type} {f : α → β} {xs : List α} {i : Int} : atI (xs.map f) i = (atI xs i).map f := by
  unfold L2.atI
  rw [List.length_map]
  cases ixN xs.length i with
  | none => rfl
  | some k => simp
theorem uIx_ok (g : Good w) (hx : Den w.K w.st dx x) (hy : Den w.K w.st dy y) : OpOk w (opIx dx dy w.st) (uIx x y) := by
  unfold uIx; split
  · rename_i xs i
    cases hx with | tup l r => ?_
    cases hy
    cases e : atI xs i with
    | none => exact opok_fail
    | some u =>
      obtain ⟨d, a, b⟩ := r.atI e
      simp only [opIx, a, Option.map_some]
      exact opok_ret g b
  · rename_i xs i
    obtain ⟨n, ds, rfl, _, _, _, r, _, e2, e3⟩ := den_lst hx
    cases hy
    cases e : atI xs i with
    | none => exact opok_fail
    | some u =>
      obtain ⟨d, a, b⟩ := r.atI e
      simp only [opIx, e2, e3, a, Option.map_some]
      exact opok_ret g b
  · rename_i ns i
    cases hx; cases hy
    cases e : atI ns i with
    | none => exact opok_fail
    | some u =>
      simp only [opIx, lstD, atI_map, e, Option.map_some]
      exact opok_ret g (.int _)
  · rename_i z i
    cases hx with | str l => ?_
    cases hy
    refine opok_need g (fun h => ?_) fun h => .str (show 1 ≤ sizeLine by decide)
    simp only [opIx]
    rw [if_pos h.1]
    obtain ⟨c, hc⟩ := Option.isSome_iff_exists.mp h.2
    rw [hc]; rfl
  · split
    · rename_i hk
      obtain ⟨n, kvs, rfl, _, _, _, r, e2, e3, e4⟩ := den_dct hx
      rcases r.get hy with ⟨a, b⟩ | ⟨d, u, a, b, c⟩
      · rw [a]; exact opok_fail
      · rw [a]
        have : opIx (.loc n) dy w.st = some (d, w.st) := by
          have hk' : kindOk kvs dy = true := by rw [r.kind hy]; exact hk
          unfold opIx
          split <;> simp_all
        rw [this]
        exact opok_ret g c
    · exact opok_fail
  · exact opok_fail
theorem Dens.cutF {K : Nat → Kd} {st : Store} {xs : List D} {us : List U} (h : Dens K st xs us) (lo hi : Option Int) : Dens K st (G.cutF xs lo hi) (G.cutF us lo hi) := by
  unfold G.cutF
  rw [h.length]
  exact (h.drop _).take _
theorem Dens.cutB {K : Nat → Kd} {st : Store} {xs : List D} {us : List U} (h : Dens K st xs us) (lo hi : Option Int) : Dens K st (G.cutB xs lo hi) (G.cutB us lo hi) := by
  unfold G.cutB
  rw [h.length]
  exact ((h.take _).drop _).reverse
theorem Dens.cutS3 {K : Nat → Kd} {st : Store} {xs : List D} {us : List U} (h : Dens K st xs us) (lo hi : Option Int) (k : Int) : Dens K st (G.cutS3 xs lo hi k) (G.cutS3 us lo hi k) := by
  unfold G.cutS3
  split
  · exact h.cutF _ _
  · exact h.cutB _ _
def uSl (x : U) (lo hi : Option Int) : W U := match x with
  | .tup xs => .ret (.tup (cutF xs lo hi))
  | .lst xs => .ret (.lst (cutF xs lo hi))
  | .str z => need (z.length ≤ sizeLine) (.str (cutS z lo hi))
  | _ => .fail
theorem uSl_ok (g : Good w) (hx : Den w.K w.st dx x) {lo hi : Option Int} : OpOk w (slD dx lo hi w.st) (uSl x lo hi) := by
  unfold uSl; split
  · cases hx with | tup l r => exact opok_ret g (.tup (Nat.le_trans (cutF_length _ _ _) l) (r.cutF _ _))
  · obtain ⟨n, ds, rfl, _, _, l, r, _, e2, e3⟩ := den_lst hx
    exact opok_newR g (by simp only [slD, e3]) (Nat.le_trans (cutF_length _ _ _) l) (r.cutF _ _)
  · cases hx with | str l => exact opok_need g (fun h => if_pos h) fun _ => .str (Nat.le_trans (cutS_length _ _ _) l)
  · exact opok_fail
def uSl3 (x : U) (lo hi : Option Int) (k : Int) : W U := match x with
  | .tup xs => need (k = -1) (.tup (cutB xs lo hi))
  | .lst xs => need (k = 1 ∨ k = -1) (.lst (cutS3 xs lo hi k))
  | .str z => need (z.length ≤ sizeLine ∧ k = -1) (.str ⟨(cutB z.cps.toList lo hi).toArray⟩)
  | _ => .fail
theorem uSl3_ok (g : Good w) (hx : Den w.K w.st dx x) {lo hi : Option Int} {k : Int} : OpOk w (sl3D dx lo hi k w.st) (uSl3 x lo hi k) := by
  unfold uSl3; split
  · cases hx with | tup l r => exact opok_need g (fun h => if_pos h) fun _ => .tup (Nat.le_trans (cutB_length _ _ _) l) (r.cutB _ _)
  · obtain ⟨n, ds, rfl, _, _, l, r, _, e2, e3⟩ := den_lst hx
    exact opok_new g (fun h => by simp only [sl3D, e3]; rw [if_pos h]) (fun _ => Nat.le_trans (cutS3_length _ _ _ _) l) fun _ => r.cutS3 _ _ _
  · cases hx with | str l =>
    refine opok_need g (fun h => if_pos h) fun _ => .str (Nat.le_trans ?_ l)
    have := cutB_length (by assumption : Str).cps.toList lo hi
    simpa [Str.length] using this
  · exact opok_fail

/-! ### truth, kinds -/
def uTru : U → W Bool
  | .non => .ret false
  | .bl b => .ret b
  | .int i => .ret (i != 0)
  | .str s => need (s.length ≤ sizeLine) (s.length != 0)
  | .tup xs => .ret (!xs.isEmpty)
  | .lst xs => .ret (!xs.isEmpty)
  | _ => .fail
theorem uTru_ok {Q : Bool → Prop} {E : UX → Prop} (hx : Den w.K w.st dx x) (q : (uTru x).Ok Q E) : ∃ b, truD dx w.st = some b ∧ Q b := by
  unfold uTru at q
  cases hx with
  | non => exact ⟨_, rfl, q⟩
  | bl b => exact ⟨_, rfl, q⟩
  | int i => exact ⟨_, rfl, q⟩
  | str l => rw [ok_need] at q; exact ⟨_, if_pos q.1, q.2⟩
  | tup l r =>
    refine ⟨_, rfl, ?_⟩
    have : ∀ {ds : List D} {us : List U}, Dens w.K w.st ds us → (!ds.isEmpty) = !us.isEmpty := fun r => by cases r <;> rfl
    rw [this r]; exact q
  | lst hk e1 l r =>
    have e3 := (lstD_new (K := w.K) e1).2.2
    refine ⟨_, by simp only [truD, e3, Option.map_some]; rfl, ?_⟩
    have : ∀ {ds : List D} {us : List U}, Dens w.K w.st ds us → (!ds.isEmpty) = !us.isEmpty := fun r => by cases r <;> rfl
    rw [this r]; exact q
  | _ => exact q.elim
def tyU : U → Option Ty
  | .non => some .non
  | .bl _ => some .bl
  | .int _ => some .int
  | .str _ => some .str
  | .tup _ => some .tup
  | .scr _ => some .lst
  | .lst _ => some .lst
  | .dct _ => some .dct
  | _ => none
theorem tyU_ok {t : Ty} (hx : Den w.K w.st dx x) (e : tyU x = some t) : tyD dx w.st = some t := by
  cases hx with
  | lst hk e1 l r => simp only [tyD, e1]; exact e
  | dct hk e1 l r => simp only [tyD, e1]; exact e
  | hnd h => cases e
  | ty _ => cases e
  | fn _ => cases e
  | _ => exact e

/-! ### built-ins -/
theorem dens1 (h : Dens w.K w.st ds [x]) : ∃ d, ds = [d] ∧ Den w.K w.st d x := by
  cases h with | cons h r => cases r; exact ⟨_, rfl, h⟩
theorem dens2 (h : Dens w.K w.st ds [x, y]) : ∃ d e, ds = [d, e] ∧ Den w.K w.st d x ∧ Den w.K w.st e y := by
  cases h with | cons h r => obtain ⟨e, rfl, k⟩ := dens1 r; exact ⟨_, _, rfl, h, k⟩
def uLen : List U → W U
  | [.tup xs] => .ret (.int xs.length)
  | [.lst xs] => .ret (.int xs.length)
  | [.scr xs] => .ret (.int xs.length)
  | [.dct xs] => .ret (.int xs.length)
  | [.str z] => need (z.length ≤ sizeLine) (.int z.length)
  | _ => .fail
theorem uLen_ok (g : Good w) (hs : Dens w.K w.st ds us) : OpOk w (bLen ds w.st) (uLen us) := by
  unfold uLen; split
  · obtain ⟨d, rfl, h⟩ := dens1 hs
    cases h with | tup l r => rw [← r.length]; exact opok_ret g (.int _)
  · obtain ⟨d, rfl, h⟩ := dens1 hs
    obtain ⟨n, ds, rfl, _, _, l, r, e1, e2, e3⟩ := den_lst h
    simp only [bLen, e1]
    rw [← r.length]; exact opok_ret g (.int _)
  · obtain ⟨d, rfl, h⟩ := dens1 hs
    cases h with | scr ns l => simp only [bLen, List.length_map]; exact opok_ret g (.int _)
  · obtain ⟨d, rfl, h⟩ := dens1 hs
    obtain ⟨n, ds, rfl, _, _, l, r, e1, e2, e3⟩ := den_dct h
    simp only [bLen, e1, e2]
    rw [← r.length]; exact opok_ret g (.int _)
  · obtain ⟨d, rfl, h⟩ := dens1 hs
    cases h with | str l => exact opok_need g (fun h => if_pos h) fun _ => .int _
  · exact opok_fail
def uAbs : List U → W U
  | [.int i] => .ret (.int (if i < 0 then -i else i))
  | _ => .fail
theorem uAbs_ok (g : Good w) (hs : Dens w.K w.st ds us) : OpOk w (bAbs ds w.st) (uAbs us) := by
  unfold uAbs; split
  · obtain ⟨d, rfl, h⟩ := dens1 hs; cases h; exact opok_ret g (.int _)
  · exact opok_fail
def uInt : List U → W U
  | [.int i] => .ret (.int i)
  | [.bl b] => .ret (.int (if b then 1 else 0))
  | _ => .fail
theorem uInt_ok (g : Good w) (hs : Dens w.K w.st ds us) : OpOk w (bInt ds w.st) (uInt us) := by
  unfold uInt; split
  · obtain ⟨d, rfl, h⟩ := dens1 hs; cases h; exact opok_ret g (.int _)
  · obtain ⟨d, rfl, h⟩ := dens1 hs; cases h; exact opok_ret g (.int _)
  · exact opok_fail
def uMax2 : List U → W U
  | [.int i, .int j] => .ret (.int (if j > i then j else i))
  | _ => .fail
theorem uMax2_ok (g : Good w) (hs : Dens w.K w.st ds us) : OpOk w (bMax2 ds w.st) (uMax2 us) := by
  unfold uMax2; split
  · obtain ⟨d, e, rfl, h, k⟩ := dens2 hs; cases h; cases k; exact opok_ret g (.int _)
  · exact opok_fail
def uMin2 : List U → W U
  | [.int i, .int j] => .ret (.int (if j < i then j else i))
  | _ => .fail
theorem uMin2_ok (g : Good w) (hs : Dens w.K w.st ds us) : OpOk w (bMin2 ds w.st) (uMin2 us) := by
  unfold uMin2; split
  · obtain ⟨d, e, rfl, h, k⟩ := dens2 hs; cases h; cases k; exact opok_ret g (.int _)
  · exact opok_fail
def blsU : List U → Option (List Bool)
  | [] => some []
  | .bl b :: r => (blsU r).map (b :: ·)
  | _ :: _ => none
theorem Dens.bls {K : Nat → Kd} {st : Store} : ∀ {ds : List D} {us : List U} {bs : List Bool}, Dens K st ds us → blsU us = some bs → blsD ds = some bs
  | _, _, _, .nil, e => e
  | _, _, _, .cons (u := u) h r, e => by
    cases u with
    | bl b =>
      cases h
      simp only [blsU, Option.map_eq_some_iff] at e
      obtain ⟨bs, e, rfl⟩ := e
      simp only [blsD, Dens.bls r e, Option.map_some]
    | _ => cases e
def uAll : List U → W U
  | [.lst xs] => ofO ((blsU xs).map fun bs => .bl (bs.all id))
  | _ => .fail
theorem uAll_ok (g : Good w) (hs : Dens w.K w.st ds us) : OpOk w (bAll ds w.st) (uAll us) := by
  unfold uAll; split
  · rename_i xs
    obtain ⟨d, rfl, h⟩ := dens1 hs
    obtain ⟨n, ds, rfl, _, _, l, r, e1, e2, e3⟩ := den_lst h
    cases e : blsU xs with
    | none => exact opok_fail
    | some bs =>
      simp only [bAll, e3, Option.bind_some, r.bls e, Option.map_some]
      exact opok_ret g (.bl _)
  · exact opok_fail
def uAny : List U → W U
  | [.lst xs] => ofO ((blsU xs).map fun bs => .bl (bs.any id))
  | _ => .fail
theorem uAny_ok (g : Good w) (hs : Dens w.K w.st ds us) : OpOk w (bAny ds w.st) (uAny us) := by
  unfold uAny; split
  · rename_i xs
    obtain ⟨d, rfl, h⟩ := dens1 hs
    obtain ⟨n, ds, rfl, _, _, l, r, e1, e2, e3⟩ := den_lst h
    cases e : blsU xs with
    | none => exact opok_fail
    | some bs =>
      simp only [bAny, e3, Option.bind_some, r.bls e, Option.map_some]
      exact opok_ret g (.bl _)
  · exact opok_fail
def flatKeysU (kvs : List (U × U)) : Bool := match kvs with
  | [] => false
  | kv :: _ => match kOfU kv.1 with
    | some (.inl _) => true
    | _ => false
theorem DenK.flat {K : Nat → Kd} {st : Store} {kvs : List (D × D)} {us : List (U × U)} (h : DenK K st kvs us) : flatKeys kvs = flatKeysU us := by
  cases h with
  | nil => rfl
  | cons h1 h2 r =>
    simp only [flatKeys, flatKeysU, h1.kOf] <;> (generalize kOfU _ = q; cases q with
      | none => rfl
      | some z => cases z <;> rfl)
theorem DenK.emp {K : Nat → Kd} {st : Store} {kvs : List (D × D)} {us : List (U × U)} (h : DenK K st kvs us) : kvs.isEmpty = us.isEmpty := by
  cases h <;> rfl
def uList : List U → W U
  | [.tup xs] => .ret (.lst xs)
  | [.lst xs] => .ret (.lst xs)
  | [.dct kvs] => need (flatKeysU kvs = true) (.lst (kvs.map (·.1)))
  | _ => .fail
theorem uList_ok (g : Good w) (hs : Dens w.K w.st ds us) : OpOk w (bList ds w.st) (uList us) := by
  unfold uList; split
  · obtain ⟨d, rfl, h⟩ := dens1 hs
    cases h with | tup l r => exact opok_newR g rfl l r
  · obtain ⟨d, rfl, h⟩ := dens1 hs
    obtain ⟨n, ds, rfl, _, _, l, r, e1, e2, e3⟩ := den_lst h
    exact opok_newR g (by simp only [bList, e3]) l r
  · obtain ⟨d, rfl, h⟩ := dens1 hs
    obtain ⟨n, kvs, rfl, _, _, l, r, e1, e2, e3⟩ := den_dct h
    exact opok_new g (fun h => by simp only [bList, e3, e1]; rw [if_pos (by rw [r.flat]; exact h)]) (fun _ => by rw [List.length_map]; exact l) fun _ => r.keys
  · exact opok_fail
def uTuple : List U → W U
  | [.tup xs] => .ret (.tup xs)
  | [.lst xs] => .ret (.tup xs)
  | [.dct kvs] => need ((kvs.isEmpty || flatKeysU kvs) = true) (.tup (kvs.map (·.1)))
  | _ => .fail
theorem uTuple_ok (g : Good w) (hs : Dens w.K w.st ds us) : OpOk w (bTuple ds w.st) (uTuple us) := by
  unfold uTuple; split
  · obtain ⟨d, rfl, h⟩ := dens1 hs
    cases h with | tup l r => exact opok_ret g (.tup l r)
  · obtain ⟨d, rfl, h⟩ := dens1 hs
    obtain ⟨n, ds, rfl, _, _, l, r, e1, e2, e3⟩ := den_lst h
    simp only [bTuple, e3]
    exact opok_ret g (.tup l r)
  · obtain ⟨d, rfl, h⟩ := dens1 hs
    obtain ⟨n, kvs, rfl, _, _, l, r, e1, e2, e3⟩ := den_dct h
    exact opok_need g (fun h => by simp only [bTuple, e3, e1]; rw [if_pos (by rw [r.flat, r.emp]; exact h)]) fun _ => .tup (by rw [List.length_map]; exact l) r.keys
  · exact opok_fail
def uIsi : List U → W U
  | [u, .ty t] => if t = .non then .fail else ofO ((tyU u).map fun a => .bl (a.sub t))
  | _ => .fail
theorem uIsi_ok (g : Good w) (hs : Dens w.K w.st ds us) : OpOk w (bIsi ds w.st) (uIsi us) := by
  unfold uIsi; split
  · obtain ⟨d, e, rfl, h, k⟩ := dens2 hs
    cases k
    split
    · exact opok_fail
    · rename_i u t hn
      cases e : tyU u with
      | none => exact opok_fail
      | some a =>
        simp only [bIsi, tyU_ok h e, Option.map_some]
        rw [if_neg hn]
        exact opok_ret g (.bl _)
  · exact opok_fail
/-! repr -/
mutual
def uE : U → Option PyData
  | .non => some .none
  | .bl b => some (.bool b)
  | .int i => some (.int i)
  | .str s => some (.str s)
  | .tup xs => (uEs xs).map .tuple
  | .dct [] => some (.dict [])
  | _ => none
def uEs : List U → Option (List PyData)
  | [] => some []
  | u :: us => match uE u, uEs us with
    | some p, some ps => some (p :: ps)
    | _, _ => none
end
mutual
theorem Den.pdE {K : Nat → Kd} {st : Store} : ∀ {d : D} {u : U} {p : PyData}, Den K st d u → uE u = some p → pdE st d = some p
  | _, _, _, .non, e => e
  | _, _, _, .bl _, e => e
  | _, _, _, .int _, e => e
  | _, _, _, .str _, e => e
  | _, _, _, .ty _, e => by simp [uE] at e
  | _, _, _, .fn _, e => by simp [uE] at e
  | _, _, _, .scr _ _, e => by simp [uE] at e
  | _, _, _, .hnd _, e => by simp [uE] at e
  | _, _, _, .lst _ _ _ _, e => by simp [uE] at e
  | _, _, _, .dct (us := us) hk e1 l r, e => by
    cases r with
    | nil =>
      have h2 := dct_new e1
      simp only [G.pdE, h2]
      simpa [uE] using e
    | cons _ _ _ => simp [uE] at e
  | _, _, _, .tup l r, e => by
    simp only [uE, Option.map_eq_some_iff] at e
    obtain ⟨ps, e, rfl⟩ := e
    simp only [G.pdE, Dens.pdsE r e, Option.map_some]
theorem Dens.pdsE {K : Nat → Kd} {st : Store} : ∀ {ds : List D} {us : List U} {ps : List PyData}, Dens K st ds us → uEs us = some ps → pdsE st ds = some ps
  | _, _, _, .nil, e => e
  | _, _, _, .cons h r, e => by
    simp only [uEs] at e
    split at e
    · rename_i p ps e1 e2
      cases e
      simp only [G.pdsE, Den.pdE h e1, Dens.pdsE r e2]
    · cases e
end
mutual
theorem Den.noP {K : Nat → Kd} {st : Store} : ∀ {d : D} {u : U} {k : Nat} {p : PyData}, Den K st d u → uE u = some p → uP u k = none → pdW (pdS k st) d = none
  | _, _, _, _, .non, _, e => by simp [uP] at e
  | _, _, _, _, .bl _, _, e => by simp [uP] at e
  | _, _, _, _, .int _, _, e => by simp [uP] at e
  | _, _, _, _, .str _, _, e => by simp [uP] at e
  | _, _, _, _, .ty _, e, _ => by simp [uE] at e
  | _, _, _, _, .fn _, e, _ => by simp [uE] at e
  | _, _, _, _, .scr _ _, e, _ => by simp [uE] at e
  | _, _, _, _, .hnd _, e, _ => by simp [uE] at e
  | _, _, _, _, .lst _ _ _ _, e, _ => by simp [uE] at e
  | _, _, k, _, .dct hk e1 l r, _, _ => by
    have h2 := dct_new2 e1
    cases k with
    | zero => rfl
    | succ k => simp only [pdW, pdS, h2]
  | _, _, k, _, .tup l r, e, e2 => by
    simp only [uE, Option.map_eq_some_iff] at e
    obtain ⟨ps, e, rfl⟩ := e
    simp only [uP, Option.map_eq_none_iff] at e2
    simp only [pdW, Dens.noP r e e2, Option.map_none]
theorem Dens.noP {K : Nat → Kd} {st : Store} : ∀ {ds : List D} {us : List U} {k : Nat} {ps : List PyData}, Dens K st ds us → uEs us = some ps → uPs us k = none → pdsW (pdS k st) ds = none
  | _, _, _, _, .nil, _, e => by simp [uPs] at e
  | _, _, k, _, .cons (u := u) (us := us) h r, e, e2 => by
    simp only [uEs] at e
    split at e
    · rename_i p ps e1 e3
      cases q : uP u k with
      | none => simp only [pdsW, Den.noP h e1 q]
      | some p1 =>
        cases q2 : uPs us k with
        | none =>
          simp only [pdsW, Dens.noP r e3 q2]
          cases pdW (pdS k st) _ <;> rfl
        | some p2 => simp [uPs, q, q2] at e2
    · cases e
end
/-- what is shown of a value: of data, or of such with an empty dict -/
def uR (u : U) : Option PyData := match uPy u with
  | some p => if p.hasDict then none else some p
  | none => uE u
def uRepr : List U → W U
  | [u] => match uR u with
    | some p => need (shownOk p = true) (.str p.shown)
    | none => .fail
  | _ => .fail
theorem uRepr_ok (g : Good w) (hs : Dens w.K w.st ds us) : OpOk w (bRepr ds w.st) (uRepr us) := by
  unfold uRepr; split
  · obtain ⟨d, rfl, h⟩ := dens1 hs
    split
    · rename_i u p e
      have hs : shownOk p = true → p.shown.length ≤ sizeLine := fun z => by
        unfold shownOk at z
        simp only [Bool.and_eq_true, decide_eq_true_eq] at z
        exact z.2
      refine opok_need g (fun z => ?_) fun z => .str (hs z)
      unfold uR at e
      split at e
      · rename_i q e1
        split at e
        · cases e
        · rename_i hd
          cases e
          simp only [bRepr, reprD, h.toP e1]
          rw [if_pos (by simp [hd, z])]
          rfl
      · rename_i e1
        have : toP w.st d = none := h.noP e e1
        simp only [bRepr, reprD, this, h.pdE e]
        rw [if_pos z]
        rfl
    · exact opok_fail
  · exact opok_fail
def uDivmod : List U → W U
  | [.int i, .int j] => need (0 < j ∧ j < 1073741824) (.tup [.int (i / j), .int (i % j)])
  | _ => .fail
theorem uDivmod_ok (g : Good w) (hs : Dens w.K w.st ds us) : OpOk w (bDivmod ds w.st) (uDivmod us) := by
  unfold uDivmod; split
  · obtain ⟨d, e, rfl, h, k⟩ := dens2 hs
    cases h; cases k
    exact opok_need g (fun h => if_pos h) fun _ => .tup (show 2 ≤ sizeLine by decide) (.cons (.int _) (.cons (.int _) .nil))
  · exact opok_fail

/-! ### methods that change nothing -/
def uSplit : U → List U → W U
  | .str a, [.str b] => need (((b.length == 0) = false ∧ a.length + 2 ≤ sizeLine) ∧ (Txt.split a b).length ≤ sizeLine ∧ ((Txt.split a b).all fun z => decide (z.length ≤ sizeLine)) = true) (.lst ((Txt.split a b).map U.str))
  | _, _ => .fail
theorem strs_den {K : Nat → Kd} {st : Store} : ∀ {l : List Str}, (∀ z ∈ l, z.length ≤ sizeLine) → Dens K st (l.map D.str) (l.map U.str)
  | [], _ => .nil
  | z :: l, h => .cons (.str (h z (by simp))) (strs_den fun y hy => h y (by simp [hy]))
theorem uSplit_ok (g : Good w) (hx : Den w.K w.st dx x) (hs : Dens w.K w.st ds us) : OpOk w (mSplit dx ds w.st) (uSplit x us) := by
  unfold uSplit; split
  · obtain ⟨d, rfl, h⟩ := dens1 hs
    cases hx; cases h
    refine opok_new g (fun h => if_pos h.1) (fun h => by rw [List.length_map]; exact h.2.1) fun h => strs_den fun z hz => ?_
    have := List.all_eq_true.mp h.2.2 z hz
    simpa using this
  · exact opok_fail
def uStrI (f : Str → Str → Int) : U → List U → W U
  | .str a, [.str b] => .ret (.int (f a b))
  | _, _ => .fail
theorem uStrI_ok {f : Str → Str → Int} (g : Good w) (hx : Den w.K w.st dx x) (hs : Dens w.K w.st ds us) : OpOk w (mStrI f dx ds w.st) (uStrI f x us) := by
  unfold uStrI; split
  · obtain ⟨d, rfl, h⟩ := dens1 hs
    cases hx; cases h
    exact opok_ret g (.int _)
  · exact opok_fail
abbrev uFind : U → List U → W U := uStrI fun a b => Txt.find a b
abbrev uCount : U → List U → W U := uStrI fun a b => Txt.count a b
def strsU : List U → Option (List Str)
  | [] => some []
  | .str b :: r => (strsU r).map (b :: ·)
  | _ :: _ => none
theorem Dens.strs {K : Nat → Kd} {st : Store} : ∀ {ds : List D} {us : List U} {bs : List Str}, Dens K st ds us → strsU us = some bs → strsD ds = some bs
  | _, _, _, .nil, e => e
  | _, _, _, .cons (u := u) h r, e => by
    cases u with
    | str b =>
      cases h
      simp only [strsU, Option.map_eq_some_iff] at e
      obtain ⟨bs, e, rfl⟩ := e
      simp only [strsD, Dens.strs r e, Option.map_some]
    | _ => cases e
def uJoin : U → List U → W U
  | .str a, [y] => match (match y with | .tup ys => strsU ys | .lst ys => strsU ys | _ => none) with
    | some ys => need ((ys.map (·.length)).sum + ys.length * a.length ≤ 16777216 ∧ (Txt.join a ys).length ≤ sizeLine) (.str (Txt.join a ys))
    | none => .fail
  | _, _ => .fail
theorem uJoin_ok (g : Good w) (hx : Den w.K w.st dx x) (hs : Dens w.K w.st ds us) : OpOk w (mJoin dx ds w.st) (uJoin x us) := by
  unfold uJoin; split
  · obtain ⟨d, rfl, h⟩ := dens1 hs
    cases hx
    split
    · rename_i ys e
      refine opok_need g (fun z => ?_) fun z => .str z.2
      split at e
      · cases h with | tup l r =>
        simp only [mJoin, r.strs e]
        rw [if_pos z.1]
      · obtain ⟨n, ds, rfl, _, _, l, r, e1, e2, e3⟩ := den_lst h
        simp only [mJoin, e3, Option.bind_some, r.strs e]
        rw [if_pos z.1]
      · cases e
    · exact opok_fail
  · exact opok_fail
def uGet : U → List U → W U
  | .dct kvs, [k] => need (kindOkU kvs k = true) ((uGetK kvs k).getD .non)
  | .dct kvs, [k, v] => need (kindOkU kvs k = true) ((uGetK kvs k).getD v)
  | _, _ => .fail
theorem uGet_ok (g : Good w) (hx : Den w.K w.st dx x) (hs : Dens w.K w.st ds us) : OpOk w (mGet dx ds w.st) (uGet x us) := by
  unfold uGet; split
  · rename_i kus ku
    obtain ⟨d, rfl, h⟩ := dens1 hs
    obtain ⟨n, kvs, rfl, _, _, l, r, e1, e2, e3⟩ := den_dct hx
    have k := r.kind h
    have main : ∃ v, (dGet kvs d).getD .non = v ∧ Den w.K w.st v ((uGetK kus ku).getD .non) := by
      rcases r.get h with ⟨a, b⟩ | ⟨x, y, a, b, c⟩
      · rw [a, b]; exact ⟨_, rfl, .non⟩
      · rw [a, b]; exact ⟨_, rfl, c⟩
    obtain ⟨v, e, hv⟩ := main
    exact opok_need g (fun z => by simp only [mGet, e1]; rw [if_pos (by rw [k]; exact z), e]) fun _ => hv
  · rename_i kus ku vu
    obtain ⟨d, d2, rfl, h, h'⟩ := dens2 hs
    obtain ⟨n, kvs, rfl, _, _, l, r, e1, e2, e3⟩ := den_dct hx
    have k := r.kind h
    have main : ∃ v, (dGet kvs d).getD d2 = v ∧ Den w.K w.st v ((uGetK kus ku).getD vu) := by
      rcases r.get h with ⟨a, b⟩ | ⟨x, y, a, b, c⟩
      · rw [a, b]; exact ⟨_, rfl, h'⟩
      · rw [a, b]; exact ⟨_, rfl, c⟩
    obtain ⟨v, e, hv⟩ := main
    exact opok_need g (fun z => by simp only [mGet, e1]; rw [if_pos (by rw [k]; exact z), e]) fun _ => hv
  · exact opok_fail
end
end V

/-! V4: expressions: runs by places told by runs by values. -/
namespace V
open PySem L2 G

def Goes {α : Type} (A : Nat → Prop) (g : Nat) (w : Wd) (r : R α) (P : Wd → α → Prop) (X : UX → Prop) : Prop := match r with
  | .ok a st' => ∃ w', w'.st = st' ∧ Good w' ∧ Ext A g w w' ∧ P w' a
  | .exc x st' => ∃ w' y, w'.st = st' ∧ Good w' ∧ Ext A g w w' ∧ ExnD w' x y ∧ X y
  | .fail => False
section
variable {α γ : Type} {A B : Nat → Prop} {g g1 g2 : Nat} {w w2 : Wd} {r : R α} {P P' : Wd → α → Prop} {X : UX → Prop}
theorem goes_ok {a : α} (gd : Good w) (h : P w a) : Goes A g w (.ok a w.st) P X := ⟨w, rfl, gd, Ext.refl, h⟩
theorem Goes.mono (h : Goes A g w r P X) (hg : g ≤ g1) (hp : ∀ w' a, Good w' → Ext A g w w' → P w' a → P' w' a) : Goes A g1 w r P' X := by
  cases r with
  | ok a st => obtain ⟨w', e, g, x, y⟩ := h; exact ⟨w', e, g, x.mono hg, hp _ _ g x y⟩
  | exc a st => obtain ⟨w', b, e, g, x, y⟩ := h; exact ⟨w', b, e, g, x.mono hg, y⟩
  | fail => exact h
theorem Goes.imp (h : Goes A g w r P X) (hA : ∀ n, n < w.st.length → A n → B n) : Goes B g w r P X := by
  cases r with
  | ok a st => obtain ⟨w', e, g, x, y⟩ := h; exact ⟨w', e, g, x.imp hA, y⟩
  | exc a st => obtain ⟨w', b, e, g, x, y⟩ := h; exact ⟨w', b, e, g, x.imp hA, y⟩
  | fail => exact h
theorem Goes.bind {k : α → Store → R γ} {P2 : Wd → γ → Prop} (h : Goes A g1 w r P X)
    (h2 : ∀ w' a, Good w' → Ext A g1 w w' → P w' a → Goes A g2 w' (k a w'.st) P2 X) : Goes A (g1 + g2) w (r.bind k) P2 X := by
  cases r with
  | fail => exact h
  | exc a st => obtain ⟨w', b, e, g, x, y⟩ := h; exact ⟨w', b, e, g, x.mono (by omega), y⟩
  | ok a st =>
    obtain ⟨w', rfl, g, x, y⟩ := h
    have h2 := h2 w' a g x y
    show Goes A (g1 + g2) w (k a w'.st) P2 X
    generalize k a w'.st = rr at h2 ⊢
    cases rr with
    | fail => exact h2
    | exc b st => obtain ⟨w2, b2, e, g, x2, y2⟩ := h2; exact ⟨w2, b2, e, g, x.trans x2, y2⟩
    | ok b st => obtain ⟨w2, e, g, x2, y2⟩ := h2; exact ⟨w2, e, g, x.trans x2, y2⟩
/-- from a world that came of this one -/
theorem Goes.back (e : Ext A g1 w w2) (h : Goes A g2 w2 r P X) : Goes A (g1 + g2) w r P X := by
  cases r with
  | fail => exact h
  | exc b st => obtain ⟨w2, b2, e', g, x2, y2⟩ := h; exact ⟨w2, b2, e', g, e.trans x2, y2⟩
  | ok b st => obtain ⟨w2, e', g, x2, y2⟩ := h; exact ⟨w2, e', g, e.trans x2, y2⟩
end
theorem OpOk.goes {w : Wd} {o : Option (D × Store)} {m : W U} {f : U → W β} {g : Nat} {Q : β → Prop} {X : UX → Prop} (h : OpOk w o m) (q : (m.bind f).Ok Q X) :
    Goes noA g w (lift o) (fun w' d => ∃ u, Den w'.K w'.st d u ∧ (f u).Ok Q X) X := by
  rw [ok_bind] at q
  obtain ⟨d, w', u, rfl, gd, x, y, z⟩ := h _ _ q
  exact ⟨w', rfl, gd, x.mono (by omega), u, y, z⟩

/-- a run told by a run of values, with what comes behind it -/
def SG {α δ β : Type} (base C c : Nat) (m : Sig → Store → R α) (υ : Fr) (E : (δ → W β) → W β) (Rl : Wd → Wd → α → δ → Prop) : Prop :=
  ∀ (w : Wd) (σ : Sig) (f : δ → W β) (Q : β → Prop) (X : UX → Prop), Good w → FrR base w υ σ → c * C ≤ w.R → (E f).Ok Q X → Goes noA (c * C) w (m σ w.st) (fun w' a => ∃ u, Rl w w' a u ∧ (f u).Ok Q X) X
abbrev SE {β : Type} (base C c : Nat) (m : ME) (υ : Fr) (E : (U → W β) → W β) : Prop := SG base C c m υ E fun _ w' d u => Den w'.K w'.st d u
abbrev ST {β : Type} (base C c : Nat) (m : MT) (υ : Fr) (E : (Bool → W β) → W β) : Prop := SG base C c m υ E fun _ _ a b => a = b
abbrev SA {β : Type} (n base C c : Nat) (m : MA) (υ : Fr) (E : (List U → W β) → W β) : Prop := SG base C c m υ E fun _ w' d u => Dens w'.K w'.st d u ∧ u.length = n
abbrev SP {β : Type} (base C c : Nat) (m : MO) (υ : Fr) (E : (Option Int → W β) → W β) : Prop := SG base C c m υ E fun _ _ a b => a = b
/-- a list that is new and one's own -/
abbrev SL {β : Type} (base C c : Nat) (m : ME) (υ : Fr) (E : (List U → W β) → W β) : Prop := SG base C c m υ E fun w w' d us => ∃ n, d = .loc n ∧ w.st.length ≤ n ∧ LstAt w' n us
abbrev SD {β : Type} (base C c : Nat) (m : ME) (υ : Fr) (E : (List (U × U) → W β) → W β) : Prop := SG base C c m υ E fun w w' d us => ∃ n, d = .loc n ∧ w.st.length ≤ n ∧ DctAt w' n us
def ItAt (w : Wd) (it : ItD) (i : Nat) : Option U → Prop
  | none => itGet it i w.st = some none
  | some u => ∃ d, itGet it i w.st = some (some d) ∧ Den w.K w.st d u
/-- a walk -/
def IterR (w : Wd) (it : ItD) (xs : List U) : Prop := xs.length ≤ sizeLine ∧ ∀ (A : Nat → Prop) (g : Nat) (w' : Wd), Ext A g w w' → Good w' → ∀ i, ItAt w' it i xs[i]?
abbrev SI {β : Type} (base C c : Nat) (m : MI) (υ : Fr) (E : (List U → W β) → W β) : Prop := SG base C c m υ E fun _ w' it xs => IterR w' it xs

theorem cost1 {a C R : Nat} (h : (a + b) * C ≤ R) : a * C ≤ R := by rw [Nat.add_mul] at h; omega
theorem cost2 {a b C R R1 : Nat} (h : (a + b) * C ≤ R) (e : R ≤ R1 + a * C) : b * C ≤ R1 := by rw [Nat.add_mul] at h; omega

section
variable {α δ β γ : Type} {base C c ca cb cc : Nat} {υ : Fr} {a b m : ME} {i : Nat}
/-- two runs one behind the other -/
theorem SG.goesA {A : Nat → Prop} {E : (δ → W β) → W β} {m : Sig → Store → R α} {Rl : Wd → Wd → α → δ → Prop} {k : α → Store → R γ} {P2 : Wd → γ → Prop} (h : SG base C c m υ E Rl) {w : Wd} {σ : Sig} {f : δ → W β} {Q : β → Prop} {X : UX → Prop} {c' : Nat}
    (g : Good w) (F : FrR base w υ σ) (hR : (c + c') * C ≤ w.R) (q : (E f).Ok Q X)
    (h2 : ∀ w' a u, Good w' → FrR base w' υ σ → Ext noA (c * C) w w' → c' * C ≤ w'.R → Rl w w' a u → (f u).Ok Q X → Goes A (c' * C) w' (k a w'.st) P2 X) : Goes A ((c + c') * C) w ((m σ w.st).bind k) P2 X := by
  rw [Nat.add_mul]
  have h1 := (h w σ f Q X g F (cost1 hR) q).mono (P' := fun w' a => Ext noA (c * C) w w' ∧ ∃ u, Rl w w' a u ∧ (f u).Ok Q X) (Nat.le_refl _) fun w' a _ e p => ⟨e, p⟩
  exact (h1.imp (B := A) fun _ _ z => z.elim).bind fun w' a g' _ ⟨e, u, r, q'⟩ => h2 w' a u g' (F.ext e) e (cost2 hR e.bud) r q'
theorem SG.goes {E : (δ → W β) → W β} {m : Sig → Store → R α} {Rl : Wd → Wd → α → δ → Prop} {k : α → Store → R γ} {P2 : Wd → γ → Prop} (h : SG base C c m υ E Rl) {w : Wd} {σ : Sig} {f : δ → W β} {Q : β → Prop} {X : UX → Prop} {c' : Nat}
    (g : Good w) (F : FrR base w υ σ) (hR : (c + c') * C ≤ w.R) (q : (E f).Ok Q X)
    (h2 : ∀ w' a u, Good w' → FrR base w' υ σ → Ext noA (c * C) w w' → c' * C ≤ w'.R → Rl w w' a u → (f u).Ok Q X → Goes noA (c' * C) w' (k a w'.st) P2 X) : Goes noA ((c + c') * C) w ((m σ w.st).bind k) P2 X := h.goesA g F hR q h2
/-- what a run gives when nothing comes behind it -/
theorem SG.run {E : (δ → W δ) → W δ} {m : Sig → Store → R α} {Rl : Wd → Wd → α → δ → Prop} (h : SG base C c m υ E Rl) {w : Wd} {σ : Sig} {Q : δ → Prop} {X : UX → Prop} (g : Good w) (F : FrR base w υ σ) (hR : c * C ≤ w.R) (q : (E .ret).Ok Q X) :
    Goes noA (c * C) w (m σ w.st) (fun w' a => ∃ u, Rl w w' a u ∧ Q u) X := h w σ .ret Q X g F hR q
theorem se_c {d : D} {u : U} (h : ∀ K st, Den K st d u) : SE (β := β) base C 0 (mC d) υ fun f => f u := fun w σ f Q X g F hR q => goes_ok g ⟨u, h _ _, q⟩
theorem se_non : SE (β := β) base C 0 (mC .non) υ fun f => f .non := se_c fun _ _ => .non
theorem se_bl (b : Bool) : SE (β := β) base C 0 (mC (.bl b)) υ fun f => f (.bl b) := se_c fun _ _ => .bl b
theorem se_int (i : Int) : SE (β := β) base C 0 (mC (.int i)) υ fun f => f (.int i) := se_c fun _ _ => .int i
theorem se_str (s : Str) (h : s.length ≤ sizeLine) : SE (β := β) base C 0 (mC (.str s)) υ fun f => f (.str s) := se_c fun _ _ => .str h
theorem se_ty (t : Ty) : SE (β := β) base C 0 (mC (.ty t)) υ fun f => f (.ty t) := se_c fun _ _ => .ty t
theorem se_fn (x : Str) : SE (β := β) base C 0 (mC (.fn x)) υ fun f => f (.fn x) := se_c fun _ _ => .fn x
theorem se_var (i : Nat) {u : U} (h : υ[i]? = some (some (.v u))) : SE (β := β) base C 0 (mVar i) υ fun f => f u := fun w σ f Q X g F hR q => by
  obtain ⟨d, e, r⟩ := F.val h
  simp only [mVar, e]
  exact goes_ok g ⟨u, r, q⟩
theorem se_bin {op : Op2} {g : U → U → W U} {Ea Eb : (U → W β) → W β} (o : ∀ {w : Wd} {dx dy : D} {x y : U}, Good w → Den w.K w.st dx x → Den w.K w.st dy y → OpOk w (op dx dy w.st) (g x y))
    (ha : SE base C ca a υ Ea) (hb : SE base C cb b υ Eb) : SE base C (ca + cb) (mBin op a b) υ fun f => Ea fun x => Eb fun y => (g x y).bind f := fun w σ f Q X gd F hR q =>
  ha.goes gd F hR q fun w1 dx x g1 F1 e1 h1 r1 q1 => hb.goes (c' := 0) g1 F1 h1 q1 fun w2 dy y g2 F2 e2 h2 r2 q2 => (o g2 (e2.den r1) r2).goes q2
theorem se_un {op : Op1} {g : U → W U} {Ea : (U → W β) → W β} (o : ∀ {w : Wd} {dx : D} {x : U}, Good w → Den w.K w.st dx x → OpOk w (op dx w.st) (g x))
    (ha : SE base C ca a υ Ea) : SE base C ca (mUn op a) υ fun f => Ea fun x => (g x).bind f := fun w σ f Q X gd F hR q =>
  ha.goes (c' := 0) gd F hR q fun w1 dx x g1 F1 e1 h1 r1 q1 => (o g1 r1).goes q1
def uBl : U → W Bool
  | .bl k => .ret k
  | _ => .fail
theorem uBl_ok {x : U} {f : Bool → W β} {Q : β → Prop} {X : UX → Prop} (q : ((uBl x).bind f).Ok Q X) : ∃ k, x = .bl k ∧ (f k).Ok Q X := by
  cases x with
  | bl k => exact ⟨k, rfl, q⟩
  | _ => exact q.elim
theorem st_bl {Ea : (U → W β) → W β} (ha : SE base C ca a υ Ea) : ST base C ca (mBl a) υ fun f => Ea fun x => (uBl x).bind f := fun w σ f Q X gd F hR q =>
  ha.goes (c' := 0) gd F hR q fun w1 dx x g1 F1 e1 h1 r1 q1 => by
    obtain ⟨k, rfl, q2⟩ := uBl_ok q1
    cases r1
    exact goes_ok g1 ⟨k, rfl, q2⟩
theorem st_tru {Ea : (U → W β) → W β} (ha : SE base C ca a υ Ea) : ST base C ca (mTru a) υ fun f => Ea fun x => (uTru x).bind f := fun w σ f Q X gd F hR q =>
  ha.goes (c' := 0) gd F hR q fun w1 dx x g1 F1 e1 h1 r1 q1 => by
    rw [ok_bind] at q1
    obtain ⟨b, e, qb⟩ := uTru_ok r1 q1
    rw [e]
    exact goes_ok g1 ⟨b, rfl, qb⟩
theorem st_nt {t : MT} {Et : (Bool → W β) → W β} (ht : ST base C ca t υ Et) : ST base C ca (tNt t) υ fun f => Et fun b => f (!b) := fun w σ f Q X gd F hR q =>
  ht.goes (c' := 0) gd F hR q fun w1 x y g1 F1 e1 h1 r1 q1 => by
    subst r1
    exact goes_ok g1 ⟨_, rfl, q1⟩
theorem st_an {t u : MT} {Et Eu : (Bool → W Bool) → W Bool} (ht : ST base C ca t υ Et) (hu : ST base C cb u υ Eu) :
    ST (β := β) base C (ca + cb) (tAn t u) υ fun f => (Et fun b => if b = true then Eu .ret else .ret false).bind f := fun w σ f Q X gd F hR q => by
  rw [ok_bind] at q
  refine ht.goes gd F hR q fun w1 x y g1 F1 e1 h1 r1 q1 => ?_
  subst r1
  split at q1
  · rename_i hx; rw [if_pos hx]; exact hu.run g1 F1 h1 q1
  · rename_i hx; rw [if_neg hx]; exact goes_ok g1 ⟨_, rfl, q1⟩
theorem st_oo {t u : MT} {Et Eu : (Bool → W Bool) → W Bool} (ht : ST base C ca t υ Et) (hu : ST base C cb u υ Eu) :
    ST (β := β) base C (ca + cb) (tOo t u) υ fun f => (Et fun b => if b = true then .ret true else Eu .ret).bind f := fun w σ f Q X gd F hR q => by
  rw [ok_bind] at q
  refine ht.goes gd F hR q fun w1 x y g1 F1 e1 h1 r1 q1 => ?_
  subst r1
  split at q1
  · rename_i hx; rw [if_pos hx]; exact goes_ok g1 ⟨_, rfl, q1⟩
  · rename_i hx; rw [if_neg hx]; exact hu.run g1 F1 h1 q1
theorem se_mAn {Ea Eb : (U → W U) → W U} (ha : SE base C ca a υ Ea) (hb : SE base C cb b υ Eb) :
    SE (β := β) base C (ca + cb) (mAn a b) υ fun f => (Ea fun x => (uTru x).bind fun k => if k = true then Eb .ret else .ret x).bind f := fun w σ f Q X gd F hR q => by
  rw [ok_bind] at q
  refine ha.goes gd F hR q fun w1 x y g1 F1 e1 h1 r1 q1 => ?_
  rw [ok_bind] at q1
  obtain ⟨k, e, qb⟩ := uTru_ok r1 q1
  rw [e]
  cases k with
  | true => exact hb.run g1 F1 h1 qb
  | false => exact goes_ok g1 ⟨_, r1, qb⟩
theorem se_mOo {Ea Eb : (U → W U) → W U} (ha : SE base C ca a υ Ea) (hb : SE base C cb b υ Eb) :
    SE (β := β) base C (ca + cb) (mOo a b) υ fun f => (Ea fun x => (uTru x).bind fun k => if k = true then .ret x else Eb .ret).bind f := fun w σ f Q X gd F hR q => by
  rw [ok_bind] at q
  refine ha.goes gd F hR q fun w1 x y g1 F1 e1 h1 r1 q1 => ?_
  rw [ok_bind] at q1
  obtain ⟨k, e, qb⟩ := uTru_ok r1 q1
  rw [e]
  cases k with
  | false => exact hb.run g1 F1 h1 qb
  | true => exact goes_ok g1 ⟨_, r1, qb⟩
theorem se_mNt {Ea : (U → W β) → W β} (ha : SE base C ca a υ Ea) : SE base C ca (mNt a) υ fun f => Ea fun x => (uTru x).bind fun k => f (.bl (!k)) := fun w σ f Q X gd F hR q =>
  ha.goes (c' := 0) gd F hR q fun w1 dx x g1 F1 e1 h1 r1 q1 => by
    rw [ok_bind] at q1
    obtain ⟨b, e, qb⟩ := uTru_ok r1 q1
    rw [e]
    exact goes_ok g1 ⟨_, .bl _, qb⟩
theorem se_if {t : MT} {Et : (Bool → W U) → W U} {Ea Eb : (U → W U) → W U} (ht : ST base C cc t υ Et) (ha : SE base C ca a υ Ea) (hb : SE base C cb b υ Eb) :
    SE (β := β) base C (cc + (ca + cb)) (mIf t a b) υ fun f => (Et fun k => if k = true then Ea .ret else Eb .ret).bind f := fun w σ f Q X gd F hR q => by
  rw [ok_bind] at q
  refine ht.goes gd F hR q fun w1 x y g1 F1 e1 h1 r1 q1 => ?_
  subst r1
  rw [Nat.add_mul] at h1
  split at q1
  · rename_i hx; rw [if_pos hx]; exact (ha.run g1 F1 (by omega) q1).mono (by rw [Nat.add_mul]; omega) fun _ _ _ _ h => h
  · rename_i hx; rw [if_neg hx]; exact (hb.run g1 F1 (by omega) q1).mono (by rw [Nat.add_mul]; omega) fun _ _ _ _ h => h
theorem se_chain {op op' : Op2} {g g' : U → U → W U} {Ea Eb Ed : (U → W U) → W U} {d : ME} {cd : Nat} (o : ∀ {w : Wd} {dx dy : D} {x y : U}, Good w → Den w.K w.st dx x → Den w.K w.st dy y → OpOk w (op dx dy w.st) (g x y))
    (o' : ∀ {w : Wd} {dx dy : D} {x y : U}, Good w → Den w.K w.st dx x → Den w.K w.st dy y → OpOk w (op' dx dy w.st) (g' x y))
    (ha : SE base C ca a υ Ea) (hb : SE base C cb b υ Eb) (hd : SE base C cd d υ Ed) :
    SE (β := β) base C (ca + (cb + cd)) (mChain op op' a b d) υ fun f => (Ea fun x => Eb fun y => (g x y).bind fun z => (uBl z).bind fun k => if k = true then Ed fun z => g' y z else .ret (.bl false)).bind f := fun w σ f Q X gd F hR q => by
  rw [ok_bind] at q
  refine ha.goes gd F hR q fun w1 dx x g1 F1 e1 h1 r1 q1 => hb.goes g1 F1 h1 q1 fun w2 dy y g2 F2 e2 h2 r2 q2 => ?_
  rw [ok_bind] at q2
  obtain ⟨dz, w3, z, e, g3, e3, r3, q3⟩ := o g2 (e2.den r1) r2 _ _ q2
  rw [e]
  obtain ⟨k, rfl, q4⟩ := uBl_ok q3
  cases r3
  refine Nat.zero_add (cd * C) ▸ Goes.back e3 ?_
  cases k with
  | false => exact goes_ok g3 ⟨_, .bl _, q4⟩
  | true =>
    have eb := e3.bud
    refine hd.goes (c' := 0) g3 (F2.ext e3) (by rw [Nat.add_zero]; omega) q4 fun w4 d4 z4 g4 F4 e4 h4 r4 q4 => ?_
    rw [← bind_ret_id (g' y z4)] at q4
    exact OpOk.goes (f := W.ret) (Q := fun a => (f a).Ok Q X) (o' g4 (e4.den (e3.den r2)) r4) q4

/-! ### lists of expressions -/
theorem sa_nil : SA (β := β) 0 base C 0 aNil υ fun f => f [] := fun w σ f Q X g F hR q => goes_ok g ⟨[], ⟨.nil, rfl⟩, q⟩
theorem sa_cons {n : Nat} {r : MA} {Ea : (U → W β) → W β} {Er : (List U → W β) → W β} (ha : SE base C ca a υ Ea) (hr : SA n base C cb r υ Er) :
    SA (n + 1) base C (ca + cb) (aCons a r) υ fun f => Ea fun u => Er fun us => f (u :: us) := fun w σ f Q X gd F hR q =>
  ha.goes gd F hR q fun w1 dx x g1 F1 e1 h1 r1 q1 => hr.goes (c' := 0) g1 F1 h1 q1 fun w2 ds us g2 F2 e2 h2 r2 q2 =>
    goes_ok g2 ⟨_, ⟨.cons (e2.den r1) r2.1, by rw [List.length_cons, r2.2]⟩, q2⟩
theorem se_tup {n : Nat} {r : MA} {Er : (List U → W β) → W β} (hr : SA n base C ca r υ Er) (hn : n ≤ sizeLine) : SE base C ca (mTup r) υ fun f => Er fun us => f (.tup us) := fun w σ f Q X gd F hR q =>
  hr.goes (c' := 0) gd F hR q fun w1 ds us g1 F1 e1 h1 r1 q1 => by
    have hl : ds.length ≤ sizeLine := by rw [r1.1.length, r1.2]; exact hn
    rw [if_pos hl]
    exact goes_ok g1 ⟨_, .tup hl r1.1, q1⟩
theorem goes_new {w : Wd} {ds : List D} {us : List U} {g : Nat} {P : Wd → D → Prop} {X : UX → Prop} (k : Kd) (hk : k ≠ .hd) (gd : Good w) (h : Dens w.K w.st ds us)
    (p : ∀ w', Ext noA 0 w w' → w'.K w.st.length = k → w'.st[w.st.length]? = some (.lst ds) → Dens w'.K w'.st ds us → P w' (.loc w.st.length)) : Goes noA g w (.ok (.loc w.st.length) (w.st ++ [.lst ds])) P X := by
  have x : Ext noA 0 w (w.add (.lst ds) k) := Wd.add_ext gd
  have ⟨y, z⟩ := Wd.add_at w (.lst ds) k
  exact ⟨w.add (.lst ds) k, rfl, Wd.add_good gd hk, x.mono (by omega), p _ x z y (x.dens h)⟩
theorem se_lst {n : Nat} {r : MA} {Er : (List U → W β) → W β} (hr : SA n base C ca r υ Er) (hn : n ≤ sizeLine) : SE base C ca (mLst r) υ fun f => Er fun us => f (.lst us) := fun w σ f Q X gd F hR q =>
  hr.goes (c' := 0) gd F hR q fun w1 ds us g1 F1 e1 h1 r1 q1 => by
    have hl : ds.length ≤ sizeLine := by rw [r1.1.length, r1.2]; exact hn
    rw [if_pos hl]
    exact goes_new .fz (by decide) g1 r1.1 fun w' e k s r => ⟨_, .lst k s hl r, q1⟩
theorem sl_lst {n : Nat} {r : MA} {Er : (List U → W β) → W β} (hr : SA n base C ca r υ Er) (hn : n ≤ sizeLine) : SL base C ca (mLst r) υ Er := fun w σ f Q X gd F hR q =>
  hr.goes (c' := 0) gd F hR q fun w1 ds us g1 F1 e1 h1 r1 q1 => by
    have hl : ds.length ≤ sizeLine := by rw [r1.1.length, r1.2]; exact hn
    rw [if_pos hl]
    exact goes_new .ow (by decide) g1 r1.1 fun w' e k s r => ⟨_, ⟨_, rfl, e1.len, ds, k, s, hl, r⟩, q1⟩
theorem se_dict0 : SE (β := β) base C 0 mDict0 υ fun f => f (.dct []) := fun w σ f Q X g F hR q => by
  have x : Ext noA 0 w (w.add (.dct []) .fz) := Wd.add_ext g
  have ⟨y, z⟩ := Wd.add_at w (.dct []) .fz
  exact ⟨w.add (.dct []) .fz, rfl, Wd.add_good g (by decide), x.mono (by omega), _, .dct z y (by decide) .nil, q⟩
theorem sd_dict0 : SD (β := β) base C 0 mDict0 υ fun f => f [] := fun w σ f Q X g F hR q => by
  have x : Ext noA 0 w (w.add (.dct []) .ow) := Wd.add_ext g
  have ⟨y, z⟩ := Wd.add_at w (.dct []) .ow
  exact ⟨w.add (.dct []) .ow, rfl, Wd.add_good g (by decide), x.mono (by omega), _, ⟨_, rfl, Nat.le_refl _, [], z, y, by decide, .nil⟩, q⟩
theorem se_cb {n : Nat} {op : OpN} {g : List U → W U} {r : MA} {Er : (List U → W β) → W β} (o : ∀ {w : Wd} {ds : List D} {us : List U}, Good w → Dens w.K w.st ds us → OpOk w (op ds w.st) (g us))
    (hr : SA n base C ca r υ Er) : SE base C ca (mCB op r) υ fun f => Er fun us => (g us).bind f := fun w σ f Q X gd F hR q =>
  hr.goes (c' := 0) gd F hR q fun w1 ds us g1 F1 e1 h1 r1 q1 => (o g1 r1.1).goes q1
/-- a method that changes nothing -/
theorem se_bm {n : Nat} {T : Ty} {op : D → OpN} {g : U → List U → W U} {r : MA} {Ea : (U → W β) → W β} {Er : (List U → W β) → W β} (hT : T = .str ∨ T = .lst ∨ T = .dct)
    (o : ∀ {w : Wd} {dx : D} {x : U} {ds : List D} {us : List U}, Good w → Den w.K w.st dx x → Dens w.K w.st ds us → OpOk w (op dx ds w.st) (g x us))
    (ha : SE base C ca a υ Ea) (hr : SA n base C cb r υ Er) : SE base C (ca + cb) (mBM T op a r) υ fun f => Ea fun x => if tyU x = some T then Er fun us => (g x us).bind f else .fail := fun w σ f Q X gd F hR q =>
  ha.goes gd F hR q fun w1 dx x g1 F1 e1 h1 r1 q1 => by
    by_cases ht : tyU x = some T
    · rw [if_pos ht] at q1
      rw [if_pos ⟨tyU_ok r1 ht, hT⟩]
      exact hr.goes (c' := 0) g1 F1 h1 q1 fun w2 ds us g2 F2 e2 h2 r2 q2 => (o g2 (e2.den r1) r2.1).goes q2
    · rw [if_neg ht] at q1; exact q1.elim
theorem sp_none : SP (β := β) base C 0 oNone υ fun f => f none := fun w σ f Q X g F hR q => goes_ok g ⟨_, rfl, q⟩
def uIntO : U → W Int
  | .int i => .ret i
  | _ => .fail
theorem uIntO_ok {x : U} {f : Int → W β} {Q : β → Prop} {X : UX → Prop} (q : ((uIntO x).bind f).Ok Q X) : ∃ k, x = .int k ∧ (f k).Ok Q X := by
  cases x with
  | int k => exact ⟨k, rfl, q⟩
  | _ => exact q.elim
theorem sp_some {Ea : (U → W β) → W β} (ha : SE base C ca a υ Ea) : SP base C ca (oSome a) υ fun f => Ea fun x => (uIntO x).bind fun i => f (some i) := fun w σ f Q X gd F hR q =>
  ha.goes (c' := 0) gd F hR q fun w1 dx x g1 F1 e1 h1 r1 q1 => by
    obtain ⟨k, rfl, q2⟩ := uIntO_ok q1
    cases r1
    exact goes_ok g1 ⟨_, rfl, q2⟩
theorem se_sl {l h : MO} {Ea : (U → W β) → W β} {El Eh : (Option Int → W β) → W β} (ha : SE base C ca a υ Ea) (hl : SP base C cb l υ El) (hh : SP base C cc h υ Eh) :
    SE base C (ca + (cb + cc)) (mSl a l h) υ fun f => Ea fun x => El fun lo => Eh fun hi => (uSl x lo hi).bind f := fun w σ f Q X gd F hR q =>
  ha.goes gd F hR q fun w1 dx x g1 F1 e1 h1 r1 q1 => hl.goes g1 F1 h1 q1 fun w2 lo lo' g2 F2 e2 h2 r2 q2 => hh.goes (c' := 0) g2 F2 h2 q2 fun w3 hi hi' g3 F3 e3 h3 r3 q3 => by
    subst r2 r3
    exact (uSl_ok g3 (e3.den (e2.den r1))).goes q3
theorem se_sl3 {l h : MO} {s : ME} {cs : Nat} {Ea Es : (U → W β) → W β} {El Eh : (Option Int → W β) → W β} (ha : SE base C ca a υ Ea) (hl : SP base C cb l υ El) (hh : SP base C cc h υ Eh) (hs : SE base C cs s υ Es) :
    SE base C (ca + (cb + (cc + cs))) (mSl3 a l h s) υ fun f => Ea fun x => El fun lo => Eh fun hi => Es fun k => (uIntO k).bind fun k => (uSl3 x lo hi k).bind f := fun w σ f Q X gd F hR q =>
  ha.goes gd F hR q fun w1 dx x g1 F1 e1 h1 r1 q1 => hl.goes g1 F1 h1 q1 fun w2 lo lo' g2 F2 e2 h2 r2 q2 => hh.goes g2 F2 h2 q2 fun w3 hi hi' g3 F3 e3 h3 r3 q3 => hs.goes (c' := 0) g3 F3 h3 q3 fun w4 kd k g4 F4 e4 h4 r4 q4 => by
    subst r2 r3
    obtain ⟨k, rfl, q5⟩ := uIntO_ok q4
    cases r4
    exact (uSl3_ok g4 (e4.den (e3.den (e2.den r1)))).goes q5
end

/-! ### calls -/
abbrev CallV := Str → List U → W U
/-- a def told: with values as they are -/
def FnS (C : Nat) (F : List D → Store → R D) (v : List U → W U) : Prop := ∀ (w : Wd) (ds : List D) (us : List U) (Q : U → Prop) (X : UX → Prop), Good w → Dens w.K w.st ds us → C ≤ w.R → (v us).Ok Q X → Goes noA C w (F ds w.st) (fun w' d => ∃ u, Den w'.K w'.st d u ∧ Q u) X
def CallS (C : Nat) (call : CallF) (vc : CallV) : Prop := ∀ x, FnS C (call x) (vc x)
section
variable {β : Type} {base C c ca cb : Nat} {υ : Fr}
theorem se_callP {n : Nat} {F : List D → Store → R D} {v : List U → W U} {r : MA} {Er : (List U → W β) → W β} (hF : FnS C F v) (hr : SA n base C ca r υ Er) :
    SE base C (ca + 1) (mCallP n F r) υ fun f => Er fun us => (v us).bind f := fun w σ f Q X gd F' hR q =>
  hr.goes gd F' hR q fun w1 ds us g1 F1 e1 h1 r1 q1 => by
    rw [if_pos (by rw [r1.1.length, r1.2])]
    rw [ok_bind] at q1
    rw [Nat.one_mul] at h1 ⊢
    exact hF w1 ds us _ X g1 r1.1 h1 q1
theorem Dens.pick {K : Nat → Kd} {st : Store} {ds : List D} {us : List U} (h : Dens K st ds us) : ∀ perm : List Nat, Dens K st (pick perm ds) (pick perm us)
  | [] => .nil
  | i :: perm => by
    have ih := Dens.pick h perm
    unfold G.pick at ih ⊢
    rw [List.filterMap_cons, List.filterMap_cons]
    cases e : us[i]? with
    | none => rw [h.none e]; exact ih
    | some u =>
      obtain ⟨d, e2, r⟩ := h.get e
      rw [e2]
      exact .cons r ih
theorem se_call {n q : Nat} {perm : List Nat} {F : List D → Store → R D} {v : List U → W U} {r s : MA} {Er Es : (List U → W β) → W β} (hp : perm.all (fun i => decide (i < n + q)) = true) (hF : FnS C F v) (hr : SA n base C ca r υ Er) (hs : SA q base C cb s υ Es) :
    SE base C (ca + (cb + 1)) (mCall n q perm F r s) υ fun f => Er fun us => Es fun ws => (v (pick perm (us ++ ws))).bind f := fun w σ f Q X gd F' hR q =>
  hr.goes gd F' hR q fun w1 ds us g1 F1 e1 h1 r1 q1 => hs.goes g1 F1 h1 q1 fun w2 es ws g2 F2 e2 h2 r2 q2 => by
    have l1 := r1.1.length
    have l2 := r2.1.length
    have hd := (e2.dens r1.1).append r2.1
    have hpk : ∀ (perm : List Nat) (l : List D), (∀ i ∈ perm, i < l.length) → (pick perm l).length = perm.length := fun perm l => by
      induction perm with
      | nil => intro _; rfl
      | cons i perm ih =>
        intro h
        have := ih fun j hj => h j (by simp [hj])
        have hi := h i (by simp)
        unfold G.pick at this ⊢
        rw [List.filterMap_cons, List.getElem?_eq_getElem hi]
        simp [this]
    have hp2 : (pick perm (ds ++ es)).length = perm.length := hpk _ _ fun i hi => by
      have := List.all_eq_true.mp hp i hi
      rw [List.length_append, l1, r1.2, l2, r2.2]
      simpa using this
    rw [if_pos ⟨by rw [l1, r1.2], by rw [l2, r2.2], hp2⟩]
    rw [ok_bind] at q2
    rw [Nat.one_mul] at h2 ⊢
    exact hF w2 _ _ _ X g2 (hd.pick perm) h2 q2
end
end V

/-! V5: walks, comprehensions. -/
namespace V
open PySem L2 G

section
variable {α β γ δ : Type} {base C c ca cb cc ci : Nat} {υ υ1 : Fr} {a b m : ME}
/-! ### walks -/
def uIter : U → W (List U)
  | .tup xs => .ret xs
  | .lst xs => .ret xs
  | .str z => .ret (z.cps.toList.map fun c => .str ⟨#[c]⟩)
  | _ => .fail
theorem iter_dens {w : Wd} {n : Nat} {ds : List D} {us : List U} (g : Good w) (hk : w.K n = .fz) (e : w.st[n]? = some (.lst ds)) (r : Dens w.K w.st ds us) {A : Nat → Prop} {h : Nat} {w' : Wd} (x : Ext A h w w') : lstAt w'.st n = some ds ∧ Dens w'.K w'.st ds us := by
  have := (x.keep.fz n hk).2
  refine ⟨?_, x.dens r⟩
  unfold lstAt
  rw [this, e]
theorem dens_at {w : Wd} {ds : List D} {us : List U} (r : Dens w.K w.st ds us) (i : Nat) : (us[i]? = none ∧ ds[i]? = none) ∨ ∃ u d, us[i]? = some u ∧ ds[i]? = some d ∧ Den w.K w.st d u := by
  cases e : us[i]? with
  | none => exact .inl ⟨rfl, r.none e⟩
  | some u => obtain ⟨d, a, b⟩ := r.get e; exact .inr ⟨u, d, rfl, a, b⟩
theorem si_any {Ea : (U → W β) → W β} (ha : SE base C ca a υ Ea) : SI base C ca (iAny a) υ fun f => Ea fun x => (uIter x).bind f := fun w σ f Q X gd F hR q =>
  ha.goes (c' := 0) gd F hR q fun w1 dx x g1 F1 e1 h1 r1 q1 => by
    cases r1 with
    | tup l r =>
      refine goes_ok g1 ⟨_, ⟨by rw [← r.length]; exact l, fun A h w' x g' i => ?_⟩, q1⟩
      rcases dens_at (x.dens r) i with ⟨p, q⟩ | ⟨u, d, p, q, s⟩
      · rw [p]; simp only [ItAt, itGet, q]
      · rw [p]; exact ⟨d, by simp only [itGet, q], s⟩
    | lst hk e l r =>
      have e3 := (lstD_new (K := w1.K) e).1
      simp only [iterD, e3, Option.map_some]
      refine goes_ok g1 ⟨_, ⟨by rw [← r.length]; exact l, fun A h w' x g' i => ?_⟩, q1⟩
      obtain ⟨e4, r'⟩ := iter_dens g1 hk e r x
      rcases dens_at r' i with ⟨p, q⟩ | ⟨u, d, p, q, s⟩
      · rw [p]; simp only [ItAt, itGet, e4, Option.map_some, q]
      · rw [p]; exact ⟨d, by simp only [itGet, e4, Option.map_some, q], s⟩
    | str l =>
      refine goes_ok g1 ⟨_, ⟨by simpa [Str.length] using l, fun A h w' x g' i => ?_⟩, q1⟩
      rename_i z
      have : (z.cps.toList.map fun c => U.str ⟨#[c]⟩)[i]? = (z.cps[i]?).map fun c => U.str ⟨#[c]⟩ := by simp
      rw [this]
      cases e : z.cps[i]? with
      | none => simp only [Option.map_none, ItAt, itGet, e]
      | some c => exact ⟨_, by simp only [itGet, e, Option.map_some], .str (show 1 ≤ sizeLine by decide)⟩
    | _ => exact q1.elim
def uRng1 : List U → W (List U)
  | [.int j] => need (-(2 ^ 62) ≤ j ∧ j ≤ 16777216) ((List.range j.toNat).map fun i : Nat => .int i)
  | _ => .fail
def uRng2 : List U → W (List U)
  | [.int i, .int j] => need (-(2 ^ 62) ≤ i ∧ i < 2 ^ 62 ∧ -(2 ^ 62) ≤ j ∧ j < 2 ^ 62 ∧ j - i ≤ 16777216) ((List.range (j - i).toNat).map fun k : Nat => .int (i + k))
  | _ => .fail
theorem rng_at {w : Wd} {lo : Int} {n i : Nat} : ItAt w (.rng lo n) i (((List.range n).map fun k : Nat => U.int (lo + k))[i]?) := by
  by_cases h : i < n
  · have : ((List.range n).map fun k : Nat => U.int (lo + k))[i]? = some (.int (lo + i)) := by simp [h]
    rw [this]
    exact ⟨_, by simp only [itGet, if_pos h], .int _⟩
  · have : ((List.range n).map fun k : Nat => U.int (lo + k))[i]? = none := by simp; omega
    rw [this]
    simp only [ItAt, itGet, if_neg h]
theorem sizeLine_val : sizeLine = 16777216 := rfl
theorem si_rng1 {r : MA} {Er : (List U → W β) → W β} {n : Nat} (hr : SA n base C ca r υ Er) : SI base C ca (iRng1 r) υ fun f => Er fun us => (uRng1 us).bind f := fun w σ f Q X gd F hR q =>
  hr.goes (c' := 0) gd F hR q fun w1 ds us g1 F1 e1 h1 r1 q1 => by
    unfold uRng1 at q1
    split at q1
    · rename_i j
      obtain ⟨d, rfl, h⟩ := dens1 r1.1
      cases h
      rw [ok_bind, ok_need] at q1
      obtain ⟨hj, q2⟩ := q1
      dsimp only
      rw [if_pos ⟨hj.1, by omega⟩]
      refine goes_ok g1 ⟨_, ⟨by rw [List.length_map, List.length_range, sizeLine_val]; omega, fun A h w' x g' i => ?_⟩, q2⟩
      have := rng_at (w := w') (lo := 0) (n := j.toNat) (i := i)
      simpa using this
    · exact q1.elim
theorem si_rng2 {r : MA} {Er : (List U → W β) → W β} {n : Nat} (hr : SA n base C ca r υ Er) : SI base C ca (iRng2 r) υ fun f => Er fun us => (uRng2 us).bind f := fun w σ f Q X gd F hR q =>
  hr.goes (c' := 0) gd F hR q fun w1 ds us g1 F1 e1 h1 r1 q1 => by
    unfold uRng2 at q1
    split at q1
    · rename_i i j
      obtain ⟨d, e, rfl, h, h'⟩ := dens2 r1.1
      cases h; cases h'
      rw [ok_bind, ok_need] at q1
      obtain ⟨hj, q2⟩ := q1
      dsimp only
      rw [if_pos ⟨hj.1, hj.2.1, hj.2.2.1, hj.2.2.2.1⟩]
      exact goes_ok g1 ⟨_, ⟨by rw [List.length_map, List.length_range, sizeLine_val]; omega, fun A h w' x g' k => rng_at⟩, q2⟩
    · exact q1.elim
/-- a list with its numbers -/
def enumU (xs : List U) : List U := xs.zipIdx.map fun p => .tup [.int p.2, p.1]
def uEnm : List U → W (List U)
  | [.lst xs] => .ret (enumU xs)
  | [.tup xs] => .ret (enumU xs)
  | _ => .fail
theorem enum_at {w : Wd} {ds : List D} {us : List U} (r : Dens w.K w.st ds us) (i : Nat) : ((enumU us)[i]? = none ∧ ds[i]? = none) ∨ ∃ u d, (enumU us)[i]? = some u ∧ ds[i]? = some d ∧ Den w.K w.st (.tup [.int i, d]) u := by
  have e : (enumU us)[i]? = (us[i]?).map fun u => .tup [.int i, u] := by
    simp [enumU, List.getElem?_zipIdx]
    rfl
  rcases dens_at r i with ⟨p, q⟩ | ⟨u, d, p, q, s⟩
  · exact .inl ⟨by rw [e, p]; rfl, q⟩
  · exact .inr ⟨_, d, by rw [e, p]; rfl, q, .tup (show 2 ≤ sizeLine by decide) (.cons (.int _) (.cons s .nil))⟩
theorem si_enm {r : MA} {Er : (List U → W β) → W β} {n : Nat} (hr : SA n base C ca r υ Er) : SI base C ca (iEnm r) υ fun f => Er fun us => (uEnm us).bind f := fun w σ f Q X gd F hR q =>
  hr.goes (c' := 0) gd F hR q fun w1 ds us g1 F1 e1 h1 r1 q1 => by
    unfold uEnm at q1
    split at q1
    · obtain ⟨d, rfl, h⟩ := dens1 r1.1
      obtain ⟨n, ds, rfl, hk, e, l, r, e1, e2, e3⟩ := den_lst h
      simp only [e1]
      refine goes_ok g1 ⟨_, ⟨by simp only [enumU, List.length_map, List.length_zipIdx]; rw [← r.length]; exact l, fun A h w' x g' i => ?_⟩, q1⟩
      obtain ⟨e4, r'⟩ := iter_dens g1 hk e r x
      rcases enum_at r' i with ⟨p, q⟩ | ⟨u, d, p, q, s⟩
      · rw [p]; simp only [ItAt, itGet, e4, Option.map_some, q, Option.map_none]
      · rw [p]; exact ⟨_, by simp only [itGet, e4, Option.map_some, q], s⟩
    · obtain ⟨d, rfl, h⟩ := dens1 r1.1
      cases h with | tup l r => ?_
      refine goes_ok g1 ⟨_, ⟨by simp only [enumU, List.length_map, List.length_zipIdx]; rw [← r.length]; exact l, fun A h w' x g' i => ?_⟩, q1⟩
      rcases enum_at (x.dens r) i with ⟨p, q⟩ | ⟨u, d, p, q, s⟩
      · rw [p]; simp only [ItAt, itGet, q, Option.map_none]
      · rw [p]; exact ⟨_, by simp only [itGet, q]; rfl, s⟩
    · exact q1.elim
def zipU (xs ys : List U) : List U := (xs.zip ys).map fun p => .tup [p.1, p.2]
def uZip : List U → W (List U)
  | [.lst xs, .lst ys] => .ret (zipU xs ys)
  | [.tup xs, .tup ys] => .ret (zipU xs ys)
  | _ => .fail
theorem zip_at {w : Wd} {ds es : List D} {us vs : List U} (r : Dens w.K w.st ds us) (s : Dens w.K w.st es vs) (i : Nat) :
    ((zipU us vs)[i]? = none ∧ (ds[i]? = none ∨ es[i]? = none)) ∨ ∃ u d e, (zipU us vs)[i]? = some u ∧ ds[i]? = some d ∧ es[i]? = some e ∧ Den w.K w.st (.tup [d, e]) u := by
  rcases dens_at r i with ⟨p, q⟩ | ⟨u, d, p, q, x⟩
  · exact .inl ⟨by have := List.getElem?_eq_none_iff.mp p; simp [zipU]; omega, .inl q⟩
  · rcases dens_at s i with ⟨p', q'⟩ | ⟨u', d', p', q', x'⟩
    · exact .inl ⟨by have := List.getElem?_eq_none_iff.mp p'; simp [zipU]; omega, .inr q'⟩
    · refine .inr ⟨_, d, d', ?_, q, q', .tup (show 2 ≤ sizeLine by decide) (.cons x (.cons x' .nil))⟩
      unfold zipU
      rw [List.getElem?_map, (List.getElem?_zip_eq_some (z := (u, u'))).mpr ⟨p, p'⟩]
      rfl
theorem si_zip {r : MA} {Er : (List U → W β) → W β} {n : Nat} (hr : SA n base C ca r υ Er) : SI base C ca (iZip r) υ fun f => Er fun us => (uZip us).bind f := fun w σ f Q X gd F hR q =>
  hr.goes (c' := 0) gd F hR q fun w1 ds us g1 F1 e1 h1 r1 q1 => by
    unfold uZip at q1
    have zl : ∀ xs ys : List U, (zipU xs ys).length ≤ xs.length := fun xs ys => by simp only [zipU, List.length_map, List.length_zip]; omega
    split at q1
    · obtain ⟨d, d', rfl, h, h'⟩ := dens2 r1.1
      obtain ⟨n, ds, rfl, hk, e, l, r, e1, e2, e3⟩ := den_lst h
      obtain ⟨n', ds', rfl, hk', e', l', r', e1', e2', e3'⟩ := den_lst h'
      simp only [e1, e1']
      refine goes_ok g1 ⟨_, ⟨Nat.le_trans (zl _ _) (by rw [← r.length]; exact l), fun A h w' x g' i => ?_⟩, q1⟩
      obtain ⟨e4, r2⟩ := iter_dens g1 hk e r x
      obtain ⟨e5, r3⟩ := iter_dens g1 hk' e' r' x
      rcases zip_at r2 r3 i with ⟨p, q⟩ | ⟨u, d, d2, p, q, q2, s⟩
      · rw [p]
        simp only [ItAt, itGet, e4, e5]
        rcases q with q | q <;> rw [q]
        cases ds[i]? <;> rfl
      · rw [p]; exact ⟨_, by simp only [itGet, e4, e5, q, q2], s⟩
    · obtain ⟨d, d', rfl, h, h'⟩ := dens2 r1.1
      cases h with | tup l r => ?_
      cases h' with | tup l' r' => ?_
      refine goes_ok g1 ⟨_, ⟨Nat.le_trans (zl _ _) (by rw [← r.length]; exact l), fun A h w' x g' i => ?_⟩, q1⟩
      rcases zip_at (x.dens r) (x.dens r') i with ⟨p, q⟩ | ⟨u, d, d2, p, q, q2, s⟩
      · rw [p]
        simp only [ItAt, itGet]
        rcases q with q | q <;> rw [q]
        rename_i dd _ _
        first
          | rfl
          | (split <;> simp_all)
      · rw [p]; exact ⟨_, by simp only [itGet, q, q2], s⟩
    · exact q1.elim

/-! ### comprehensions -/
/-- a run that doesn't raise -/
def W.tot : W α → W α
  | .ret a => .ret a
  | .exc _ => .fail
  | .fail => .fail
  | .pick m k => .pick m fun i => (k i).tot
@[simp] theorem tot_ret (a : α) : (W.ret a).tot = .ret a := rfl
@[simp] theorem tot_fail : (W.fail : W α).tot = .fail := rfl
@[simp] theorem tot_exc (x : UX) : (W.exc x : W α).tot = .fail := rfl
@[simp] theorem tot_pick (m : Nat) (k : Nat → W α) : (W.pick m k).tot = .pick m fun i => (k i).tot := rfl
theorem tot_bind (w : W α) (f : α → W β) : (w.bind f).tot = w.tot.bind fun a => (f a).tot := by
  induction w with
  | ret a => rfl
  | exc x => rfl
  | fail => rfl
  | pick m k ih => simp only [bind_pick, tot_pick, ih]
theorem ok_tot {w : W α} {Q : α → Prop} {X : UX → Prop} : w.tot.Ok Q X = w.Ok Q NoX := by
  induction w with
  | ret a => rfl
  | exc x => rfl
  | fail => rfl
  | pick m k ih => simp only [tot_pick, ok_pick, ih]
def consO (o : Option U) (ys : List U) : List U := match o with
  | some y => y :: ys
  | none => ys
def wLc : List U → (U → W (Option U)) → W (List U)
  | [], _ => .ret []
  | x :: xs, b => (b x).tot.bind fun o => (wLc xs b).bind fun ys => .ret (consO o ys)
def wMap : List U → (U → W U) → W (List U)
  | [], _ => .ret []
  | x :: xs, b => (b x).tot.bind fun y => (wMap xs b).bind fun ys => .ret (y :: ys)
theorem wMap_eq (b : U → W U) : ∀ xs : List U, wMap xs b = wLc xs fun x => (b x).bind fun y => .ret (some y)
  | [] => rfl
  | x :: xs => by
    unfold wMap wLc
    rw [wMap_eq b xs, tot_bind, bind_assoc]
    rfl
/-- a target of a comprehension -/
def STg {S : Type} (base : Nat) (t : Tg1) (υ : Fr) (x : U) (T : (S → W β) → W β) (en : S → Fr) : Prop :=
  ∀ (w : Wd) (σ : Sig) (d : D) (f : S → W β) (Q : β → Prop) (X : UX → Prop), Good w → FrR base w υ σ → Den w.K w.st d x → (T f).Ok Q X → ∃ σ2 s, bindT t d σ = some σ2 ∧ FrR base w (en s) σ2 ∧ (f s).Ok Q X
theorem stg_nm (i : Nat) {x : U} {en : Unit → Fr} (he : en () = υ.set i (some (.v x))) : STg (β := β) base (.nm i) υ x (fun f => f ()) en := fun w σ d f Q X g F r q =>
  ⟨_, (), rfl, by rw [he]; exact F.setV r, q⟩
def uT2 : U → W (U × U)
  | .tup [a, b] => .ret (a, b)
  | _ => .fail
def uT3 : U → W (U × U × U)
  | .tup [a, b, c] => .ret (a, b, c)
  | _ => .fail
theorem dens3 {K : Nat → Kd} {st : Store} {ds : List D} {x y z : U} (h : Dens K st ds [x, y, z]) : ∃ a b c, ds = [a, b, c] ∧ Den K st a x ∧ Den K st b y ∧ Den K st c z := by
  cases h with | cons h r => cases r with | cons h' r => cases r with | cons h'' r => cases r; exact ⟨_, _, _, rfl, h, h', h''⟩
theorem dens2' {K : Nat → Kd} {st : Store} {ds : List D} {x y : U} (h : Dens K st ds [x, y]) : ∃ a b, ds = [a, b] ∧ Den K st a x ∧ Den K st b y := by
  cases h with | cons h r => cases r with | cons h' r => cases r; exact ⟨_, _, rfl, h, h'⟩
theorem uT2_ok {x : U} {f : U × U → W β} {Q : β → Prop} {X : UX → Prop} (q : ((uT2 x).bind f).Ok Q X) : ∃ a b, x = .tup [a, b] ∧ (f (a, b)).Ok Q X := by
  unfold uT2 at q
  split at q
  · exact ⟨_, _, rfl, q⟩
  · exact q.elim
theorem uT3_ok {x : U} {f : U × U × U → W β} {Q : β → Prop} {X : UX → Prop} (q : ((uT3 x).bind f).Ok Q X) : ∃ a b c, x = .tup [a, b, c] ∧ (f (a, b, c)).Ok Q X := by
  unfold uT3 at q
  split at q
  · exact ⟨_, _, _, rfl, q⟩
  · exact q.elim
theorem stg_tp2 (i j : Nat) {x : U} {en : U × U → Fr} (he : ∀ p, en p = (υ.set i (some (.v p.1))).set j (some (.v p.2))) : STg (β := β) base (.tp [i, j]) υ x (fun f => (uT2 x).bind f) en := fun w σ d f Q X g F r q => by
  obtain ⟨a, b, rfl, q⟩ := uT2_ok q
  cases r with | tup l r => ?_
  obtain ⟨p, q', rfl, h1, h2⟩ := dens2' r
  exact ⟨_, (a, b), rfl, by rw [he]; exact (F.setV h1).setV h2, q⟩
theorem stg_tp3 (i j k : Nat) {x : U} {en : U × U × U → Fr} (he : ∀ p, en p = ((υ.set i (some (.v p.1))).set j (some (.v p.2.1))).set k (some (.v p.2.2))) : STg (β := β) base (.tp [i, j, k]) υ x (fun f => (uT3 x).bind f) en := fun w σ d f Q X g F r q => by
  obtain ⟨a, b, c, rfl, q⟩ := uT3_ok q
  cases r with | tup l r => ?_
  obtain ⟨p, q', p', rfl, h1, h2, h3⟩ := dens3 r
  exact ⟨_, (a, b, c), rfl, by rw [he]; exact ((F.setV h1).setV h2).setV h3, q⟩
theorem wipe_get (σ : Sig) : ∀ (vs : List Nat) (i : Nat), i ∉ vs → (wipeD σ vs)[i]? = σ[i]?
  | [], _, _ => rfl
  | v :: vs, i, h => by
    simp only [List.mem_cons, not_or] at h
    unfold wipeD
    rw [List.getElem?_set_ne (fun z => h.1 z.symm)]
    exact wipe_get σ vs i h.2
theorem wipe_len (σ : Sig) : ∀ vs : List Nat, (wipeD σ vs).length = σ.length
  | [] => rfl
  | v :: vs => by
    unfold wipeD
    rw [List.length_set]
    exact wipe_len σ vs
theorem FrR.wipe {w : Wd} {σ : Sig} (F : FrR base w υ σ) {vs : List Nat} (h : vs.all (fun v => (υ[v]?).getD none |>.isNone) = true) : FrR base w υ (wipeD σ vs) := by
  have n : ∀ i o, υ[i]? = some (some o) → i ∉ vs := fun i o e hm => by
    have := List.all_eq_true.mp h i hm
    rw [e] at this
    cases this
  refine ⟨F.len.trans (wipe_len σ vs).symm, fun i o e => ?_, fun i j o o' m e1 e2 o1 o2 s1 s2 => ?_⟩
  · obtain ⟨d, x, y⟩ := F.at' i o e
    exact ⟨d, (wipe_get σ vs i (n i o e)).trans x, y⟩
  · rw [wipe_get σ vs i (n i o e1)] at s1
    rw [wipe_get σ vs j (n j o' e2)] at s2
    exact F.inj i j o o' m e1 e2 o1 o2 s1 s2
/-- an item's run -/
def elemR (tt : MT) (te : ME) : Sig → Store → R (Option D) := fun σ st => (tt σ st).bind fun b st3 => if b = true then (te σ st3).bind fun y st4 => .ok (some y) st4 else .ok none st3
theorem lc_run {S : Type} {it : ItD} {xs : List U} {t : Tg1} {tt : MT} {te : ME} {B : U → W (Option U)} {w0 : Wd} {ce : Nat} {σ : Sig} (g0 : Good w0) (F0 : FrR base w0 υ σ) (hi : IterR w0 it xs)
    (hb : ∀ (x : U) (w : Wd) (d : D) (Q : Option U → Prop), Good w → FrR base w υ σ → Den w.K w.st d x → ce * C ≤ w.R → (B x).Ok Q NoX → ∃ σ2, bindT t d σ = some σ2 ∧
      Goes noA (ce * C) w (elemR tt te σ2 w.st) (fun w' o => ∃ u, (match o, u with | some d, some u => Den w'.K w'.st d u | none, none => True | _, _ => False) ∧ Q u) NoX) :
    ∀ (k i : Nat) (w : Wd) (acc : List U) (Q : List U → Prop) (X : UX → Prop), xs.length < i + k → i ≤ xs.length → Good w → Ext noA (i * (ce * C)) w0 w → LstAt w w0.st.length acc → acc.length ≤ i →
      (xs.length - i) * (ce * C) ≤ w.R → (wLc (xs.drop i) B).Ok (fun ys => Q (acc ++ ys)) X →
      ∃ st2 w2 us, lcM it t tt te w0.st.length σ k i w.st = some st2 ∧ w2.st = st2 ∧ Good w2 ∧ Ext noA (xs.length * (ce * C)) w0 w2 ∧ LstAt w2 w0.st.length us ∧ Q us
  | 0, i, w, acc, Q, X, hk, hi', _, _, _, _, _, _ => by omega
  | k + 1, i, w, acc, Q, X, hk, hil, g, e, la, hl, hR, q => by
    have ia := hi.2 noA _ w e g i
    by_cases hx : i < xs.length
    · obtain ⟨d, ig, dn⟩ : ∃ d, itGet it i w.st = some (some d) ∧ Den w.K w.st d xs[i] := by
        rw [List.getElem?_eq_getElem hx] at ia
        exact ia
      rw [List.drop_eq_getElem_cons hx] at q
      unfold wLc at q
      rw [ok_bind, ok_tot] at q
      have cost : (xs.length - i) * (ce * C) = ce * C + (xs.length - (i + 1)) * (ce * C) := by
        have : xs.length - i = (xs.length - (i + 1)) + 1 := by omega
        rw [this, Nat.add_mul]; omega
      obtain ⟨σ2, eb, go⟩ := hb _ w d _ g (F0.ext e) dn (by omega) q
      unfold lcM
      simp only [ig, eb]
      have nf : ∀ {α : Type} {r : R α} {P : Wd → α → Prop}, Goes noA (ce * C) w r P NoX → ∃ a w', r = .ok a w'.st ∧ Good w' ∧ Ext noA (ce * C) w w' ∧ P w' a := fun {α r P} h => by
        cases r with
        | ok a st => obtain ⟨w', rfl, x⟩ := h; exact ⟨a, w', rfl, x⟩
        | exc a st => obtain ⟨_, _, _, _, _, _, z⟩ := h; exact z.elim
        | fail => exact h.elim
      obtain ⟨o, w', er, g', e', u, ru, qu⟩ := nf go
      rw [ok_bind] at qu
      have bud := e'.bud
      have ext' : Ext noA ((i + 1) * (ce * C)) w0 w' := by rw [Nat.add_mul, Nat.one_mul]; exact e.trans e'
      have la' := la.ext e' (fun z => z)
      unfold elemR at er
      cases et : tt σ2 w.st with
      | fail => rw [et] at er; cases er
      | exc a st => rw [et] at er; cases er
      | ok b st3 =>
        rw [et] at er
        have er : (if b = true then (te σ2 st3).bind fun y st4 => .ok (some y) st4 else .ok none st3) = R.ok o w'.st := er
        cases b with
        | false =>
          rw [if_neg (by decide)] at er
          cases er
          cases u with
          | some u => exact ru.elim
          | none =>
            dsimp only
            exact lc_run (S := S) g0 F0 hi hb k (i + 1) w' acc Q X (by omega) (by omega) g' ext' la' (by omega) (by omega) (by simpa [consO] using qu)
        | true =>
          rw [if_pos rfl] at er
          cases ee : te σ2 st3 with
          | fail => rw [ee] at er; cases er
          | exc a st => rw [ee] at er; cases er
          | ok y st4 =>
            rw [ee] at er
            cases er
            cases u with
            | none => exact ru.elim
            | some u =>
              have ru : Den w'.K w'.st y u := ru
              obtain ⟨ds, hk', e1, l1, r1⟩ := la'
              have hlt := (List.getElem?_eq_some_iff.mp e1).1
              have hacc : lstAt w'.st w0.st.length = some ds := by unfold lstAt; rw [e1]
              have l2 : ds.length < sizeLine := by
                have := r1.length
                have := hi.1
                omega
              simp only [ee, hacc, if_pos l2]
              have pe : Ext (fun n => noA n ∨ w0.st.length ≤ n) 0 w' (w'.put w0.st.length (.lst (ds ++ [y]))) := Wd.put_ext hk' (.inr (Nat.le_refl _))
              have pe' : Ext (fun n => n = w0.st.length) 0 w' (w'.put w0.st.length (.lst (ds ++ [y]))) := Wd.put_ext hk' rfl
              refine lc_run (S := S) g0 F0 hi hb k (i + 1) (w'.put w0.st.length (.lst (ds ++ [y]))) (acc ++ [u]) Q X (by omega) (by omega) (Wd.put_good g' hk') ?_ ?_ (by simp; omega) (by show _ ≤ w'.R; omega) ?_
              · exact (ext'.new pe)
              · refine ⟨ds ++ [y], hk', by simp only [Wd.put]; rw [List.getElem?_set_self hlt], by simp; omega, ?_⟩
                exact (pe'.dens r1).append (.cons (pe'.den ru) .nil)
              · simpa [consO] using qu
    · have hn : xs[i]? = none := List.getElem?_eq_none (by omega)
      rw [hn] at ia
      have ia : itGet it i w.st = some none := ia
      have : i = xs.length := by omega
      subst this
      rw [List.drop_length] at q
      have q : Q (acc ++ []) := q
      rw [List.append_nil] at q
      unfold lcM
      simp only [ia]
      exact ⟨_, w, acc, rfl, rfl, g, e, la, q⟩
theorem elem_all {te : ME} {Ee : (U → W (Option U)) → W (Option U)} {υ : Fr} {ce : Nat} (he : SE base C ce te υ Ee) {w : Wd} {σ : Sig} {Q : Option U → Prop} (g : Good w) (F : FrR base w υ σ) (hR : ce * C ≤ w.R) (q : (Ee fun y => .ret (some y)).Ok Q NoX) :
    Goes noA (ce * C) w (elemR tTrue te σ w.st) (fun w' o => ∃ u, (match o, u with | some d, some u => Den w'.K w'.st d u | none, none => True | _, _ => False) ∧ Q u) NoX := by
  have : elemR tTrue te σ w.st = (te σ w.st).bind fun y st4 => .ok (some y) st4 := rfl
  rw [this]
  exact he.goes (c' := 0) g F (by rw [Nat.add_zero]; exact hR) q fun w1 d u g1 F1 e1 h1 r1 q1 => goes_ok g1 ⟨some u, r1, q1⟩
theorem elem_if {tt : MT} {te : ME} {Et : (Bool → W (Option U)) → W (Option U)} {Ee : (U → W (Option U)) → W (Option U)} {υ : Fr} {ct ce : Nat} (ht : ST base C ct tt υ Et) (he : SE base C ce te υ Ee) {w : Wd} {σ : Sig} {Q : Option U → Prop} (g : Good w) (F : FrR base w υ σ) (hR : (ct + ce) * C ≤ w.R)
    (q : (Et fun b => if b = true then Ee fun y => .ret (some y) else .ret none).Ok Q NoX) :
    Goes noA ((ct + ce) * C) w (elemR tt te σ w.st) (fun w' o => ∃ u, (match o, u with | some d, some u => Den w'.K w'.st d u | none, none => True | _, _ => False) ∧ Q u) NoX := by
  unfold elemR
  refine ht.goes g F hR q fun w1 b b' g1 F1 e1 h1 r1 q1 => ?_
  subst r1
  split at q1
  · rename_i hb
    rw [if_pos hb]
    exact he.goes (c' := 0) g1 F1 (by rw [Nat.add_zero]; exact h1) q1 fun w2 d u g2 F2 e2 h2 r2 q2 => goes_ok g2 ⟨some u, r2, q2⟩
  · rename_i hb
    rw [if_neg hb]
    exact goes_ok g1 ⟨none, trivial, q1⟩
/-- without a test -/
theorem sl_map {S : Type} {mi : MI} {t : Tg1} {te : ME} {vs : List Nat} {I : (List U → W β) → W β} {T : U → (S → W (Option U)) → W (Option U)} {en : U → S → Fr} {Ee : U → S → (U → W (Option U)) → W (Option U)} {ce : Nat}
    (hi : SI base C ci mi υ I) (hw : FrLe υ1 υ) (hv : vs.all (fun v => (υ1[v]?).getD none |>.isNone) = true) (ht : ∀ x, STg base t υ1 x (T x) (en x))
    (he : ∀ x s, SE base C ce te (en x s) (Ee x s)) :
    SL base C (ci + 16777216 * ce) (mLc mi t tTrue te vs) υ fun f => I fun xs => (wLc xs fun x => T x fun s => Ee x s fun y => .ret (some y)).bind f := fun w σ f Q X gd F hR q =>
  hi.goes gd F hR q fun w1 it xs g1 F1 e1 h1 r1 q1 => by
    rw [ok_bind] at q1
    have hl := r1.1
    rw [sizeLine_val] at hl
    have cst : xs.length * (ce * C) ≤ 16777216 * ce * C := by rw [Nat.mul_assoc]; exact Nat.mul_le_mul_right _ hl
    have x : Ext noA 0 w1 (w1.add (.lst []) .ow) := Wd.add_ext g1
    have ⟨y, z⟩ := Wd.add_at w1 (.lst []) .ow
    obtain ⟨st2, w2, us, h2, rfl, g2, e2, l2, q2⟩ := lc_run (S := S) (σ := wipeD σ vs) (υ := υ1) (B := fun x => T x fun s => Ee x s fun y => .ret (some y)) (C := C) (ce := ce) (tt := tTrue) (te := te) (t := t) g1 ((F1.le hw).wipe hv) r1 (fun x w d Q g F r hR q => by
        obtain ⟨σ2, s, eb, F2, q'⟩ := ht x w _ d _ Q NoX g F r q
        exact ⟨σ2, eb, elem_all (he x s) g F2 hR q'⟩) LF 0 (w1.add (.lst []) .ow) [] (fun us => (f us).Ok Q X) X (by unfold LF; omega) (by omega) (Wd.add_good g1 (by decide)) (x.mono (by omega)) ⟨[], z, y, by decide, .nil⟩ (by simp) (by
          show _ ≤ w1.R
          rw [Nat.sub_zero]
          omega) (by simpa using q1)
    have h3 : lcM it t tTrue te w1.st.length (wipeD σ vs) LF 0 (w1.st ++ [.lst []]) = some w2.st := h2
    rw [h3]
    exact ⟨w2, rfl, g2, e2.mono cst, us, ⟨_, rfl, e1.len, l2⟩, q2⟩
/-- with a test -/
theorem sl_lc {S : Type} {mi : MI} {t : Tg1} {tt : MT} {te : ME} {vs : List Nat} {I : (List U → W β) → W β} {T : U → (S → W (Option U)) → W (Option U)} {en : U → S → Fr} {Et : U → S → (Bool → W (Option U)) → W (Option U)} {Ee : U → S → (U → W (Option U)) → W (Option U)} {ct ce : Nat}
    (hi : SI base C ci mi υ I) (hw : FrLe υ1 υ) (hv : vs.all (fun v => (υ1[v]?).getD none |>.isNone) = true) (ht : ∀ x, STg base t υ1 x (T x) (en x))
    (hc : ∀ x s, ST base C ct tt (en x s) (Et x s)) (he : ∀ x s, SE base C ce te (en x s) (Ee x s)) :
    SL base C (ci + 16777216 * (ct + ce)) (mLc mi t tt te vs) υ fun f => I fun xs => (wLc xs fun x => T x fun s => Et x s fun b => if b = true then Ee x s fun y => .ret (some y) else .ret none).bind f := fun w σ f Q X gd F hR q =>
  hi.goes gd F hR q fun w1 it xs g1 F1 e1 h1 r1 q1 => by
    rw [ok_bind] at q1
    have hl := r1.1
    rw [sizeLine_val] at hl
    have cst : xs.length * ((ct + ce) * C) ≤ 16777216 * (ct + ce) * C := by rw [Nat.mul_assoc]; exact Nat.mul_le_mul_right _ hl
    have x : Ext noA 0 w1 (w1.add (.lst []) .ow) := Wd.add_ext g1
    have ⟨y, z⟩ := Wd.add_at w1 (.lst []) .ow
    obtain ⟨st2, w2, us, h2, rfl, g2, e2, l2, q2⟩ := lc_run (S := S) (σ := wipeD σ vs) (υ := υ1) (B := fun x => T x fun s => Et x s fun b => if b = true then Ee x s fun y => .ret (some y) else .ret none) (C := C) (ce := ct + ce) (tt := tt) (te := te) (t := t) g1 ((F1.le hw).wipe hv) r1 (fun x w d Q g F r hR q => by
        obtain ⟨σ2, s, eb, F2, q'⟩ := ht x w _ d _ Q NoX g F r q
        exact ⟨σ2, eb, elem_if (hc x s) (he x s) g F2 hR q'⟩) LF 0 (w1.add (.lst []) .ow) [] (fun us => (f us).Ok Q X) X (by unfold LF; omega) (by omega) (Wd.add_good g1 (by decide)) (x.mono (by omega)) ⟨[], z, y, by decide, .nil⟩ (by simp) (by
          show _ ≤ w1.R
          rw [Nat.sub_zero]
          omega) (by simpa using q1)
    have h3 : lcM it t tt te w1.st.length (wipeD σ vs) LF 0 (w1.st ++ [.lst []]) = some w2.st := h2
    rw [h3]
    exact ⟨w2, rfl, g2, e2.mono cst, us, ⟨_, rfl, e1.len, l2⟩, q2⟩
/-- what is new and one's own, given away for ever -/
theorem se_sl' {E : (List U → W β) → W β} (h : SL base C c m υ E) : SE base C c m υ fun f => E fun us => f (.lst us) := fun w σ f Q X g F hR q => by
  refine Goes.mono (g := c * C + 0) ?_ (Nat.le_refl _) fun _ _ _ _ h => h
  have hh := h w σ (fun us => f (.lst us)) Q X g F hR q
  generalize m σ w.st = r at hh ⊢
  cases r with
  | fail => exact hh
  | exc x st => obtain ⟨w', y, e, g', x, z⟩ := hh; exact ⟨w', y, e, g', x.mono (by omega), z⟩
  | ok d st =>
    obtain ⟨w', rfl, g', x, us, ⟨n, rfl, hn, la⟩, q'⟩ := hh
    have hlt := la.lt
    obtain ⟨ds, hk, e, l, r⟩ := la
    refine ⟨w'.frz n, rfl, Wd.frz_good g' hk hlt, x.new (Wd.frz_ext hk (.inr hn)), _, .lst (by simp [Wd.frz]) e l ?_, q'⟩
    exact (Wd.frz_ext (A := fun z => z = n) (g := 0) hk rfl).dens r
theorem se_sd' {E : (List (U × U) → W β) → W β} (h : SD base C c m υ E) : SE base C c m υ fun f => E fun us => f (.dct us) := fun w σ f Q X g F hR q => by
  refine Goes.mono (g := c * C + 0) ?_ (Nat.le_refl _) fun _ _ _ _ h => h
  have hh := h w σ (fun us => f (.dct us)) Q X g F hR q
  generalize m σ w.st = r at hh ⊢
  cases r with
  | fail => exact hh
  | exc x st => obtain ⟨w', y, e, g', x, z⟩ := hh; exact ⟨w', y, e, g', x.mono (by omega), z⟩
  | ok d st =>
    obtain ⟨w', rfl, g', x, us, ⟨n, rfl, hn, la⟩, q'⟩ := hh
    have hlt := la.lt
    obtain ⟨ds, hk, e, l, r⟩ := la
    refine ⟨w'.frz n, rfl, Wd.frz_good g' hk hlt, x.new (Wd.frz_ext hk (.inr hn)), _, .dct (by simp [Wd.frz]) e l ?_, q'⟩
    exact (Wd.frz_ext (A := fun z => z = n) (g := 0) hk rfl).denk r
end
end V

/-! V6: statements, loops, defs. -/
namespace V
open PySem L2 G

section
variable {Sn Sb : Type}
def SGo (base g : Nat) (w : Wd) (ex : Fr) (en : Sn → Fr) (eb : Sb → Fr) (nx : Sn → W U) (bk ct : Sb → W U) (Q : U → Prop) (X : UX → Prop) (r : R FL) : Prop := match r with
  | .ok (.nx σ') st' => ∃ w' s, w'.st = st' ∧ Good w' ∧ Ext (fromA base) g w w' ∧ FrR base w' (en s) σ' ∧ (nx s).Ok Q X
  | .ok (.bk σ') st' => ∃ w' s, w'.st = st' ∧ Good w' ∧ Ext (fromA base) g w w' ∧ FrR base w' (eb s) σ' ∧ (bk s).Ok Q X
  | .ok (.ct σ') st' => ∃ w' s, w'.st = st' ∧ Good w' ∧ Ext (fromA base) g w w' ∧ FrR base w' (eb s) σ' ∧ (ct s).Ok Q X
  | .ok (.rt d) st' => ∃ w' u, w'.st = st' ∧ Good w' ∧ Ext (fromA base) g w w' ∧ Den w'.K w'.st d u ∧ Q u
  | .ok (.xc e σ') st' => ∃ w' y, w'.st = st' ∧ Good w' ∧ Ext (fromA base) g w w' ∧ FrR base w' ex σ' ∧ ExnD w' e y ∧ X y
  | _ => False
def SS (base C c : Nat) (m : G.SS) (υ : Fr) (ex : Fr) (en : Sn → Fr) (eb : Sb → Fr) (wm : (Sn → W U) → (Sb → W U) → (Sb → W U) → W U) : Prop :=
  ∀ (w : Wd) (σ : Sig) (nx : Sn → W U) (bk ct : Sb → W U) (Q : U → Prop) (X : UX → Prop), Good w → base ≤ w.st.length → FrR base w υ σ → c * C ≤ w.R → (wm nx bk ct).Ok Q X → SGo base (c * C) w ex en eb nx bk ct Q X (m σ w.st)
end
section
variable {α β γ δ Sn Sb S S1 S2 T T1 T2 T3 : Type} {base C c ca cb cc ci c1 c2 : Nat} {υ υ1 ex : Fr} {a b : ME} {m n : G.SS} {en : Sn → Fr} {eb : Sb → Fr} {g g1 g2 : Nat} {w w' : Wd}
theorem SGo.mono {nx : Sn → W U} {bk ct : Sb → W U} {Q : U → Prop} {X : UX → Prop} {r : R FL} (h : SGo base g1 w ex en eb nx bk ct Q X r) (hg : g1 ≤ g2) : SGo base g2 w ex en eb nx bk ct Q X r := by
  unfold SGo at h ⊢
  split at h
  · obtain ⟨w', s, a, b, c, d⟩ := h; exact ⟨w', s, a, b, c.mono hg, d⟩
  · obtain ⟨w', s, a, b, c, d⟩ := h; exact ⟨w', s, a, b, c.mono hg, d⟩
  · obtain ⟨w', s, a, b, c, d⟩ := h; exact ⟨w', s, a, b, c.mono hg, d⟩
  · obtain ⟨w', s, a, b, c, d⟩ := h; exact ⟨w', s, a, b, c.mono hg, d⟩
  · obtain ⟨w', s, a, b, c, d⟩ := h; exact ⟨w', s, a, b, c.mono hg, d⟩
  · exact h.elim
theorem SGo.back {nx : Sn → W U} {bk ct : Sb → W U} {Q : U → Prop} {X : UX → Prop} {r : R FL} (e : Ext (fromA base) g1 w w') (h : SGo base g2 w' ex en eb nx bk ct Q X r) : SGo base (g1 + g2) w ex en eb nx bk ct Q X r := by
  unfold SGo at h ⊢
  split at h
  · obtain ⟨w', s, a, b, c, d⟩ := h; exact ⟨w', s, a, b, e.trans c, d⟩
  · obtain ⟨w', s, a, b, c, d⟩ := h; exact ⟨w', s, a, b, e.trans c, d⟩
  · obtain ⟨w', s, a, b, c, d⟩ := h; exact ⟨w', s, a, b, e.trans c, d⟩
  · obtain ⟨w', s, a, b, c, d⟩ := h; exact ⟨w', s, a, b, e.trans c, d⟩
  · obtain ⟨w', s, a, b, c, d⟩ := h; exact ⟨w', s, a, b, e.trans c, d⟩
  · exact h.elim
/-- an expression, then what a statement does with it -/
theorem SG.st {E : (δ → W U) → W U} {m : Sig → Store → R α} {Rl : Wd → Wd → α → δ → Prop} {k : α → Store → R FL} {nx : Sn → W U} {bk ct : Sb → W U} (h : SG base C c m υ E Rl) {σ : Sig} {f : δ → W U} {Q : U → Prop} {X : UX → Prop} {c' : Nat}
    (gd : Good w) (hb : base ≤ w.st.length) (F : FrR base w υ σ) (hx : FrLe ex υ) (hR : (c + c') * C ≤ w.R) (q : (E f).Ok Q X)
    (h2 : ∀ w' a u, Good w' → base ≤ w'.st.length → FrR base w' υ σ → Ext noA (c * C) w w' → c' * C ≤ w'.R → Rl w w' a u → (f u).Ok Q X → SGo base (c' * C) w' ex en eb nx bk ct Q X (k a w'.st)) : SGo base ((c + c') * C) w ex en eb nx bk ct Q X (G.eb (m σ w.st) σ k) := by
  have h1 := h w σ f Q X gd F (cost1 hR) q
  rw [Nat.add_mul]
  unfold G.eb
  generalize m σ w.st = r at h1 ⊢
  cases r with
  | fail => exact h1.elim
  | exc x st =>
    obtain ⟨w', y, rfl, g', e, x, z⟩ := h1
    exact ⟨w', y, rfl, g', (e.any.mono (by omega)), (F.ext e).le hx, x, z⟩
  | ok a st =>
    obtain ⟨w', rfl, g', e, u, r, q'⟩ := h1
    exact SGo.back e.any (h2 w' a u g' (Nat.le_trans hb e.len) (F.ext e) e (cost2 hR e.bud) r q')
/-! ### what may be put into a slot -/
def OF (w w' : Wd) (d : D) : O → Prop
  | .v u => Den w'.K w'.st d u
  | .lst us => ∃ n, d = .loc n ∧ w.st.length ≤ n ∧ LstAt w' n us
  | .dct us => ∃ n, d = .loc n ∧ w.st.length ≤ n ∧ DctAt w' n us
/-- an expression whose value is of one kind: a value, a list of one's own, a dict of one's own -/
abbrev SOx {β : Type} (base C c : Nat) (m : ME) (υ : Fr) (E : (T → W β) → W β) (em : T → O) : Prop := SG base C c m υ E fun w w' d t => OF w w' d (em t)
theorem OF.ext {w2 : Wd} {d : D} {o : O} (h : OF w w' d o) (e : Ext noA g w' w2) : OF w w2 d o := by
  cases o with
  | v u => exact e.den h
  | lst us => obtain ⟨n, a, b, x⟩ := h; exact ⟨n, a, b, x.ext e fun z => z⟩
  | dct us => obtain ⟨n, a, b, x⟩ := h; exact ⟨n, a, b, x.ext e fun z => z⟩
theorem own_lt {σ : Sig} (F : FrR base w υ σ) {j : Nat} {o : O} {n : Nat} (e : υ[j]? = some (some o)) (ho : o.own = true) (s : σ[j]? = some (some (.loc n))) : n < w.st.length := by
  obtain ⟨d, a, r⟩ := F.at' j o e
  rw [s] at a; cases a
  cases o with
  | v u => cases ho
  | lst us => obtain ⟨m, h, _, x⟩ := r; cases h; exact x.lt
  | dct us => obtain ⟨m, h, _, x⟩ := r; cases h; exact x.lt
/-- a slot is set to what an expression gave -/
theorem FrR.setF {σ : Sig} {i : Nat} {d : D} {o : O} (F0 : FrR base w υ σ) (F : FrR base w' υ σ) (hb : base ≤ w.st.length) (r : OF w w' d o) : FrR base w' (υ.set i (some o)) (σ.set i (some d)) := by
  cases o with
  | v u => exact F.setV r
  | lst us =>
    obtain ⟨n, rfl, hn, x⟩ := r
    exact F.setO ⟨n, rfl, by omega, x⟩ fun j o' e ho _ s => by have := own_lt F0 e ho s; omega
  | dct us =>
    obtain ⟨n, rfl, hn, x⟩ := r
    exact F.setO ⟨n, rfl, by omega, x⟩ fun j o' e ho _ s => by have := own_lt F0 e ho s; omega
theorem sgo_nx {nx : Sn → W U} {bk ct : Sb → W U} {Q : U → Prop} {X : UX → Prop} {σ : Sig} {s : Sn} (gd : Good w) (F : FrR base w (en s) σ) (q : (nx s).Ok Q X) : SGo base g w ex en eb nx bk ct Q X (.ok (.nx σ) w.st) := ⟨w, s, rfl, gd, Ext.refl, F, q⟩

/-! ### statements -/
theorem ss_asg (i : Nat) {E : (T → W U) → W U} {em : T → O} {en : T → Fr} (hx : FrLe ex υ) (h : SOx base C c a υ E em) (he : ∀ t, en t = υ.set i (some (em t))) : SS base C c (sAsg a (gNm i)) υ ex en eb fun nx _ _ => E nx := fun w σ nx bk ct Q X gd hb F hR q =>
  h.st (c' := 0) gd hb F hx hR q fun w1 d t g1 hb1 F1 e1 h1 r1 q1 => sgo_nx g1 (by rw [he]; exact F.setF F1 hb r1) q1
theorem ss_expr {E : (U → W U) → W U} {en : Unit → Fr} (hx : FrLe ex υ) (h : SE base C c a υ E) (he : en () = υ) : SS base C c (sExpr a) υ ex en eb fun nx _ _ => E fun _ => nx () := fun w σ nx bk ct Q X gd hb F hR q =>
  h.st (c' := 0) gd hb F hx hR q fun w1 d t g1 hb1 F1 e1 h1 r1 q1 => sgo_nx g1 (by rw [he]; exact F1) q1
theorem ss_ret {E : (U → W U) → W U} (hx : FrLe ex υ) (h : SE base C c a υ E) : SS base C c (sRet a) υ ex en eb fun _ _ _ => E .ret := fun w σ nx bk ct Q X gd hb F hR q =>
  h.st (c' := 0) gd hb F hx hR q fun w1 d t g1 hb1 F1 e1 h1 r1 q1 => ⟨w1, t, rfl, g1, Ext.refl, r1, q1⟩
theorem ss_nx (s : Sn) (h : FrLe (en s) υ) : SS base C 0 sNx υ ex en eb fun nx _ _ => nx s := fun w σ nx bk ct Q X gd hb F hR q => sgo_nx gd (F.le h) q
theorem ss_bk (s : Sb) (h : FrLe (eb s) υ) : SS base C 0 sBk υ ex en eb fun _ bk _ => bk s := fun w σ nx bk ct Q X gd hb F hR q => ⟨w, s, rfl, gd, Ext.refl, F.le h, q⟩
theorem ss_ct (s : Sb) (h : FrLe (eb s) υ) : SS base C 0 sCt υ ex en eb fun _ _ ct => ct s := fun w σ nx bk ct Q X gd hb F hR q => ⟨w, s, rfl, gd, Ext.refl, F.le h, q⟩
theorem ss_seq {en1 : S → Fr} {w1 : (S → W U) → (Sb → W U) → (Sb → W U) → W U} {w2 : S → (Sn → W U) → (Sb → W U) → (Sb → W U) → W U} (h : SS base C c1 m υ ex en1 eb w1) (h2 : ∀ s, SS base C c2 n (en1 s) ex en eb (w2 s)) :
    SS base C (c1 + c2) (sSeq m n) υ ex en eb fun nx bk ct => w1 (fun s => w2 s nx bk ct) bk ct := fun w σ nx bk ct Q X gd hb F hR q => by
  have h1 := h w σ _ bk ct Q X gd hb F (cost1 hR) q
  have cs : c1 * C ≤ (c1 + c2) * C := by rw [Nat.add_mul]; omega
  unfold sSeq
  generalize m σ w.st = r at h1 ⊢
  cases r with
  | fail => exact h1.elim
  | exc x st => exact h1.elim
  | ok f st =>
    cases f with
    | nx σ' =>
      obtain ⟨w', s, rfl, g', e, F', q'⟩ := h1
      rw [Nat.add_mul]
      exact SGo.back e (h2 s w' σ' nx bk ct Q X g' (Nat.le_trans hb e.len) F' (cost2 hR e.bud) q')
    | bk σ' => exact SGo.mono (r := .ok (.bk σ') st) h1 cs
    | ct σ' => exact SGo.mono (r := .ok (.ct σ') st) h1 cs
    | rt d =>
      obtain ⟨w', u, x1, x2, x3, x4⟩ := h1
      exact ⟨w', u, x1, x2, x3.mono cs, x4⟩
    | xc e σ' =>
      obtain ⟨w', u, x1, x2, x3, x4⟩ := h1
      exact ⟨w', u, x1, x2, x3.mono cs, x4⟩
theorem ss_if {t : MT} {Et : (Bool → W U) → W U} {wa wb : (Sn → W U) → (Sb → W U) → (Sb → W U) → W U} (hx : FrLe ex υ) (ht : ST base C cc t υ Et) (ha : SS base C ca m υ ex en eb wa) (hb' : SS base C cb n υ ex en eb wb) :
    SS base C (cc + (ca + cb)) (sIf t m n) υ ex en eb fun nx bk ct => Et fun k => if k = true then wa nx bk ct else wb nx bk ct := fun w σ nx bk ct Q X gd hb F hR q =>
  ht.st gd hb F hx hR q fun w1 k k' g1 hb1 F1 e1 h1 r1 q1 => by
    subst r1
    rw [Nat.add_mul] at h1
    split at q1
    · rename_i hk; rw [if_pos hk]; exact (ha w1 σ nx bk ct Q X g1 hb1 F1 (by omega) q1).mono (by rw [Nat.add_mul]; omega)
    · rename_i hk; rw [if_neg hk]; exact (hb' w1 σ nx bk ct Q X g1 hb1 F1 (by omega) q1).mono (by rw [Nat.add_mul]; omega)
/-- less is told of the frame behind -/
theorem ss_weak {en1 : S → Fr} {w1 : (S → W U) → (Sb → W U) → (Sb → W U) → W U} (f : S → Sn) (h : SS base C c m υ ex en1 eb w1) (hl : ∀ s, FrLe (en (f s)) (en1 s)) : SS base C c m υ ex en eb fun nx bk ct => w1 (fun s => nx (f s)) bk ct := fun w σ nx bk ct Q X gd hb F hR q => by
  have h1 := h w σ _ bk ct Q X gd hb F hR q
  generalize m σ w.st = r at h1 ⊢
  cases r with
  | fail => exact h1.elim
  | exc x st => exact h1.elim
  | ok k st =>
    cases k with
    | nx σ' =>
      obtain ⟨w', s, e, g', x, F', q'⟩ := h1
      exact ⟨w', f s, e, g', x, F'.le (hl s), q'⟩
    | _ => exact h1
/-- less is told of the frame ahead -/
theorem ss_le {wm : (Sn → W U) → (Sb → W U) → (Sb → W U) → W U} (hl : FrLe υ1 υ) (h : SS base C c m υ1 ex en eb wm) : SS base C c m υ ex en eb wm := fun w σ nx bk ct Q X gd hb F hR q => h w σ nx bk ct Q X gd hb (F.le hl) hR q
/-- what is one's own is given away for ever -/
theorem ss_frz (i : Nat) {o : O} {wm : (Sn → W U) → (Sb → W U) → (Sb → W U) → W U} (e : υ[i]? = some (some o)) (ho : o.own = true) (h : SS base C c m υ1 ex en eb wm) (hv : υ1 = υ.set i (some (.v o.view))) : SS base C c m υ ex en eb wm := fun w σ nx bk ct Q X gd hb F hR q => by
  obtain ⟨n, s, hk, hl, hn, F'⟩ := F.frz e ho
  rw [← hv] at F'
  have := h (w.frz n) σ nx bk ct Q X (Wd.frz_good gd hk hl) hb F' hR q
  rw [← Nat.zero_add (c * C)]
  exact SGo.back (Wd.frz_ext hk hn) this

/-! ### lists and dicts of one's own -/
theorem own_lst {σ : Sig} (F : FrR base w υ σ) {i : Nat} {us : List U} (e : υ[i]? = some (some (.lst us))) : ∃ n ds, σ[i]? = some (some (.loc n)) ∧ base ≤ n ∧ w.K n = .ow ∧ n < w.st.length ∧ lstAt w.st n = some ds ∧ ds.length ≤ sizeLine ∧ Dens w.K w.st ds us ∧ tyD (.loc n) w.st = some .lst := by
  obtain ⟨d, s, n, rfl, hb, x⟩ := F.at' i _ e
  have hl := x.lt
  obtain ⟨ds, hk, e1, l, r⟩ := x
  exact ⟨n, ds, s, hb, hk, hl, (lstD_new (K := w.K) e1).1, l, r, by simp only [tyD, e1]⟩
theorem own_dct {σ : Sig} (F : FrR base w υ σ) {i : Nat} {us : List (U × U)} (e : υ[i]? = some (some (.dct us))) : ∃ n ds, σ[i]? = some (some (.loc n)) ∧ base ≤ n ∧ w.K n = .ow ∧ n < w.st.length ∧ dctW w.st n = some ds ∧ lstAt w.st n = none ∧ ds.length ≤ sizeLine ∧ DenK w.K w.st ds us ∧ tyD (.loc n) w.st = some .dct := by
  obtain ⟨d, s, n, rfl, hb, x⟩ := F.at' i _ e
  have hl := x.lt
  obtain ⟨ds, hk, e1, l, r⟩ := x
  exact ⟨n, ds, s, hb, hk, hl, dct_new e1, dct_new2 e1, l, r, by simp only [tyD, e1]⟩
/-- a list of one's own changes -/
theorem put_own {σ : Sig} (gd : Good w) (F : FrR base w υ σ) {i n : Nat} {us us' : List U} {ds' : List D} (e : υ[i]? = some (some (.lst us))) (s : σ[i]? = some (some (.loc n))) (hb : base ≤ n) (hk : w.K n = .ow) (hl : n < w.st.length) (l : ds'.length ≤ sizeLine) (r : Dens w.K w.st ds' us') :
    Good (w.put n (.lst ds')) ∧ Ext (fromA base) g w (w.put n (.lst ds')) ∧ FrR base (w.put n (.lst ds')) (υ.set i (some (.lst us'))) σ ∧ (∀ d u, Den w.K w.st d u → Den (w.put n (.lst ds')).K (w.put n (.lst ds')).st d u) := by
  have pe : Ext (fun z => z = n) 0 w (w.put n (.lst ds')) := Wd.put_ext hk rfl
  refine ⟨Wd.put_good gd hk, Wd.put_ext hk hb, F.put gd e rfl s hk hl ⟨n, rfl, hb, ds', hk, by simp only [Wd.put]; rw [List.getElem?_set_self hl], l, pe.dens r⟩ rfl, fun d u h => pe.den h⟩
theorem put_ownK {σ : Sig} (gd : Good w) (F : FrR base w υ σ) {i n : Nat} {us us' : List (U × U)} {ds' : List (D × D)} (e : υ[i]? = some (some (.dct us))) (s : σ[i]? = some (some (.loc n))) (hb : base ≤ n) (hk : w.K n = .ow) (hl : n < w.st.length) (l : ds'.length ≤ sizeLine) (r : DenK w.K w.st ds' us') :
    Good (w.put n (.dct ds')) ∧ Ext (fromA base) g w (w.put n (.dct ds')) ∧ FrR base (w.put n (.dct ds')) (υ.set i (some (.dct us'))) σ := by
  have pe : Ext (fun z => z = n) 0 w (w.put n (.dct ds')) := Wd.put_ext hk rfl
  exact ⟨Wd.put_good gd hk, Wd.put_ext hk hb, F.put gd e rfl s hk hl ⟨n, rfl, hb, ds', hk, by simp only [Wd.put]; rw [List.getElem?_set_self hl], l, pe.denk r⟩ rfl⟩
/-- a method of a list of one's own is called, its arguments first -/
theorem own_bm {op : D → OpN} {r : MA} {T : Ty} (hT : T = .str ∨ T = .lst ∨ T = .dct) (i : Nat) {σ : Sig} {st : Store} {x : D} (s : σ[i]? = some (some x)) (ht : tyD x st = some T) : mBM T op (mVar i) r σ st = (r σ st).bind fun ds st2 => lift (op x ds st2) := by
  unfold mBM
  simp only [mVar, s, R.bind_ok]
  rw [if_pos ⟨ht, hT⟩]
theorem eb_assoc {α β : Type} (r : R α) (k : α → Store → R β) (σ : Sig) (l : β → Store → R FL) : G.eb (r.bind k) σ l = G.eb r σ fun a st => G.eb (k a st) σ l := by
  cases r <;> rfl
theorem ss_append (i : Nat) {us : List U} {Ea : (U → W U) → W U} {en : List U → Fr} (e : υ[i]? = some (some (.lst us))) (hx : FrLe ex υ) (h : SE base C c a υ Ea) (he : ∀ z, en z = υ.set i (some (.lst z))) :
    SS base C c (sExpr (mBM .lst mAppend (mVar i) (aCons a aNil))) υ ex en eb fun nx _ _ => Ea fun u => if us.length < sizeLine then nx (us ++ [u]) else .fail := fun w σ nx bk ct Q X gd hb F hR q => by
  obtain ⟨n, ds, s, hn, hk, hl, la, l, r, ty⟩ := own_lst F e
  unfold sExpr
  rw [own_bm (.inr (.inl rfl)) i s ty, eb_assoc]
  unfold aCons
  rw [eb_assoc]
  refine h.st (c' := 0) gd hb F hx hR q fun w1 d u g1 hb1 F1 e1 h1 r1 q1 => ?_
  split at q1
  · rename_i hlt
    have s1 := s
    obtain ⟨n', ds', s', hn', hk', hl', la', l', r', ty'⟩ := own_lst F1 e
    rw [s] at s'; cases s'
    have hl2 : ds'.length < sizeLine := by rw [r'.length]; exact hlt
    obtain ⟨p1, p2, p3, p4⟩ := put_own (g := 0 * C) (us' := us ++ [u]) (ds' := ds' ++ [d]) g1 F1 e s hn' hk' hl' (by simp; omega) (r'.append (.cons r1 .nil))
    show SGo base (0 * C) w1 ex en eb nx bk ct Q X (G.eb (lift (mAppend (.loc n) [d] w1.st)) σ fun _ st1 => .ok (.nx σ) st1)
    simp only [mAppend, la', if_pos hl2]
    exact ⟨_, _, rfl, p1, p2, by rw [he]; exact p3, q1⟩
  · exact q1.elim
def uSeq : U → W (List U)
  | .tup xs => .ret xs
  | .lst xs => .ret xs
  | _ => .fail
theorem r_assoc {α β γ : Type} (r : R α) (k : α → Store → R β) (l : β → Store → R γ) : (r.bind k).bind l = r.bind fun a st => (k a st).bind l := by
  cases r <;> rfl
def extD (d : D) (st : Store) : Option (List D) := match d with
  | .tup ys => some ys
  | .loc m => lstAt st m
  | _ => none
theorem mExtend_eq (n : Nat) (y : D) (st : Store) : mExtend (.loc n) [y] st = match lstAt st n with
    | some xs => match extD y st with
      | some ys => if xs.length + ys.length ≤ sizeLine then some (.non, st.set n (.lst (xs ++ ys))) else none
      | none => none
    | none => none := rfl
theorem ss_extend (i : Nat) {us : List U} {Ea : (U → W U) → W U} {en : List U → Fr} (e : υ[i]? = some (some (.lst us))) (hx : FrLe ex υ) (h : SE base C c a υ Ea) (he : ∀ z, en z = υ.set i (some (.lst z))) :
    SS base C c (sExpr (mBM .lst mExtend (mVar i) (aCons a aNil))) υ ex en eb fun nx _ _ => Ea fun u => (uSeq u).bind fun ys => if us.length + ys.length ≤ sizeLine then nx (us ++ ys) else .fail := fun w σ nx bk ct Q X gd hb F hR q => by
  obtain ⟨n, ds, s, hn, hk, hl, la, l, r, ty⟩ := own_lst F e
  unfold sExpr
  rw [own_bm (.inr (.inl rfl)) i s ty, eb_assoc]
  unfold aCons
  rw [eb_assoc]
  refine h.st (c' := 0) gd hb F hx hR q fun w1 d u g1 hb1 F1 e1 h1 r1 q1 => ?_
  obtain ⟨n', ds', s', hn', hk', hl', la', l', r', ty'⟩ := own_lst F1 e
  rw [s] at s'; cases s'
  have main : ∀ (ys : List U) (es : List D), Dens w1.K w1.st es ys → extD d w1.st = some es → (if us.length + ys.length ≤ sizeLine then nx (us ++ ys) else .fail).Ok Q X →
      SGo base (0 * C) w1 ex en eb nx bk ct Q X (G.eb (lift (mExtend (.loc n) [d] w1.st)) σ fun _ st1 => .ok (.nx σ) st1) := fun ys es ry hy q2 => by
    split at q2
    · rename_i hle
      have hl2 : ds'.length + es.length ≤ sizeLine := by rw [r'.length, ry.length]; exact hle
      obtain ⟨p1, p2, p3, p4⟩ := put_own (g := 0 * C) (us' := us ++ ys) (ds' := ds' ++ es) g1 F1 e s hn' hk' hl' (by simp; omega) (r'.append ry)
      simp only [mExtend_eq, la', hy, if_pos hl2]
      exact ⟨_, _, rfl, p1, p2, by rw [he]; exact p3, q2⟩
    · exact q2.elim
  show SGo base (0 * C) w1 ex en eb nx bk ct Q X (G.eb (lift (mExtend (.loc n) [d] w1.st)) σ fun _ st1 => .ok (.nx σ) st1)
  cases r1 with
  | tup l2 r2 => exact main _ _ r2 rfl q1
  | lst hk2 e2 l2 r2 => exact main _ _ r2 ((lstD_new (K := w1.K) e2).1) q1
  | _ => exact q1.elim
/-- an expression that changes the list in a slot -/
def SX {β : Type} (base C c : Nat) (m : ME) (υ : Fr) (i : Nat) (E : (U × List U → W β) → W β) : Prop :=
  ∀ (w : Wd) (σ : Sig) (f : U × List U → W β) (Q : β → Prop) (X : UX → Prop), Good w → FrR base w υ σ → c * C ≤ w.R → (E f).Ok Q X → match m σ w.st with
    | .ok d st' => ∃ w', w'.st = st' ∧ Good w' ∧ Ext (fromA base) (c * C) w w' ∧ ∃ p : U × List U, Den w'.K w'.st d p.1 ∧ FrR base w' (υ.set i (some (.lst p.2))) σ ∧ (f p).Ok Q X
    | .exc x st' => ∃ w' y, w'.st = st' ∧ Good w' ∧ Ext (fromA base) (c * C) w w' ∧ FrR base w' υ σ ∧ ExnD w' x y ∧ X y
    | .fail => False
def uPop (us : List U) : W (U × List U) := match us.getLast? with
  | some u => .ret (u, us.dropLast)
  | none => .fail
theorem Dens.last {K : Nat → Kd} {st : Store} {ds : List D} {us : List U} {u : U} (h : Dens K st ds us) (e : us.getLast? = some u) : ∃ d, ds.getLast? = some d ∧ Den K st d u := by
  rw [List.getLast?_eq_getElem?] at e ⊢
  rw [h.length]
  exact h.get e
theorem sx_pop (i : Nat) {us : List U} (e : υ[i]? = some (some (.lst us))) : SX (β := β) base C 0 (mBM .lst mPop (mVar i) aNil) υ i fun f => (uPop us).bind f := fun w σ f Q X gd F hR q => by
  obtain ⟨n, ds, s, hn, hk, hl, la, l, r, ty⟩ := own_lst F e
  rw [own_bm (.inr (.inl rfl)) i s ty]
  unfold uPop at q
  cases hu : us.getLast? with
  | none => rw [hu] at q; exact q.elim
  | some u =>
    rw [hu] at q
    obtain ⟨d, hd, rd⟩ := r.last hu
    obtain ⟨p1, p2, p3, p4⟩ := put_own (g := 0 * C) (us' := us.dropLast) (ds' := ds.dropLast) gd F e s hn hk hl (by simp; omega) r.dropLast
    show match lift (mPop (.loc n) [] w.st) with | .ok d st' => _ | .exc x st' => _ | .fail => False
    simp only [mPop, la, hd]
    exact ⟨_, rfl, p1, p2, (u, us.dropLast), p4 _ _ rd, p3, q⟩
def uPopI (us : List U) : U → W (U × List U)
  | .int i => if -(2 ^ 63) ≤ i ∧ i < 2 ^ 63 then ofO ((ixN us.length i).bind fun k => (us[k]?).map fun y => (y, us.eraseIdx k)) else .fail
  | _ => .fail
theorem sx_popI (i : Nat) {us : List U} {Ea : (U → W β) → W β} (e : υ[i]? = some (some (.lst us))) (h : SE base C c a υ Ea) : SX base C c (mBM .lst mPop (mVar i) (aCons a aNil)) υ i fun f => Ea fun k => (uPopI us k).bind f := fun w σ f Q X gd F hR q => by
  obtain ⟨n, ds, s, hn, hk, hl, la, l, r, ty⟩ := own_lst F e
  rw [own_bm (.inr (.inl rfl)) i s ty]
  unfold aCons
  rw [r_assoc]
  have h1 := h w σ _ Q X gd F hR q
  generalize a σ w.st = rr at h1 ⊢
  cases rr with
  | fail => exact h1
  | exc x st =>
    obtain ⟨w', y, rfl, g', e', x1, z⟩ := h1
    exact ⟨w', y, rfl, g', e'.any, F.ext e', x1, z⟩
  | ok d st =>
    obtain ⟨w1, rfl, g1, e1, u, r1, q1⟩ := h1
    have F1 := F.ext e1
    obtain ⟨n', ds', s', hn', hk', hl', la', l', r', ty'⟩ := own_lst F1 e
    rw [s] at s'; cases s'
    unfold uPopI at q1
    split at q1
    · rename_i k
      cases r1
      split at q1
      · rename_i hh
        cases hi : ixN us.length k with
        | none => rw [hi] at q1; exact q1.elim
        | some j =>
          rw [hi] at q1
          simp only [Option.bind_some] at q1
          cases hu : us[j]? with
          | none => rw [hu] at q1; exact q1.elim
          | some u =>
            rw [hu] at q1
            obtain ⟨d, hd, rd⟩ := r'.get hu
            obtain ⟨p1, p2, p3, p4⟩ := put_own (g := 0) (us' := us.eraseIdx j) (ds' := ds'.eraseIdx j) g1 F1 e s hn' hk' hl' (Nat.le_trans (List.length_eraseIdx_le _ _) l') (r'.erase j)
            show match lift (mPop (.loc n) [.int k] w1.st) with | .ok d st' => _ | .exc x st' => _ | .fail => False
            simp only [mPop, la', if_pos hh, r'.length, hi, Option.bind_some, hd, Option.map_some]
            exact ⟨_, rfl, p1, (e1.any.trans p2).mono (by omega), (u, us.eraseIdx j), p4 _ _ rd, p3, q1⟩
      · exact q1.elim
    · exact q1.elim
/-! targets -/
def STG {β : Type} (base : Nat) (t : MG) (υ : Fr) (x : U) (T : (S → W β) → W β) (en : S → Fr) : Prop :=
  ∀ (w : Wd) (σ : Sig) (d : D) (f : S → W β) (Q : β → Prop) (X : UX → Prop), Good w → FrR base w υ σ → Den w.K w.st d x → (T f).Ok Q X → ∃ σ2 s, t d σ w.st = .ok σ2 w.st ∧ FrR base w (en s) σ2 ∧ (f s).Ok Q X
theorem stG_nm (i : Nat) {x : U} {en : Unit → Fr} (he : en () = υ.set i (some (.v x))) : STG (β := β) base (gNm i) υ x (fun f => f ()) en := fun w σ d f Q X g F r q =>
  ⟨_, (), rfl, by rw [he]; exact F.setV r, q⟩
theorem stG_tp2 {x : U} {t1 t2 : MG} {T1 : U → (S1 → W β) → W β} {T2 : U → S1 → (S2 → W β) → W β} {en1 : U → S1 → Fr} {en : U × U → S1 → S2 → Fr}
    (h1 : ∀ a, STG base t1 υ a (T1 a) (en1 a)) (h2 : ∀ a b s, STG base t2 (en1 a s) b (T2 b s) (en (a, b) s)) :
    STG (β := β) (S := (U × U) × S1 × S2) base (gTp 2 (gCn t1 (gCn t2 gNl))) υ x (fun f => (uT2 x).bind fun p => T1 p.1 fun s => T2 p.2 s fun s2 => f (p, s, s2)) (fun z => en z.1 z.2.1 z.2.2) := fun w σ d f Q X g F r q => by
  obtain ⟨a, b, rfl, q⟩ := uT2_ok q
  cases r with | tup l r => ?_
  obtain ⟨d1, d2, rfl, r1, r2⟩ := dens2' r
  obtain ⟨σ1, s1, e1, F1, q1⟩ := h1 a w σ d1 _ Q X g F r1 q
  obtain ⟨σ2, s2, e2, F2, q2⟩ := h2 a b s1 w σ1 d2 _ Q X g F1 r2 q1
  refine ⟨σ2, ((a, b), s1, s2), ?_, F2, q2⟩
  simp only [gTp, gCn, gNl, e1, e2, R.bind_ok, List.length_cons, List.length_nil, if_pos]
theorem stG_tp3 {x : U} {t1 t2 t3 : MG} {T1 : U → (S1 → W β) → W β} {T2 : U → S1 → (S2 → W β) → W β} {T3 : U → S1 → S2 → (S → W β) → W β} {en1 : U → S1 → Fr} {en2 : U → U → S1 → S2 → Fr} {en : U × U × U → S1 → S2 → S → Fr}
    (h1 : ∀ a, STG base t1 υ a (T1 a) (en1 a)) (h2 : ∀ a b s, STG base t2 (en1 a s) b (T2 b s) (en2 a b s)) (h3 : ∀ a b c s s2, STG base t3 (en2 a b s s2) c (T3 c s s2) (en (a, b, c) s s2)) :
    STG (β := β) (S := (U × U × U) × S1 × S2 × S) base (gTp 3 (gCn t1 (gCn t2 (gCn t3 gNl)))) υ x (fun f => (uT3 x).bind fun p => T1 p.1 fun s => T2 p.2.1 s fun s2 => T3 p.2.2 s s2 fun s3 => f (p, s, s2, s3)) (fun z => en z.1 z.2.1 z.2.2.1 z.2.2.2) := fun w σ d f Q X g F r q => by
  obtain ⟨a, b, c, rfl, q⟩ := uT3_ok q
  cases r with | tup l r => ?_
  obtain ⟨d1, d2, d3, rfl, r1, r2, r3⟩ := dens3 r
  obtain ⟨σ1, s1, e1, F1, q1⟩ := h1 a w σ d1 _ Q X g F r1 q
  obtain ⟨σ2, s2, e2, F2, q2⟩ := h2 a b s1 w σ1 d2 _ Q X g F1 r2 q1
  obtain ⟨σ3, s3, e3, F3, q3⟩ := h3 a b c s1 s2 w σ2 d3 _ Q X g F2 r3 q2
  refine ⟨σ3, ((a, b, c), s1, s2, s3), ?_, F3, q3⟩
  simp only [gTp, gCn, gNl, e1, e2, e3, R.bind_ok, List.length_cons, List.length_nil, if_pos]
/-- the frequent ones: two, three names -/
theorem stG_nm2 (i j : Nat) {x : U} {en : U × U → Fr} (he : ∀ p, en p = (υ.set i (some (.v p.1))).set j (some (.v p.2))) : STG (β := β) base (gTp 2 (gCn (gNm i) (gCn (gNm j) gNl))) υ x (fun f => (uT2 x).bind f) en := fun w σ d f Q X g F r q => by
  obtain ⟨a, b, rfl, q⟩ := uT2_ok q
  cases r with | tup l r => ?_
  obtain ⟨d1, d2, rfl, r1, r2⟩ := dens2' r
  exact ⟨_, (a, b), rfl, by rw [he]; exact (F.setV r1).setV r2, q⟩
theorem stG_nm3 (i j k : Nat) {x : U} {en : U × U × U → Fr} (he : ∀ p, en p = ((υ.set i (some (.v p.1))).set j (some (.v p.2.1))).set k (some (.v p.2.2))) : STG (β := β) base (gTp 3 (gCn (gNm i) (gCn (gNm j) (gCn (gNm k) gNl)))) υ x (fun f => (uT3 x).bind f) en := fun w σ d f Q X g F r q => by
  obtain ⟨a, b, c, rfl, q⟩ := uT3_ok q
  cases r with | tup l r => ?_
  obtain ⟨d1, d2, d3, rfl, r1, r2, r3⟩ := dens3 r
  exact ⟨_, (a, b, c), rfl, by rw [he]; exact ((F.setV r1).setV r2).setV r3, q⟩
theorem ss_asgT {t : MG} {Ea : (U → W U) → W U} {T : U → (S → W U) → W U} {en : S → Fr} {en1 : U → S → Fr} (hx : FrLe ex υ) (h : SE base C c a υ Ea) (ht : ∀ x, STG base t υ x (T x) (en1 x)) (he : ∀ x s, en1 x s = en s) :
    SS base C c (sAsg a t) υ ex en eb fun nx _ _ => Ea fun x => T x nx := fun w σ nx bk ct Q X gd hb F hR q =>
  h.st (c' := 0) gd hb F hx hR q fun w1 d x g1 hb1 F1 e1 h1 r1 q1 => by
    obtain ⟨σ2, s, e, F2, q2⟩ := ht x w1 σ d nx Q X g1 F1 r1 q1
    rw [e]
    exact sgo_nx g1 (by rw [← he]; exact F2) q2
theorem ss_asgX {t : MG} {i : Nat} {Ea : (U × List U → W U) → W U} {T : U × List U → (S → W U) → W U} {en : S → Fr} {en1 : U × List U → S → Fr} (hx : FrLe ex υ) (h : SX base C c a υ i Ea)
    (ht : ∀ p : U × List U, STG base t (υ.set i (some (.lst p.2))) p.1 (T p) (en1 p)) (he : ∀ x s, en1 x s = en s) :
    SS base C c (sAsg a t) υ ex en eb fun nx _ _ => Ea fun p => T p nx := fun w σ nx bk ct Q X gd hb F hR q => by
  have h1 := h w σ _ Q X gd F hR q
  unfold sAsg G.eb
  generalize a σ w.st = r at h1 ⊢
  cases r with
  | fail => exact h1.elim
  | exc x st =>
    obtain ⟨w', y, rfl, g', e', F', x1, z⟩ := h1
    exact ⟨w', y, rfl, g', e', F'.le hx, x1, z⟩
  | ok d st =>
    obtain ⟨w', rfl, g', e, p, r, F', q'⟩ := h1
    obtain ⟨σ2, s, e2, F2, q2⟩ := ht p w' σ d nx Q X g' F' r q'
    dsimp only
    rw [e2]
    exact ⟨w', s, rfl, g', e, by rw [← he]; exact F2, q2⟩
end
end V

/-! V7: more statements; loops; what is one's own, looked at; defs. -/
namespace V
open PySem L2 G
section
variable {α β γ δ Sn Sb S S1 S2 T T1 T2 T3 : Type} {base C c ca cb cc ci c1 c2 : Nat} {υ υ1 ex : Fr} {a b : ME} {m n : G.SS} {en : Sn → Fr} {eb : Sb → Fr} {g g1 g2 : Nat} {w w' : Wd}
/-! ### places of one's own -/
def uSetK (kvs : List (U × U)) (k v : U) : W (List (U × U)) := if kindOkU kvs k = true ∧ kvs.length < sizeLine then .ret (uPutK kvs k v) else .fail
def uSetI (us : List U) (k v : U) : W (List U) := match k with
  | .int i => ofO ((ixN us.length i).map fun j => us.set j v)
  | _ => .fail
theorem ss_setK (i : Nat) {kvs : List (U × U)} {Ea Eb : (U → W U) → W U} {en : List (U × U) → Fr} (e : υ[i]? = some (some (.dct kvs))) (hx : FrLe ex υ) (ha : SE base C ca a υ Ea) (hb' : SE base C cb b υ Eb) (he : ∀ z, en z = υ.set i (some (.dct z))) :
    SS base C (ca + cb) (sAsg a (gSb (mVar i) b)) υ ex en eb fun nx _ _ => Ea fun v => Eb fun k => (uSetK kvs k v).bind nx := fun w σ nx bk ct Q X gd hb F hR q => by
  refine ha.st gd hb F hx hR q fun w1 dv v g1 hb1 F1 e1 h1 r1 q1 => ?_
  obtain ⟨n, ds, s, hn, hk, hl, la, ln, l, r, ty⟩ := own_dct F1 e
  unfold gSb
  simp only [mVar, s, R.bind_ok]
  rw [eb_assoc]
  refine hb'.st (c' := 0) g1 hb1 F1 hx h1 q1 fun w2 dk k g2 hb2 F2 e2 h2 r2 q2 => ?_
  obtain ⟨n', ds', s', hn', hk', hl', la', ln', l', r', ty'⟩ := own_dct F2 e
  rw [s] at s'; cases s'
  unfold uSetK at q2
  split at q2
  · rename_i hh
    have h1 : kindOk ds' dk = true ∧ ds'.length < sizeLine := ⟨by rw [r'.kind r2]; exact hh.1, by rw [r'.length]; exact hh.2⟩
    have hl3 := dPut_len ds' dk dv
    obtain ⟨p1, p2, p3⟩ := put_ownK (g := 0 * C) (us' := uPutK kvs k v) (ds' := dPut ds' dk dv) g2 F2 e s hn' hk' hl' (by omega) (r'.put r2 (e2.den r1))
    simp only [setD, ln', la', if_pos h1]
    exact ⟨_, _, rfl, p1, p2, by rw [he]; exact p3, q2⟩
  · exact q2.elim
theorem ss_setI (i : Nat) {us : List U} {Ea Eb : (U → W U) → W U} {en : List U → Fr} (e : υ[i]? = some (some (.lst us))) (hx : FrLe ex υ) (ha : SE base C ca a υ Ea) (hb' : SE base C cb b υ Eb) (he : ∀ z, en z = υ.set i (some (.lst z))) :
    SS base C (ca + cb) (sAsg a (gSb (mVar i) b)) υ ex en eb fun nx _ _ => Ea fun v => Eb fun k => (uSetI us k v).bind nx := fun w σ nx bk ct Q X gd hb F hR q => by
  refine ha.st gd hb F hx hR q fun w1 dv v g1 hb1 F1 e1 h1 r1 q1 => ?_
  obtain ⟨n, ds, s, hn, hk, hl, la, l, r, ty⟩ := own_lst F1 e
  unfold gSb
  simp only [mVar, s, R.bind_ok]
  rw [eb_assoc]
  refine hb'.st (c' := 0) g1 hb1 F1 hx h1 q1 fun w2 dk k g2 hb2 F2 e2 h2 r2 q2 => ?_
  obtain ⟨n', ds', s', hn', hk', hl', la', l', r', ty'⟩ := own_lst F2 e
  rw [s] at s'; cases s'
  unfold uSetI at q2
  split at q2
  · rename_i j
    cases r2
    cases hi : ixN us.length j with
    | none => rw [hi] at q2; exact q2.elim
    | some k =>
      rw [hi] at q2
      obtain ⟨p1, p2, p3, p4⟩ := put_own (g := 0 * C) (us' := us.set k v) (ds' := ds'.set k dv) g2 F2 e s hn' hk' hl' (by simpa using l') (r'.set (e2.den r1) k)
      simp only [setD, la', r'.length, hi, Option.map_some]
      exact ⟨_, _, rfl, p1, p2, by rw [he]; exact p3, q2⟩
  · exact q2.elim
theorem ss_aug (i : Nat) {op : Op2} {f : U → U → W U} {x : U} {Ea : (U → W U) → W U} {en : U → Fr} (o : ∀ {w : Wd} {dx dy : D} {x y : U}, Good w → Den w.K w.st dx x → Den w.K w.st dy y → OpOk w (op dx dy w.st) (f x y)) (e : υ[i]? = some (some (.v x))) (hx : FrLe ex υ) (ha : SE base C ca a υ Ea) (he : ∀ z, en z = υ.set i (some (.v z))) :
    SS base C ca (sAug i op a) υ ex en eb fun nx _ _ => Ea fun y => (f x y).bind nx := fun w σ nx bk ct Q X gd hb F hR q => by
  obtain ⟨d, s, rx⟩ := F.val e
  unfold sAug
  simp only [s]
  refine ha.st (c' := 0) gd hb F hx hR q fun w1 dy y g1 hb1 F1 e1 h1 r1 q1 => ?_
  rw [ok_bind] at q1
  obtain ⟨d2, w2, u, e2, g2, x2, y2, z2⟩ := o g1 (e1.den rx) r1 _ _ q1
  rw [e2]
  exact ⟨w2, u, rfl, g2, x2.any.mono (by omega), by rw [he]; exact (F1.ext x2).setV y2, z2⟩
theorem ss_par2 (i j : Nat) {Ea : (T1 → W U) → W U} {Eb : (T2 → W U) → W U} {ea : T1 → O} {eb2 : T2 → O} {en : T1 × T2 → Fr} (hij : i ≠ j) (hx : FrLe ex υ) (ha : SOx base C ca a υ Ea ea) (hb' : SOx base C cb b υ Eb eb2) (he : ∀ p, en p = (υ.set i (some (ea p.1))).set j (some (eb2 p.2))) :
    SS base C (ca + cb) (sPar2 i j (aCons a (aCons b aNil))) υ ex en eb fun nx _ _ => Ea fun x => Eb fun y => nx (x, y) := fun w σ nx bk ct Q X gd hb F hR q => by
  unfold sPar2 aCons
  rw [eb_assoc]
  refine ha.st gd hb F hx hR q fun w1 d x g1 hb1 F1 e1 h1 r1 q1 => ?_
  rw [eb_assoc, eb_assoc]
  refine hb'.st (c' := 0) g1 hb1 F1 hx h1 q1 fun w2 d2 y g2 hb2 F2 e2 h2 r2 q2 => ?_
  have r1' := r1.ext e2
  refine ⟨w2, (x, y), rfl, g2, Ext.refl, ?_, q2⟩
  rw [he]
  have F3 : FrR base w2 (υ.set i (some (ea x))) (σ.set i (some d)) := F.setF F2 hb r1'
  have F4 : FrR base w1 (υ.set i (some (ea x))) (σ.set i (some d)) := F.setF F1 hb r1
  exact F4.setF F3 hb1 r2
theorem ss_par3 (i j k : Nat) {d : ME} {cd : Nat} {Ea : (T1 → W U) → W U} {Eb : (T2 → W U) → W U} {Ed : (T3 → W U) → W U} {ea : T1 → O} {eb2 : T2 → O} {ed : T3 → O} {en : T1 × T2 × T3 → Fr} (hx : FrLe ex υ) (ha : SOx base C ca a υ Ea ea) (hb' : SOx base C cb b υ Eb eb2) (hd : SOx base C cd d υ Ed ed)
    (he : ∀ p, en p = ((υ.set i (some (ea p.1))).set j (some (eb2 p.2.1))).set k (some (ed p.2.2))) :
    SS base C (ca + (cb + cd)) (sPar3 i j k (aCons a (aCons b (aCons d aNil)))) υ ex en eb fun nx _ _ => Ea fun x => Eb fun y => Ed fun z => nx (x, y, z) := fun w σ nx bk ct Q X gd hb F hR q => by
  unfold sPar3 aCons
  rw [eb_assoc]
  refine ha.st gd hb F hx hR q fun w1 d x g1 hb1 F1 e1 h1 r1 q1 => ?_
  rw [eb_assoc, eb_assoc]
  refine hb'.st g1 hb1 F1 hx h1 q1 fun w2 d2 y g2 hb2 F2 e2 h2 r2 q2 => ?_
  rw [eb_assoc, eb_assoc]
  refine hd.st (c' := 0) g2 hb2 F2 hx h2 q2 fun w3 d3 z g3 hb3 F3 e3 h3 r3 q3 => ?_
  refine ⟨w3, (x, y, z), rfl, g3, Ext.refl, ?_, q3⟩
  rw [he]
  have A1 : FrR base w1 (υ.set i (some (ea x))) (σ.set i (some d)) := F.setF F1 hb r1
  have A2 : FrR base w2 (υ.set i (some (ea x))) (σ.set i (some d)) := F.setF F2 hb (r1.ext e2)
  have A3 : FrR base w3 (υ.set i (some (ea x))) (σ.set i (some d)) := F.setF F3 hb ((r1.ext e2).ext e3)
  have B2 : FrR base w2 ((υ.set i (some (ea x))).set j (some (eb2 y))) ((σ.set i (some d)).set j (some d2)) := A1.setF A2 hb1 r2
  have B3 : FrR base w3 ((υ.set i (some (ea x))).set j (some (eb2 y))) ((σ.set i (some d)).set j (some d2)) := A1.setF A3 hb1 (r2.ext e3)
  exact B2.setF B3 hb2 r3

/-! ### loops -/
def wFor : List U → S → (U → S → (S → W β) → (S → W β) → W β) → (S → W β) → W β
  | [], s, _, k => k s
  | x :: xs, s, b, k => b x s (fun s' => wFor xs s' b k) k
def wWhile : Nat → S → (S → (S → W β) → (S → W β) → W β) → (S → W β) → W β
  | 0, _, _, _ => .fail
  | n + 1, s, b, k => b s (fun s' => wWhile n s' b k) k
theorem for_run {it : ItD} {xs : List U} {t : MG} {emb : S → Fr} {en1 : U → S → S1 → Fr} {Tt : U → S → (S1 → W U) → W U} {wb : U → S → S1 → (S → W U) → (S → W U) → (S → W U) → W U} {bd : G.SS} {w0 : Wd} {nx : S → W U} {Q : U → Prop} {X : UX → Prop} (hb0 : base ≤ w0.st.length)
    (hi : IterR w0 it xs) (ht : ∀ x s, STG base t (emb s) x (Tt x s) (en1 x s)) (hbd : ∀ x s s1, SS base C c bd (en1 x s s1) ex emb emb (wb x s s1)) :
    ∀ (k i : Nat) (w : Wd) (σ : Sig) (s : S), xs.length < i + k → i ≤ xs.length → Good w → Ext (fromA base) (i * (c * C)) w0 w → FrR base w (emb s) σ → (xs.length - i) * (c * C) ≤ w.R →
      (wFor (xs.drop i) s (fun x s nxt brk => Tt x s fun s1 => wb x s s1 nxt brk nxt) nx).Ok Q X → SGo (Sb := Sb) base (xs.length * (c * C)) w0 ex emb eb nx (fun _ => .fail) (fun _ => .fail) Q X (forM it t bd k i σ w.st)
  | 0, i, w, σ, s, hk, hi', _, _, _, _, _ => by omega
  | k + 1, i, w, σ, s, hk, hil, g, e, F, hR, q => by
    have ia := hi.2 _ _ w e g i
    by_cases hx : i < xs.length
    · obtain ⟨d, ig, dn⟩ : ∃ d, itGet it i w.st = some (some d) ∧ Den w.K w.st d xs[i] := by
        rw [List.getElem?_eq_getElem hx] at ia
        exact ia
      rw [List.drop_eq_getElem_cons hx] at q
      unfold wFor at q
      have cost : (xs.length - i) * (c * C) = c * C + (xs.length - (i + 1)) * (c * C) := by
        have : xs.length - i = (xs.length - (i + 1)) + 1 := by omega
        rw [this, Nat.add_mul]; omega
      have tot : i * (c * C) + c * C ≤ xs.length * (c * C) := by
        have : (i + 1) * (c * C) ≤ xs.length * (c * C) := Nat.mul_le_mul_right _ hx
        rw [Nat.add_mul] at this; omega
      obtain ⟨σ2, s1, et, F2, q2⟩ := ht _ _ w σ d _ Q X g F dn q
      have h1 := hbd _ _ _ w σ2 _ _ _ Q X g (Nat.le_trans hb0 e.len) F2 (by omega) q2
      unfold G.forM
      simp only [ig, et, G.eb]
      generalize bd σ2 w.st = r at h1 ⊢
      have next : ∀ σ3 st3, (∃ w' s', w'.st = st3 ∧ Good w' ∧ Ext (fromA base) (c * C) w w' ∧ FrR base w' (emb s') σ3 ∧ (wFor (xs.drop (i + 1)) s' (fun x s nxt brk => Tt x s fun s1 => wb x s s1 nxt brk nxt) nx).Ok Q X) →
          SGo (Sb := Sb) base (xs.length * (c * C)) w0 ex emb eb nx (fun _ => .fail) (fun _ => .fail) Q X (forM it t bd k (i + 1) σ3 st3) := fun σ3 st3 ⟨w', s', e1, g', x', F', q'⟩ => by
        subst e1
        have := x'.bud
        exact for_run hb0 hi ht hbd k (i + 1) w' σ3 s' (by omega) (by omega) g' (by rw [Nat.add_mul, Nat.one_mul]; exact e.trans x') F' (by omega) q'
      cases r with
      | fail => exact h1.elim
      | exc x st => exact h1.elim
      | ok f st =>
        cases f with
        | nx σ' => exact next _ _ h1
        | ct σ' => exact next _ _ h1
        | bk σ' =>
          obtain ⟨w', s', e1, g', x', F', q'⟩ := h1
          exact ⟨w', s', e1, g', (e.trans x').mono tot, F', q'⟩
        | rt d =>
          obtain ⟨w', u, e1, g', x', r⟩ := h1
          exact ⟨w', u, e1, g', (e.trans x').mono tot, r⟩
        | xc e' σ' =>
          obtain ⟨w', u, e1, g', x', r⟩ := h1
          exact ⟨w', u, e1, g', (e.trans x').mono tot, r⟩
    · have hn : xs[i]? = none := List.getElem?_eq_none (by omega)
      rw [hn] at ia
      have ia : itGet it i w.st = some none := ia
      have : i = xs.length := by omega
      subst this
      rw [List.drop_length] at q
      unfold G.forM
      simp only [ia]
      exact ⟨w, s, rfl, g, e, F, q⟩
theorem SGo.nobk {nx : Sn → W U} {bk ct : Sb → W U} {Q : U → Prop} {X : UX → Prop} {r : R FL} (h : SGo base g w ex en eb nx (fun _ => .fail) (fun _ => .fail) Q X r) : SGo base g w ex en eb nx bk ct Q X r := by
  unfold SGo at h ⊢
  split at h
  · exact h
  · obtain ⟨_, _, _, _, _, _, z⟩ := h; exact z.elim
  · obtain ⟨_, _, _, _, _, _, z⟩ := h; exact z.elim
  · exact h
  · exact h
  · exact h.elim
theorem ss_for {mi : MI} {I : (List U → W U) → W U} {t : MG} {emb : S → Fr} {en1 : U → S → S1 → Fr} {Tt : U → S → (S1 → W U) → W U} {wb : U → S → S1 → (S → W U) → (S → W U) → (S → W U) → W U} {bd : G.SS} (s0 : S)
    (hx : FrLe ex υ) (hi : SI base C ci mi υ I) (h0 : FrLe (emb s0) υ) (ht : ∀ x s, STG base t (emb s) x (Tt x s) (en1 x s)) (hbd : ∀ x s s1, SS base C c bd (en1 x s s1) ex emb emb (wb x s s1)) :
    SS base C (ci + 16777216 * c) (sFor mi t bd) υ ex emb eb fun nx _ _ => I fun xs => wFor xs s0 (fun x s nxt brk => Tt x s fun s1 => wb x s s1 nxt brk nxt) nx := fun w σ nx bk ct Q X gd hb F hR q =>
  hi.st gd hb F hx hR q fun w1 it xs g1 hb1 F1 e1 h1 r1 q1 => by
    have hl := r1.1
    rw [sizeLine_val] at hl
    have cst : xs.length * (c * C) ≤ 16777216 * c * C := by rw [Nat.mul_assoc]; exact Nat.mul_le_mul_right _ hl
    exact (SGo.nobk (for_run hb1 r1 ht hbd LF 0 w1 σ s0 (by unfold LF; omega) (by omega) g1 Ext.refl (F1.le h0) (by rw [Nat.sub_zero]; omega) q1)).mono cst
theorem while_run {t : MT} {emb : S → Fr} {Et : S → (Bool → W U) → W U} {wb : S → (S → W U) → (S → W U) → (S → W U) → W U} {bd : G.SS} {nx : S → W U} {Q : U → Prop} {X : UX → Prop} (hx : ∀ s, FrLe ex (emb s))
    (ht : ∀ s, ST base C cc t (emb s) (Et s)) (hbd : ∀ s, SS base C c bd (emb s) ex emb emb (wb s)) :
    ∀ (k : Nat) (w : Wd) (σ : Sig) (s : S), Good w → base ≤ w.st.length → FrR base w (emb s) σ → k * ((cc + c) * C) ≤ w.R →
      (wWhile k s (fun s nxt brk => Et s fun b => if b = true then wb s nxt brk nxt else brk s) nx).Ok Q X → SGo (Sb := Sb) base (k * ((cc + c) * C)) w ex emb eb nx (fun _ => .fail) (fun _ => .fail) Q X (whileM t bd k σ w.st)
  | 0, w, σ, s, _, _, _, _, q => q.elim
  | k + 1, w, σ, s, g, hb, F, hR, q => by
    rw [Nat.add_mul, Nat.one_mul] at hR
    unfold whileM
    unfold wWhile at q
    have : (k + 1) * ((cc + c) * C) = (cc + (c + k * (cc + c))) * C := by
      rw [← Nat.mul_assoc]; congr 1; rw [Nat.add_mul, Nat.one_mul]; omega
    rw [this]
    refine (ht s).st g hb F (hx s) (by rw [← this]; rw [Nat.add_mul, Nat.one_mul]; exact hR) q fun w1 b b' g1 hb1 F1 e1 h1 r1 q1 => ?_
    subst r1
    rw [Nat.add_mul, Nat.mul_assoc] at h1 ⊢
    cases b with
    | false =>
      rw [if_neg (by decide)] at q1 ⊢
      exact ⟨w1, s, rfl, g1, Ext.refl, F1, q1⟩
    | true =>
      rw [if_pos rfl] at q1 ⊢
      have h2 := hbd s w1 σ _ _ _ Q X g1 hb1 F1 (by omega) q1
      generalize bd σ w1.st = r at h2 ⊢
      have next : ∀ σ3 st3, (∃ w' s', w'.st = st3 ∧ Good w' ∧ Ext (fromA base) (c * C) w1 w' ∧ FrR base w' (emb s') σ3 ∧ (wWhile k s' (fun s nxt brk => Et s fun b => if b = true then wb s nxt brk nxt else brk s) nx).Ok Q X) →
          SGo (Sb := Sb) base (c * C + k * ((cc + c) * C)) w1 ex emb eb nx (fun _ => .fail) (fun _ => .fail) Q X (whileM t bd k σ3 st3) := fun σ3 st3 ⟨w', s', e1, g', x', F', q'⟩ => by
        subst e1
        have := x'.bud
        exact SGo.back x' (while_run hx ht hbd k w' σ3 s' g' (Nat.le_trans hb1 x'.len) F' (by omega) q')
      have le : c * C ≤ c * C + k * ((cc + c) * C) := by omega
      cases r with
      | fail => exact h2.elim
      | exc x st => exact h2.elim
      | ok f st =>
        cases f with
        | nx σ' => exact next _ _ h2
        | ct σ' => exact next _ _ h2
        | bk σ' =>
          obtain ⟨w', s', e1, g', x', F', q'⟩ := h2
          exact ⟨w', s', e1, g', x'.mono le, F', q'⟩
        | rt d =>
          obtain ⟨w', u, e1, g', x', r⟩ := h2
          exact ⟨w', u, e1, g', x'.mono le, r⟩
        | xc e' σ' =>
          obtain ⟨w', u, e1, g', x', r⟩ := h2
          exact ⟨w', u, e1, g', x'.mono le, r⟩
theorem ss_while {t : MT} {emb : S → Fr} {Et : S → (Bool → W U) → W U} {wb : S → (S → W U) → (S → W U) → (S → W U) → W U} {bd : G.SS} (s0 : S) (hx : ∀ s, FrLe ex (emb s)) (h0 : FrLe (emb s0) υ)
    (ht : ∀ s, ST base C cc t (emb s) (Et s)) (hbd : ∀ s, SS base C c bd (emb s) ex emb emb (wb s)) :
    SS base C (LF * (cc + c)) (sWhile t bd) υ ex emb eb fun nx _ _ => wWhile LF s0 (fun s nxt brk => Et s fun b => if b = true then wb s nxt brk nxt else brk s) nx := fun w σ nx bk ct Q X gd hb F hR q => by
  rw [Nat.mul_assoc] at hR ⊢
  exact SGo.nobk (while_run hx ht hbd LF w σ s0 gd hb (F.le h0) hR q)

/-! ### what is one's own, looked at -/
mutual
def U.flat : U → Bool
  | .non => true
  | .bl _ => true
  | .int _ => true
  | .str _ => true
  | .ty _ => true
  | .fn _ => true
  | .scr _ => true
  | .tup xs => flats xs
  | _ => false
def flats : List U → Bool
  | [] => true
  | x :: xs => x.flat && flats xs
end
mutual
theorem Den.flat {K K' : Nat → Kd} {st st' : Store} : ∀ {d : D} {u : U}, Den K st d u → u.flat = true → Den K' st' d u
  | _, _, .non, _ => .non
  | _, _, .bl b, _ => .bl b
  | _, _, .int i, _ => .int i
  | _, _, .str h, _ => .str h
  | _, _, .ty t, _ => .ty t
  | _, _, .fn x, _ => .fn x
  | _, _, .scr ns h, _ => .scr ns h
  | _, _, .tup l r, h => .tup l (Dens.flat r (by simpa [U.flat] using h))
  | _, _, .lst _ _ _ _, h => by simp [U.flat] at h
  | _, _, .dct _ _ _ _, h => by simp [U.flat] at h
  | _, _, .hnd _, h => by simp [U.flat] at h
theorem Dens.flat {K K' : Nat → Kd} {st st' : Store} : ∀ {ds : List D} {us : List U}, Dens K st ds us → flats us = true → Dens K' st' ds us
  | _, _, .nil, _ => .nil
  | _, _, .cons h r, e => by
    simp only [flats, Bool.and_eq_true] at e
    exact .cons (Den.flat h e.1) (Dens.flat r e.2)
end
/-- one frame is another one, some of what is its own looked at -/
inductive FrB : Fr → Fr → Prop where
  | nil : FrB [] []
  | no {a b : Fr} {x : Option O} : FrB a b → FrB (none :: a) (x :: b)
  | eq {a b : Fr} {x : U} : FrB a b → FrB (some (.v x) :: a) (some (.v x) :: b)
  | vl {a b : Fr} {us : List U} : FrB a b → FrB (some (.v (.lst us)) :: a) (some (.lst us) :: b)
  | vd {a b : Fr} {us : List (U × U)} : FrB a b → FrB (some (.v (.dct us)) :: a) (some (.dct us) :: b)
theorem FrB.len (h : FrB υ1 υ) : υ1.length = υ.length := by
  induction h with
  | nil => rfl
  | _ _ ih => simp [ih]
theorem FrB.at' (h : FrB υ1 υ) : ∀ (i : Nat) (o : O), υ1[i]? = some (some o) → ∃ o2, υ[i]? = some (some o2) ∧ o = .v o2.view := by
  induction h with
  | nil => intro i o e; simp at e
  | no _ ih =>
    intro i o e
    cases i with
    | zero => simp at e
    | succ i => simpa using ih i o (by simpa using e)
  | eq _ ih =>
    intro i o e
    cases i with
    | zero => simp at e; subst e; exact ⟨_, rfl, rfl⟩
    | succ i => simpa using ih i o (by simpa using e)
  | vl _ ih =>
    intro i o e
    cases i with
    | zero => simp at e; subst e; exact ⟨_, rfl, rfl⟩
    | succ i => simpa using ih i o (by simpa using e)
  | vd _ ih =>
    intro i o e
    cases i with
    | zero => simp at e; subst e; exact ⟨_, rfl, rfl⟩
    | succ i => simpa using ih i o (by simpa using e)
/-- the places of what is one's own -/
def ownZ (υ : Fr) (σ : Sig) (n : Nat) : Prop := ∃ (i : Nat) (o : O), υ[i]? = some (some o) ∧ o.own = true ∧ σ[i]? = some (some (.loc n))
open Classical in
noncomputable def Wd.bor (w : Wd) (υ : Fr) (σ : Sig) : Wd := ⟨fun n => if ownZ υ σ n then .fz else w.K n, w.st, w.R⟩
open Classical in
noncomputable def Wd.unb (w : Wd) (υ : Fr) (σ : Sig) : Wd := ⟨fun n => if ownZ υ σ n then .ow else w.K n, w.st, w.R⟩
theorem own_ow {σ : Sig} (F : FrR base w υ σ) {n : Nat} (h : ownZ υ σ n) : w.K n = .ow ∧ n < w.st.length := by
  obtain ⟨i, o, e, ho, s⟩ := h
  obtain ⟨d, s', r⟩ := F.at' i o e
  rw [s] at s'; cases s'
  cases o with
  | v u => cases ho
  | lst us => obtain ⟨m, h, _, x⟩ := r; cases h; exact ⟨x.choose_spec.1, x.lt⟩
  | dct us => obtain ⟨m, h, _, x⟩ := r; cases h; exact ⟨x.choose_spec.1, x.lt⟩
theorem bor_keep {σ : Sig} (F : FrR base w υ σ) : Keep w.K w.st (w.bor υ σ).K (w.bor υ σ).st := by
  refine ⟨fun n h => ⟨?_, rfl⟩, fun n h => ?_⟩
  · unfold Wd.bor; dsimp only
    split
    · rfl
    · exact h
  · unfold Wd.bor; dsimp only
    rw [if_neg (fun z => by rw [(own_ow F z).1] at h; cases h)]; exact h
theorem bor_good {σ : Sig} (gd : Good w) (F : FrR base w υ σ) : Good (w.bor υ σ) := by
  refine ⟨fun n h => ?_, fun n h => ?_, gd.mx⟩
  · unfold Wd.bor at h; dsimp only at h
    split at h
    · cases h
    · exact gd.hd n h
  · unfold Wd.bor at h; dsimp only at h
    by_cases z : ownZ υ σ n
    · exact (own_ow F z).2
    · rw [if_neg z] at h
      exact gd.lt n h
theorem bor_fr {σ : Sig} (F : FrR base w υ σ) (h : FrB υ1 υ) : FrR base (w.bor υ σ) υ1 σ := by
  refine ⟨h.len.trans F.len, fun i o e => ?_, fun i j o o' n e1 e2 h1 h2 _ _ => ?_⟩
  · obtain ⟨o2, e2, rfl⟩ := h.at' i o e
    obtain ⟨d, s, r⟩ := F.at' i o2 e2
    refine ⟨d, s, ?_⟩
    cases o2 with
    | v u => exact Den.keep (bor_keep F) r
    | lst us =>
      obtain ⟨n, rfl, hb, ds, hk, e3, l, r⟩ := r
      exact .lst (by unfold Wd.bor; dsimp only; rw [if_pos ⟨i, _, e2, rfl, s⟩]) e3 l (r.keep (bor_keep F))
    | dct us =>
      obtain ⟨n, rfl, hb, ds, hk, e3, l, r⟩ := r
      exact .dct (by unfold Wd.bor; dsimp only; rw [if_pos ⟨i, _, e2, rfl, s⟩]) e3 l (r.keep (bor_keep F))
  · obtain ⟨o2, _, rfl⟩ := h.at' i o e1
    cases h1
theorem unb_good {σ : Sig} (gd : Good w') : Good (w'.unb υ σ) := by
  refine ⟨fun n h => ?_, fun n h => ?_, gd.mx⟩
  · unfold Wd.unb at h; dsimp only at h
    split at h
    · cases h
    · exact gd.hd n h
  · unfold Wd.unb at h; dsimp only at h
    split at h
    · exact (h rfl).elim
    · exact gd.lt n h
theorem unb_ext {σ : Sig} (F : FrR base w υ σ) (e : Ext noA g (w.bor υ σ) w') : Ext noA g w (w'.unb υ σ) := by
  have nz : ∀ n, w.K n ≠ .ow → ¬ ownZ υ σ n := fun n h z => h (own_ow F z).1
  have kb : ∀ n, ¬ ownZ υ σ n → (w.bor υ σ).K n = w.K n := fun n z => by unfold Wd.bor; dsimp only; rw [if_neg z]
  have ku : ∀ n, ¬ ownZ υ σ n → (w'.unb υ σ).K n = w'.K n := fun n z => by unfold Wd.unb; dsimp only; rw [if_neg z]
  refine ⟨e.len, ⟨fun n h => ?_, fun n h => ?_⟩, fun n hl h _ => ?_, e.bud⟩
  · have z := nz n (by rw [h]; decide)
    obtain ⟨a, b⟩ := e.keep.fz n (by rw [kb n z]; exact h)
    exact ⟨by rw [ku n z]; exact a, b⟩
  · have z := nz n (by rw [h]; decide)
    rw [ku n z]
    exact e.keep.hd n (by rw [kb n z]; exact h)
  · by_cases z : ownZ υ σ n
    · have : (w.bor υ σ).K n = .fz := by unfold Wd.bor; dsimp only; rw [if_pos z]
      obtain ⟨a, b⟩ := e.keep.fz n this
      exact ⟨by unfold Wd.unb; dsimp only; rw [if_pos z], b⟩
    · obtain ⟨a, b⟩ := e.ow n hl (by rw [kb n z]; exact h) (fun z => z)
      exact ⟨by rw [ku n z]; exact a, b⟩
/-- a test that looks at what is one's own -/
theorem st_bor {t : MT} {Et : (Bool → W Bool) → W Bool} (hB : FrB υ1 υ) (h : ST base C c t υ1 Et) : ST (β := β) base C c t υ fun f => (Et .ret).tot.bind f := fun w σ f Q X gd F hR q => by
  rw [ok_bind, ok_tot] at q
  have h1 := h (w.bor υ σ) σ .ret _ NoX (bor_good gd F) (bor_fr F hB) hR q
  have e0 : (w.bor υ σ).st = w.st := rfl
  rw [e0] at h1
  generalize t σ w.st = r at h1 ⊢
  cases r with
  | fail => exact h1
  | exc x st => obtain ⟨_, _, _, _, _, _, z⟩ := h1; exact z.elim
  | ok a st =>
    obtain ⟨w', rfl, g', e', u, r, q'⟩ := h1
    exact ⟨w'.unb υ σ, rfl, unb_good g', unb_ext F e', u, r, q'⟩
def flatW (u : U) : W U := if u.flat = true then .ret u else .fail
/-- an expression that looks at what is one's own, and gives nothing of it -/
theorem se_bor {Ea : (U → W U) → W U} (hB : FrB υ1 υ) (h : SE base C c a υ1 Ea) : SE (β := β) base C c a υ fun f => (Ea .ret).tot.bind fun u => (flatW u).bind f := fun w σ f Q X gd F hR q => by
  rw [ok_bind, ok_tot] at q
  have h1 := h (w.bor υ σ) σ .ret _ NoX (bor_good gd F) (bor_fr F hB) hR q
  have e0 : (w.bor υ σ).st = w.st := rfl
  rw [e0] at h1
  generalize a σ w.st = r at h1 ⊢
  cases r with
  | fail => exact h1
  | exc x st => obtain ⟨_, _, _, _, _, _, z⟩ := h1; exact z.elim
  | ok a st =>
    obtain ⟨w', rfl, g', e', u, r, q'⟩ := h1
    have q' : ((flatW u).bind f).Ok Q X := q'
    unfold flatW at q'
    split at q'
    · rename_i hf
      exact ⟨w'.unb υ σ, rfl, unb_good g', unb_ext F e', u, r.flat hf, q'⟩
    · exact q'.elim
end
end V

/-! M1: how runs are reasoned about: what is wanted, taken backwards through a run. No program in sight. -/
namespace G
open PySem

section
variable {α β : Type}
/-- the run ends well with Q, or in an exception with E -/
def Go (r : R α) (Q : α → Store → Prop) (E : Exn → Store → Prop) : Prop := match r with
  | .ok a st => Q a st
  | .exc e st => E e st
  | .fail => False
def GoS (r : R FL) (Q : FL → Store → Prop) : Prop := match r with
  | .ok f st => Q f st
  | _ => False
def GoO (o : Option (D × Store)) (Q : D → Store → Prop) : Prop := match o with
  | some p => Q p.1 p.2
  | none => False
/-- what an option holds -/
def GoV (o : Option α) (Q : α → Prop) : Prop := match o with
  | some a => Q a
  | none => False
theorem go_ok {a : α} {st : Store} {Q : α → Store → Prop} {E : Exn → Store → Prop} : Go (.ok a st) Q E = Q a st := rfl
theorem go_exc {e : Exn} {st : Store} {Q : α → Store → Prop} {E : Exn → Store → Prop} : Go (.exc e st) Q E = E e st := rfl
theorem goF {Q : α → Store → Prop} {E : Exn → Store → Prop} : Go .fail Q E = False := rfl
theorem go_bind {r : R α} {k : α → Store → R β} {Q : β → Store → Prop} {E : Exn → Store → Prop} : Go (r.bind k) Q E = Go r (fun a st => Go (k a st) Q E) E := by
  cases r <;> rfl
theorem go_lift {o : Option (D × Store)} {Q : D → Store → Prop} {E : Exn → Store → Prop} : Go (lift o) Q E = GoO o Q := by
  cases o <;> rfl
theorem goO_some {d : D} {st : Store} {Q : D → Store → Prop} : GoO (some (d, st)) Q = Q d st := rfl
theorem goV_some {a : α} {Q : α → Prop} : GoV (some a) Q = Q a := rfl
theorem goS_ok {f : FL} {st : Store} {Q : FL → Store → Prop} : GoS (.ok f st) Q = Q f st := rfl
theorem goS_eb {r : R α} {σ : Sig} {k : α → Store → R FL} {Q : FL → Store → Prop} : GoS (eb r σ k) Q = Go r (fun a st => GoS (k a st) Q) (fun e st => Q (.xc e σ) st) := by
  cases r <;> rfl
theorem Go.mono {r : R α} {Q Q' : α → Store → Prop} {E E' : Exn → Store → Prop} (h : Go r Q E) (q : ∀ a st, Q a st → Q' a st) (x : ∀ e st, E e st → E' e st) : Go r Q' E' := by
  cases r with
  | ok a st => exact q a st h
  | exc e st => exact x e st h
  | fail => exact h
/-- no exception -/
def NoE : Exn → Store → Prop := fun _ _ => False
theorem Go.to {r : R α} {Q Q' : α → Store → Prop} {E : Exn → Store → Prop} (h : Go r Q NoE) (q : ∀ a st, Q a st → Q' a st) : Go r Q' E := h.mono q fun _ _ z => z.elim
theorem GoS.mono {r : R FL} {Q Q' : FL → Store → Prop} (h : GoS r Q) (q : ∀ f st, Q f st → Q' f st) : GoS r Q' := by
  cases r with
  | ok a st => exact q a st h
  | exc e st => exact h
  | fail => exact h
theorem GoO.mono {o : Option (D × Store)} {Q Q' : D → Store → Prop} (h : GoO o Q) (q : ∀ d st, Q d st → Q' d st) : GoO o Q' := by
  cases o with
  | none => exact h
  | some p => exact q _ _ h
theorem Go.of_run {r : R α} {Q : α → Store → Prop} (h : Go r Q NoE) : ∃ a st, r = .ok a st ∧ Q a st := by
  cases r with
  | ok a st => exact ⟨a, st, rfl, h⟩
  | exc e st => exact h.elim
  | fail => exact h.elim
end

/-! ### expressions, backwards -/
section
variable {σ : Sig} {st : Store} {Q : D → Store → Prop} {E : Exn → Store → Prop} {a b c : ME} {i : Nat}
theorem go_c {d : D} : Go (mC d σ st) Q E = Q d st := rfl
theorem go_var : Go (mVar i σ st) Q E = GoV σ[i]? fun o => GoV o fun d => Q d st := by
  unfold mVar GoV
  split
  · rename_i d h
    rw [h]; rfl
  · rename_i h
    cases e : σ[i]? with
    | none => rfl
    | some o => cases o with
      | none => rfl
      | some d => exact (h d e).elim
theorem go_bin {f : Op2} : Go (mBin f a b σ st) Q E = Go (a σ st) (fun x st1 => Go (b σ st1) (fun y st2 => GoO (f x y st2) Q) E) E := by
  unfold mBin
  simp only [go_bind, go_lift]
theorem go_un {f : Op1} : Go (mUn f a σ st) Q E = Go (a σ st) (fun x st1 => GoO (f x st1) Q) E := by
  unfold mUn
  simp only [go_bind, go_lift]
theorem go_bl {Q : Bool → Store → Prop} : Go (mBl a σ st) Q E = Go (a σ st) (fun d st1 => match d with | .bl k => Q k st1 | _ => False) E := by
  unfold mBl
  rw [go_bind]
  congr 1
  funext d st1
  cases d <;> rfl
theorem go_tru {Q : Bool → Store → Prop} : Go (mTru a σ st) Q E = Go (a σ st) (fun d st1 => GoV (truD d st1) fun k => Q k st1) E := by
  unfold mTru
  rw [go_bind]
  congr 1
  funext d st1
  cases truD d st1 <;> rfl
theorem go_nt {t : MT} {Q : Bool → Store → Prop} : Go (tNt t σ st) Q E = Go (t σ st) (fun k st1 => Q (!k) st1) E := by
  unfold tNt
  rw [go_bind]; rfl
theorem go_an {t u : MT} {Q : Bool → Store → Prop} : Go (tAn t u σ st) Q E = Go (t σ st) (fun k st1 => cond k (Go (u σ st1) Q E) (Q false st1)) E := by
  unfold tAn
  rw [go_bind]
  congr 1
  funext k st1
  cases k <;> rfl
theorem go_oo {t u : MT} {Q : Bool → Store → Prop} : Go (tOo t u σ st) Q E = Go (t σ st) (fun k st1 => cond k (Q true st1) (Go (u σ st1) Q E)) E := by
  unfold tOo
  rw [go_bind]
  congr 1
  funext k st1
  cases k <;> rfl
theorem go_mAn : Go (mAn a b σ st) Q E = Go (a σ st) (fun d st1 => GoV (truD d st1) fun k => cond k (Go (b σ st1) Q E) (Q d st1)) E := by
  unfold mAn
  rw [go_bind]
  congr 1
  funext d st1
  cases truD d st1 with
  | none => rfl
  | some k => cases k <;> rfl
theorem go_mOo : Go (mOo a b σ st) Q E = Go (a σ st) (fun d st1 => GoV (truD d st1) fun k => cond k (Q d st1) (Go (b σ st1) Q E)) E := by
  unfold mOo
  rw [go_bind]
  congr 1
  funext d st1
  cases truD d st1 with
  | none => rfl
  | some k => cases k <;> rfl
theorem go_mNt : Go (mNt a σ st) Q E = Go (a σ st) (fun d st1 => GoV (truD d st1) fun k => Q (.bl (!k)) st1) E := by
  unfold mNt
  rw [go_bind]
  congr 1
  funext d st1
  cases truD d st1 <;> rfl
theorem go_if {t : MT} : Go (mIf t a b σ st) Q E = Go (t σ st) (fun k st1 => cond k (Go (a σ st1) Q E) (Go (b σ st1) Q E)) E := by
  unfold mIf
  rw [go_bind]
  congr 1
  funext k st1
  cases k <;> rfl
theorem go_chain {f g : Op2} : Go (mChain f g a b c σ st) Q E = Go (a σ st) (fun x st1 => Go (b σ st1) (fun y st2 => GoO (f x y st2) fun z st3 => match z with
    | .bl true => Go (c σ st3) (fun z st4 => GoO (g y z st4) Q) E
    | .bl false => Q (.bl false) st3
    | _ => False) E) E := by
  unfold mChain
  rw [go_bind]
  congr 1
  funext x st1
  rw [go_bind]
  congr 1
  funext y st2
  cases f x y st2 with
  | none => rfl
  | some p =>
    obtain ⟨z, st3⟩ := p
    cases z with
    | bl k => cases k with
      | true =>
        show Go ((c σ st3).bind fun z st4 => lift (g y z st4)) Q E = Go (c σ st3) (fun z st4 => GoO (g y z st4) Q) E
        simp only [go_bind, go_lift]
      | false => rfl
    | _ => rfl
theorem go_aNil {Q : List D → Store → Prop} : Go (aNil σ st) Q E = Q [] st := rfl
theorem go_aCons {r : MA} {Q : List D → Store → Prop} : Go (aCons a r σ st) Q E = Go (a σ st) (fun d st1 => Go (r σ st1) (fun ds st2 => Q (d :: ds) st2) E) E := by
  unfold aCons
  simp only [go_bind, go_ok]
theorem go_tup {r : MA} : Go (mTup r σ st) Q E = Go (r σ st) (fun ds st1 => ds.length ≤ sizeLine ∧ Q (.tup ds) st1) E := by
  unfold mTup
  rw [go_bind]
  congr 1
  funext ds st1
  by_cases h : ds.length ≤ sizeLine
  · rw [if_pos h]; simp [h, go_ok]
  · rw [if_neg h]; simp [h, goF]
theorem go_lst {r : MA} : Go (mLst r σ st) Q E = Go (r σ st) (fun ds st1 => ds.length ≤ sizeLine ∧ Q (.loc st1.length) (st1 ++ [.lst ds])) E := by
  unfold mLst
  rw [go_bind]
  congr 1
  funext ds st1
  by_cases h : ds.length ≤ sizeLine
  · rw [if_pos h]; simp [h, go_ok]
  · rw [if_neg h]; simp [h, goF]
theorem go_dict0 : Go (mDict0 σ st) Q E = Q (.loc st.length) (st ++ [.dct []]) := rfl
theorem go_cb {g : OpN} {r : MA} : Go (mCB g r σ st) Q E = Go (r σ st) (fun ds st1 => GoO (g ds st1) Q) E := by
  unfold mCB
  simp only [go_bind, go_lift]
theorem go_bm {T : Ty} {g : D → OpN} {r : MA} : Go (mBM T g a r σ st) Q E = Go (a σ st) (fun x st1 => (tyD x st1 = some T ∧ (T = .str ∨ T = .lst ∨ T = .dct)) ∧ Go (r σ st1) (fun ds st2 => GoO (g x ds st2) Q) E) E := by
  unfold mBM
  rw [go_bind]
  congr 1
  funext x st1
  by_cases h : tyD x st1 = some T ∧ (T = .str ∨ T = .lst ∨ T = .dct)
  · rw [if_pos h]; simp [h, go_bind, go_lift]
  · rw [if_neg h]; simp [h, goF]
theorem go_sl {l h : MO} : Go (mSl a l h σ st) Q E = Go (a σ st) (fun x st1 => Go (l σ st1) (fun lo st2 => Go (h σ st2) (fun hi st3 => GoO (slD x lo hi st3) Q) E) E) E := by
  unfold mSl
  simp only [go_bind, go_lift]
theorem go_sl3 {l h : MO} {k : ME} : Go (mSl3 a l h k σ st) Q E = Go (a σ st) (fun x st1 => Go (l σ st1) (fun lo st2 => Go (h σ st2) (fun hi st3 => Go (k σ st3) (fun k st4 => match k with
    | .int k => GoO (sl3D x lo hi k st4) Q
    | _ => False) E) E) E) E := by
  unfold mSl3
  simp only [go_bind]
  congr 1
  funext x st1
  congr 1
  funext lo st2
  congr 1
  funext hi st3
  congr 1
  funext k st4
  cases k <;> first | rfl | exact go_lift
theorem go_oNone {Q : Option Int → Store → Prop} : Go (oNone σ st) Q E = Q none st := rfl
theorem go_oSome {Q : Option Int → Store → Prop} : Go (oSome a σ st) Q E = Go (a σ st) (fun d st1 => match d with | .int i => Q (some i) st1 | _ => False) E := by
  unfold oSome
  rw [go_bind]
  congr 1
  funext d st1
  cases d <;> rfl
theorem go_callP {n : Nat} {F : List D → Store → R D} {r : MA} : Go (mCallP n F r σ st) Q E = Go (r σ st) (fun ds st1 => ds.length = n ∧ Go (F ds st1) Q E) E := by
  unfold mCallP
  rw [go_bind]
  congr 1
  funext ds st1
  by_cases h : ds.length = n
  · rw [if_pos h]; simp [h]
  · rw [if_neg h]; simp [h, goF]
theorem go_call {n q : Nat} {perm : List Nat} {F : List D → Store → R D} {r s : MA} : Go (mCall n q perm F r s σ st) Q E = Go (r σ st) (fun ds st1 => Go (s σ st1) (fun es st2 => (ds.length = n ∧ es.length = q ∧ (pick perm (ds ++ es)).length = perm.length) ∧ Go (F (pick perm (ds ++ es)) st2) Q E) E) E := by
  unfold mCall
  simp only [go_bind]
  congr 1
  funext ds st1
  congr 1
  funext es st2
  by_cases h : ds.length = n ∧ es.length = q ∧ (pick perm (ds ++ es)).length = perm.length
  · rw [if_pos h]; simp [h]
  · rw [if_neg h]; simp [h, goF]
theorem go_lc {mi : MI} {t : Tg1} {tt : MT} {te : ME} {vs : List Nat} : Go (mLc mi t tt te vs σ st) Q E = Go (mi σ st) (fun it st1 => GoV (lcM it t tt te st1.length (wipeD σ vs) LF 0 (st1 ++ [.lst []])) fun st2 => Q (.loc st1.length) st2) E := by
  unfold mLc
  rw [go_bind]
  congr 1
  funext it st1
  cases lcM it t tt te st1.length (wipeD σ vs) LF 0 (st1 ++ [.lst []]) <;> rfl
theorem go_tTrue {Q : Bool → Store → Prop} : Go (tTrue σ st) Q E = Q true st := rfl
/-! walks -/
theorem go_iAny {Q : ItD → Store → Prop} : Go (iAny a σ st) Q E = Go (a σ st) (fun d st1 => GoV (iterD d st1) fun it => Q it st1) E := by
  unfold iAny
  rw [go_bind]
  congr 1
  funext d st1
  cases iterD d st1 <;> rfl
theorem go_iRng1 {r : MA} {Q : ItD → Store → Prop} : Go (iRng1 r σ st) Q E = Go (r σ st) (fun ds st1 => match ds with
    | [.int j] => (-(2 ^ 62) ≤ j ∧ j < 2 ^ 62) ∧ Q (.rng 0 j.toNat) st1
    | _ => False) E := by
  unfold iRng1
  rw [go_bind]
  congr 1
  funext ds st1
  split
  · rename_i j
    by_cases h : -(2 ^ 62) ≤ j ∧ j < 2 ^ 62
    · rw [if_pos h]; simp only [h, go_ok, true_and, and_self]
    · rw [if_neg h]; simp only [h, goF, false_and]
  · rename_i h
    first
      | rfl
      | (split
         · exact (h _ rfl).elim
         · rfl)
theorem go_iRng2 {r : MA} {Q : ItD → Store → Prop} : Go (iRng2 r σ st) Q E = Go (r σ st) (fun ds st1 => match ds with
    | [.int i, .int j] => (-(2 ^ 62) ≤ i ∧ i < 2 ^ 62 ∧ -(2 ^ 62) ≤ j ∧ j < 2 ^ 62) ∧ Q (.rng i (j - i).toNat) st1
    | _ => False) E := by
  unfold iRng2
  rw [go_bind]
  congr 1
  funext ds st1
  split
  · rename_i i j
    by_cases h : -(2 ^ 62) ≤ i ∧ i < 2 ^ 62 ∧ -(2 ^ 62) ≤ j ∧ j < 2 ^ 62
    · rw [if_pos h]; simp only [h, go_ok, true_and, and_self]
    · rw [if_neg h]; simp only [h, goF, false_and]
  · rename_i h
    first
      | rfl
      | (split
         · exact (h _ _ rfl).elim
         · rfl)
theorem go_iEnm {r : MA} {Q : ItD → Store → Prop} : Go (iEnm r σ st) Q E = Go (r σ st) (fun ds st1 => match ds with
    | [.loc n] => GoV (lstAt st1 n) fun _ => Q (.enm n) st1
    | [.tup xs] => Q (.ens xs) st1
    | _ => False) E := by
  unfold iEnm
  rw [go_bind]
  congr 1
  funext ds st1
  split
  · rename_i n
    try dsimp only
    cases lstAt st1 n <;> rfl
  · rfl
  · rename_i h h'
    first
      | rfl
      | (split
         · exact (h _ rfl).elim
         · exact (h' _ rfl).elim
         · rfl)
theorem go_iZip {r : MA} {Q : ItD → Store → Prop} : Go (iZip r σ st) Q E = Go (r σ st) (fun ds st1 => match ds with
    | [.loc m, .loc n] => GoV (lstAt st1 m) fun _ => GoV (lstAt st1 n) fun _ => Q (.zll m n) st1
    | [.tup xs, .tup ys] => Q (.ztt xs ys) st1
    | _ => False) E := by
  unfold iZip
  rw [go_bind]
  congr 1
  funext ds st1
  split
  · rename_i m n
    try dsimp only
    cases lstAt st1 m with
    | none => rfl
    | some xs => cases lstAt st1 n <;> rfl
  · rfl
  · rename_i h h'
    first
      | rfl
      | (split
         · exact (h _ _ rfl).elim
         · exact (h' _ _ rfl).elim
         · rfl)
/-! targets -/
theorem go_gNm {d : D} {Q : Sig → Store → Prop} : Go (gNm i d σ st) Q E = Q (σ.set i (some d)) st := rfl
theorem go_gTp {n : Nat} {gs : MGs} {d : D} {Q : Sig → Store → Prop} : Go (gTp n gs d σ st) Q E = (match d with
    | .tup ds => ds.length = n ∧ Go (gs ds σ st) Q E
    | _ => False) := by
  cases d with
  | tup ds =>
    show Go (if ds.length = n then gs ds σ st else .fail) Q E = (ds.length = n ∧ Go (gs ds σ st) Q E)
    by_cases h : ds.length = n
    · rw [if_pos h]; simp [h]
    · rw [if_neg h]; simp [h, goF]
  | _ => rfl
theorem go_gNl {Q : Sig → Store → Prop} : Go (gNl [] σ st) Q E = Q σ st := rfl
theorem go_gCn1 {g : MG} {gs : MGs} {d : D} {ds : List D} {Q : Sig → Store → Prop} (hQ : ∀ e st, E e st → False) : Go (g d σ st) (fun σ1 st1 => Go (gs ds σ1 st1) Q E) E → Go (gCn g gs (d :: ds) σ st) Q E := fun h => by
  unfold gCn
  rw [go_bind]
  refine h.mono (fun σ1 st1 h1 => ?_) fun _ _ z => z
  cases e : gs ds σ1 st1 with
  | ok σ2 st2 => rw [e] at h1; exact h1
  | exc x y => rw [e] at h1; exact (hQ _ _ h1).elim
  | fail => rw [e] at h1; exact h1
theorem go_gSb {x : D} {Q : Sig → Store → Prop} : Go (gSb a b x σ st) Q E = Go (a σ st) (fun o st1 => Go (b σ st1) (fun k st2 => GoV (setD o k x st2) fun st3 => Q σ st3) E) E := by
  unfold gSb
  simp only [go_bind]
  congr 1
  funext o st1
  congr 1
  funext k st2
  cases setD o k x st2 <;> rfl
/-- a tuple's names -/
theorem go_gCn {g : Nat} {gs : MGs} {d : D} {ds : List D} {Q : Sig → Store → Prop} : Go (gCn (gNm g) gs (d :: ds) σ st) Q E = Go (match gs ds (σ.set g (some d)) st with
    | .ok σ2 st2 => (.ok σ2 st2 : R Sig)
    | _ => .fail) Q E := rfl
end

/-! ### statements, backwards -/
section
variable {σ : Sig} {st : Store} {Q : FL → Store → Prop} {a : ME} {m n : SS} {i j k : Nat}
theorem gs_nx : GoS (sNx σ st) Q = Q (.nx σ) st := rfl
theorem gs_bk : GoS (sBk σ st) Q = Q (.bk σ) st := rfl
theorem gs_ct : GoS (sCt σ st) Q = Q (.ct σ) st := rfl
/-- what comes behind a statement -/
def thenQ (n : SS) (Q : FL → Store → Prop) : FL → Store → Prop := fun f st1 => match f with
  | .nx σ1 => GoS (n σ1 st1) Q
  | f => Q f st1
theorem gs_seq : GoS (sSeq m n σ st) Q = GoS (m σ st) (thenQ n Q) := by
  unfold sSeq
  cases m σ st with
  | fail => rfl
  | exc e s => rfl
  | ok f s => cases f <;> rfl
theorem thenQ_nx : thenQ n Q (.nx σ) st = GoS (n σ st) Q := rfl
theorem thenQ_rt {d : D} : thenQ n Q (.rt d) st = Q (.rt d) st := rfl
theorem thenQ_bk : thenQ n Q (.bk σ) st = Q (.bk σ) st := rfl
theorem thenQ_ct : thenQ n Q (.ct σ) st = Q (.ct σ) st := rfl
theorem thenQ_xc {e : Exn} : thenQ n Q (.xc e σ) st = Q (.xc e σ) st := rfl
theorem gs_ret : GoS (sRet a σ st) Q = Go (a σ st) (fun d st1 => Q (.rt d) st1) (fun e st1 => Q (.xc e σ) st1) := by
  unfold sRet
  rw [goS_eb]; rfl
theorem gs_expr : GoS (sExpr a σ st) Q = Go (a σ st) (fun _ st1 => Q (.nx σ) st1) (fun e st1 => Q (.xc e σ) st1) := by
  unfold sExpr
  rw [goS_eb]; rfl
theorem gs_if {t : MT} : GoS (sIf t m n σ st) Q = Go (t σ st) (fun k st1 => cond k (GoS (m σ st1) Q) (GoS (n σ st1) Q)) (fun e st1 => Q (.xc e σ) st1) := by
  unfold sIf
  rw [goS_eb]
  congr 1
  funext k st1
  cases k <;> rfl
theorem gs_asg {g : MG} : GoS (sAsg a g σ st) Q = Go (a σ st) (fun d st1 => Go (g d σ st1) (fun σ1 st2 => Q (.nx σ1) st2) (fun e st2 => Q (.xc e σ) st2)) (fun e st1 => Q (.xc e σ) st1) := by
  unfold sAsg
  simp only [goS_eb, goS_ok]
theorem gs_par2 {r : MA} : GoS (sPar2 i j r σ st) Q = Go (r σ st) (fun ds st1 => match ds with
    | [x, y] => Q (.nx ((σ.set i (some x)).set j (some y))) st1
    | _ => False) (fun e st1 => Q (.xc e σ) st1) := by
  unfold sPar2
  rw [goS_eb]
  congr 1
  funext ds st1
  split
  · rfl
  · rename_i h
    first
      | rfl
      | (split
         · exact (h _ _ rfl).elim
         · rfl)
theorem gs_par3 {r : MA} : GoS (sPar3 i j k r σ st) Q = Go (r σ st) (fun ds st1 => match ds with
    | [x, y, z] => Q (.nx (((σ.set i (some x)).set j (some y)).set k (some z))) st1
    | _ => False) (fun e st1 => Q (.xc e σ) st1) := by
  unfold sPar3
  rw [goS_eb]
  congr 1
  funext ds st1
  split
  · rfl
  · rename_i h
    first
      | rfl
      | (split
         · exact (h _ _ _ rfl).elim
         · rfl)
theorem gs_aug {f : Op2} : GoS (sAug i f a σ st) Q = GoV σ[i]? fun o => GoV o fun x => Go (a σ st) (fun y st1 => GoO (f x y st1) fun z st2 => Q (.nx (σ.set i (some z))) st2) (fun e st1 => Q (.xc e σ) st1) := by
  unfold sAug
  cases e : σ[i]? with
  | none => rfl
  | some o => cases o with
    | none => rfl
    | some x =>
      dsimp only [GoV]
      rw [goS_eb]
      congr 1
      funext y st1
      cases f x y st1 <;> rfl
/-- a def's end -/
def retQ (Q : D → Store → Prop) (E : Exn → Store → Prop) : FL → Store → Prop := fun f st1 => match f with
  | .rt d => Q d st1
  | .nx _ => Q .non st1
  | .xc e _ => E e st1
  | _ => False
theorem go_runF {n : Nat} {ds : List D} {Q : D → Store → Prop} {E : Exn → Store → Prop} : Go (runF n m ds st) Q E = GoS (m (startD n ds) st) (retQ Q E) := by
  unfold runF
  cases m (startD n ds) st with
  | fail => rfl
  | exc e s => rfl
  | ok f s => cases f <;> rfl
theorem retQ_rt {d : D} {Q : D → Store → Prop} {E : Exn → Store → Prop} : retQ Q E (.rt d) st = Q d st := rfl
theorem retQ_nx {Q : D → Store → Prop} {E : Exn → Store → Prop} : retQ Q E (.nx σ) st = Q .non st := rfl
theorem retQ_xc {e : Exn} {Q : D → Store → Prop} {E : Exn → Store → Prop} : retQ Q E (.xc e σ) st = E e st := rfl

/-! ### loops -/
/-- what comes behind a turn: on with the next, out, or away -/
def turnQ (I : Sig → Store → Prop) (Q : FL → Store → Prop) : FL → Store → Prop := fun f st1 => match f with
  | .nx σ1 => I σ1 st1
  | .ct σ1 => I σ1 st1
  | .bk σ1 => Q (.nx σ1) st1
  | f => Q f st1
theorem turnQ_nx {I : Sig → Store → Prop} : turnQ I Q (.nx σ) st = I σ st := rfl
theorem turnQ_ct {I : Sig → Store → Prop} : turnQ I Q (.ct σ) st = I σ st := rfl
theorem turnQ_bk {I : Sig → Store → Prop} : turnQ I Q (.bk σ) st = Q (.nx σ) st := rfl
theorem turnQ_rt {I : Sig → Store → Prop} {d : D} : turnQ I Q (.rt d) st = Q (.rt d) st := rfl
theorem turnQ_xc {I : Sig → Store → Prop} {e : Exn} : turnQ I Q (.xc e σ) st = Q (.xc e σ) st := rfl
/-- for, by an invariant that knows the turn's number; N: turns enough -/
theorem forM_go {it : ItD} {g : MG} {b : SS} (I : Nat → Sig → Store → Prop) (N : Nat) (hN : ∀ i σ st, I i σ st → i ≤ N)
    (step : ∀ i σ st, I i σ st → GoV (itGet it i st) fun o => match o with
      | none => Q (.nx σ) st
      | some d => Go (g d σ st) (fun σ1 st1 => GoS (b σ1 st1) (turnQ (I (i + 1)) Q)) (fun e st1 => Q (.xc e σ) st1)) :
    ∀ (k i : Nat) (σ : Sig) (st : Store), I i σ st → N < i + k → GoS (forM it g b k i σ st) Q
  | 0, i, σ, st, h, hk => by have := hN i σ st h; omega
  | k + 1, i, σ, st, h, hk => by
    have s := step i σ st h
    have ih := forM_go I N hN step k (i + 1)
    show GoS (match itGet it i st with
      | none => .fail
      | some none => .ok (.nx σ) st
      | some (some d) => eb (g d σ st) σ fun σ1 st1 => match b σ1 st1 with
        | .ok (.nx σ2) st2 => forM it g b k (i + 1) σ2 st2
        | .ok (.ct σ2) st2 => forM it g b k (i + 1) σ2 st2
        | .ok (.bk σ2) st2 => .ok (.nx σ2) st2
        | r => r) Q
    cases e : itGet it i st with
    | none => rw [e] at s; exact s
    | some o =>
      rw [e] at s
      cases o with
      | none => exact s
      | some d =>
        show GoS (eb (g d σ st) σ _) Q
        rw [goS_eb]
        refine Go.mono s (fun σ1 st1 s1 => ?_) fun _ _ z => z
        cases e1 : b σ1 st1 with
        | fail => rw [e1] at s1; exact s1
        | exc x y => rw [e1] at s1; exact s1
        | ok f st2 =>
          rw [e1] at s1
          cases f with
          | nx σ2 => exact ih σ2 st2 s1 (by omega)
          | ct σ2 => exact ih σ2 st2 s1 (by omega)
          | bk σ2 => exact s1
          | rt d => exact s1
          | xc x σ2 => exact s1
theorem gs_for {mi : MI} {g : MG} {b : SS} : GoS (sFor mi g b σ st) Q = Go (mi σ st) (fun it st1 => GoS (forM it g b LF 0 σ st1) Q) (fun e st1 => Q (.xc e σ) st1) := by
  unfold sFor
  rw [goS_eb]
/-- while, by an invariant that knows how many turns are left at most -/
theorem whileM_go {t : MT} {b : SS} (I : Nat → Sig → Store → Prop)
    (step : ∀ m σ st, I m σ st → Go (t σ st) (fun k st1 => cond k (GoS (b σ st1) (turnQ (fun σ2 st2 => ∃ m', m' < m ∧ I m' σ2 st2) Q)) (Q (.nx σ) st1)) (fun e st1 => Q (.xc e σ) st1)) :
    ∀ (k m : Nat) (σ : Sig) (st : Store), I m σ st → m < k → GoS (whileM t b k σ st) Q
  | 0, m, σ, st, h, hk => by omega
  | k + 1, m, σ, st, h, hk => by
    have s := step m σ st h
    have ih := whileM_go I step k
    show GoS (eb (t σ st) σ _) Q
    rw [goS_eb]
    refine Go.mono s (fun c st1 s1 => ?_) fun _ _ z => z
    cases c with
    | false => exact s1
    | true =>
      show GoS (match b σ st1 with
        | .ok (.nx σ1) st2 => whileM t b k σ1 st2
        | .ok (.ct σ1) st2 => whileM t b k σ1 st2
        | .ok (.bk σ1) st2 => .ok (.nx σ1) st2
        | r => r) Q
      cases e1 : b σ st1 with
      | fail => rw [e1] at s1; exact s1
      | exc x y => rw [e1] at s1; exact s1
      | ok f st2 =>
        rw [e1] at s1
        cases f with
        | nx σ2 => obtain ⟨m', hm, h'⟩ := s1; exact ih m' σ2 st2 h' (by omega)
        | ct σ2 => obtain ⟨m', hm, h'⟩ := s1; exact ih m' σ2 st2 h' (by omega)
        | bk σ2 => exact s1
        | rt d => exact s1
        | xc x σ2 => exact s1
theorem gs_while {t : MT} {b : SS} : GoS (sWhile t b σ st) Q = GoS (whileM t b LF σ st) Q := rfl
/-- a comprehension, by an invariant that knows the turn's number and the list so far -/
theorem lcM_go {it : ItD} {t : Tg1} {tt : MT} {te : ME} {dn : Nat} {w : Sig} {P : Store → Prop} (I : Nat → List D → Store → Prop) (N : Nat) (hN : ∀ i acc st, I i acc st → i ≤ N ∧ lstAt st dn = some acc)
    (step : ∀ i acc st, I i acc st → GoV (itGet it i st) fun o => match o with
      | none => P st
      | some d => GoV (bindT t d w) fun σ2 => Go (tt σ2 st) (fun k st3 => cond k (Go (te σ2 st3) (fun y st4 => lstAt st4 dn = some acc ∧ acc.length < sizeLine ∧ I (i + 1) (acc ++ [y]) (st4.set dn (.lst (acc ++ [y])))) NoE) (I (i + 1) acc st3)) NoE) :
    ∀ (k i : Nat) (acc : List D) (st : Store), I i acc st → N < i + k → GoV (lcM it t tt te dn w k i st) P
  | 0, i, acc, st, h, hk => by have := (hN i acc st h).1; omega
  | k + 1, i, acc, st, h, hk => by
    have s := step i acc st h
    have ih := lcM_go I N hN step k (i + 1)
    cases e : itGet it i st with
    | none => rw [e] at s; exact s.elim
    | some o =>
      rw [e] at s
      cases o with
      | none => simp only [lcM, e]; exact s
      | some d =>
        have s : GoV (bindT t d w) _ := s
        cases e1 : bindT t d w with
        | none => rw [e1] at s; exact s.elim
        | some σ2 =>
          rw [e1] at s
          have s : Go (tt σ2 st) _ NoE := s
          cases e2 : tt σ2 st with
          | fail => rw [e2] at s; exact s.elim
          | exc x y => rw [e2] at s; exact s.elim
          | ok c st3 =>
            rw [e2] at s
            cases c with
            | false =>
              simp only [lcM, e, e1, e2]
              exact ih acc st3 s (by omega)
            | true =>
              have s : Go (te σ2 st3) _ NoE := s
              cases e3 : te σ2 st3 with
              | fail => rw [e3] at s; exact s.elim
              | exc x y => rw [e3] at s; exact s.elim
              | ok y st4 =>
                rw [e3] at s
                obtain ⟨h1, h2, h3⟩ := (s : lstAt st4 dn = some acc ∧ acc.length < sizeLine ∧ _)
                simp only [lcM, e, e1, e2, e3, h1, if_pos h2]
                exact ih _ _ h3 (by omega)
end
theorem gCn_eq {g : MG} {gs : MGs} {d : D} {ds : List D} {σ : Sig} {st : Store} : gCn g gs (d :: ds) σ st = (g d σ st).bind fun σ1 st1 => match gs ds σ1 st1 with
    | .ok σ2 st2 => .ok σ2 st2
    | _ => .fail := rfl
theorem gNm_eq {i : Nat} {d : D} {σ : Sig} {st : Store} : gNm i d σ st = .ok (σ.set i (some d)) st := rfl
theorem gNl_nil {σ : Sig} {st : Store} : gNl [] σ st = .ok σ st := rfl
theorem gTp_tup {n : Nat} {gs : MGs} {ds : List D} {σ : Sig} {st : Store} : gTp n gs (.tup ds) σ st = if ds.length = n then gs ds σ st else .fail := rfl
theorem goO_none {Q : D → Store → Prop} : GoO none Q = False := rfl
theorem goV_none {α : Type} {Q : α → Prop} : GoV none Q = False := rfl
theorem GoV.mono {α : Type} {o : Option α} {Q Q' : α → Prop} (h : GoV o Q) (q : ∀ a, Q a → Q' a) : GoV o Q' := by
  cases o with
  | none => exact h
  | some a => exact q a h
theorem goO_ite {c : Prop} [Decidable c] {d : D} {st : Store} {Q : D → Store → Prop} : GoO (if c then some (d, st) else none) Q = (c ∧ Q d st) := by
  by_cases h : c
  · rw [if_pos h]; simp [h, goO_some]
  · rw [if_neg h]; simp [h, GoO]
theorem goV_ite {α : Type} {c : Prop} [Decidable c] {a : α} {Q : α → Prop} : GoV (if c then some a else none) Q = (c ∧ Q a) := by
  by_cases h : c
  · rw [if_pos h]; simp [h, goV_some]
  · rw [if_neg h]; simp [h, GoV]
theorem goO_map {α : Type} {o : Option α} {f : α → D × Store} {Q : D → Store → Prop} : GoO (o.map f) Q = GoV o fun a => Q (f a).1 (f a).2 := by
  cases o <;> rfl
theorem goV_map {α β : Type} {o : Option α} {f : α → β} {Q : β → Prop} : GoV (o.map f) Q = GoV o fun a => Q (f a) := by
  cases o <;> rfl
theorem goV_bind {α β : Type} {o : Option α} {f : α → Option β} {Q : β → Prop} : GoV (o.bind f) Q = GoV o fun a => GoV (f a) Q := by
  cases o <;> rfl
end G

/-! V8: more that looks at what is one's own; defs; tables; the law's own call. -/
namespace V
open PySem L2 G
section
variable {α β γ δ Sn Sb S S1 S2 T T1 T2 T3 : Type} {base C c ca cb cc ci c1 c2 : Nat} {υ υ1 ex : Fr} {a b : ME} {m n : G.SS} {en : Sn → Fr} {eb : Sb → Fr} {g g1 g2 : Nat} {w w' : Wd}
/-! ### what is one's own, read -/
theorem se_tupleOwn (i : Nat) {us : List U} (e : υ[i]? = some (some (.lst us))) : SE (β := β) base C 0 (mCB bTuple (aCons (mVar i) aNil)) υ fun f => f (.tup us) := fun w σ f Q X gd F hR q => by
  obtain ⟨n, ds, s, hn, hk, hl, la, l, r, ty⟩ := own_lst F e
  have ll : lstD (.loc n) w.st = some ds := by
    unfold lstAt at la
    unfold lstD
    split at la
    · rename_i e'; simp only [e']; exact la
    · cases la
  show Goes _ _ w (((mVar i σ w.st).bind fun d st1 => (aNil σ st1).bind fun ds st2 => .ok (d :: ds) st2).bind fun ds st1 => lift (bTuple ds st1)) _ X
  simp only [mVar, s, R.bind_ok, aNil, bTuple, ll, lift]
  exact goes_ok gd ⟨_, .tup l r, q⟩
theorem se_keysOwn (i : Nat) {kvs : List (U × U)} (e : υ[i]? = some (some (.dct kvs))) : SE (β := β) base C 0 (mCB bTuple (aCons (mVar i) aNil)) υ fun f => if (kvs.isEmpty || flatKeysU kvs) = true then f (.tup (kvs.map (·.1))) else .fail := fun w σ f Q X gd F hR q => by
  obtain ⟨n, ds, s, hn, hk, hl, la, ln, l, r, ty⟩ := own_dct F e
  have ll : lstD (.loc n) w.st = none := by
    unfold dctW at la
    unfold lstD
    split at la
    · rename_i e'; simp only [e']
    · cases la
  show Goes _ _ w (((mVar i σ w.st).bind fun d st1 => (aNil σ st1).bind fun ds st2 => .ok (d :: ds) st2).bind fun ds st1 => lift (bTuple ds st1)) _ X
  split at q
  · rename_i hh
    have hh' : (ds.isEmpty || flatKeys ds) = true := by rw [r.flat, r.emp]; exact hh
    simp only [mVar, s, R.bind_ok, aNil, bTuple, ll, la, if_pos hh', lift]
    exact goes_ok gd ⟨_, .tup (by rw [List.length_map]; exact l) r.keys, q⟩
  · exact q.elim
theorem se_ixOwn (i : Nat) {us : List U} {Eb : (U → W β) → W β} (e : υ[i]? = some (some (.lst us))) (hb : SE base C c b υ Eb) : SE base C c (mBin opIx (mVar i) b) υ fun f => Eb fun k => (uIx (.lst us) k).bind f := fun w σ f Q X gd F hR q => by
  obtain ⟨n0, ds0, s, _⟩ := own_lst F e
  unfold mBin
  simp only [mVar, s, R.bind_ok]
  refine hb.goes (c' := 0) gd F hR q fun w1 d k g1 F1 e1 h1 r1 q1 => ?_
  obtain ⟨n, ds, s', hn, hk, hl, la, l, r, ty⟩ := own_lst F1 e
  rw [s] at s'; cases s'
  have ll : lstD (.loc n0) w1.st = some ds ∧ dctW w1.st n0 = none := by
    unfold lstAt at la
    split at la
    · rename_i e'
      cases la
      exact (lstD_new (K := w1.K) e').2.symm
    · cases la
  cases k with
  | int j =>
    cases r1
    cases hu : atI us j with
    | none => simp only [uIx, hu, ofO_none] at q1; exact q1.elim
    | some u =>
      obtain ⟨d, hd, rd⟩ := r.atI hu
      simp only [uIx, hu, ofO_some, bind_ret] at q1
      simp only [opIx, ll.1, ll.2, hd, Option.map_some, lift]
      exact goes_ok g1 ⟨_, rd, q1⟩
  | _ => exact q1.elim
theorem se_ixOwnK (i : Nat) {kvs : List (U × U)} {Eb : (U → W β) → W β} (e : υ[i]? = some (some (.dct kvs))) (hb : SE base C c b υ Eb) : SE base C c (mBin opIx (mVar i) b) υ fun f => Eb fun k => (uIx (.dct kvs) k).bind f := fun w σ f Q X gd F hR q => by
  obtain ⟨n0, ds0, s, _⟩ := own_dct F e
  unfold mBin
  simp only [mVar, s, R.bind_ok]
  refine hb.goes (c' := 0) gd F hR q fun w1 d k g1 F1 e1 h1 r1 q1 => ?_
  obtain ⟨n, ds, s', hn, hk, hl, la, ln, l, r, ty⟩ := own_dct F1 e
  rw [s] at s'; cases s'
  have e9 : uIx (.dct kvs) k = if kindOkU kvs k then ofO (uGetK kvs k) else .fail := by
    unfold uIx; split <;> simp_all
  rw [e9] at q1
  split at q1
  · rename_i hh
    rcases r.get r1 with ⟨a, b⟩ | ⟨x, y, a, b, c⟩
    · rw [a] at q1; exact q1.elim
    · rw [a] at q1
      have : opIx (.loc n0) d w1.st = some (x, w1.st) := by
        have hk' : kindOk ds d = true := by rw [r.kind r1]; exact hh
        unfold opIx
        split <;> simp_all
      rw [this]
      exact goes_ok g1 ⟨_, c, q1⟩
  · exact q1.elim
theorem se_getOwn {n : Nat} (i : Nat) {kvs : List (U × U)} {r : MA} {Er : (List U → W β) → W β} (e : υ[i]? = some (some (.dct kvs))) (hr : SA n base C c r υ Er) : SE base C c (mBM .dct mGet (mVar i) r) υ fun f => Er fun us => (uGet (.dct kvs) us).bind f := fun w σ f Q X gd F hR q => by
  obtain ⟨n0, ds0, s, hn, hk, hl, la, ln, l, r, ty⟩ := own_dct F e
  rw [own_bm (.inr (.inr rfl)) i s ty]
  refine hr.goes (c' := 0) gd F hR q fun w1 ds us g1 F1 e1 h1 r1 q1 => ?_
  obtain ⟨n, kds, s', hn, hk, hl, la, ln, l, r, ty⟩ := own_dct F1 e
  rw [s] at s'; cases s'
  have dens := r1.1
  unfold uGet at q1
  split at q1
  · rename_i kv k he
    cases he
    obtain ⟨d, rfl, h⟩ := dens1 dens
    rw [ok_bind, ok_need] at q1
    simp only [mGet, la]
    rw [if_pos (by rw [r.kind h]; exact q1.1)]
    rcases r.get h with ⟨a, b⟩ | ⟨x, y, a, b, c⟩
    · rw [b]; rw [a] at q1; exact goes_ok g1 ⟨_, .non, q1.2⟩
    · rw [b]; rw [a] at q1; exact goes_ok g1 ⟨_, c, q1.2⟩
  · rename_i kv k v he
    cases he
    obtain ⟨d, d2, rfl, h, h'⟩ := dens2 dens
    rw [ok_bind, ok_need] at q1
    simp only [mGet, la]
    rw [if_pos (by rw [r.kind h]; exact q1.1)]
    rcases r.get h with ⟨a, b⟩ | ⟨x, y, a, b, c⟩
    · rw [b]; rw [a] at q1; exact goes_ok g1 ⟨_, h', q1.2⟩
    · rw [b]; rw [a] at q1; exact goes_ok g1 ⟨_, c, q1.2⟩
  · exact q1.elim
/-! new lists of one's own by other ways -/
def uListL : List U → W (List U)
  | [.tup xs] => .ret xs
  | [.lst xs] => .ret xs
  | [.dct kvs] => need (flatKeysU kvs = true) (kvs.map (·.1))
  | _ => .fail
theorem sl_list {n : Nat} {r : MA} {Er : (List U → W β) → W β} (hr : SA n base C c r υ Er) : SL base C c (mCB bList r) υ fun f => Er fun us => (uListL us).bind f := fun w σ f Q X gd F hR q =>
  hr.goes (c' := 0) gd F hR q fun w1 ds us g1 F1 e1 h1 r1 q1 => by
    have dens := r1.1
    unfold uListL at q1
    split at q1
    · obtain ⟨d, rfl, h⟩ := dens1 dens
      cases h with | tup l r => exact goes_new .ow (by decide) g1 r fun w' e k s r => ⟨_, ⟨_, rfl, e1.len, _, k, s, l, r⟩, q1⟩
    · obtain ⟨d, rfl, h⟩ := dens1 dens
      obtain ⟨n, ds, rfl, _, _, l, r, x1, x2, x3⟩ := den_lst h
      simp only [bList, x3]
      exact goes_new .ow (by decide) g1 r fun w' e k s r => ⟨_, ⟨_, rfl, e1.len, _, k, s, l, r⟩, q1⟩
    · obtain ⟨d, rfl, h⟩ := dens1 dens
      obtain ⟨n, kvs, rfl, _, _, l, r, x1, x2, x3⟩ := den_dct h
      rw [ok_bind, ok_need] at q1
      simp only [bList, x3, x1]
      rw [if_pos (by rw [r.flat]; exact q1.1)]
      exact goes_new .ow (by decide) g1 r.keys fun w' e k s r => ⟨_, ⟨_, rfl, e1.len, _, k, s, by rw [List.length_map]; exact l, r⟩, q1.2⟩
    · exact q1.elim
/-- a list of one's own and another one, put together anew -/
theorem sl_addOwn (i : Nat) {us : List U} {Eb : (U → W β) → W β} (e : υ[i]? = some (some (.lst us))) (hb : SE base C c b υ Eb) : SL base C c (mBin opAdd (mVar i) b) υ fun f => Eb fun y => match y with
    | .lst ys => if us.length + ys.length ≤ sizeLine then f (us ++ ys) else .fail
    | _ => .fail := fun w σ f Q X gd F hR q => by
  obtain ⟨n0, ds0, s, _⟩ := own_lst F e
  unfold mBin
  simp only [mVar, s, R.bind_ok]
  refine hb.goes (c' := 0) gd F hR q fun w1 d k g1 F1 e1 h1 r1 q1 => ?_
  obtain ⟨n, ds, s', hn, hk, hl, la, l, r, ty⟩ := own_lst F1 e
  rw [s] at s'; cases s'
  split at q1
  · obtain ⟨m, es, rfl, _, _, _, r2, x1, x2, x3⟩ := den_lst r1
    split at q1
    · rename_i hh
      have hh' : ds.length + es.length ≤ sizeLine := by rw [r.length, r2.length]; exact hh
      simp only [opAdd, la, x1, if_pos hh']
      exact goes_new .ow (by decide) g1 (r.append r2) fun w' e k s r => ⟨_, ⟨_, rfl, e1.len, _, k, s, by rw [List.length_append]; exact hh', r⟩, q1⟩
    · exact q1.elim
  · exact q1.elim

/-- two ways that lead on to one place -/
def wSeq {S β : Type} (a : (S → W β) → W β) (k : S → W β) : W β := a k

/-! ### defs -/
def CF : Nat := 2 ^ 1000
theorem noFr : ∀ (υ : Fr), FrLe (List.replicate υ.length none) υ
  | [] => .nil
  | x :: υ => .no (noFr υ)
theorem start_fr {w : Wd} {base : Nat} : ∀ {ds : List D} {us : List U} (k : Nat), Dens w.K w.st ds us → FrR base w (us.map (fun u => some (O.v u)) ++ List.replicate k none) (ds.map some ++ List.replicate k none) := fun {ds us} k h => by
  have nv : ∀ (i : Nat) (o : O), (us.map (fun u => some (O.v u)) ++ List.replicate k none)[i]? = some (some o) → ∃ u, us[i]? = some u ∧ o = .v u := fun i o e => by
    rw [List.getElem?_append] at e
    split at e
    · rw [List.getElem?_map] at e
      cases q : us[i]? with
      | none => rw [q] at e; cases e
      | some u => rw [q] at e; cases e; exact ⟨u, rfl, rfl⟩
    · rw [List.getElem?_replicate] at e
      split at e <;> cases e
  refine ⟨by simp [h.length], fun i o e => ?_, fun i j o o' n e1 _ h1 _ _ _ => ?_⟩
  · obtain ⟨u, hu, rfl⟩ := nv i o e
    obtain ⟨d, hd, r⟩ := h.get hu
    refine ⟨d, ?_, r⟩
    rw [List.getElem?_append_left (by rw [List.length_map]; exact (List.getElem?_eq_some_iff.mp hd).1), List.getElem?_map, hd]
    rfl
  · obtain ⟨u, _, rfl⟩ := nv i o e1
    cases h1
theorem fnS_of (N n c : Nat) {m : G.SS} {wv : List U → W U} (hc : c ≤ CF)
    (h : ∀ (base : Nat) (us : List U), us.length = n → ∃ wm : (Unit → W U) → (Unit → W U) → (Unit → W U) → W U, SS base C c m (us.map (fun u => some (O.v u)) ++ List.replicate (N - n) none) (List.replicate N none) (fun _ => List.replicate N none) (fun _ => List.replicate N none) wm ∧
      wv us = wm (fun _ => .ret .non) (fun _ => .fail) fun _ => .fail)
    (hl : ∀ us Q X, (wv us).Ok Q X → us.length = n) : FnS (CF * C) (runF N m) wv := fun w ds us Q X gd r hR q => by
  have h0 := hl us Q X q
  obtain ⟨wm, hs, hv⟩ := h w.st.length us h0
  rw [hv] at q
  have cst : c * C ≤ CF * C := Nat.mul_le_mul_right C hc
  have F := start_fr (base := w.st.length) (N - n) r
  have h1 := hs w _ _ _ _ Q X gd (Nat.le_refl _) F (by omega) q
  have e : startD N ds = ds.map some ++ List.replicate (N - n) none := by
    unfold startD
    rw [r.length, h0]
  unfold runF
  rw [e]
  have toA : ∀ {w' : Wd}, Ext (fromA w.st.length) (c * C) w w' → Ext noA (CF * C) w w' := fun x => (x.imp fun z hz1 hz2 => by unfold fromA at hz2; omega).mono cst
  generalize m (ds.map some ++ List.replicate (N - n) none) w.st = rr at h1 ⊢
  cases rr with
  | fail => exact h1.elim
  | exc x st => exact h1.elim
  | ok f st =>
    cases f with
    | nx σ' =>
      obtain ⟨w', s, rfl, g', x, _, q'⟩ := h1
      exact ⟨w', rfl, g', toA x, _, .non, q'⟩
    | bk σ' => obtain ⟨w', s, _, _, _, _, q'⟩ := h1; exact q'.elim
    | ct σ' => obtain ⟨w', s, _, _, _, _, q'⟩ := h1; exact q'.elim
    | rt d =>
      obtain ⟨w', u, rfl, g', x, r', q'⟩ := h1
      exact ⟨w', rfl, g', toA x, u, r', q'⟩
    | xc e σ' =>
      obtain ⟨w', y, rfl, g', x, _, r', q'⟩ := h1
      exact ⟨w', y, rfl, g', toA x, r', q'⟩
end
/-! ### tables -/
abbrev DefV := CallV → List U → W U
def findV : List (Str × DefV) → Str → Option DefV
  | [], _ => none
  | (y, v) :: l, x => if y = x then some v else findV l x
def vT (T : List (Str × DefV)) : Nat → CallV
  | 0, _ => fun _ => .fail
  | n + 1, x => match findV T x with
    | some v => v (vT T n)
    | none => fun _ => .fail
/-- a def told -/
def DefS (d : DefE) (v : DefV) : Prop := ∀ (C : Nat) (call : CallF) (vc : CallV), 1 ≤ C → CallS C call vc → FnS (CF * C) (runF d.N.length (d.body call)) (v vc)
inductive Tabs : List DefE → List (Str × DefV) → Prop where
  | nil : Tabs [] []
  | cons {d : DefE} {v : DefV} {T : List DefE} {TV : List (Str × DefV)} : DefS d v → Tabs T TV → Tabs (d :: T) ((d.name, v) :: TV)
theorem Tabs.find : ∀ {T : List DefE} {TV : List (Str × DefV)} {x : Str}, Tabs T TV → (findD T x = none ∧ findV TV x = none) ∨ ∃ d v, findD T x = some d ∧ findV TV x = some v ∧ DefS d v
  | _, _, _, .nil => .inl ⟨rfl, rfl⟩
  | _, _, x, .cons (d := d) (v := v) h r => by
    by_cases e : d.name = x
    · exact .inr ⟨d, v, by simp [findD, e], by simp [findV, e], h⟩
    · rcases Tabs.find (x := x) r with ⟨a, b⟩ | ⟨d', v', a, b, c⟩
      · exact .inl ⟨by simp [findD, e, a], by simp [findV, e, b]⟩
      · exact .inr ⟨d', v', by simp [findD, e, a], by simp [findV, e, b], c⟩
theorem CF_pos (n : Nat) : 1 ≤ CF ^ n := Nat.one_le_iff_ne_zero.mpr (by unfold CF; exact Nat.pos_iff_ne_zero.mp (Nat.pow_pos (Nat.pow_pos (by decide))))
theorem callS_T {T : List DefE} {TV : List (Str × DefV)} (h : Tabs T TV) : ∀ n, CallS (CF ^ n) (runT T n) (vT TV n)
  | 0, x => fun w ds us Q X gd r hR q => q.elim
  | n + 1, x => by
    have ih := callS_T h n
    rcases h.find (x := x) with ⟨a, b⟩ | ⟨d, v, a, b, c⟩
    · intro w ds us Q X gd r hR q
      simp only [vT, b] at q
      exact q.elim
    · have := c (CF ^ n) (runT T n) (vT TV n) (CF_pos n) ih
      rw [Nat.pow_succ, Nat.mul_comm]
      simp only [vT, runT, a, b]
      exact this
/-- the law's own call -/
theorem law_of {T : List DefE} {TV : List (Str × DefV)} (h : Tabs T TV) (LV : Nat) (hLV : LV ≤ 300) (ns : List Int) (hl : ns.length ≤ 63) (q : (vT TV LV (Str.ofString "law") [.scr ns]).Ok (fun u => u = .bl true) NoX) :
    ∃ st, runT T LV (Str.ofString "law") [.rol (ns.map D.int)] [] = .ok (.bl true) st := by
  have gd : Good ⟨fun _ => .ow, [], Nmax⟩ := ⟨fun _ z => (nomatch z), fun _ z => (z rfl).elim, Nat.le_refl _⟩
  have s63 : (63 : Nat) ≤ sizeLine := by decide
  have cst : CF ^ LV ≤ Nmax := by
    unfold CF Nmax
    rw [← Nat.pow_mul]
    exact Nat.pow_le_pow_right (by decide) (by omega)
  have := callS_T h LV (Str.ofString "law") ⟨fun _ => .ow, [], Nmax⟩ [.rol (ns.map D.int)] [.scr ns] _ NoX gd (.cons (.scr ns (by omega)) .nil) cst q
  cases e : runT T LV (Str.ofString "law") [.rol (ns.map D.int)] [] with
  | fail => rw [show (⟨fun _ => .ow, [], Nmax⟩ : Wd).st = [] from rfl, e] at this; exact this.elim
  | exc x st => rw [show (⟨fun _ => .ow, [], Nmax⟩ : Wd).st = [] from rfl, e] at this; obtain ⟨_, _, _, _, _, _, z⟩ := this; exact z.elim
  | ok d st =>
    rw [show (⟨fun _ => .ow, [], Nmax⟩ : Wd).st = [] from rfl, e] at this
    obtain ⟨w', rfl, _, _, u, r, rfl⟩ := this
    cases r
    exact ⟨_, rfl⟩
end V

/-! V9: the hand that draws. -/
namespace G
open PySem L2

/-! ### lists in the store -/
theorem lstAt_lt {st : Store} {n : Nat} {xs : List D} (h : lstAt st n = some xs) : n < st.length := (List.getElem?_eq_some_iff.mp (lstAt_eq h)).1
theorem lstAt_of {st : Store} {n : Nat} {xs : List D} (h : st[n]? = some (.lst xs)) : lstAt st n = some xs := by
  unfold lstAt
  rw [h]
theorem lstAt_push {st : Store} {n : Nat} {c : Cell} {xs : List D} (h : lstAt st n = some xs) : lstAt (st ++ [c]) n = some xs :=
  lstAt_of (by rw [List.getElem?_append_left (lstAt_lt h)]; exact lstAt_eq h)
theorem lstAt_new {st : Store} {xs : List D} : lstAt (st ++ [.lst xs]) st.length = some xs := lstAt_of (by simp)
theorem lstAt_set {st : Store} {n : Nat} {xs : List D} (h : n < st.length) : lstAt (st.set n (.lst xs)) n = some xs := lstAt_of (by rw [List.getElem?_set_self h])
theorem lstAt_setNe {st : Store} {n m : Nat} {c : Cell} (h : n ≠ m) : lstAt (st.set n c) m = lstAt st m := by
  unfold lstAt
  rw [List.getElem?_set_ne h]
theorem lstD_loc {st : Store} {n : Nat} {xs : List D} (h : lstAt st n = some xs) : lstD (.loc n) st = some xs := by
  unfold lstD
  simp only [lstAt_eq h]
theorem dctW_lst {st : Store} {n : Nat} {xs : List D} (h : lstAt st n = some xs) : dctW st n = none := by
  unfold dctW
  simp only [lstAt_eq h]
theorem tyD_lst {st : Store} {n : Nat} {xs : List D} (h : lstAt st n = some xs) : tyD (.loc n) st = some .lst := by
  unfold tyD
  simp only [lstAt_eq h]
theorem opIx_lst {st : Store} {n : Nat} {xs : List D} {i : Int} (h : lstAt st n = some xs) : opIx (.loc n) (.int i) st = (atI xs i).map fun d => (d, st) := by
  simp only [opIx, dctW_lst h, lstD_loc h]
theorem setD_lst {st : Store} {n : Nat} {xs : List D} {i : Int} {v : D} (h : lstAt st n = some xs) : setD (.loc n) (.int i) v st = (ixN xs.length i).map fun j => st.set n (.lst (xs.set j v)) := by
  simp only [setD, h]
theorem truD_lst {st : Store} {n : Nat} {xs : List D} (h : lstAt st n = some xs) : truD (.loc n) st = some !xs.isEmpty := by
  simp only [truD, lstD_loc h, Option.map_some]
theorem bLen_lst {st : Store} {n : Nat} {xs : List D} (h : lstAt st n = some xs) : bLen [.loc n] st = some (.int xs.length, st) := by
  simp only [bLen, h]
theorem iterD_lst {st : Store} {n : Nat} {xs : List D} (h : lstAt st n = some xs) : iterD (.loc n) st = some (.lst n) := by
  simp only [iterD, h, Option.map_some]

theorem itGet_lst {st : Store} {n i : Nat} {xs : List D} (h : lstAt st n = some xs) : itGet (.lst n) i st = some xs[i]? := by
  show (lstAt st n).map _ = _
  rw [h]; rfl
theorem itGet_enm {st : Store} {n i : Nat} {xs : List D} (h : lstAt st n = some xs) : itGet (.enm n) i st = some ((xs[i]?).map fun d => .tup [.int i, d]) := by
  show (lstAt st n).map _ = _
  rw [h]; rfl
theorem itGet_rng {st : Store} {lo : Int} {n i : Nat} : itGet (.rng lo n) i st = some (if i < n then some (.int (lo + i)) else none) := rfl
theorem itGet_seq {st : Store} {xs : List D} {i : Nat} : itGet (.seq xs) i st = some xs[i]? := rfl

/-! ### frames -/
structure Fr (F : Nat → Prop) (st st' : Store) : Prop where
  le : st.length ≤ st'.length
  keep : ∀ n, n < st.length → ¬ F n → st'[n]? = st[n]?
theorem Fr.refl {F : Nat → Prop} {st : Store} : Fr F st st := ⟨Nat.le_refl _, fun _ _ _ => rfl⟩
theorem Fr.trans {F : Nat → Prop} {a b c : Store} (h : Fr F a b) (k : Fr F b c) : Fr F a c :=
  ⟨Nat.le_trans h.le k.le, fun n hn hf => (k.keep n (Nat.lt_of_lt_of_le hn h.le) hf).trans (h.keep n hn hf)⟩
theorem Fr.push {F : Nat → Prop} {st : Store} {c : Cell} : Fr F st (st ++ [c]) := ⟨by simp, fun n hn _ => by rw [List.getElem?_append_left hn]⟩
theorem Fr.put {F : Nat → Prop} {st : Store} {n : Nat} {c : Cell} (h : F n) : Fr F st (st.set n c) := ⟨by simp, fun m hm hf => by
  rw [List.getElem?_set_ne (show n ≠ m from fun z => hf (z ▸ h))]⟩
theorem Fr.imp {F F' : Nat → Prop} {a b : Store} (h : Fr F a b) (i : ∀ n, n < a.length → F n → F' n) : Fr F' a b := ⟨h.le, fun n hn hf => h.keep n hn fun z => hf (i n hn z)⟩
/-- what is new to the first store may have been changed -/
theorem Fr.new {F : Nat → Prop} {a b c : Store} (h : Fr F a b) (k : Fr (fun n => F n ∨ a.length ≤ n) b c) : Fr F a c :=
  ⟨Nat.le_trans h.le k.le, fun n hn hf => (k.keep n (Nat.lt_of_lt_of_le hn h.le) (fun z => z.elim hf fun z => by omega)).trans (h.keep n hn hf)⟩
theorem Fr.lst {F : Nat → Prop} {st st' : Store} (h : Fr F st st') {n : Nat} {xs : List D} (hf : ¬ F n) (e : lstAt st n = some xs) : lstAt st' n = some xs :=
  lstAt_of (by rw [h.keep n (lstAt_lt e) hf]; exact lstAt_eq e)

/-! ### one step after another -/
theorem atI_nat {α : Type} {xs : List α} {k : Nat} (h : k < xs.length) : atI xs (k : Int) = xs[k]? := by
  unfold atI ixN
  rw [if_pos (by omega), if_pos (by omega)]
  rfl
theorem ixN_nat {n k : Nat} (h : k < n) : ixN n (k : Int) = some k := by
  unfold ixN
  rw [if_pos (by omega), if_pos (by omega)]
  rfl
theorem atI_in {α : Type} {xs : List α} {i : Int} (h0 : 0 ≤ i) (h : i < xs.length) : ∃ d, atI xs i = some d ∧ xs[i.toNat]? = some d ∧ d ∈ xs := by
  have h1 : i.toNat < xs.length := by omega
  refine ⟨xs[i.toNat], ?_, by simp [h1], List.getElem_mem h1⟩
  unfold atI ixN
  rw [if_pos h0, if_pos h]
  simp [h1]
/-- arithmetic's operations on whole numbers -/
theorem opAdd_int {i j : Int} {st : Store} : opAdd (.int i) (.int j) st = some (.int (i + j), st) := rfl
theorem opSub_int {i j : Int} {st : Store} : opSub (.int i) (.int j) st = some (.int (i - j), st) := rfl
theorem opMod_int {i j : Int} {st : Store} : opMod (.int i) (.int j) st = if 0 < j then some (.int (i % j), st) else none := rfl
theorem opDiv_int {i j : Int} {st : Store} : opDiv (.int i) (.int j) st = if 0 < j ∧ j < 1073741824 then some (.int (i / j), st) else none := rfl
theorem opPow_int {i j : Int} {st : Store} : opPow (.int i) (.int j) st = if 0 ≤ j ∧ (Builtin.Int.intBits i : Int) * j ≤ 2 ^ 27 then some (.int (i ^ j.toNat), st) else none := rfl
theorem bits_lt {i : Int} {k : Nat} (h : i.natAbs < 2 ^ k) : Builtin.Int.intBits i ≤ k := by
  unfold Builtin.Int.intBits
  split
  · omega
  · rename_i hz
    have h0 : i.natAbs ≠ 0 := by
      intro z
      apply hz
      have : i = 0 := Int.natAbs_eq_zero.mp z
      subst this
      rfl
    have := (Nat.log2_lt h0).mpr h
    omega

theorem opMul_int {i j : Int} {st : Store} : opMul (.int i) (.int j) st = if ((-(2 ^ 64) < i ∧ i < 2 ^ 64) ∨ (-(2 ^ 64) < j ∧ j < 2 ^ 64)) ∨ i.natAbs.log2 + j.natAbs.log2 < 1000000 then some (.int (i * j), st) else none := rfl
theorem opLt_int {i j : Int} {st : Store} : opLt (.int i) (.int j) st = some (.bl (decide (i < j)), st) := rfl
theorem opGt_int {i j : Int} {st : Store} : opGt (.int i) (.int j) st = some (.bl (decide (j < i)), st) := rfl
theorem opLe_int {i j : Int} {st : Store} : opLe (.int i) (.int j) st = some (.bl (decide (i ≤ j)), st) := rfl
theorem opGe_int {i j : Int} {st : Store} : opGe (.int i) (.int j) st = some (.bl (decide (j ≤ i)), st) := rfl

/-! ### the hand -/
def HandAt (st : Store) (h : Nat) (b : Int) : Prop := ∃ g m c : Int, lstAt st h = some [.int g, .int m, .int c] ∧ 0 ≤ g ∧ 0 ≤ m ∧ m < 2147483648 ∧ 0 ≤ c ∧ c ≤ b
theorem HandAt.mono {st : Store} {h : Nat} {b b' : Int} (H : HandAt st h b) (hb : b ≤ b') : HandAt st h b' := by
  obtain ⟨g, m, c, e, h1, h2, h3, h4, h5⟩ := H
  exact ⟨g, m, c, e, h1, h2, h3, h4, by omega⟩
theorem HandAt.fr {F : Nat → Prop} {st st' : Store} {h : Nat} {b : Int} (H : HandAt st h b) (f : Fr F st st') (hf : ¬ F h) : HandAt st' h b := by
  obtain ⟨g, m, c, e, r⟩ := H
  exact ⟨g, m, c, f.lst hf e, r⟩
theorem HandAt.lt {st : Store} {h : Nat} {b : Int} (H : HandAt st h b) : h < st.length := by
  obtain ⟨g, m, c, e, r⟩ := H
  exact lstAt_lt e
def sh_take : SS :=
  (sSeq (sIf (mBl (mBin opGt (mBin opIx (mVar 0) (mC (.int 0))) (mC (.int 0)))) (sSeq (sAsg (mBin opMod (mBin opIx (mVar 0) (mC (.int 0))) (mVar 1)) (gNm 4))
  (sSeq (sAsg (mBin opDiv (mBin opIx (mVar 0) (mC (.int 0))) (mVar 1)) (gSb (mVar 0) (mC (.int 0))))
  (sRet (mVar 4)))) sNx)
  (sSeq (sAsg (mBin opAdd (mBin opIx (mVar 0) (mC (.int 2))) (mC (.int 1))) (gSb (mVar 0) (mC (.int 2))))
  (sSeq (sAsg (mBin opIx (mLst (aCons (mC (.int 2147483647)) (aCons (mC (.int 2147483629)) (aCons (mC (.int 2147483587)) (aCons (mC (.int 2147483579)) (aCons (mC (.int 2147483563)) aNil)))))) (mBin opMod (mBin opIx (mVar 0) (mC (.int 2))) (mC (.int 5)))) (gNm 2))
  (sSeq (sAsg (mBin opMod (mBin opPow (mBin opAdd (mBin opIx (mVar 0) (mC (.int 1))) (mBin opMul (mC (.int 7919)) (mBin opIx (mVar 0) (mC (.int 2))))) (mC (.int 3))) (mVar 2)) (gNm 3))
  (sRet (mBin opMod (mBin opDiv (mBin opMod (mBin opMul (mVar 3) (mBin opAdd (mBin opMod (mVar 3) (mC (.int 1009))) (mBin opIx (mVar 0) (mC (.int 2))))) (mVar 2)) (mC (.int 11))) (mVar 1)))))))
def TakeSpec (F : List D → Store → R D) : Prop := ∀ (h : Nat) (m : Int) (st : Store) (g md c : Int), lstAt st h = some [.int g, .int md, .int c] → 0 ≤ g → 0 ≤ md → md < 2147483648 → 0 ≤ c → c.toNat < 2 ^ 300001 → 0 < m → m < 1073741824 →
  Go (F [.loc h, .int m] st) (fun d st' => (∃ k, d = .int k ∧ 0 ≤ k ∧ k < m) ∧ (∃ g' md' c' : Int, lstAt st' h = some [.int g', .int md', .int c'] ∧ 0 ≤ g' ∧ 0 ≤ md' ∧ md' < 2147483648 ∧ 0 ≤ c' ∧ c' ≤ c + 1) ∧ Fr (· = h) st st') NoE
theorem at3_0 {a b c : D} : atI [a, b, c] 0 = some a := rfl
theorem at3_1 {a b c : D} : atI [a, b, c] 1 = some b := rfl
theorem at3_2 {a b c : D} : atI [a, b, c] 2 = some c := rfl
theorem ix3_0 : ixN 3 0 = some 0 := rfl
theorem ix3_2 : ixN 3 2 = some 2 := rfl
theorem size5 : 5 ≤ sizeLine := by decide
theorem base_bits {md c : Nat} (hm : md < 2147483648) (hc : c < 2 ^ 300001) : (Builtin.Int.intBits ((md : Int) + 7919 * ((c : Int) + 1)) : Int) * 3 ≤ 2 ^ 27 := by
  have h1 : ((md : Int) + 7919 * ((c : Int) + 1)).natAbs = md + 7919 * (c + 1) := by omega
  have h2 : md + 7919 * (c + 1) < 2 ^ 300040 := by
    have e1 : (2 : Nat) ^ 300040 = 2 ^ 39 * 2 ^ 300001 := by rw [← Nat.pow_add]
    rw [e1]
    generalize (2 : Nat) ^ 300001 = p at hc ⊢
    have e2 : (2 : Nat) ^ 39 = 549755813888 := rfl
    rw [e2]
    omega
  have h3 := bits_lt (i := (md : Int) + 7919 * ((c : Int) + 1)) (k := 300040) (by rw [h1]; exact h2)
  have h4 : (2 : Int) ^ 27 = 134217728 := rfl
  rw [h4]
  omega
theorem take_ok : TakeSpec (runF 5 sh_take) := by
  intro h m st g md c e h1 h2 h3 h4 hc hm hm2
  have hbits : (Builtin.Int.intBits (md + 7919 * (c + 1)) : Int) * 3 ≤ 2 ^ 27 := by
    have := base_bits (md := md.toNat) (c := c.toNat) (by omega) hc
    rwa [Int.toNat_of_nonneg h2, Int.toNat_of_nonneg h4] at this
  clear hc
  have hlt := lstAt_lt e
  unfold sh_take
  simp only [go_runF, go_ok, go_c, go_var, go_bin, go_un, go_bl, go_tru, go_nt, go_an, go_oo, go_mAn, go_mOo, go_mNt, go_if, go_chain, go_aNil, go_aCons, go_tup, go_lst, go_dict0, go_cb, go_bm, go_sl, go_sl3, go_oNone, go_oSome, go_callP, go_call, go_lc, go_tTrue, go_iAny, go_iRng1, go_iRng2, go_iEnm, go_iZip, go_gNm, go_gTp, go_gNl, go_gSb, gCn_eq, gNm_eq, gNl_nil, gTp_tup, R.bind_ok, if_true, gs_nx, gs_bk, gs_ct, gs_seq, thenQ_nx, thenQ_rt, thenQ_bk, thenQ_ct, thenQ_xc, gs_ret, gs_expr, gs_if, gs_asg, gs_par2, gs_par3, gs_aug, retQ_rt, retQ_nx, retQ_xc, gs_for, gs_while, turnQ_nx, turnQ_ct, turnQ_bk, turnQ_rt, turnQ_xc, goO_some, goV_some, goO_none, goV_none, goO_ite, goV_ite, goO_map, goV_map, goV_bind, Bool.cond_decide, cond_true, cond_false, Bool.cond_not, startD, List.map_cons, List.map_nil, List.length_cons, List.length_nil, List.replicate_succ, List.replicate_zero, List.cons_append, List.nil_append, List.append_nil, Nat.reduceSub, Nat.reduceAdd, List.getElem?_cons_zero, List.getElem?_cons_succ, List.set_cons_zero, List.set_cons_succ, Nat.zero_add, true_and, and_true, true_or, or_true, opIx_lst e, opGt_int, at3_0]
  split
  · rename_i hg
    simp only [go_runF, go_ok, go_c, go_var, go_bin, go_un, go_bl, go_tru, go_nt, go_an, go_oo, go_mAn, go_mOo, go_mNt, go_if, go_chain, go_aNil, go_aCons, go_tup, go_lst, go_dict0, go_cb, go_bm, go_sl, go_sl3, go_oNone, go_oSome, go_callP, go_call, go_lc, go_tTrue, go_iAny, go_iRng1, go_iRng2, go_iEnm, go_iZip, go_gNm, go_gTp, go_gNl, go_gSb, gCn_eq, gNm_eq, gNl_nil, gTp_tup, R.bind_ok, if_true, gs_nx, gs_bk, gs_ct, gs_seq, thenQ_nx, thenQ_rt, thenQ_bk, thenQ_ct, thenQ_xc, gs_ret, gs_expr, gs_if, gs_asg, gs_par2, gs_par3, gs_aug, retQ_rt, retQ_nx, retQ_xc, gs_for, gs_while, turnQ_nx, turnQ_ct, turnQ_bk, turnQ_rt, turnQ_xc, goO_some, goV_some, goO_none, goV_none, goO_ite, goV_ite, goO_map, goV_map, goV_bind, Bool.cond_decide, cond_true, cond_false, Bool.cond_not, startD, List.map_cons, List.map_nil, List.length_cons, List.length_nil, List.replicate_succ, List.replicate_zero, List.cons_append, List.nil_append, List.append_nil, Nat.reduceSub, Nat.reduceAdd, List.getElem?_cons_zero, List.getElem?_cons_succ, List.set_cons_zero, List.set_cons_succ, Nat.zero_add, true_and, and_true, true_or, or_true, opIx_lst e, opMod_int, opDiv_int, at3_0, setD_lst e, ix3_0]
    refine ⟨hm, ⟨hm, hm2⟩, ⟨_, rfl, Int.emod_nonneg _ (by omega), Int.emod_lt_of_pos _ hm⟩, ⟨g / m, md, c, lstAt_set hlt, Int.ediv_nonneg h1 (by omega), h2, h3, h4, by omega⟩, Fr.put rfl⟩
  · simp only [go_runF, go_ok, go_c, go_var, go_bin, go_un, go_bl, go_tru, go_nt, go_an, go_oo, go_mAn, go_mOo, go_mNt, go_if, go_chain, go_aNil, go_aCons, go_tup, go_lst, go_dict0, go_cb, go_bm, go_sl, go_sl3, go_oNone, go_oSome, go_callP, go_call, go_lc, go_tTrue, go_iAny, go_iRng1, go_iRng2, go_iEnm, go_iZip, go_gNm, go_gTp, go_gNl, go_gSb, gCn_eq, gNm_eq, gNl_nil, gTp_tup, R.bind_ok, if_true, gs_nx, gs_bk, gs_ct, gs_seq, thenQ_nx, thenQ_rt, thenQ_bk, thenQ_ct, thenQ_xc, gs_ret, gs_expr, gs_if, gs_asg, gs_par2, gs_par3, gs_aug, retQ_rt, retQ_nx, retQ_xc, gs_for, gs_while, turnQ_nx, turnQ_ct, turnQ_bk, turnQ_rt, turnQ_xc, goO_some, goV_some, goO_none, goV_none, goO_ite, goV_ite, goO_map, goV_map, goV_bind, Bool.cond_decide, cond_true, cond_false, Bool.cond_not, startD, List.map_cons, List.map_nil, List.length_cons, List.length_nil, List.replicate_succ, List.replicate_zero, List.cons_append, List.nil_append, List.append_nil, Nat.reduceSub, Nat.reduceAdd, List.getElem?_cons_zero, List.getElem?_cons_succ, List.set_cons_zero, List.set_cons_succ, Nat.zero_add, true_and, and_true, true_or, or_true, opIx_lst e, opAdd_int, at3_2, setD_lst e, ix3_2]
    generalize hs : st.set h _ = st1
    have e1 : lstAt st1 h = some [.int g, .int md, .int (c + 1)] := by rw [← hs]; exact lstAt_set hlt
    have f1 : Fr (· = h) st st1 := by rw [← hs]; exact Fr.put rfl
    have e2 := lstAt_push (c := .lst [.int 2147483647, .int 2147483629, .int 2147483587, .int 2147483579, .int 2147483563]) e1
    have e3 : lstAt (st1 ++ [.lst [.int 2147483647, .int 2147483629, .int 2147483587, .int 2147483579, .int 2147483563]]) st1.length = _ := lstAt_new
    have f2 : Fr (· = h) st (st1 ++ [.lst [.int 2147483647, .int 2147483629, .int 2147483587, .int 2147483579, .int 2147483563]]) := f1.trans Fr.push
    refine ⟨size5, ?_⟩
    generalize st1 ++ [.lst [.int 2147483647, .int 2147483629, .int 2147483587, .int 2147483579, .int 2147483563]] = st2 at e2 e3 f2 ⊢
    have hp : ∃ p : Int, atI [D.int 2147483647, .int 2147483629, .int 2147483587, .int 2147483579, .int 2147483563] ((c + 1) % 5) = some (.int p) ∧ 0 < p ∧ p ≤ 2147483647 := by
      have h6 : 0 ≤ (c + 1) % 5 := Int.emod_nonneg _ (by decide)
      have h7 : (c + 1) % 5 < 5 := Int.emod_lt_of_pos _ (by decide)
      rcases (by omega : (c + 1) % 5 = 0 ∨ (c + 1) % 5 = 1 ∨ (c + 1) % 5 = 2 ∨ (c + 1) % 5 = 3 ∨ (c + 1) % 5 = 4) with z | z | z | z | z <;> rw [z]
      · exact ⟨2147483647, rfl, by decide, by decide⟩
      · exact ⟨2147483629, rfl, by decide, by decide⟩
      · exact ⟨2147483587, rfl, by decide, by decide⟩
      · exact ⟨2147483579, rfl, by decide, by decide⟩
      · exact ⟨2147483563, rfl, by decide, by decide⟩
    obtain ⟨p, hp, p0, p1⟩ := hp
    obtain ⟨B, hpow⟩ : ∃ B : Int, ∀ st, opPow (.int (md + 7919 * (c + 1))) (.int 3) st = some (.int B, st) := ⟨_, fun st => by rw [opPow_int, if_pos ⟨by decide, hbits⟩]⟩
    simp only [go_runF, go_ok, go_c, go_var, go_bin, go_un, go_bl, go_tru, go_nt, go_an, go_oo, go_mAn, go_mOo, go_mNt, go_if, go_chain, go_aNil, go_aCons, go_tup, go_lst, go_dict0, go_cb, go_bm, go_sl, go_sl3, go_oNone, go_oSome, go_callP, go_call, go_lc, go_tTrue, go_iAny, go_iRng1, go_iRng2, go_iEnm, go_iZip, go_gNm, go_gTp, go_gNl, go_gSb, gCn_eq, gNm_eq, gNl_nil, gTp_tup, R.bind_ok, if_true, gs_nx, gs_bk, gs_ct, gs_seq, thenQ_nx, thenQ_rt, thenQ_bk, thenQ_ct, thenQ_xc, gs_ret, gs_expr, gs_if, gs_asg, gs_par2, gs_par3, gs_aug, retQ_rt, retQ_nx, retQ_xc, gs_for, gs_while, turnQ_nx, turnQ_ct, turnQ_bk, turnQ_rt, turnQ_xc, goO_some, goV_some, goO_none, goV_none, goO_ite, goV_ite, goO_map, goV_map, goV_bind, Bool.cond_decide, cond_true, cond_false, Bool.cond_not, startD, List.map_cons, List.map_nil, List.length_cons, List.length_nil, List.replicate_succ, List.replicate_zero, List.cons_append, List.nil_append, List.append_nil, Nat.reduceSub, Nat.reduceAdd, List.getElem?_cons_zero, List.getElem?_cons_succ, List.set_cons_zero, List.set_cons_succ, Nat.zero_add, true_and, and_true, true_or, or_true, opIx_lst e2, opIx_lst e3, opAdd_int, opMod_int, opMul_int, hpow, opDiv_int, at3_2, at3_1, hp]
    refine ⟨by decide, .inl (.inl (by decide)), p0, by decide, .inl (.inl ?_), p0, by decide, hm, ⟨_, rfl, Int.emod_nonneg _ (by omega), Int.emod_lt_of_pos _ hm⟩, ⟨g, md, c + 1, e2, h1, h2, h3, by omega, by omega⟩, f2⟩
    have h6 := Int.emod_nonneg B (show p ≠ 0 by omega)
    have h7 := Int.emod_lt_of_pos B p0
    omega
def sh_hand2 : SS :=
  (sSeq (sAsg (mBin opMul (mBin opMod (mCB bAbs (aCons (mVar 2) aNil)) (mBin opMul (mBin opMul (mBin opPow (mC (.int 10)) (mC (.int 60))) (mBin opPow (mC (.int 10)) (mC (.int 60)))) (mBin opPow (mC (.int 10)) (mC (.int 60))))) (mCB bInt (aCons (mBin opGe (mCB bAbs (aCons (mVar 2) aNil)) (mBin opPow (mC (.int 10)) (mC (.int 18)))) aNil))) (gNm 3))
  (sRet (mLst (aCons (mVar 3) (aCons (mBin opMod (mBin opMul (mBin opAdd (mBin opAdd (mBin opMod (mVar 2) (mC (.int 2147483629))) (mBin opMul (mC (.int 7919)) (mVar 1))) (mC (.int 13))) (mC (.int 48271))) (mC (.int 2147483647))) (aCons (mC (.int 0)) aNil))))))
def sh_handz (z : Int) : SS :=
  (sSeq (sAsg (mIf (mBl (mBin opLt (mVar 1) (mCB bLen (aCons (mVar 0) aNil)))) (mBin opIx (mVar 0) (mVar 1)) (mC (.int z))) (gNm 2)) sh_hand2)
def sh_hand : SS := sh_handz 0
def HandSpec (F : List D → Store → R D) : Prop := ∀ (ns : List Int) (k : Nat) (st : Store), k ≤ 100 →
  Go (F [.rol (ns.map D.int), .int k] st) (fun d st' => ∃ h, d = .loc h ∧ h = st.length ∧ HandAt st' h 0 ∧ Fr (fun _ => False) st st') NoE
theorem pow_10 (k : Nat) (hk : k ≤ 60) : ∃ A : Int, 0 < A ∧ A.natAbs.log2 < 300 ∧ ∀ st, opPow (.int 10) (.int k) st = some (.int A, st) := by
  refine ⟨10 ^ k, Int.pow_pos (by decide), ?_, fun st => ?_⟩
  · have h1 : ((10 : Int) ^ k).natAbs = 10 ^ k := by
      rw [Int.natAbs_pow]
      rfl
    rw [h1]
    refine (Nat.log2_lt (by have := Nat.pow_pos (n := k) (show 0 < 10 by decide); omega)).mpr ?_
    refine Nat.lt_of_le_of_lt (Nat.pow_le_pow_right (by decide) hk) ?_
    decide +kernel
  · rw [opPow_int, if_pos ⟨by omega, by
      have : Builtin.Int.intBits 10 ≤ 4 := bits_lt (by decide)
      have h4 : (2 : Int) ^ 27 = 134217728 := rfl
      rw [h4]
      have : (Builtin.Int.intBits 10 : Int) * (k : Int) ≤ 4 * 60 := by
        have h5 : Builtin.Int.intBits 10 * k ≤ 4 * 60 := Nat.mul_le_mul this hk
        exact_mod_cast h5
      omega⟩]
    rfl
theorem log_mul {a b : Nat} {x y : Nat} (ha : a.log2 < x) (hb : b.log2 < y) : (a * b).log2 < x + y := by
  by_cases h : a * b = 0
  · rw [h]
    have : Nat.log2 0 = 0 := by decide
    omega
  · have h0 : a ≠ 0 := fun z => h (by rw [z]; simp)
    have h1 : b ≠ 0 := fun z => h (by rw [z]; simp)
    refine (Nat.log2_lt h).mpr ?_
    rw [Nat.pow_add]
    exact Nat.mul_lt_mul'' ((Nat.log2_lt h0).mp ha) ((Nat.log2_lt h1).mp hb)
theorem handz_ok (z : Int) : HandSpec (runF 4 (sh_handz z)) := by
  intro ns k st hk
  unfold sh_handz
  obtain ⟨A, a0, a1, pa⟩ := pow_10 60 (by decide)
  obtain ⟨B, b0, b1, pb⟩ := pow_10 18 (by decide)
  have pa : ∀ st, opPow (.int 10) (.int 60) st = some (.int A, st) := pa
  have pb : ∀ st, opPow (.int 10) (.int 18) st = some (.int B, st) := pb
  have rest : ∀ cell : Int, GoS (sh_hand2 [some (.rol (ns.map D.int)), some (.int k), some (.int cell), none] st)
      (retQ (fun d st' => ∃ h, d = .loc h ∧ h = st.length ∧ HandAt st' h 0 ∧ Fr (fun _ => False) st st') NoE) := by
    intro cell
    unfold sh_hand2
    simp only [go_runF, go_ok, go_c, go_var, go_bin, go_un, go_bl, go_tru, go_nt, go_an, go_oo, go_mAn, go_mOo, go_mNt, go_if, go_chain, go_aNil, go_aCons, go_tup, go_lst, go_dict0, go_cb, go_bm, go_sl, go_sl3, go_oNone, go_oSome, go_callP, go_call, go_lc, go_tTrue, go_iAny, go_iRng1, go_iRng2, go_iEnm, go_iZip, go_gNm, go_gTp, go_gNl, go_gSb, gCn_eq, gNm_eq, gNl_nil, gTp_tup, R.bind_ok, if_true, gs_nx, gs_bk, gs_ct, gs_seq, thenQ_nx, thenQ_rt, thenQ_bk, thenQ_ct, thenQ_xc, gs_ret, gs_expr, gs_if, gs_asg, gs_par2, gs_par3, gs_aug, retQ_rt, retQ_nx, retQ_xc, gs_for, gs_while, turnQ_nx, turnQ_ct, turnQ_bk, turnQ_rt, turnQ_xc, goO_some, goV_some, goO_none, goV_none, goO_ite, goV_ite, goO_map, goV_map, goV_bind, Bool.cond_decide, cond_true, cond_false, Bool.cond_not, startD, List.map_cons, List.map_nil, List.length_cons, List.length_nil, List.replicate_succ, List.replicate_zero, List.cons_append, List.nil_append, List.append_nil, Nat.reduceSub, Nat.reduceAdd, List.getElem?_cons_zero, List.getElem?_cons_succ, List.set_cons_zero, List.set_cons_succ, Nat.zero_add, true_and, and_true, true_or, or_true, bAbs, bInt, opAdd_int, opMod_int, opMul_int, opGe_int, pa, pb]
    have b01 : (0 : Int) ≤ (if decide (B ≤ if cell < 0 then -cell else cell) = true then 1 else 0) ∧ (if decide (B ≤ if cell < 0 then -cell else cell) = true then 1 else 0 : Int) ≤ 1 := by
      by_cases h : B ≤ if cell < 0 then -cell else cell <;> simp [h]
    generalize (if decide (B ≤ if cell < 0 then -cell else cell) = true then 1 else 0 : Int) = C at b01
    have a2 : (A * A).natAbs.log2 < 600 := by rw [Int.natAbs_mul]; exact log_mul a1 a1
    have a3 : 0 < A * A * A := Int.mul_pos (Int.mul_pos a0 a0) a0
    refine ⟨.inr (by omega), .inr (by omega), a3, .inl (.inr ⟨by omega, by omega⟩), by decide, .inl (.inl (by decide)), .inl (.inr (by decide)), by decide, by decide, st.length, rfl, rfl, ⟨_, _, _, lstAt_new, ?_, Int.emod_nonneg _ (by decide), ?_, by decide, by decide⟩, Fr.push⟩
    · exact Int.mul_nonneg (Int.emod_nonneg _ (by omega)) b01.1
    · have := Int.emod_lt_of_pos ((cell % 2147483629 + 7919 * (k : Int) + 13) * 48271) (show (0 : Int) < 2147483647 by decide)
      omega
  simp only [go_runF, go_ok, go_c, go_var, go_bin, go_un, go_bl, go_tru, go_nt, go_an, go_oo, go_mAn, go_mOo, go_mNt, go_if, go_chain, go_aNil, go_aCons, go_tup, go_lst, go_dict0, go_cb, go_bm, go_sl, go_sl3, go_oNone, go_oSome, go_callP, go_call, go_lc, go_tTrue, go_iAny, go_iRng1, go_iRng2, go_iEnm, go_iZip, go_gNm, go_gTp, go_gNl, go_gSb, gCn_eq, gNm_eq, gNl_nil, gTp_tup, R.bind_ok, if_true, gs_nx, gs_bk, gs_ct, gs_seq, thenQ_nx, thenQ_rt, thenQ_bk, thenQ_ct, thenQ_xc, gs_ret, gs_expr, gs_if, gs_asg, gs_par2, gs_par3, gs_aug, retQ_rt, retQ_nx, retQ_xc, gs_for, gs_while, turnQ_nx, turnQ_ct, turnQ_bk, turnQ_rt, turnQ_xc, goO_some, goV_some, goO_none, goV_none, goO_ite, goV_ite, goO_map, goV_map, goV_bind, Bool.cond_decide, cond_true, cond_false, Bool.cond_not, startD, List.map_cons, List.map_nil, List.length_cons, List.length_nil, List.replicate_succ, List.replicate_zero, List.cons_append, List.nil_append, List.append_nil, Nat.reduceSub, Nat.reduceAdd, List.getElem?_cons_zero, List.getElem?_cons_succ, List.set_cons_zero, List.set_cons_succ, Nat.zero_add, true_and, and_true, true_or, or_true, bLen, opLt_int]
  split
  · rename_i h
    have hl : k < (ns.map D.int).length := by omega
    have e : atI (ns.map D.int) (k : Int) = some (.int (ns[k]'(by simpa using hl))) := by
      rw [atI_nat hl]
      simp [(by simpa using hl : k < ns.length)]
    simp only [go_runF, go_ok, go_c, go_var, go_bin, go_un, go_bl, go_tru, go_nt, go_an, go_oo, go_mAn, go_mOo, go_mNt, go_if, go_chain, go_aNil, go_aCons, go_tup, go_lst, go_dict0, go_cb, go_bm, go_sl, go_sl3, go_oNone, go_oSome, go_callP, go_call, go_lc, go_tTrue, go_iAny, go_iRng1, go_iRng2, go_iEnm, go_iZip, go_gNm, go_gTp, go_gNl, go_gSb, gCn_eq, gNm_eq, gNl_nil, gTp_tup, R.bind_ok, if_true, gs_nx, gs_bk, gs_ct, gs_seq, thenQ_nx, thenQ_rt, thenQ_bk, thenQ_ct, thenQ_xc, gs_ret, gs_expr, gs_if, gs_asg, gs_par2, gs_par3, gs_aug, retQ_rt, retQ_nx, retQ_xc, gs_for, gs_while, turnQ_nx, turnQ_ct, turnQ_bk, turnQ_rt, turnQ_xc, goO_some, goV_some, goO_none, goV_none, goO_ite, goV_ite, goO_map, goV_map, goV_bind, Bool.cond_decide, cond_true, cond_false, Bool.cond_not, startD, List.map_cons, List.map_nil, List.length_cons, List.length_nil, List.replicate_succ, List.replicate_zero, List.cons_append, List.nil_append, List.append_nil, Nat.reduceSub, Nat.reduceAdd, List.getElem?_cons_zero, List.getElem?_cons_succ, List.set_cons_zero, List.set_cons_succ, Nat.zero_add, true_and, and_true, true_or, or_true, opIx, lstD, e]
    exact rest _
  · exact rest z
theorem hand_ok : HandSpec (runF 4 sh_hand) := handz_ok 0
end G
namespace V
open PySem L2 G
/-- the hand that draws -/
def vTake : CallV → List U → W U := fun _ us => match us with
  | [.hnd, .int m] => if 0 < m ∧ m < 1073741824 then .pick m.toNat fun i => .ret (.int i) else .fail
  | _ => .fail
theorem go_ok_of {r : R D} {P : D → Store → Prop} (h : Go r P NoE) : ∃ d st, r = .ok d st ∧ P d st := by
  cases r with
  | ok d st => exact ⟨d, st, rfl, h⟩
  | exc e st => exact h.elim
  | fail => exact h.elim
theorem take_S {C : Nat} (hC : 1 ≤ C) : FnS (CF * C) (runF 5 sh_take) (vTake vc) := fun w ds us Q X gd r hR q => by
  unfold vTake at q
  split at q
  · rename_i m
    split at q
    · rename_i hm
      obtain ⟨d, d2, rfl, h, h'⟩ := dens2 r
      cases h'
      cases h with | hnd hk => ?_
      rename_i n
      obtain ⟨g, md, c, e, h3, hc⟩ := gd.hd n hk
      have cfp : 1 ≤ CF * C := Nat.mul_le_mul (show 1 ≤ CF from by have := CF_pos 1; rwa [Nat.pow_one] at this) hC
      have hn := gd.lt n (by rw [hk]; decide)
      have hc2 : c < 2 ^ 300001 := by
        have : (2 : Nat) ^ 300001 = 2 * 2 ^ 300000 := by rw [show (300001 : Nat) = 300000 + 1 from rfl, Nat.pow_succ, Nat.mul_comm]
        unfold Nmax at hc
        rw [this]
        generalize (2 : Nat) ^ 300000 = p at hc
        omega
      obtain ⟨d, st', e1, ⟨k, rfl, k0, k1⟩, ⟨gi, mi, ci, e2, j1, j2, j3, j4, j5⟩, f⟩ := go_ok_of (take_ok n m w.st g md c e (by omega) (by omega) (by omega) (by omega) (by simpa using hc2) hm.1 hm.2)
      obtain ⟨g', rfl⟩ : ∃ x : Nat, gi = x := ⟨gi.toNat, by omega⟩
      obtain ⟨md', rfl⟩ : ∃ x : Nat, mi = x := ⟨mi.toNat, by omega⟩
      obtain ⟨c', rfl⟩ : ∃ x : Nat, ci = x := ⟨ci.toNat, by omega⟩
      rw [e1]
      have kp : ∀ j, j < w.st.length → j ≠ n → st'[j]? = w.st[j]? := fun j hj hne => f.keep j hj hne
      have le := f.le
      refine ⟨⟨w.K, st', w.R - 1⟩, rfl, ⟨fun j hj => ?_, fun j hj => ?_, ?_⟩, ⟨le, ⟨fun j hj => ⟨hj, kp j (gd.lt j (by rw [hj]; decide)) (by rintro rfl; rw [hk] at hj; cases hj)⟩, fun j hj => hj⟩, fun j hj h1 _ => ⟨h1, kp j hj (by rintro rfl; rw [hk] at h1; cases h1)⟩, ?_⟩, .int k, .int k, ?_⟩
      all_goals clear hc2
      · by_cases hjn : j = n
        · subst hjn
          exact ⟨g', md', c', e2, by omega, by show c' + (w.R - 1) ≤ Nmax; omega⟩
        · obtain ⟨g1, m1, c1, e3, h4, h5⟩ := gd.hd j hj
          refine ⟨g1, m1, c1, ?_, h4, by show c1 + (w.R - 1) ≤ Nmax; omega⟩
          unfold lstAt at e3 ⊢
          rw [kp j (gd.lt j (by rw [show w.K j = .hd from hj]; decide)) hjn]
          exact e3
      · exact Nat.lt_of_lt_of_le (gd.lt j hj) le
      · have := gd.mx
        show w.R - 1 ≤ Nmax
        omega
      · show w.R ≤ w.R - 1 + CF * C
        omega
      · have := q k.toNat (by omega)
        dsimp only [ok_ret] at this
        rwa [Int.toNat_of_nonneg k0] at this
    · exact q.elim
  · exact q.elim
def vHand : CallV → List U → W U := fun _ us => match us with
  | [.scr ns, .int k] => if 0 ≤ k ∧ k ≤ 100 then .ret .hnd else .fail
  | _ => .fail
theorem hand_S {C : Nat} : FnS (CF * C) (runF 4 sh_hand) (vHand vc) := fun w ds us Q X gd r hR q => by
  unfold vHand at q
  split at q
  · rename_i ns k
    split at q
    · rename_i hk
      obtain ⟨d, d2, rfl, h, h'⟩ := dens2 r
      cases h'; cases h
      obtain ⟨kn, rfl⟩ : ∃ kn : Nat, k = kn := ⟨k.toNat, by omega⟩
      obtain ⟨d, st', e1, n, rfl, rfl, ⟨g, m, c, e2, h1, h2, h3, h4, h5⟩, f⟩ := go_ok_of (hand_ok ns kn w.st (by omega))
      rw [e1]
      have le := f.le
      have hlt := lstAt_lt e2
      have kp : ∀ j, j < w.st.length → st'[j]? = w.st[j]? := fun j hj => f.keep j hj (fun z => z)
      obtain ⟨gn, rfl⟩ : ∃ gn : Nat, g = gn := ⟨g.toNat, by omega⟩
      obtain ⟨mn, rfl⟩ : ∃ gn : Nat, m = gn := ⟨m.toNat, by omega⟩
      obtain ⟨cn, rfl⟩ : ∃ gn : Nat, c = gn := ⟨c.toNat, by omega⟩
      have hkd : ∀ j, (fun j => if j = w.st.length then Kd.hd else w.K j) j = .hd → j = w.st.length ∨ (j ≠ w.st.length ∧ w.K j = .hd) := fun j hj => by
        dsimp only at hj
        split at hj
        · exact .inl (by assumption)
        · exact .inr ⟨by assumption, hj⟩
      refine ⟨⟨fun j => if j = w.st.length then .hd else w.K j, st', w.R⟩, rfl, ⟨fun j hj => ?_, fun j hj => ?_, gd.mx⟩, ⟨le, ⟨fun j hj => ?_, fun j hj => ?_⟩, fun j hj h1 _ => ?_, ?_⟩, .hnd, .hnd (by simp), q⟩
      · rcases hkd j hj with rfl | ⟨hne, hj⟩
        · have := gd.mx
          exact ⟨gn, mn, cn, e2, by omega, by show cn + w.R ≤ Nmax; omega⟩
        · obtain ⟨g1, m1, c1, e3, h4, h5⟩ := gd.hd j hj
          refine ⟨g1, m1, c1, ?_, h4, h5⟩
          unfold lstAt at e3 ⊢
          rw [kp j (gd.lt j (by rw [hj]; decide))]
          exact e3
      · by_cases hjn : j = w.st.length
        · rw [hjn]; exact hlt
        · have : w.K j ≠ .ow := by
            dsimp only at hj
            rwa [if_neg hjn] at hj
          exact Nat.lt_of_lt_of_le (gd.lt j this) le
      · have hl := gd.lt j (by rw [hj]; decide)
        exact ⟨by dsimp only; rw [if_neg (by omega)]; exact hj, kp j hl⟩
      · have hl := gd.lt j (by rw [hj]; decide)
        dsimp only; rw [if_neg (by omega)]; exact hj
      · exact ⟨by dsimp only; rw [if_neg (by omega)]; exact h1, kp j hj⟩
      · show w.R ≤ w.R + CF * C
        omega
    · exact q.elim
  · exact q.elim
end V

/-! V10: the rest of the rules. -/
namespace V
open PySem L2 G
section
variable {α β γ δ Sn Sb S S1 S2 T T1 T2 T3 : Type} {base C c ca cb cc ci c1 c2 : Nat} {υ υ1 ex : Fr} {a b : ME} {m n : G.SS} {en : Sn → Fr} {eb : Sb → Fr} {g g1 g2 : Nat} {w w' : Wd}
def uIAdd : U → U → W U
  | .int i, .int j => .ret (.int (i + j))
  | .str a, .str b => need (a.length + b.length ≤ sizeLine) (.str (a ++ b))
  | _, _ => .fail
theorem uIAdd_ok {w : Wd} {dx dy : D} {x y : U} (g : Good w) (hx : Den w.K w.st dx x) (hy : Den w.K w.st dy y) : OpOk w (opIAdd dx dy w.st) (uIAdd x y) := by
  unfold uIAdd; split
  · cases hx; cases hy; exact opok_ret g (.int _)
  · cases hx; cases hy; exact opok_need g (fun h => if_pos h) fun h => .str (by rw [str_app_len]; exact h)
  · exact opok_fail
def uISub : U → U → W U
  | .int i, .int j => .ret (.int (i - j))
  | _, _ => .fail
theorem uISub_ok {w : Wd} {dx dy : D} {x y : U} (g : Good w) (hx : Den w.K w.st dx x) (hy : Den w.K w.st dy y) : OpOk w (opISub dx dy w.st) (uISub x y) := by
  unfold uISub; split
  · cases hx; cases hy; exact opok_ret g (.int _)
  · exact opok_fail
theorem ss_asgX' {t : MG} {i : Nat} {Ea : (U × List U → W U) → W U} {en : U × List U → Fr} {en1 : U × List U → Unit → Fr} (hx : FrLe ex υ) (h : SX base C c a υ i Ea)
    (ht : ∀ p : U × List U, STG (β := U) base t (υ.set i (some (.lst p.2))) p.1 (fun f => f ()) (en1 p)) (he : ∀ x s, en1 x s = en x) :
    SS base C c (sAsg a t) υ ex en eb fun nx _ _ => Ea nx := fun w σ nx bk ct Q X gd hb F hR q => by
  have h1 := h w σ _ Q X gd F hR q
  unfold sAsg G.eb
  generalize a σ w.st = r at h1 ⊢
  cases r with
  | fail => exact h1.elim
  | exc x st =>
    obtain ⟨w', y, rfl, g', e', F', x1, z⟩ := h1
    exact ⟨w', y, rfl, g', e', F'.le hx, x1, z⟩
  | ok d st =>
    obtain ⟨w', rfl, g', e, p, r, F', q'⟩ := h1
    obtain ⟨σ2, s, e2, F2, q2⟩ := ht p w' σ d (fun _ => nx p) Q X g' F' r q'
    dsimp only
    rw [e2]
    exact ⟨w', p, rfl, g', e, by rw [← he p s]; exact F2, q2⟩
theorem ss_asgX2 {t : MG} {i : Nat} {Ea : (U × List U → W U) → W U} {T : U × List U → (S → W U) → W U} {en : (U × List U) × S → Fr} {en1 : U × List U → S → Fr} (hx : FrLe ex υ) (h : SX base C c a υ i Ea)
    (ht : ∀ p : U × List U, STG base t (υ.set i (some (.lst p.2))) p.1 (T p) (en1 p)) (he : ∀ x s, en1 x s = en (x, s)) :
    SS base C c (sAsg a t) υ ex en eb fun nx _ _ => Ea fun p => T p fun s => nx (p, s) := fun w σ nx bk ct Q X gd hb F hR q => by
  have h1 := h w σ _ Q X gd F hR q
  unfold sAsg G.eb
  generalize a σ w.st = r at h1 ⊢
  cases r with
  | fail => exact h1.elim
  | exc x st =>
    obtain ⟨w', y, rfl, g', e', F', x1, z⟩ := h1
    exact ⟨w', y, rfl, g', e', F'.le hx, x1, z⟩
  | ok d st =>
    obtain ⟨w', rfl, g', e, p, r, F', q'⟩ := h1
    obtain ⟨σ2, s, e2, F2, q2⟩ := ht p w' σ d (fun s => nx (p, s)) Q X g' F' r q'
    dsimp only
    rw [e2]
    exact ⟨w', (p, s), rfl, g', e, by rw [← he]; exact F2, q2⟩
end
end V

/-! S1: runs by values: walks, comprehensions, loops; data that is shown and compared. No program in sight. -/
namespace V
open PySem G

section
variable {α β γ S : Type} {Q : β → Prop} {X : UX → Prop}
theorem W.Ok.bnd {w : W α} {f : α → W β} {P : α → Prop} (h : w.Ok P NoX) (q : ∀ a, P a → (f a).Ok Q X) : (w.bind f).Ok Q X := by
  rw [ok_bind]
  exact h.to q
theorem ok_ite {p : Prop} [Decidable p] {a b : W β} : (if p then a else b).Ok Q X ↔ (p → a.Ok Q X) ∧ (¬ p → b.Ok Q X) := by
  by_cases h : p <;> simp [h]
theorem ite_pos_eq {p : Prop} [Decidable p] {a b : W β} (h : p) : (if p then a else b) = a := if_pos h
/-! comprehensions -/
theorem wLc_pure {b : U → W (Option U)} {o : U → Option U} : ∀ {xs : List U}, (∀ x ∈ xs, b x = .ret (o x)) → wLc xs b = .ret (xs.filterMap o)
  | [], _ => rfl
  | x :: xs, h => by
    unfold wLc
    rw [h x (by simp), wLc_pure (xs := xs) fun y hy => h y (by simp [hy])]
    simp only [tot_ret, bind_ret, List.filterMap_cons]
    cases o x <;> rfl
theorem wLc_map {b : U → W (Option U)} {g : U → U} {xs : List U} (h : ∀ x ∈ xs, b x = .ret (some (g x))) : wLc xs b = .ret (xs.map g) := by
  rw [wLc_pure (o := fun x => some (g x)) h]
  congr 1
  simp
/-- over things that stand for others -/
theorem wLc_mapE {τ : Type} {b : U → W (Option U)} {e : τ → U} {g : τ → U} {ts : List τ} (h : ∀ t ∈ ts, b (e t) = .ret (some (g t))) : wLc (ts.map e) b = .ret (ts.map g) := by
  induction ts with
  | nil => rfl
  | cons t ts ih =>
    rw [List.map_cons, List.map_cons]
    unfold wLc
    rw [h t (by simp), ih fun y hy => h y (by simp [hy])]
    rfl
theorem wLc_filE {τ σ : Type} {b : U → W (Option U)} {e : τ → U} {o : τ → Option σ} {e' : σ → U} {ts : List τ} (h : ∀ t ∈ ts, b (e t) = .ret ((o t).map e')) : wLc (ts.map e) b = .ret ((ts.filterMap o).map e') := by
  induction ts with
  | nil => rfl
  | cons t ts ih =>
    rw [List.map_cons]
    unfold wLc
    rw [h t (by simp), ih fun y hy => h y (by simp [hy]), List.filterMap_cons]
    cases o t <;> rfl
/-- each item drawn so -/
theorem wLc_ok {b : U → W (Option U)} {P : U → Prop} {Q : List U → Prop} : ∀ {xs : List U}, (∀ x ∈ xs, (b x).Ok (fun o => ∃ y, o = some y ∧ P y) NoX) → (∀ ys : List U, ys.length = xs.length → (∀ y ∈ ys, P y) → Q ys) → (wLc xs b).Ok Q X
  | [], _, q => q [] rfl (by simp)
  | x :: xs, h, q => by
    unfold wLc
    rw [ok_bind, ok_tot]
    refine (h x (by simp)).mono (fun o ⟨y, ho, hy⟩ => ?_) fun _ z => z
    subst ho
    rw [ok_bind]
    exact wLc_ok (xs := xs) (fun z hz => h z (by simp [hz])) fun ys hl hp => q (y :: ys) (by simp [hl]) (by
      intro z hz
      rcases List.mem_cons.mp hz with rfl | hz
      · exact hy
      · exact hp z hz)
inductive Pairs {α β : Type} (P : α → β → Prop) : List α → List β → Prop where
  | nil : Pairs P [] []
  | cons {a : α} {b : β} {l : List α} {m : List β} : P a b → Pairs P l m → Pairs P (a :: l) (b :: m)
theorem Pairs.length {P : α → β → Prop} {l : List α} {m : List β} (h : Pairs P l m) : l.length = m.length := by
  induction h with
  | nil => rfl
  | cons _ _ ih => simp [ih]
theorem wLc_okP {τ : Type} {e : τ → U} {b : U → W (Option U)} {P : τ → U → Prop} {Q : List U → Prop} : ∀ {ts : List τ}, (∀ t ∈ ts, (b (e t)).Ok (fun o => ∃ y, o = some y ∧ P t y) NoX) → (∀ ys : List U, Pairs P ts ys → Q ys) → (wLc (ts.map e) b).Ok Q X
  | [], _, q => q [] .nil
  | x :: xs, h, q => by
    rw [List.map_cons]
    unfold wLc
    rw [ok_bind, ok_tot]
    refine (h x (by simp)).mono (fun o ⟨y, ho, hy⟩ => ?_) fun _ z => z
    subst ho
    rw [ok_bind]
    exact wLc_okP (ts := xs) (fun z hz => h z (by simp [hz])) fun ys hp => q (y :: ys) (.cons hy hp)
theorem unmap {α τ : Type} {e : τ → α} {P : τ → Prop} : ∀ {ys : List α}, (∀ y ∈ ys, ∃ t, y = e t ∧ P t) → ∃ ts : List τ, ys = ts.map e ∧ ∀ t ∈ ts, P t
  | [], _ => ⟨[], rfl, by simp⟩
  | y :: ys, h => by
    obtain ⟨ts, e1, h1⟩ := unmap (ys := ys) fun z hz => h z (by simp [hz])
    obtain ⟨t, e2, h2⟩ := h y (by simp)
    exact ⟨t :: ts, by rw [e1, e2]; rfl, fun z hz => by
      rcases List.mem_cons.mp hz with rfl | hz
      · exact h2
      · exact h1 z hz⟩
/-! loops -/
@[simp] theorem wFor_nil {s : S} {b : U → S → (S → W β) → (S → W β) → W β} {k : S → W β} : wFor [] s b k = k s := rfl
theorem wFor_cons {x : U} {xs : List U} {s : S} {b : U → S → (S → W β) → (S → W β) → W β} {k : S → W β} : wFor (x :: xs) s b k = b x s (fun s' => wFor xs s' b k) k := rfl
/-- what holds ahead of each turn -/
theorem wFor_inv {τ : Type} {e : τ → U} {b : U → S → (S → W β) → (S → W β) → W β} {k : S → W β} (I : List τ → S → Prop) (h0 : ∀ s, I [] s → (k s).Ok Q X)
    (h1 : ∀ t ts s, I (t :: ts) s → ∀ nx : S → W β, (∀ s', I ts s' → (nx s').Ok Q X) → (b (e t) s nx k).Ok Q X) : ∀ (ts : List τ) (s : S), I ts s → (wFor (ts.map e) s b k).Ok Q X
  | [], s, h => h0 s h
  | t :: ts, s, h => h1 t ts s h _ fun s' h' => wFor_inv I h0 h1 ts s' h'
/-- nothing is carried -/
theorem wFor_all {b : U → Unit → (Unit → W β) → (Unit → W β) → W β} {k : Unit → W β} {xs : List U} (h0 : (k ()).Ok Q X) (h1 : ∀ x ∈ xs, ∀ nx : Unit → W β, (nx ()).Ok Q X → (b x () nx k).Ok Q X) : (wFor xs () b k).Ok Q X := by
  induction xs with
  | nil => exact h0
  | cons x xs ih => exact h1 x (by simp) _ (ih fun y hy => h1 y (by simp [hy]))
/-- each turn puts something behind -/
theorem wFor_app {τ : Type} {e : τ → U} {g : τ → List U} {b : U → List U → (List U → W β) → (List U → W β) → W β} {k : List U → W β} : ∀ {ts : List τ} {s : List U},
    (∀ t ∈ ts, ∀ s nx, (s : List U).length + (g t).length ≤ sizeLine → b (e t) s nx k = nx (s ++ g t)) → s.length + (ts.flatMap g).length ≤ sizeLine → wFor (ts.map e) s b k = k (s ++ ts.flatMap g)
  | [], s, _, _ => by simp
  | t :: ts, s, h, hl => by
    rw [List.flatMap_cons, List.length_append] at hl
    rw [List.map_cons, wFor_cons, h t (by simp) s _ (by omega), wFor_app (ts := ts) (fun u hu => h u (by simp [hu])) (by rw [List.length_append]; omega), List.flatMap_cons, List.append_assoc]
/-- a while, turn by turn -/
theorem wWhile_succ {n : Nat} {s : S} {b : S → (S → W β) → (S → W β) → W β} {k : S → W β} : wWhile (n + 1) s b k = b s (fun s' => wWhile n s' b k) k := rfl
theorem wWhile_inv {b : S → (S → W β) → (S → W β) → W β} {k : S → W β} (I : S → Prop) (μ : S → Nat) (h1 : ∀ s, I s → ∀ nx : S → W β, (∀ s', I s' → μ s' < μ s → (nx s').Ok Q X) → (b s nx k).Ok Q X) : ∀ (n : Nat) (s : S), I s → μ s < n → (wWhile n s b k).Ok Q X
  | 0, s, _, h => by omega
  | n + 1, s, hi, h => h1 s hi _ fun s' h' hm => wWhile_inv I μ h1 n s' h' (by omega)
end

/-! ### data -/
mutual
def U.py : U → PyData
  | .bl b => .bool b
  | .int i => .int i
  | .str s => .str s
  | .tup xs => .tuple (pys xs)
  | .lst xs => .list (pys xs)
  | .dct _ => .dict []
  | _ => .none
def pys : List U → List PyData
  | [] => []
  | u :: us => u.py :: pys us
end
def strLow (s : Str) : Bool := s.cps.toList.all fun c => decide (c < 128)
mutual
/-- data: its texts of low signs, its numbers short, lists within lists so deep at most -/
def U.ok : U → Nat → Bool
  | .non, _ => true
  | .bl _, _ => true
  | .int i, _ => decide (i.natAbs < 1000000000000000000000000)
  | .str s, _ => strLow s
  | .tup xs, j => oks xs j
  | .lst xs, j => match j with
    | 0 => false
    | j + 1 => oks xs j
  | _, _ => false
def oks : List U → Nat → Bool
  | [], _ => true
  | u :: us, j => u.ok j && oks us j
end
mutual
def U.wt : U → Nat
  | .int _ => 80
  | .str s => s.length
  | .tup xs => wts xs
  | .lst xs => wts xs
  | _ => 0
def wts : List U → Nat
  | [] => 0
  | u :: us => u.wt + 1 + wts us
end
mutual
def U.dp : U → Nat
  | .tup xs => dps xs + 1
  | .lst xs => dps xs + 1
  | .dct _ => 1
  | _ => 0
def dps : List U → Nat
  | [] => 0
  | u :: us => max u.dp (dps us)
end
/-- data that may be compared and shown: signs, short numbers, so deep at most -/
structure Sm (p : PyData) (w k : Nat) : Prop where
  lay : p.canLay0 = true
  shw : p.showable = true
  short : p.intsShort 25 = true
  dp : p.depth ≤ k
  wt : p.weight ≤ w
structure SmA (ps : List PyData) (w k : Nat) : Prop where
  lay : PyData.canLayAll0 ps = true
  shw : PyData.showableAll ps = true
  short : PyData.intsShortAll 25 ps = true
  dp : PyData.depthAll ps ≤ k
  wt : PyData.weightAll ps ≤ w
theorem SmA.cons {p : PyData} {ps : List PyData} {w k w' k' : Nat} (h : Sm p w k) (h' : SmA ps w' k') : SmA (p :: ps) (w + 1 + w') (max k k') :=
  ⟨by unfold PyData.canLayAll0; rw [h.lay, h'.lay]; rfl, by unfold PyData.showableAll; rw [h.shw, h'.shw]; rfl, by unfold PyData.intsShortAll; rw [h.short, h'.short]; rfl, by unfold PyData.depthAll; have := h.dp; have := h'.dp; omega, by unfold PyData.weightAll; have := h.wt; have := h'.wt; omega⟩
theorem Sm.int {i : Int} (h : i.natAbs < 1000000000000000000000000) : Sm (.int i) 80 0 := by
  have hl : i.natAbs.log2 < 80 := by
    by_cases z : i.natAbs = 0
    · rw [z]; decide
    · exact (Nat.log2_lt z).mpr (Nat.lt_trans h (by decide))
  refine ⟨by unfold PyData.canLay0; rfl, by unfold PyData.showable; simp only [decide_eq_true_eq]; omega, ?_, by unfold PyData.depth; omega, ?_⟩
  · unfold PyData.intsShort PyData.shown
    simp only [decide_eq_true_eq]
    have := PySem.int_text_length_le10 (a := i) (k := 24) (by decide) h
    show (Str.ofString (toString i)).length ≤ 25
    rw [PySem.ofString_length]
    exact this
  · unfold PyData.weight
    split <;> omega
theorem Sm.str {s : Str} (h : strLow s = true) : Sm (.str s) s.length 0 := by
  refine ⟨?_, by unfold PyData.showable; rfl, by unfold PyData.intsShort; rfl, by unfold PyData.depth; omega, by unfold PyData.weight; exact Nat.le_refl _⟩
  unfold PyData.canLay0 PyData.strOk
  rw [← Array.all_toList]
  rw [List.all_eq_true]
  intro c hc
  have := List.all_eq_true.mp h c hc
  simp only [decide_eq_true_eq] at this ⊢
  omega
mutual
theorem ok_py : ∀ (u : U) (j : Nat), u.ok j = true → uP u j = some u.py ∧ Sm u.py u.wt u.dp
  | .non, _, _ => ⟨rfl, by unfold U.py; exact ⟨by unfold PyData.canLay0; rfl, by unfold PyData.showable; rfl, by unfold PyData.intsShort; rfl, by unfold PyData.depth; omega, by unfold PyData.weight; omega⟩⟩
  | .bl b, _, _ => ⟨rfl, by unfold U.py; exact ⟨by unfold PyData.canLay0; rfl, by unfold PyData.showable; rfl, by unfold PyData.intsShort; rfl, by unfold PyData.depth; omega, by unfold PyData.weight; omega⟩⟩
  | .int i, _, h => ⟨rfl, Sm.int (by simpa [U.ok] using h)⟩
  | .str s, _, h => ⟨rfl, Sm.str (by simpa [U.ok] using h)⟩
  | .tup xs, j, h => by
    obtain ⟨a, b⟩ := oks_py xs j (by simpa [U.ok] using h)
    refine ⟨by simp only [uP, a, U.py, Option.map_some], ?_⟩
    simp only [U.py, U.wt, U.dp]
    exact ⟨by unfold PyData.canLay0; exact b.lay, by unfold PyData.showable; exact b.shw, by unfold PyData.intsShort; exact b.short, by unfold PyData.depth; have := b.dp; omega, by unfold PyData.weight; exact b.wt⟩
  | .lst xs, 0, h => by simp [U.ok] at h
  | .lst xs, j + 1, h => by
    obtain ⟨a, b⟩ := oks_py xs j (by simpa [U.ok] using h)
    refine ⟨by simp only [uP, a, U.py, Option.map_some], ?_⟩
    simp only [U.py, U.wt, U.dp]
    exact ⟨by unfold PyData.canLay0; exact b.lay, by unfold PyData.showable; exact b.shw, by unfold PyData.intsShort; exact b.short, by unfold PyData.depth; have := b.dp; omega, by unfold PyData.weight; exact b.wt⟩
  | .scr _, _, h => by simp [U.ok] at h
  | .dct _, _, h => by simp [U.ok] at h
  | .st _, _, h => by simp [U.ok] at h
  | .obj _ _, _, h => by simp [U.ok] at h
  | .fn _, _, h => by simp [U.ok] at h
  | .ty _, _, h => by simp [U.ok] at h
  | .hnd, _, h => by simp [U.ok] at h
theorem oks_py : ∀ (us : List U) (j : Nat), oks us j = true → uPs us j = some (pys us) ∧ SmA (pys us) (wts us) (dps us)
  | [], _, _ => ⟨rfl, ⟨by simp [pys, PyData.canLayAll0], by simp [pys, PyData.showableAll], by simp [pys, PyData.intsShortAll], by simp [pys, PyData.depthAll], by simp [pys, PyData.weightAll]⟩⟩
  | u :: us, j, h => by
    simp only [oks, Bool.and_eq_true] at h
    obtain ⟨a, b⟩ := ok_py u j h.1
    obtain ⟨c, d⟩ := oks_py us j h.2
    refine ⟨by simp only [uPs, a, c, pys], ?_⟩
    simp only [pys, wts, dps]
    exact SmA.cons b d
end
theorem noDict_of {p : PyData} (h : p.canLay0 = true) : p.hasDict = false := PyData.hasDict_of_canLay p h
theorem Sm.shown {p : PyData} {w k : Nat} (h : Sm p w k) (hw : w ≤ 600000) (hk : k ≤ 120) : shownOk p = true := by
  have h2 := PyData.shown_le 25 (by decide) p (PyData.leavesShort_of_canLay0 25 p h.lay h.short)
  have h3 := h.wt
  have h4 := h.dp
  unfold shownOk
  rw [h.shw]
  simp only [Bool.true_and, Bool.and_eq_true, decide_eq_true_eq]
  refine ⟨by omega, ?_⟩
  have e : sizeLine = 16777216 := rfl
  rw [e]
  omega
/-- what is shown -/
def U.sh (u : U) : Str := u.py.shown
theorem uRepr_data {u : U} (h : u.ok 8 = true) (hw : u.wt ≤ 600000) (hd : u.dp ≤ 120) : uRepr [u] = .ret (.str u.sh) := by
  obtain ⟨a, b⟩ := ok_py u 8 h
  have : uR u = some u.py := by
    unfold uR uPy
    rw [a]
    simp only [noDict_of b.lay]
    rfl
  unfold uRepr
  simp only [this]
  exact need_pos (b.shown hw hd)
/-- equality of data -/
def U.eqv (x y : U) : Bool := PyData.eqv x.py y.py
theorem uEqv_data {x y : U} (hx : x.ok 8 = true) (hy : y.ok 8 = true) (dx : x.dp ≤ 64) (dy : y.dp ≤ 64) : V.uEqv x y = some (x.eqv y) := by
  obtain ⟨a, b⟩ := ok_py x 8 hx
  obtain ⟨c, d⟩ := ok_py y 8 hy
  have sh : ∀ {p : PyData} {w k : Nat}, Sm p w k → k ≤ 64 → SeqAt.shaped p = true := fun {p w k} h hk => by
    unfold SeqAt.shaped
    rw [h.lay, Bool.true_and]
    have := h.dp
    simp only [decide_eq_true_eq]
    omega
  unfold V.uEqv uPy
  rw [a, c]
  simp only [sh b dx, sh d dy]
  rfl
theorem uEq_data {neg : Bool} {x y : U} (hx : x.ok 8 = true) (hy : y.ok 8 = true) (dx : x.dp ≤ 64) (dy : y.dp ≤ 64) : uEq neg x y = .ret (.bl (x.eqv y != neg)) := by
  unfold uEq
  split
  · unfold U.eqv U.py PyData.eqv
    rfl
  · rw [uEqv_data hx hy dx dy]
    rfl
mutual
/-- no truths, no dicts within: such data are alike just where they are one -/
def U.nb : U → Bool
  | .non => true
  | .int _ => true
  | .str _ => true
  | .tup xs => nbs xs
  | .lst xs => nbs xs
  | _ => false
def nbs : List U → Bool
  | [] => true
  | u :: us => u.nb && nbs us
end
mutual
theorem eqv_refl : ∀ (x : U), x.nb = true → PyData.eqv x.py x.py = true
  | .non, _ => by simp [U.py, PyData.eqv]
  | .int i, _ => by simp [U.py, PyData.eqv]
  | .str s, _ => by simp [U.py, PyData.eqv]
  | .tup xs, h => by simp only [U.py, PyData.eqv]; exact eqvs_refl xs (by simpa [U.nb] using h)
  | .lst xs, h => by simp only [U.py, PyData.eqv]; exact eqvs_refl xs (by simpa [U.nb] using h)
  | .bl _, h => by simp [U.nb] at h
  | .scr _, h => by simp [U.nb] at h
  | .dct _, h => by simp [U.nb] at h
  | .st _, h => by simp [U.nb] at h
  | .obj _ _, h => by simp [U.nb] at h
  | .fn _, h => by simp [U.nb] at h
  | .ty _, h => by simp [U.nb] at h
  | .hnd, h => by simp [U.nb] at h
theorem eqvs_refl : ∀ (xs : List U), nbs xs = true → PyData.eqvAll (pys xs) (pys xs) = true
  | [], _ => by simp [pys, PyData.eqvAll]
  | x :: xs, h => by
    simp only [nbs, Bool.and_eq_true] at h
    simp only [pys, PyData.eqvAll, eqv_refl x h.1, eqvs_refl xs h.2, Bool.and_self]
end
mutual
theorem eqv_eq : ∀ (x y : U), x.nb = true → y.nb = true → PyData.eqv x.py y.py = true → x = y
  | .non, y, _, hy, e => by cases y <;> simp_all [U.nb, U.py, PyData.eqv]
  | .int i, y, _, hy, e => by cases y <;> simp_all [U.nb, U.py, PyData.eqv]
  | .str s, y, _, hy, e => by cases y <;> simp_all [U.nb, U.py, PyData.eqv]
  | .tup xs, y, hx, hy, e => by
    cases y with
    | tup ys =>
      simp only [U.py, PyData.eqv] at e
      rw [eqvs_eq xs ys (by simpa [U.nb] using hx) (by simpa [U.nb] using hy) e]
    | _ => simp_all [U.nb, U.py, PyData.eqv]
  | .lst xs, y, hx, hy, e => by
    cases y with
    | lst ys =>
      simp only [U.py, PyData.eqv] at e
      rw [eqvs_eq xs ys (by simpa [U.nb] using hx) (by simpa [U.nb] using hy) e]
    | _ => simp_all [U.nb, U.py, PyData.eqv]
  | .bl _, _, h, _, _ => by simp [U.nb] at h
  | .scr _, _, h, _, _ => by simp [U.nb] at h
  | .dct _, _, h, _, _ => by simp [U.nb] at h
  | .st _, _, h, _, _ => by simp [U.nb] at h
  | .obj _ _, _, h, _, _ => by simp [U.nb] at h
  | .fn _, _, h, _, _ => by simp [U.nb] at h
  | .ty _, _, h, _, _ => by simp [U.nb] at h
  | .hnd, _, h, _, _ => by simp [U.nb] at h
theorem eqvs_eq : ∀ (xs ys : List U), nbs xs = true → nbs ys = true → PyData.eqvAll (pys xs) (pys ys) = true → xs = ys
  | [], ys, _, _, e => by cases ys <;> simp_all [pys, PyData.eqvAll]
  | x :: xs, ys, hx, hy, e => by
    cases ys with
    | nil => simp [pys, PyData.eqvAll] at e
    | cons y ys =>
      simp only [nbs, Bool.and_eq_true] at hx hy
      simp only [pys, PyData.eqvAll, Bool.and_eq_true] at e
      rw [eqv_eq x y hx.1 hy.1 e.1, eqvs_eq xs ys hx.2 hy.2 e.2]
end
theorem eqv_iff {x y : U} (hx : x.nb = true) (hy : y.nb = true) : x.eqv y = true ↔ x = y := ⟨eqv_eq x y hx hy, fun e => by subst e; exact eqv_refl x hx⟩
theorem eqv_self {x : U} (hx : x.nb = true) : x.eqv x = true := eqv_refl x hx
theorem eqv_ne {x y : U} (hx : x.nb = true) (hy : y.nb = true) (h : x ≠ y) : x.eqv y = false := by
  cases e : x.eqv y with
  | false => rfl
  | true => exact (h ((eqv_iff hx hy).mp e)).elim
/-! lists of data, one behind the other -/
theorem oks_app : ∀ (xs ys : List U) (j : Nat), oks (xs ++ ys) j = (oks xs j && oks ys j)
  | [], ys, j => by simp [oks]
  | x :: xs, ys, j => by simp [oks, oks_app xs ys j, Bool.and_assoc]
theorem wts_app : ∀ (xs ys : List U), wts (xs ++ ys) = wts xs + wts ys
  | [], ys => by simp [wts]
  | x :: xs, ys => by simp only [List.cons_append, wts, wts_app xs ys]; omega
theorem dps_app : ∀ (xs ys : List U), dps (xs ++ ys) = max (dps xs) (dps ys)
  | [], ys => by simp [dps]
  | x :: xs, ys => by simp only [List.cons_append, dps, dps_app xs ys]; omega
theorem nbs_app : ∀ (xs ys : List U), nbs (xs ++ ys) = (nbs xs && nbs ys)
  | [], ys => by simp [nbs]
  | x :: xs, ys => by simp [nbs, nbs_app xs ys, Bool.and_assoc]
theorem oks_iff : ∀ {xs : List U} {j : Nat}, oks xs j = true ↔ ∀ x ∈ xs, x.ok j = true
  | [], j => by simp [oks]
  | x :: xs, j => by simp [oks, oks_iff (xs := xs)]
theorem nbs_iff : ∀ {xs : List U}, nbs xs = true ↔ ∀ x ∈ xs, x.nb = true
  | [] => by simp [nbs]
  | x :: xs => by simp [nbs, nbs_iff (xs := xs)]
theorem wts_le {n : Nat} : ∀ {xs : List U}, (∀ x ∈ xs, x.wt ≤ n) → wts xs ≤ xs.length * (n + 1)
  | [], _ => by simp [wts]
  | x :: xs, h => by
    have h1 := h x (by simp)
    have h2 := wts_le (xs := xs) fun y hy => h y (by simp [hy])
    simp only [wts, List.length_cons, Nat.add_mul, Nat.one_mul]
    omega
theorem dps_le {n : Nat} : ∀ {xs : List U}, (∀ x ∈ xs, x.dp ≤ n) → dps xs ≤ n
  | [], _ => by simp [dps]
  | x :: xs, h => by
    have h1 := h x (by simp)
    have h2 := dps_le (xs := xs) fun y hy => h y (by simp [hy])
    simp only [dps]
    omega

/-! ### operations on known kinds -/
theorem uAdd_ii {i j : Int} : uAdd (.int i) (.int j) = .ret (.int (i + j)) := rfl
theorem uSub_ii {i j : Int} : uSub (.int i) (.int j) = .ret (.int (i - j)) := rfl
theorem uMod_ii {i j : Int} (h : 0 < j) : uMod (.int i) (.int j) = .ret (.int (i % j)) := need_pos h
theorem uDiv_ii {i j : Int} (h : 0 < j) (h2 : j < 1073741824) : uDiv (.int i) (.int j) = .ret (.int (i / j)) := need_pos ⟨h, h2⟩
theorem uMul_ii {i j : Int} (h : -(2 ^ 64) < i ∧ i < 2 ^ 64) : uMul (.int i) (.int j) = .ret (.int (i * j)) := need_pos (.inl (.inl h))
theorem uPow_ii {i j : Int} (h : 0 ≤ j ∧ (Builtin.Int.intBits i : Int) * j ≤ 2 ^ 27) : uPow (.int i) (.int j) = .ret (.int (i ^ j.toNat)) := need_pos h
theorem uMul_ti {xs : List U} {k : Int} (h : xs.length ≠ 0 ∧ 2 ≤ k ∧ k ≤ 1000 ∧ xs.length ≤ 1000) : uMul (.tup xs) (.int k) = .ret (.tup (List.replicate k.toNat xs).flatten) := need_pos h
theorem uMul_li {xs : List U} {k : Int} (h : -(2 ^ 63) ≤ k ∧ k < 2 ^ 63 ∧ xs.length * k.toNat ≤ sizeLine) : uMul (.lst xs) (.int k) = .ret (.lst (List.replicate k.toNat xs).flatten) := need_pos h
theorem uMul_si {xs : Str} {k : Int} (h : -(2 ^ 63) ≤ k ∧ k < 2 ^ 63 ∧ xs.length * k.toNat ≤ sizeLine) : uMul (.str xs) (.int k) = .ret (.str (strMul xs k)) := need_pos h
theorem uAdd_ss {a b : Str} (h : a.length + b.length ≤ sizeLine) : uAdd (.str a) (.str b) = .ret (.str (a ++ b)) := need_pos h
theorem uAdd_tt {a b : List U} (h : a.length + b.length ≤ sizeLine) : uAdd (.tup a) (.tup b) = .ret (.tup (a ++ b)) := need_pos h
theorem uAdd_ll {a b : List U} (h : a.length + b.length ≤ sizeLine) : uAdd (.lst a) (.lst b) = .ret (.lst (a ++ b)) := need_pos h
theorem uLt_ii {i j : Int} : uLt (.int i) (.int j) = .ret (.bl (decide (i < j))) := rfl
theorem uLe_ii {i j : Int} : uLe (.int i) (.int j) = .ret (.bl (decide (i ≤ j))) := rfl
theorem uGt_ii {i j : Int} : uGt (.int i) (.int j) = .ret (.bl (decide (j < i))) := rfl
theorem uGe_ii {i j : Int} : uGe (.int i) (.int j) = .ret (.bl (decide (j ≤ i))) := rfl
theorem uEq_ss {a b : Str} {neg : Bool} : uEq neg (.str a) (.str b) = .ret (.bl ((a == b) != neg)) := rfl
theorem shaped_flat {p : PyData} (h : p.canLay0 = true) (h2 : p.depth = 0) : SeqAt.shaped p = true := by
  unfold SeqAt.shaped
  rw [h, h2]
  rfl
theorem uEq_ii {i j : Int} {neg : Bool} : uEq neg (.int i) (.int j) = .ret (.bl ((i == j) != neg)) := by
  unfold uEq
  have : V.uEqv (.int i) (.int j) = some (i == j) := by
    unfold V.uEqv uPy uP
    simp only [shaped_flat (p := .int i) (by unfold PyData.canLay0; rfl) (by unfold PyData.depth; rfl), shaped_flat (p := .int j) (by unfold PyData.canLay0; rfl) (by unfold PyData.depth; rfl)]
    simp [PyData.eqv]
  simp only [this]
  rfl
theorem uEq_bb {i j : Bool} {neg : Bool} : uEq neg (.bl i) (.bl j) = .ret (.bl ((i == j) != neg)) := by
  unfold uEq
  have : V.uEqv (.bl i) (.bl j) = some (i == j) := by
    unfold V.uEqv uPy uP
    simp only [shaped_flat (p := .bool i) (by unfold PyData.canLay0; rfl) (by unfold PyData.depth; rfl), shaped_flat (p := .bool j) (by unfold PyData.canLay0; rfl) (by unfold PyData.depth; rfl)]
    simp [PyData.eqv]
  simp only [this]
  rfl
theorem uBl_bl {b : Bool} : uBl (.bl b) = .ret b := rfl
theorem uTru_bl {b : Bool} : uTru (.bl b) = .ret b := rfl
theorem uTru_lst {xs : List U} : uTru (.lst xs) = .ret (!xs.isEmpty) := rfl
theorem uTru_tup {xs : List U} : uTru (.tup xs) = .ret (!xs.isEmpty) := rfl
theorem uTru_non : uTru .non = .ret false := rfl
theorem uLen_lst {xs : List U} : uLen [.lst xs] = .ret (.int xs.length) := rfl
theorem uLen_tup {xs : List U} : uLen [.tup xs] = .ret (.int xs.length) := rfl
theorem uLen_scr {xs : List Int} : uLen [.scr xs] = .ret (.int xs.length) := rfl
theorem uLen_str {z : Str} (h : z.length ≤ sizeLine) : uLen [.str z] = .ret (.int z.length) := need_pos h
theorem uTuple_lst {xs : List U} : uTuple [.lst xs] = .ret (.tup xs) := rfl
theorem uTuple_tup {xs : List U} : uTuple [.tup xs] = .ret (.tup xs) := rfl
theorem uList_tup {xs : List U} : uList [.tup xs] = .ret (.lst xs) := rfl
theorem uList_lst {xs : List U} : uList [.lst xs] = .ret (.lst xs) := rfl
theorem uListL_tup {xs : List U} : uListL [.tup xs] = .ret xs := rfl
theorem uListL_lst {xs : List U} : uListL [.lst xs] = .ret xs := rfl
theorem uIter_lst {xs : List U} : uIter (.lst xs) = .ret xs := rfl
theorem uIter_tup {xs : List U} : uIter (.tup xs) = .ret xs := rfl
theorem uSeq_lst {xs : List U} : uSeq (.lst xs) = .ret xs := rfl
theorem uSeq_tup {xs : List U} : uSeq (.tup xs) = .ret xs := rfl
theorem uEnm_lst {xs : List U} : uEnm [.lst xs] = .ret (enumU xs) := rfl
theorem uEnm_tup {xs : List U} : uEnm [.tup xs] = .ret (enumU xs) := rfl
theorem uZip_lst {xs ys : List U} : uZip [.lst xs, .lst ys] = .ret (zipU xs ys) := rfl
theorem uZip_tup {xs ys : List U} : uZip [.tup xs, .tup ys] = .ret (zipU xs ys) := rfl
theorem uT2_tup {a b : U} : uT2 (.tup [a, b]) = .ret (a, b) := rfl
theorem uT3_tup {a b c : U} : uT3 (.tup [a, b, c]) = .ret (a, b, c) := rfl
theorem uIntO_int {i : Int} : uIntO (.int i) = .ret i := rfl
theorem uNeg_int {i : Int} : uNeg (.int i) = .ret (.int (-i)) := rfl
theorem uSl_tup {xs : List U} {lo hi : Option Int} : uSl (.tup xs) lo hi = .ret (.tup (cutF xs lo hi)) := rfl
theorem uSl_lst {xs : List U} {lo hi : Option Int} : uSl (.lst xs) lo hi = .ret (.lst (cutF xs lo hi)) := rfl
theorem uSl_str {z : Str} {lo hi : Option Int} (h : z.length ≤ sizeLine) : uSl (.str z) lo hi = .ret (.str (L2.cutS z lo hi)) := need_pos h
theorem uSl3_tup {xs : List U} {lo hi : Option Int} : uSl3 (.tup xs) lo hi (-1) = .ret (.tup (cutB xs lo hi)) := need_pos rfl
theorem uSl3_lst {xs : List U} {lo hi : Option Int} : uSl3 (.lst xs) lo hi (-1) = .ret (.lst (cutB xs lo hi)) := need_pos (.inr rfl)
theorem uRng1_nat {n : Nat} (h : n ≤ 16777216) : uRng1 [.int n] = .ret ((List.range n).map fun i : Nat => .int i) := by
  unfold uRng1
  simp only
  rw [need_pos ⟨by omega, by omega⟩]
  rfl
theorem uIx_ti {xs : List U} {i : Int} : uIx (.tup xs) (.int i) = ofO (L2.atI xs i) := rfl
theorem uIx_li {xs : List U} {i : Int} : uIx (.lst xs) (.int i) = ofO (L2.atI xs i) := rfl
theorem atI_ofNat {α : Type} {xs : List α} {i : Nat} : L2.atI xs (i : Int) = xs[i]? := by
  unfold L2.atI L2.ixN
  rw [if_pos (by omega)]
  by_cases h : i < xs.length
  · rw [if_pos (by omega)]; rfl
  · rw [if_neg (by omega)]
    have : xs[i]? = none := List.getElem?_eq_none (by omega)
    rw [this]; rfl
theorem atI_0 {α : Type} {x : α} {xs : List α} : L2.atI (x :: xs) 0 = some x := atI_ofNat (xs := x :: xs) (i := 0)
theorem atI_1 {α : Type} {x y : α} {xs : List α} : L2.atI (x :: y :: xs) 1 = some y := atI_ofNat (xs := x :: y :: xs) (i := 1)
theorem atI_2 {α : Type} {x y z : α} {xs : List α} : L2.atI (x :: y :: z :: xs) 2 = some z := atI_ofNat (xs := x :: y :: z :: xs) (i := 2)
/-! slices -/
theorem sIx_nat {n d k : Nat} : HT.sIx n d (some (k : Int)) = min k n := by
  unfold HT.sIx
  first
    | (simp; omega)
    | rfl
theorem cutF_from {α : Type} {xs : List α} {k : Nat} : cutF xs (some (k : Int)) none = xs.drop k := by
  unfold cutF
  rw [sIx_nat]
  have h2 : HT.sIx xs.length xs.length none = xs.length := rfl
  rw [h2]
  by_cases h : k ≤ xs.length
  · rw [Nat.min_eq_left h, List.take_of_length_le (by simp)]
  · rw [Nat.min_eq_right (by omega), List.drop_of_length_le (by omega : xs.length ≤ k)]
    simp
theorem cutF_to {α : Type} {xs : List α} {k : Nat} : cutF xs none (some (k : Int)) = xs.take k := by
  unfold cutF
  rw [sIx_nat]
  have h2 : HT.sIx xs.length 0 none = 0 := rfl
  rw [h2]
  simp only [List.drop_zero, Nat.sub_zero]
  by_cases h : k ≤ xs.length
  · rw [Nat.min_eq_left h]
  · rw [Nat.min_eq_right (by omega), List.take_of_length_le (Nat.le_refl _), List.take_of_length_le (by omega)]
theorem cutF_1 {α : Type} {x : α} {xs : List α} : cutF (x :: xs) (some 1) none = xs := cutF_from (xs := x :: xs) (k := 1)
theorem cutF_to1 {α : Type} {x : α} {xs : List α} : cutF (x :: xs) none (some 1) = [x] := cutF_to (xs := x :: xs) (k := 1)
/-! kinds -/
theorem isi_str {s : Str} {t : Ty} (h : t ≠ .non) : uIsi [.str s, .ty t] = .ret (.bl (Ty.str.sub t)) := if_neg h
theorem isi_tup {s : List U} {t : Ty} (h : t ≠ .non) : uIsi [.tup s, .ty t] = .ret (.bl (Ty.tup.sub t)) := if_neg h
theorem isi_lst {s : List U} {t : Ty} (h : t ≠ .non) : uIsi [.lst s, .ty t] = .ret (.bl (Ty.lst.sub t)) := if_neg h
theorem isi_dct {s : List (U × U)} {t : Ty} (h : t ≠ .non) : uIsi [.dct s, .ty t] = .ret (.bl (Ty.dct.sub t)) := if_neg h
theorem isi_int {s : Int} {t : Ty} (h : t ≠ .non) : uIsi [.int s, .ty t] = .ret (.bl (Ty.int.sub t)) := if_neg h
theorem isi_bl {s : Bool} {t : Ty} (h : t ≠ .non) : uIsi [.bl s, .ty t] = .ret (.bl (Ty.bl.sub t)) := if_neg h
theorem isi_non {t : Ty} (h : t ≠ .non) : uIsi [.non, .ty t] = .ret (.bl (Ty.non.sub t)) := if_neg h
end V

namespace P
open PySem L2 G V
/-! _law_of -/
def b_law_of_1 (call : CallF) : G.SS :=
  (sRet (mBin opIx (mVar 1) (mCallP 2 (call (Str.ofString "_law_take")) (aCons (mVar 0) (aCons (mCB bLen (aCons (mVar 1) aNil)) aNil)))))

def v_law_of_1 (vc : CallV) : List U → W U := fun us => match us with
  | [a1, a2] => (uLen ([a2] : List U)).bind fun t1 => (vc (Str.ofString "_law_take") ([a1, t1] : List U)).bind fun t2 => (uIx a2 t2).bind fun t3 => .ret t3
  | _ => .fail
theorem sb_law_of_1 {C : Nat} {call : CallF} {vc : CallV} (hcall : CallS C call vc) : ∃ c, c ≤ CF ∧ ∀ (base : Nat) (a1 a2 : U), ∃ wm : (Unit → W U) → (Unit → W U) → (Unit → W U) → W U, V.SS base C c (b_law_of_1 call) [some (.v a1), some (.v a2)] [none, none] (fun _ => [none, none]) (fun _ => [none, none]) wm ∧ v_law_of_1 vc [a1, a2] = wm (fun _ => .ret .non) (fun _ => .fail) fun _ => .fail :=
  ⟨_, by decide +kernel, fun base a1 a2 => ⟨_, (ss_ret (.no (.no .nil)) (se_bin uIx_ok (se_var 1 rfl) (se_callP (hcall (Str.ofString "_law_take")) (sa_cons (se_var 0 rfl) (sa_cons (se_cb uLen_ok (sa_cons (se_var 1 rfl) sa_nil)) sa_nil))))), rfl⟩⟩
theorem s_law_of_1 {C : Nat} {call : CallF} {vc : CallV} (hC : 1 ≤ C) (hcall : CallS C call vc) : FnS (CF * C) (runF 2 (b_law_of_1 call)) (v_law_of_1 vc) := let ⟨c, hc, h⟩ := sb_law_of_1 hcall; fnS_of 2 2 c hc (fun base us hl => match us, hl with | [a1, a2], _ => h base a1 a2) fun us Q X h => by unfold v_law_of_1 at h; split at h <;> first | rfl | exact h.elim
end P

namespace P
open PySem L2 G V
/-! _law_words -/
def b_law_words_1_1 (call : CallF) : G.SS :=
  (sSeq (sAsg (mBin opMul (mBin opIx (mVar 1) (mBin opMod (mBin opAdd (mVar 3) (mVar 5)) (mC (.int 26)))) (mCallP 2 (call (Str.ofString "_law_of")) (aCons (mVar 0) (aCons (mLst (aCons (mC (.int 1)) (aCons (mC (.int 1)) (aCons (mC (.int 2)) (aCons (mC (.int 8)) aNil))))) aNil)))) (gNm 7))
  (sExpr (mBM .lst mAppend (mVar 4) (aCons (mTup (aCons (mBin opAdd (mBin opAdd (mCallP 2 (call (Str.ofString "_law_of")) (aCons (mVar 0) (aCons (mVar 2) aNil))) (mC (.str (Str.ofString ".")))) (mVar 7)) (aCons (mVar 6) aNil))) aNil))))

def b_law_words_1_2 (call : CallF) : ME :=
  (mBin opMul (mCallP 2 (call (Str.ofString "_law_of")) (aCons (mVar 0) (aCons (mVar 1) aNil))) (mCallP 2 (call (Str.ofString "_law_of")) (aCons (mVar 0) (aCons (mLst (aCons (mC (.int 1)) (aCons (mC (.int 1)) (aCons (mC (.int 2)) (aCons (mC (.int 8)) aNil))))) aNil))))

def b_law_words_1 (call : CallF) : G.SS :=
  (sSeq (sAsg (mC (.str (Str.ofString "abcdefghijklmnopqrstuvwxyz"))) (gNm 1))
  (sSeq (sAsg (mLc (iRng1 (aCons (mC (.int 2)) aNil)) (.nm 8) tTrue (b_law_words_1_2 call) [8]) (gNm 2))
  (sSeq (sPar2 3 4 (aCons (mCallP 2 (call (Str.ofString "_law_take")) (aCons (mVar 0) (aCons (mC (.int 26)) aNil))) (aCons (mLst aNil) aNil)))
  (sSeq (sFor (iEnm (aCons (mLst (aCons (mC (.int 0)) (aCons (mC (.int 0)) (aCons (mC (.int 1)) (aCons (mC (.int 2)) (aCons (mC (.int 3)) aNil)))))) aNil)) (gTp 2 (gCn (gNm 5) (gCn (gNm 6) gNl))) (b_law_words_1_1 call))
  (sRet (mVar 4))))))

def v_law_words_1 (vc : CallV) : List U → W U := fun us => match us with
  | [a1] => (uRng1 ([(.int 2)] : List U)).bind fun xs28 => (wLc xs28 fun x2 => (vc (Str.ofString "_law_of") ([a1, (.str (Str.ofString "abcdefghijklmnopqrstuvwxyz"))] : List U)).bind fun t4 => (vc (Str.ofString "_law_of") ([a1, (.lst ([(.int 1), (.int 1), (.int 2), (.int 8)] : List U))] : List U)).bind fun t5 => (uMul t4 t5).bind fun t6 => .ret (some t6)).bind fun ys27 => (vc (Str.ofString "_law_take") ([a1, (.int 26)] : List U)).bind fun t26 => (uEnm ([(.lst ([(.int 0), (.int 0), (.int 1), (.int 2), (.int 3)] : List U))] : List U)).bind fun xs25 => wFor (S := List U) xs25 ([] : List U) (fun x12 s9 nx10 bk11 => (uT2 x12).bind fun p13 => (uAdd t26 p13.1).bind fun t19 => (uMod t19 (.int 26)).bind fun t20 => (uIx (.str (Str.ofString "abcdefghijklmnopqrstuvwxyz")) t20).bind fun t21 => (vc (Str.ofString "_law_of") ([a1, (.lst ([(.int 1), (.int 1), (.int 2), (.int 8)] : List U))] : List U)).bind fun t22 => (uMul t21 t22).bind fun t23 => (vc (Str.ofString "_law_of") ([a1, (.lst ys27)] : List U)).bind fun t16 => (uAdd t16 (.str (Str.ofString "."))).bind fun t17 => (uAdd t17 t23).bind fun t18 => if List.length s9 < sizeLine then nx10 (s9 ++ [(.tup ([t18, p13.2] : List U))]) else .fail) (fun s24 => .ret (.lst s24))
  | _ => .fail
theorem sb_law_words_1 {C : Nat} {call : CallF} {vc : CallV} (hcall : CallS C call vc) : ∃ c, c ≤ CF ∧ ∀ (base : Nat) (a1 : U), ∃ wm : (Unit → W U) → (Unit → W U) → (Unit → W U) → W U, V.SS base C c (b_law_words_1 call) [some (.v a1), none, none, none, none, none, none, none, none] [none, none, none, none, none, none, none, none, none] (fun _ => [none, none, none, none, none, none, none, none, none]) (fun _ => [none, none, none, none, none, none, none, none, none]) wm ∧ v_law_words_1 vc [a1] = wm (fun _ => .ret .non) (fun _ => .fail) fun _ => .fail :=
  ⟨_, by decide +kernel, fun base a1 => ⟨_, (ss_seq (ss_asg (em := O.v) (en := fun t1 => [some (.v a1), some (.v t1), none, none, none, none, none, none, none]) 1 (.no (.no (.no (.no (.no (.no (.no (.no (.no .nil))))))))) (se_str (Str.ofString "abcdefghijklmnopqrstuvwxyz") (by decide +kernel)) (fun _ => rfl)) fun t1 => (ss_seq (ss_asg (em := O.v) (en := fun t7 => [some (.v a1), some (.v t1), some (.v t7), none, none, none, none, none, none]) 2 (.no (.no (.no (.no (.no (.no (.no (.no (.no .nil))))))))) (se_sl' (sl_map (υ1 := [some (.v a1), some (.v t1), none, none, none, none, none, none, none]) (si_rng1 (sa_cons (se_int 2) sa_nil)) (.eq (.eq (.no (.no (.no (.no (.no (.no (.no .nil))))))))) rfl (fun x2 => stg_nm (en := fun _ => [some (.v a1), some (.v t1), none, none, none, none, none, none, some (.v x2)]) 8 rfl) fun x2 p3 => (se_bin uMul_ok (se_callP (hcall (Str.ofString "_law_of")) (sa_cons (se_var 0 rfl) (sa_cons (se_var 1 rfl) sa_nil))) (se_callP (hcall (Str.ofString "_law_of")) (sa_cons (se_var 0 rfl) (sa_cons (se_lst (sa_cons (se_int 1) (sa_cons (se_int 1) (sa_cons (se_int 2) (sa_cons (se_int 8) sa_nil)))) (by decide)) sa_nil)))))) (fun _ => rfl)) fun t7 => (ss_seq (ss_par2 (en := fun z8 => [some (.v a1), some (.v t1), some (.v t7), some (.v z8.1), some (.lst z8.2), none, none, none, none]) (ea := O.v) (eb2 := O.lst) 3 4 (by decide) (.no (.no (.no (.no (.no (.no (.no (.no (.no .nil))))))))) (se_callP (hcall (Str.ofString "_law_take")) (sa_cons (se_var 0 rfl) (sa_cons (se_int 26) sa_nil))) (sl_lst sa_nil (by decide)) (fun _ => rfl)) fun z8 => (ss_seq (ss_for (emb := fun s9 : List U => [some (.v a1), some (.v t1), some (.v t7), some (.v z8.1), some (.lst s9), none, none, none, none]) (en1 := fun (x12 : U) (s9 : List U) (p13 : U × U) => [some (.v a1), some (.v t1), some (.v t7), some (.v z8.1), some (.lst s9), some (.v p13.1), some (.v p13.2), none, none]) z8.2 (.no (.no (.no (.no (.no (.no (.no (.no (.no .nil))))))))) (si_enm (sa_cons (se_lst (sa_cons (se_int 0) (sa_cons (se_int 0) (sa_cons (se_int 1) (sa_cons (se_int 2) (sa_cons (se_int 3) sa_nil))))) (by decide)) sa_nil)) (.eq (.eq (.eq (.eq (.eq (.no (.no (.no (.no .nil))))))))) (fun x12 s9 => (stG_nm2 (en := fun p13 => [some (.v a1), some (.v t1), some (.v t7), some (.v z8.1), some (.lst s9), some (.v p13.1), some (.v p13.2), none, none]) 5 6 (fun _ => rfl))) fun x12 s9 p13 => (ss_seq (ss_asg (em := O.v) (en := fun t14 => [some (.v a1), some (.v t1), some (.v t7), some (.v z8.1), some (.lst s9), some (.v p13.1), some (.v p13.2), some (.v t14), none]) 7 (.no (.no (.no (.no (.no (.no (.no (.no (.no .nil))))))))) (se_bin uMul_ok (se_bin uIx_ok (se_var 1 rfl) (se_bin uMod_ok (se_bin uAdd_ok (se_var 3 rfl) (se_var 5 rfl)) (se_int 26))) (se_callP (hcall (Str.ofString "_law_of")) (sa_cons (se_var 0 rfl) (sa_cons (se_lst (sa_cons (se_int 1) (sa_cons (se_int 1) (sa_cons (se_int 2) (sa_cons (se_int 8) sa_nil)))) (by decide)) sa_nil)))) (fun _ => rfl)) fun t14 => (ss_weak (fun l15 => l15) (ss_append (en := fun l15 => [some (.v a1), some (.v t1), some (.v t7), some (.v z8.1), some (.lst l15), some (.v p13.1), some (.v p13.2), some (.v t14), none]) 4 rfl (.no (.no (.no (.no (.no (.no (.no (.no (.no .nil))))))))) (se_tup (sa_cons (se_bin uAdd_ok (se_bin uAdd_ok (se_callP (hcall (Str.ofString "_law_of")) (sa_cons (se_var 0 rfl) (sa_cons (se_var 2 rfl) sa_nil))) (se_str (Str.ofString ".") (by decide +kernel))) (se_var 7 rfl)) (sa_cons (se_var 6 rfl) sa_nil)) (by decide)) (fun _ => rfl)) fun l15 => (.eq (.eq (.eq (.eq (.eq (.no (.no (.no (.no .nil)))))))))))) fun s24 => (ss_frz (υ1 := [some (.v a1), some (.v t1), some (.v t7), some (.v z8.1), some (.v (.lst s24)), none, none, none, none]) 4 rfl rfl (ss_ret (.no (.no (.no (.no (.no (.no (.no (.no (.no .nil))))))))) (se_var 4 rfl)) rfl))))), rfl⟩⟩
theorem s_law_words_1 {C : Nat} {call : CallF} {vc : CallV} (hC : 1 ≤ C) (hcall : CallS C call vc) : FnS (CF * C) (runF 9 (b_law_words_1 call)) (v_law_words_1 vc) := let ⟨c, hc, h⟩ := sb_law_words_1 hcall; fnS_of 9 1 c hc (fun base us hl => match us, hl with | [a1], _ => h base a1) fun us Q X h => by unfold v_law_words_1 at h; split at h <;> first | rfl | exact h.elim
end P

namespace P
open PySem L2 G V
/-! _law_called -/
def b_law_called_1 (call : CallF) : G.SS :=
  (sSeq (sAsg (mLst (aCons (mLst (aCons (mC (.str (Str.ofString "x"))) (aCons (mC (.str (Str.ofString "y"))) (aCons (mC (.str (Str.ofString "z"))) aNil)))) (aCons (mLst (aCons (mC (.str (Str.ofString "a"))) (aCons (mC (.str (Str.ofString "b"))) (aCons (mC (.str (Str.ofString "c"))) aNil)))) (aCons (mLst (aCons (mC (.str (Str.ofString "b"))) (aCons (mC (.str (Str.ofString "a"))) aNil))) (aCons (mLst (aCons (mC (.str (Str.ofString "aa"))) (aCons (mC (.str (Str.ofString "a"))) (aCons (mC (.str (Str.ofString "ab"))) (aCons (mC (.str (Str.ofString "b"))) aNil))))) (aCons (mLst (aCons (mC (.str (Str.ofString "z"))) (aCons (mC (.str (Str.ofString "zzzzzzzz"))) (aCons (mC (.str (Str.ofString "y"))) aNil)))) (aCons (mLst (aCons (mC (.str (Str.ofString "c"))) aNil)) aNil))))))) (gNm 1))
  (sRet (mCallP 2 (call (Str.ofString "_law_of")) (aCons (mVar 0) (aCons (mVar 1) aNil)))))

def v_law_called_1 (vc : CallV) : List U → W U := fun us => match us with
  | [a1] => (vc (Str.ofString "_law_of") ([a1, (.lst ([(.lst ([(.str (Str.ofString "x")), (.str (Str.ofString "y")), (.str (Str.ofString "z"))] : List U)), (.lst ([(.str (Str.ofString "a")), (.str (Str.ofString "b")), (.str (Str.ofString "c"))] : List U)), (.lst ([(.str (Str.ofString "b")), (.str (Str.ofString "a"))] : List U)), (.lst ([(.str (Str.ofString "aa")), (.str (Str.ofString "a")), (.str (Str.ofString "ab")), (.str (Str.ofString "b"))] : List U)), (.lst ([(.str (Str.ofString "z")), (.str (Str.ofString "zzzzzzzz")), (.str (Str.ofString "y"))] : List U)), (.lst ([(.str (Str.ofString "c"))] : List U))] : List U))] : List U)).bind fun t2 => .ret t2
  | _ => .fail
theorem sb_law_called_1 {C : Nat} {call : CallF} {vc : CallV} (hcall : CallS C call vc) : ∃ c, c ≤ CF ∧ ∀ (base : Nat) (a1 : U), ∃ wm : (Unit → W U) → (Unit → W U) → (Unit → W U) → W U, V.SS base C c (b_law_called_1 call) [some (.v a1), none] [none, none] (fun _ => [none, none]) (fun _ => [none, none]) wm ∧ v_law_called_1 vc [a1] = wm (fun _ => .ret .non) (fun _ => .fail) fun _ => .fail :=
  ⟨_, by decide +kernel, fun base a1 => ⟨_, (ss_seq (ss_asg (em := O.v) (en := fun t1 => [some (.v a1), some (.v t1)]) 1 (.no (.no .nil)) (se_lst (sa_cons (se_lst (sa_cons (se_str (Str.ofString "x") (by decide +kernel)) (sa_cons (se_str (Str.ofString "y") (by decide +kernel)) (sa_cons (se_str (Str.ofString "z") (by decide +kernel)) sa_nil))) (by decide)) (sa_cons (se_lst (sa_cons (se_str (Str.ofString "a") (by decide +kernel)) (sa_cons (se_str (Str.ofString "b") (by decide +kernel)) (sa_cons (se_str (Str.ofString "c") (by decide +kernel)) sa_nil))) (by decide)) (sa_cons (se_lst (sa_cons (se_str (Str.ofString "b") (by decide +kernel)) (sa_cons (se_str (Str.ofString "a") (by decide +kernel)) sa_nil)) (by decide)) (sa_cons (se_lst (sa_cons (se_str (Str.ofString "aa") (by decide +kernel)) (sa_cons (se_str (Str.ofString "a") (by decide +kernel)) (sa_cons (se_str (Str.ofString "ab") (by decide +kernel)) (sa_cons (se_str (Str.ofString "b") (by decide +kernel)) sa_nil)))) (by decide)) (sa_cons (se_lst (sa_cons (se_str (Str.ofString "z") (by decide +kernel)) (sa_cons (se_str (Str.ofString "zzzzzzzz") (by decide +kernel)) (sa_cons (se_str (Str.ofString "y") (by decide +kernel)) sa_nil))) (by decide)) (sa_cons (se_lst (sa_cons (se_str (Str.ofString "c") (by decide +kernel)) sa_nil) (by decide)) sa_nil)))))) (by decide)) (fun _ => rfl)) fun t1 => (ss_ret (.no (.no .nil)) (se_callP (hcall (Str.ofString "_law_of")) (sa_cons (se_var 0 rfl) (sa_cons (se_var 1 rfl) sa_nil))))), rfl⟩⟩
theorem s_law_called_1 {C : Nat} {call : CallF} {vc : CallV} (hC : 1 ≤ C) (hcall : CallS C call vc) : FnS (CF * C) (runF 2 (b_law_called_1 call)) (v_law_called_1 vc) := let ⟨c, hc, h⟩ := sb_law_called_1 hcall; fnS_of 2 1 c hc (fun base us hl => match us, hl with | [a1], _ => h base a1) fun us Q X h => by unfold v_law_called_1 at h; split at h <;> first | rfl | exact h.elim
end P

namespace P
open PySem L2 G V
/-! _law_tree -/
def b_law_tree_1_1 (call : CallF) : ME :=
  (mCallP 4 (call (Str.ofString "_law_tree")) (aCons (mVar 0) (aCons (mVar 1) (aCons (mVar 2) (aCons (mBin opSub (mVar 3) (mC (.int 1))) aNil)))))

def b_law_tree_1_2 (call : CallF) : MT :=
  (tOo (mBl (mBin (opEq false) (mBin opIx (mVar 6) (mC (.int 1))) (mC (.int 0)))) (mBl (mBin opGt (mVar 3) (mC (.int 0)))))

def b_law_tree_1 (call : CallF) : G.SS :=
  (sSeq (sIf (tAn (mBl (mBin (opEq true) (mVar 2) (mLst aNil))) (mBl (mBin (opEq false) (mCallP 2 (call (Str.ofString "_law_take")) (aCons (mVar 0) (aCons (mC (.int 3)) aNil))) (mC (.int 0))))) (sRet (mCallP 2 (call (Str.ofString "_law_of")) (aCons (mVar 0) (aCons (mVar 2) aNil)))) sNx)
  (sSeq (sAsg (mCallP 2 (call (Str.ofString "_law_of")) (aCons (mVar 0) (aCons (mLc (iAny (mVar 1)) (.nm 6) (b_law_tree_1_2 call) (mVar 6) [6]) aNil))) (gTp 2 (gCn (gNm 4) (gCn (gNm 5) gNl))))
  (sRet (mBin opAdd (mTup (aCons (mVar 4) aNil)) (mCB bTuple (aCons (mLc (iRng1 (aCons (mVar 5) aNil)) (.nm 7) tTrue (b_law_tree_1_1 call) [7]) aNil))))))

def v_law_tree_1 (vc : CallV) : List U → W U := fun us => match us with
  | [a1, a2, a3, a4] => (((uEq true) a3 (.lst ([] : List U))).bind fun t23 => (uBl t23).bind fun t24 => if t24 = true then (vc (Str.ofString "_law_take") ([a1, (.int 3)] : List U)).bind fun t25 => ((uEq false) t25 (.int 0)).bind fun t26 => (uBl t26).bind fun t27 => .ret t27 else .ret false).bind fun t28 => if t28 = true then (vc (Str.ofString "_law_of") ([a1, a3] : List U)).bind fun t22 => .ret t22 else (uIter a2).bind fun xs20 => (wLc xs20 fun x1 => ((uIx x1 (.int 1)).bind fun t3 => ((uEq false) t3 (.int 0)).bind fun t4 => (uBl t4).bind fun t5 => if t5 = true then .ret true else (uGt a4 (.int 0)).bind fun t6 => (uBl t6).bind fun t7 => .ret t7).bind fun t8 => if t8 = true then .ret (some x1) else .ret none).bind fun ys19 => (vc (Str.ofString "_law_of") ([a1, (.lst ys19)] : List U)).bind fun t21 => (uT2 t21).bind fun p10 => (uRng1 ([p10.2] : List U)).bind fun xs16 => (wLc xs16 fun x11 => (uSub a4 (.int 1)).bind fun t13 => (vc (Str.ofString "_law_tree") ([a1, a2, a3, t13] : List U)).bind fun t14 => .ret (some t14)).bind fun ys15 => (uTuple ([(.lst ys15)] : List U)).bind fun t17 => (uAdd (.tup ([p10.1] : List U)) t17).bind fun t18 => .ret t18
  | _ => .fail
theorem sb_law_tree_1 {C : Nat} {call : CallF} {vc : CallV} (hcall : CallS C call vc) : ∃ c, c ≤ CF ∧ ∀ (base : Nat) (a1 a2 a3 a4 : U), ∃ wm : (Unit → W U) → (Unit → W U) → (Unit → W U) → W U, V.SS base C c (b_law_tree_1 call) [some (.v a1), some (.v a2), some (.v a3), some (.v a4), none, none, none, none] [none, none, none, none, none, none, none, none] (fun _ => [none, none, none, none, none, none, none, none]) (fun _ => [none, none, none, none, none, none, none, none]) wm ∧ v_law_tree_1 vc [a1, a2, a3, a4] = wm (fun _ => .ret .non) (fun _ => .fail) fun _ => .fail :=
  ⟨_, by decide +kernel, fun base a1 a2 a3 a4 => ⟨_, (ss_seq (ss_if (en := fun _ : Unit => [some (.v a1), some (.v a2), some (.v a3), some (.v a4), none, none, none, none]) (.no (.no (.no (.no (.no (.no (.no (.no .nil)))))))) (st_an (st_bl (se_bin uEq_ok (se_var 2 rfl) (se_lst sa_nil (by decide)))) (st_bl (se_bin uEq_ok (se_callP (hcall (Str.ofString "_law_take")) (sa_cons (se_var 0 rfl) (sa_cons (se_int 3) sa_nil))) (se_int 0)))) (ss_ret (.no (.no (.no (.no (.no (.no (.no (.no .nil)))))))) (se_callP (hcall (Str.ofString "_law_of")) (sa_cons (se_var 0 rfl) (sa_cons (se_var 2 rfl) sa_nil)))) (ss_nx () (.eq (.eq (.eq (.eq (.no (.no (.no (.no .nil)))))))))) fun _ => (ss_seq (ss_asgT (en := fun p10 : U × U => [some (.v a1), some (.v a2), some (.v a3), some (.v a4), some (.v p10.1), some (.v p10.2), none, none]) (.no (.no (.no (.no (.no (.no (.no (.no .nil)))))))) (se_callP (hcall (Str.ofString "_law_of")) (sa_cons (se_var 0 rfl) (sa_cons (se_sl' (sl_lc (υ1 := [some (.v a1), some (.v a2), some (.v a3), some (.v a4), none, none, none, none]) (si_any (se_var 1 rfl)) (.eq (.eq (.eq (.eq (.no (.no (.no (.no .nil)))))))) rfl (fun x1 => stg_nm (en := fun _ => [some (.v a1), some (.v a2), some (.v a3), some (.v a4), none, none, some (.v x1), none]) 6 rfl) (fun x1 p2 => (st_oo (st_bl (se_bin uEq_ok (se_bin uIx_ok (se_var 6 rfl) (se_int 1)) (se_int 0))) (st_bl (se_bin uCmp_ok (se_var 3 rfl) (se_int 0))))) fun x1 p2 => (se_var 6 rfl))) sa_nil))) (fun x9 => (stG_nm2 (en := fun p10 => [some (.v a1), some (.v a2), some (.v a3), some (.v a4), some (.v p10.1), some (.v p10.2), none, none]) 4 5 (fun _ => rfl))) (fun _ _ => rfl)) fun p10 => (ss_ret (.no (.no (.no (.no (.no (.no (.no (.no .nil)))))))) (se_bin uAdd_ok (se_tup (sa_cons (se_var 4 rfl) sa_nil) (by decide)) (se_cb uTuple_ok (sa_cons (se_sl' (sl_map (υ1 := [some (.v a1), some (.v a2), some (.v a3), some (.v a4), some (.v p10.1), some (.v p10.2), none, none]) (si_rng1 (sa_cons (se_var 5 rfl) sa_nil)) (.eq (.eq (.eq (.eq (.eq (.eq (.no (.no .nil)))))))) rfl (fun x11 => stg_nm (en := fun _ => [some (.v a1), some (.v a2), some (.v a3), some (.v a4), some (.v p10.1), some (.v p10.2), none, some (.v x11)]) 7 rfl) fun x11 p12 => (se_callP (hcall (Str.ofString "_law_tree")) (sa_cons (se_var 0 rfl) (sa_cons (se_var 1 rfl) (sa_cons (se_var 2 rfl) (sa_cons (se_bin uSub_ok (se_var 3 rfl) (se_int 1)) sa_nil))))))) sa_nil)))))), rfl⟩⟩
theorem s_law_tree_1 {C : Nat} {call : CallF} {vc : CallV} (hC : 1 ≤ C) (hcall : CallS C call vc) : FnS (CF * C) (runF 8 (b_law_tree_1 call)) (v_law_tree_1 vc) := let ⟨c, hc, h⟩ := sb_law_tree_1 hcall; fnS_of 8 4 c hc (fun base us hl => match us, hl with | [a1, a2, a3, a4], _ => h base a1 a2 a3 a4) fun us Q X h => by unfold v_law_tree_1 at h; split at h <;> first | rfl | exact h.elim
end P

namespace P
open PySem L2 G V
/-! law -/
def b_law_1_1 (call : CallF) : G.SS :=
  (sIf (tNt (mTru (mCallP 1 (call (Str.ofString "_law_right")) (aCons (mCallP 2 (call (Str.ofString "_law_hand")) (aCons (mVar 0) (aCons (mVar 1) aNil))) aNil)))) (sRet (mC (.bl false))) sNx)

def b_law_1 (call : CallF) : G.SS :=
  (sSeq (sFor (iRng1 (aCons (mCB bMax2 (aCons (mC (.int 1)) (aCons (mCB bMin2 (aCons (mC (.int 3)) (aCons (mCB bLen (aCons (mVar 0) aNil)) aNil))) aNil))) aNil)) (gNm 1) (b_law_1_1 call))
  (sRet (mC (.bl true))))

def v_law_1 (vc : CallV) : List U → W U := fun us => match us with
  | [a1] => (uLen ([a1] : List U)).bind fun t10 => (uMin2 ([(.int 3), t10] : List U)).bind fun t11 => (uMax2 ([(.int 1), t11] : List U)).bind fun t12 => (uRng1 ([t12] : List U)).bind fun xs13 => wFor (S := Unit) xs13 () (fun x4 s1 nx2 bk3 => (vc (Str.ofString "_law_hand") ([a1, x4] : List U)).bind fun t5 => (vc (Str.ofString "_law_right") ([t5] : List U)).bind fun t6 => (uTru t6).bind fun t7 => if (!t7) = true then .ret (.bl false) else nx2 ()) (fun s9 => .ret (.bl true))
  | _ => .fail
theorem sb_law_1 {C : Nat} {call : CallF} {vc : CallV} (hcall : CallS C call vc) : ∃ c, c ≤ CF ∧ ∀ (base : Nat) (a1 : U), ∃ wm : (Unit → W U) → (Unit → W U) → (Unit → W U) → W U, V.SS base C c (b_law_1 call) [some (.v a1), none] [none, none] (fun _ => [none, none]) (fun _ => [none, none]) wm ∧ v_law_1 vc [a1] = wm (fun _ => .ret .non) (fun _ => .fail) fun _ => .fail :=
  ⟨_, by decide +kernel, fun base a1 => ⟨_, (ss_seq (ss_for (emb := fun s1 : Unit => [some (.v a1), none]) (en1 := fun (x4 : U) (s1 : Unit) (u8 : Unit) => [some (.v a1), some (.v x4)]) () (.no (.no .nil)) (si_rng1 (sa_cons (se_cb uMax2_ok (sa_cons (se_int 1) (sa_cons (se_cb uMin2_ok (sa_cons (se_int 3) (sa_cons (se_cb uLen_ok (sa_cons (se_var 0 rfl) sa_nil)) sa_nil))) sa_nil))) sa_nil)) (.eq (.no .nil)) (fun x4 s1 => (stG_nm (en := fun _ => [some (.v a1), some (.v x4)]) 1 rfl)) fun x4 s1 u8 => (ss_if (.no (.no .nil)) (st_nt (st_tru (se_callP (hcall (Str.ofString "_law_right")) (sa_cons (se_callP (hcall (Str.ofString "_law_hand")) (sa_cons (se_var 0 rfl) (sa_cons (se_var 1 rfl) sa_nil))) sa_nil)))) (ss_ret (.no (.no .nil)) (se_bl false)) (ss_nx () (.eq (.no .nil))))) fun s9 => (ss_ret (.no (.no .nil)) (se_bl true))), rfl⟩⟩
theorem s_law_1 {C : Nat} {call : CallF} {vc : CallV} (hC : 1 ≤ C) (hcall : CallS C call vc) : FnS (CF * C) (runF 2 (b_law_1 call)) (v_law_1 vc) := let ⟨c, hc, h⟩ := sb_law_1 hcall; fnS_of 2 1 c hc (fun base us hl => match us, hl with | [a1], _ => h base a1) fun us Q X h => by unfold v_law_1 at h; split at h <;> first | rfl | exact h.elim
end P

/-! S2: what the laws draw: a number, one of some, names, trees. -/
namespace V
open PySem G P

/-! ### one of some -/
def wTk (m : Nat) : W U := .pick m fun i => .ret (.int i)
def wOf (xs : List U) : W U := .pick xs.length fun i => ofO xs[i]?
def wOfS (z : Str) : W U := .pick z.length fun i => match z.cps.toList[i]? with
  | some c => .ret (.str ⟨#[c]⟩)
  | none => .fail
section
variable {β : Type} {Q : β → Prop} {X : UX → Prop} {vc : CallV}
theorem ok_tk {m : Nat} {f : U → W β} : ((wTk m).bind f).Ok Q X ↔ ∀ i, i < m → (f (.int i)).Ok Q X := Iff.rfl
theorem ok_of {xs : List U} {f : U → W β} : ((wOf xs).bind f).Ok Q X ↔ ∀ x ∈ xs, (f x).Ok Q X := by
  constructor
  · intro h x hx
    obtain ⟨i, hi, rfl⟩ := List.getElem_of_mem hx
    have := h i hi
    simpa [hi] using this
  · intro h i hi
    have := h _ (List.getElem_mem hi)
    simpa [hi] using this
theorem ok_of0 {xs : List U} {Q : U → Prop} : (wOf xs).Ok Q X ↔ ∀ x ∈ xs, Q x := by
  rw [← bind_ret_id (wOf xs), ok_of]
  rfl
theorem ok_tk0 {m : Nat} {Q : U → Prop} : (wTk m).Ok Q X ↔ ∀ i : Nat, i < m → Q (.int i) := Iff.rfl
theorem ok_ofS {z : Str} {f : U → W β} : ((wOfS z).bind f).Ok Q X ↔ ∀ c ∈ z.cps.toList, (f (.str ⟨#[c]⟩)).Ok Q X := by
  have e : z.length = z.cps.toList.length := by simp [Str.length]
  constructor
  · intro h x hx
    obtain ⟨i, hi, rfl⟩ := List.getElem_of_mem hx
    have := h i (by rw [e]; exact hi)
    simp only [List.getElem?_eq_getElem hi] at this
    exact this
  · intro h i hi
    rw [e] at hi
    have := h _ (List.getElem_mem hi)
    simp only [List.getElem?_eq_getElem hi]
    exact this
def TakeV (F : List U → W U) : Prop := ∀ m : Nat, 0 < m → m < 1073741824 → F [.hnd, .int m] = wTk m
structure OfV (F : List U → W U) : Prop where
  lst : ∀ xs : List U, xs ≠ [] → xs.length < 1073741824 → F [.hnd, .lst xs] = wOf xs
  tup : ∀ xs : List U, xs ≠ [] → xs.length < 1073741824 → F [.hnd, .tup xs] = wOf xs
  str : ∀ z : Str, 0 < z.length → z.length ≤ sizeLine → F [.hnd, .str z] = wOfS z
theorem take_V : TakeV (vTake vc) := fun m h0 h1 => by
  unfold vTake
  simp only
  rw [if_pos ⟨by omega, by omega⟩]
  rfl
theorem of_V (hT : TakeV (vc (Str.ofString "_law_take"))) : OfV (v_law_of_1 vc) := by
  have ne : ∀ {xs : List U}, xs ≠ [] → 0 < xs.length := fun h => List.length_pos_iff.mpr h
  refine ⟨fun xs h0 h1 => ?_, fun xs h0 h1 => ?_, fun z h0 h1 => ?_⟩
  · simp only [v_law_of_1, uLen, bind_ret, hT xs.length (ne h0) h1, wTk, bind_pick, wOf, uIx, atI_ofNat]
    congr 1
    funext i
    cases xs[i]? <;> rfl
  · simp only [v_law_of_1, uLen, bind_ret, hT xs.length (ne h0) h1, wTk, bind_pick, wOf, uIx, atI_ofNat]
    congr 1
    funext i
    cases xs[i]? <;> rfl
  · have e3 : sizeLine = 16777216 := rfl
    simp only [v_law_of_1, uLen, need_pos h1, bind_ret, hT z.length h0 (by omega), wTk, bind_pick, wOfS, uIx, atI_ofNat]
    congr 1
    funext i
    cases e : z.cps.toList[i]? with
    | none => simp [need]
    | some c => simp [need, h1]

/-! ### names -/
def Low (l : List Nat) : Prop := l ≠ [] ∧ l.length ≤ 8 ∧ ∀ c ∈ l, 97 ≤ c ∧ c ≤ 122
def NameOk (s : Str) : Prop := Low s.cps.toList
def FullOk (f : Str) : Prop := ∃ a b, f.cps.toList = a ++ 46 :: b ∧ Low a ∧ Low b
theorem len_cps (s : Str) : s.length = s.cps.toList.length := by simp [Str.length]
theorem Low.low {l : List Nat} (h : Low l) {c : Nat} (hc : c ∈ l) : c < 128 := by have := h.2.2 c hc; omega
theorem Low.nodot {a : List Nat} (h : Low a) : 46 ∉ a := fun z => by have := h.2.2 _ z; omega
theorem NameOk.low {s : Str} (h : NameOk s) : strLow s = true := List.all_eq_true.mpr fun c hc => by simpa using Low.low h hc
theorem NameOk.len {s : Str} (h : NameOk s) : s.length ≤ 8 := by rw [len_cps]; exact h.2.1
theorem FullOk.low {s : Str} (h : FullOk s) : strLow s = true := List.all_eq_true.mpr fun c hc => by
  obtain ⟨a, b, e, ha, hb⟩ := h
  rw [e] at hc
  simp only [decide_eq_true_eq]
  rcases List.mem_append.mp hc with z | z
  · exact ha.low z
  · rcases List.mem_cons.mp z with z | z
    · omega
    · exact hb.low z
theorem FullOk.len {s : Str} (h : FullOk s) : s.length ≤ 17 := by
  obtain ⟨a, b, e, ha, hb⟩ := h
  rw [len_cps, e, List.length_append, List.length_cons]
  have := ha.2.1
  have := hb.2.1
  omega
theorem FullOk.notName {s : Str} (h : FullOk s) : ¬ NameOk s := fun n => by
  obtain ⟨a, b, e, ha, hb⟩ := h
  have : (46 : Nat) ∈ s.cps.toList := by rw [e]; simp
  have := n.2.2 _ this
  omega
theorem app_cps {a b : Str} : (a ++ b).cps.toList = a.cps.toList ++ b.cps.toList := by
  show (a.cps ++ b.cps).toList = _
  simp
theorem strMul_one {c : Nat} {k : Int} : (strMul ⟨#[c]⟩ k).cps.toList = List.replicate k.toNat c := by
  unfold strMul
  show (List.replicate k.toNat [c]).flatten = _
  induction k.toNat with
  | zero => rfl
  | succ n ih => rw [List.replicate_succ, List.flatten_cons, ih]; rfl
theorem low_rep {c n : Nat} (h0 : 0 < n) (h1 : n ≤ 8) (hc : 97 ≤ c ∧ c ≤ 122) : Low (List.replicate n c) := by
  refine ⟨fun z => ?_, by rw [List.length_replicate]; exact h1, fun x hx => ?_⟩
  · have := congrArg List.length z
    rw [List.length_replicate] at this
    simp at this
    omega
  · rw [(List.mem_replicate.mp hx).2]; exact hc
abbrev abc : Str := Str.ofString "abcdefghijklmnopqrstuvwxyz"
theorem abc_cps : abc.cps.toList = [97, 98, 99, 100, 101, 102, 103, 104, 105, 106, 107, 108, 109, 110, 111, 112, 113, 114, 115, 116, 117, 118, 119, 120, 121, 122] := by decide +kernel
theorem abc_len : abc.length = 26 := by rw [len_cps, abc_cps]; rfl
theorem abc_low {c : Nat} (h : c ∈ abc.cps.toList) : 97 ≤ c ∧ c ≤ 122 := by
  rw [abc_cps] at h
  simp only [List.mem_cons, List.not_mem_nil, or_false] at h
  omega
theorem dot_cps : (Str.ofString ".").cps.toList = [46] := by decide +kernel
theorem uMul_rep {c : Nat} {n : Nat} (h : n ≤ 100) : uMul (.str ⟨#[c]⟩) (.int n) = .ret (.str (strMul ⟨#[c]⟩ n)) := by
  unfold uMul
  exact need_pos ⟨by omega, by omega, by show 1 * (n : Int).toNat ≤ sizeLine; rw [sizeLine_val]; omega⟩
theorem of_sizes {f : U → W β} (hO : OfV (vc (Str.ofString "_law_of"))) (h : ∀ n : Nat, 0 < n → n ≤ 8 → (f (.int n)).Ok Q X) : ((vc (Str.ofString "_law_of") ([.hnd, (.lst ([(.int 1), (.int 1), (.int 2), (.int 8)] : List U))] : List U)).bind f).Ok Q X := by
  rw [hO.lst _ (by simp) (by simp), ok_of]
  intro x hx
  simp only [List.mem_cons, List.not_mem_nil, or_false] at hx
  rcases hx with rfl | rfl | rfl | rfl
  · exact h 1 (by omega) (by omega)
  · exact h 1 (by omega) (by omega)
  · exact h 2 (by omega) (by omega)
  · exact h 8 (by omega) (by omega)
def wordU (p : Str × Nat) : U := .tup [.str p.1, .int p.2]
structure WordsOk (ws : List (Str × Nat)) : Prop where
  full : ∀ p ∈ ws, FullOk p.1
  many : ws.map (·.2) = [0, 0, 1, 2, 3]
def WordsV (F : List U → W U) : Prop := (F [.hnd]).Ok (fun u => ∃ ws : List (Str × Nat), u = .lst (ws.map wordU) ∧ WordsOk ws) NoX
theorem uAdd_str {a b : Str} (h : a.length + b.length ≤ 1000) : uAdd (.str a) (.str b) = .ret (.str (a ++ b)) := by
  unfold uAdd
  exact need_pos (by rw [sizeLine_val]; omega)
theorem words_V (hT : TakeV (vc (Str.ofString "_law_take"))) (hO : OfV (vc (Str.ofString "_law_of"))) : WordsV (v_law_words_1 vc) := by
  unfold WordsV v_law_words_1
  dsimp only
  have r2 : uRng1 ([(.int 2)] : List U) = .ret [.int 0, .int 1] := uRng1_nat (n := 2) (by omega)
  rw [r2, bind_ret]
  refine W.Ok.bnd (wLc_ok (P := fun y => ∃ s, y = .str s ∧ NameOk s) (fun x hx => ?_) fun ys hl hy => (⟨hl, hy⟩ : ys.length = 2 ∧ ∀ y ∈ ys, ∃ s, y = U.str s ∧ NameOk s)) fun ys ⟨hl, hy⟩ => ?_
  · rw [hO.str abc (by rw [abc_len]; omega) (by rw [abc_len]; decide), ok_ofS]
    intro c hc
    refine of_sizes hO fun n n0 n1 => ?_
    rw [uMul_rep (by omega)]
    refine ⟨_, rfl, _, rfl, ?_⟩
    unfold NameOk
    rw [strMul_one]
    exact low_rep (by omega) (by omega) (abc_low hc)
  · have t26 : vc (Str.ofString "_law_take") ([.hnd, .int 26] : List U) = wTk 26 := hT 26 (by omega) (by omega)
    rw [t26, ok_tk]
    intro first hf
    have en : uEnm ([(.lst ([(.int 0), (.int 0), (.int 1), (.int 2), (.int 3)] : List U))] : List U) = .ret (([(0, 0), (1, 0), (2, 1), (3, 2), (4, 3)] : List (Nat × Nat)).map fun p => .tup [.int p.1, .int p.2]) := rfl
    rw [en, bind_ret]
    refine wFor_inv (fun ts s => ∃ ws : List (Str × Nat), s = ws.map wordU ∧ (∀ p ∈ ws, FullOk p.1) ∧ ws.map (·.2) ++ ts.map (·.2) = [0, 0, 1, 2, 3]) (fun s ⟨ws, h1, h2, h3⟩ => ⟨ws, by rw [h1], h2, by simpa using h3⟩) (fun t ts s ⟨ws, h1, h2, h3⟩ nx hn => ?_) _ [] ⟨[], rfl, by simp, rfl⟩
    have hlen : ws.length + (ts.length + 1) = 5 := by
      have := congrArg List.length h3
      simpa using this
    simp only [uT2_tup, bind_ret, uAdd_ii]
    have md : uMod (.int ((first : Int) + (t.1 : Int))) (.int 26) = .ret (.int (((first + t.1) % 26 : Nat) : Int)) := by
      rw [uMod_ii (by decide)]
      congr 2
    rw [md, bind_ret]
    have hlt : (first + t.1) % 26 < abc.cps.toList.length := by rw [← len_cps, abc_len]; exact Nat.mod_lt _ (by decide)
    have ix : uIx (.str abc) (.int (((first + t.1) % 26 : Nat) : Int)) = .ret (.str ⟨#[abc.cps.toList[(first + t.1) % 26]]⟩) := by
      unfold uIx
      simp only [atI_ofNat, List.getElem?_eq_getElem hlt, Option.isSome_some, Option.getD_some]
      exact need_pos ⟨by rw [abc_len]; decide, trivial⟩
    rw [ix, bind_ret]
    have hc := abc_low (List.getElem_mem hlt)
    generalize abc.cps.toList[(first + t.1) % 26] = c at hc
    refine of_sizes hO fun n n0 n1 => ?_
    rw [uMul_rep (by omega), bind_ret, hO.lst ys (by intro z; rw [z] at hl; cases hl) (by omega), ok_of]
    intro y hyy
    obtain ⟨line, rfl, hline⟩ := hy y hyy
    have l1 := hline.len
    have ow : NameOk (strMul ⟨#[c]⟩ n) := by
      unfold NameOk
      rw [strMul_one]
      exact low_rep (by omega) (by omega) hc
    have l2 := ow.len
    have l3 : (Str.ofString ".").length = 1 := by decide +kernel
    rw [uAdd_ss (by rw [sizeLine_val]; omega), bind_ret, uAdd_ss (by rw [str_app_len, sizeLine_val]; omega), bind_ret]
    have : List.length s < sizeLine := by rw [h1, List.length_map, sizeLine_val]; omega
    rw [if_pos this]
    refine hn _ ⟨ws ++ [(line ++ Str.ofString "." ++ strMul ⟨#[c]⟩ n, t.2)], by rw [h1, List.map_append]; rfl, fun p hp => ?_, by simpa using h3⟩
    rcases List.mem_append.mp hp with hp | hp
    · exact h2 p hp
    · rcases List.mem_singleton.mp hp with rfl
      refine ⟨line.cps.toList, (strMul ⟨#[c]⟩ n).cps.toList, ?_, hline, ow⟩
      rw [app_cps, app_cps, dot_cps]
      simp

/-! ### holes -/
def CalledV (F : List U → W U) : Prop := (F [.hnd]).Ok (fun u => ∃ hs : List Str, u = .lst (hs.map U.str) ∧ (∀ s ∈ hs, NameOk s) ∧ hs ≠ [] ∧ hs.length ≤ 4 ∧ hs.Nodup) NoX
def nameB (s : Str) : Bool := !s.cps.toList.isEmpty && decide (s.cps.toList.length ≤ 8) && s.cps.toList.all fun c => decide (97 ≤ c) && decide (c ≤ 122)
theorem nameB_ok {s : Str} (h : nameB s = true) : NameOk s := by
  unfold nameB at h
  simp only [Bool.and_eq_true, Bool.not_eq_true', List.isEmpty_eq_false_iff, decide_eq_true_eq, List.all_eq_true] at h
  exact ⟨h.1.1, h.1.2, h.2⟩
theorem called_V (hO : OfV (vc (Str.ofString "_law_of"))) : CalledV (v_law_called_1 vc) := by
  unfold CalledV v_law_called_1
  dsimp only
  rw [hO.lst _ (by simp) (by simp), ok_of]
  intro x hx
  simp only [List.mem_cons, List.not_mem_nil, or_false] at hx
  have mk : ∀ hs : List Str, hs.all nameB = true → hs ≠ [] → hs.length ≤ 4 → hs.Nodup → (W.ret (U.lst (hs.map U.str))).Ok (fun u => ∃ hs : List Str, u = .lst (hs.map U.str) ∧ (∀ s ∈ hs, NameOk s) ∧ hs ≠ [] ∧ hs.length ≤ 4 ∧ hs.Nodup) NoX :=
    fun hs h1 h2 h3 h4 => ⟨hs, rfl, fun s hs' => nameB_ok (List.all_eq_true.mp h1 s hs'), h2, h3, h4⟩
  rcases hx with rfl | rfl | rfl | rfl | rfl | rfl
  · exact mk [Str.ofString "x", Str.ofString "y", Str.ofString "z"] (by decide +kernel) (by simp) (by simp) (by decide +kernel)
  · exact mk [Str.ofString "a", Str.ofString "b", Str.ofString "c"] (by decide +kernel) (by simp) (by simp) (by decide +kernel)
  · exact mk [Str.ofString "b", Str.ofString "a"] (by decide +kernel) (by simp) (by simp) (by decide +kernel)
  · exact mk [Str.ofString "aa", Str.ofString "a", Str.ofString "ab", Str.ofString "b"] (by decide +kernel) (by simp) (by simp) (by decide +kernel)
  · exact mk [Str.ofString "z", Str.ofString "zzzzzzzz", Str.ofString "y"] (by decide +kernel) (by simp) (by simp) (by decide +kernel)
  · exact mk [Str.ofString "c"] (by decide +kernel) (by simp) (by simp) (by decide +kernel)

/-! ### trees -/
inductive Tree where
  | hole (s : Str) | node (f : Str) (cs : List Tree)
  deriving Inhabited
mutual
def Tree.u : Tree → U
  | .hole s => .str s
  | .node f cs => .tup (.str f :: treesU cs)
def treesU : List Tree → List U
  | [] => []
  | t :: ts => t.u :: treesU ts
end
theorem treesU_map : ∀ ts : List Tree, treesU ts = ts.map Tree.u
  | [] => rfl
  | t :: ts => by simp [treesU, treesU_map ts]
theorem u_hole {s : Str} : (Tree.hole s).u = .str s := by simp [Tree.u]
theorem u_node {f : Str} {cs : List Tree} : (Tree.node f cs).u = .tup (.str f :: cs.map Tree.u) := by simp [Tree.u, treesU_map]
mutual
def Tree.dep : Tree → Nat
  | .hole _ => 0
  | .node _ cs => depL cs + 1
def depL : List Tree → Nat
  | [] => 0
  | t :: ts => max t.dep (depL ts)
end
mutual
/-- names and holes of a tree, as written -/
def Tree.syms : Tree → List Str
  | .hole s => [s]
  | .node f cs => f :: symsL cs
def symsL : List Tree → List Str
  | [] => []
  | t :: ts => t.syms ++ symsL ts
end
mutual
/-- a tree of names, each with how many parts, and of holes -/
def Tree.In (ws : List (Str × Nat)) (hs : List Str) : Tree → Prop
  | .hole s => s ∈ hs
  | .node f cs => (f, cs.length) ∈ ws ∧ InL ws hs cs
def InL (ws : List (Str × Nat)) (hs : List Str) : List Tree → Prop
  | [] => True
  | t :: ts => t.In ws hs ∧ InL ws hs ts
end
theorem InL_iff {ws : List (Str × Nat)} {hs : List Str} : ∀ {ts : List Tree}, InL ws hs ts ↔ ∀ t ∈ ts, t.In ws hs
  | [] => by simp [InL]
  | t :: ts => by simp [InL, InL_iff (ts := ts)]
theorem depL_le {n : Nat} : ∀ {ts : List Tree}, depL ts ≤ n ↔ ∀ t ∈ ts, t.dep ≤ n
  | [] => by simp [depL]
  | t :: ts => by
    simp only [depL, List.mem_cons, forall_eq_or_imp, ← depL_le (ts := ts)]
    omega
theorem dep_mem {ts : List Tree} {t : Tree} (h : t ∈ ts) : t.dep ≤ depL ts := depL_le.mp (Nat.le_refl _) t h
structure WsOk (ws : List (Str × Nat)) : Prop where
  zero : ∃ p ∈ ws, p.2 = 0
  three : ∀ p ∈ ws, p.2 ≤ 3
  len : ws.length ≤ 1000
theorem WordsOk.ok {ws : List (Str × Nat)} (h : WordsOk ws) : WsOk ws := by
  have hm := h.many
  have mem : ∀ p ∈ ws, p.2 ∈ [0, 0, 1, 2, 3] := fun p hp => by rw [← hm]; exact List.mem_map_of_mem hp
  refine ⟨?_, fun p hp => ?_, ?_⟩
  · have : (0 : Nat) ∈ ws.map (·.2) := by rw [hm]; simp
    obtain ⟨p, hp, e⟩ := List.mem_map.mp this
    exact ⟨p, hp, e⟩
  · have := mem p hp
    simp only [List.mem_cons, List.not_mem_nil, or_false] at this
    omega
  · have := congrArg List.length hm
    simp at this
    omega
def TreeV (F : List U → W U) (deep : Nat) : Prop := ∀ (ws : List (Str × Nat)) (hs : List Str), WsOk ws → (∀ s ∈ hs, NameOk s) → hs.length ≤ 1000 →
  (F [.hnd, .lst (ws.map wordU), .lst (hs.map U.str), .int deep]).Ok (fun u => ∃ t : Tree, u = t.u ∧ t.In ws hs ∧ t.dep ≤ deep + 1) NoX
theorem ok_names {hs : List Str} (h : ∀ s ∈ hs, NameOk s) {j : Nat} : oks (hs.map U.str) j = true := oks_iff.mpr fun x hx => by
  obtain ⟨s, hs', rfl⟩ := List.mem_map.mp hx
  simp only [U.ok]
  exact (h s hs').low
theorem dp_strs {hs : List Str} : dps (hs.map U.str) = 0 := Nat.le_zero.mp (dps_le fun x hx => by
  obtain ⟨s, hs', rfl⟩ := List.mem_map.mp hx
  simp [U.dp])
theorem nb_strs {hs : List Str} : nbs (hs.map U.str) = true := nbs_iff.mpr fun x hx => by
  obtain ⟨s, hs', rfl⟩ := List.mem_map.mp hx
  simp [U.nb]
/-- is a list of names empty -/
theorem eq_nil_names {hs : List Str} (h : ∀ s ∈ hs, NameOk s) {neg : Bool} : uEq neg (.lst (hs.map U.str)) (.lst []) = .ret (.bl (hs.isEmpty != neg)) := by
  rw [uEq_data (by simp only [U.ok]; exact ok_names h) (by simp [U.ok, oks]) (by simp only [U.dp, dp_strs]; omega) (by simp [U.dp, dps])]
  cases hs with
  | nil => rw [show (U.lst (([] : List Str).map U.str)).eqv (U.lst []) = true from eqv_self (by simp [U.nb, nbs])]; rfl
  | cons s hs => rw [eqv_ne (by simp only [U.nb]; exact nb_strs) (by simp [U.nb, nbs]) (by simp)]; rfl
theorem tree_V (hT : TakeV (vc (Str.ofString "_law_take"))) (hO : OfV (vc (Str.ofString "_law_of"))) (deep : Nat) (hR : ∀ d, deep = d + 1 → TreeV (vc (Str.ofString "_law_tree")) d) : TreeV (v_law_tree_1 vc) deep := by
  intro ws hs hw hhs hl
  unfold v_law_tree_1
  dsimp only
  have t3 : vc (Str.ofString "_law_take") ([.hnd, .int 3] : List U) = wTk 3 := hT 3 (by omega) (by omega)
  rw [eq_nil_names hhs, bind_ret, uBl_bl, bind_ret]
  -- a hole, or a name
  refine W.Ok.bnd (P := fun b => b = true → hs ≠ []) ?_ fun b hb => ?_
  · cases hs with
    | nil => simp
    | cons s hs =>
      simp only [List.isEmpty_cons, Bool.bne_true, Bool.not_false, if_true]
      rw [t3, ok_tk]
      intro i hi
      rw [uEq_ii, bind_ret, uBl_bl, bind_ret]
      intro _
      simp
  cases b with
  | true =>
    rw [if_pos rfl, hO.lst _ (by simpa using hb rfl) (by rw [List.length_map]; omega), ok_of]
    intro x hx
    obtain ⟨s, hs', rfl⟩ := List.mem_map.mp hx
    exact ⟨.hole s, u_hole.symm, by simpa [Tree.In] using hs', by simp [Tree.dep]⟩
  | false =>
    rw [if_neg (by decide), uIter_lst, bind_ret]
    have flt : wLc (ws.map wordU) (fun x1 => ((uIx x1 (.int 1)).bind fun t3 => ((uEq false) t3 (.int 0)).bind fun t4 => (uBl t4).bind fun t5 => if t5 = true then .ret true else (uGt (.int deep) (.int 0)).bind fun t6 => (uBl t6).bind fun t7 => .ret t7).bind fun t8 => if t8 = true then .ret (some x1) else .ret none) =
        .ret ((ws.filter fun p => p.2 == 0 || decide (0 < deep)).map wordU) := by
      rw [← List.filterMap_eq_filter]
      refine wLc_filE fun p hp => ?_
      simp only [wordU, uIx_ti, atI_1, ofO_some, bind_ret, uEq_ii, uBl_bl, uGt_ii]
      have e : ((p.2 : Int) == 0) = (p.2 == 0) := by
        rw [Bool.eq_iff_iff, beq_iff_eq, beq_iff_eq]; omega
      rw [e]
      by_cases h : p.2 = 0
      · simp [h, Option.guard, wordU]
      · by_cases h2 : 0 < deep <;> simp [h, h2, Option.guard, wordU]
    rw [flt, bind_ret]
    obtain ⟨p0, hp0, hz⟩ := hw.zero
    rw [hO.lst _ (by
        intro z
        have : p0 ∈ ws.filter fun p => p.2 == 0 || decide (0 < deep) := List.mem_filter.mpr ⟨hp0, by simp [hz]⟩
        have : wordU p0 ∈ ([] : List U) := by rw [← z]; exact List.mem_map_of_mem this
        cases this) (by
        rw [List.length_map]
        have := List.length_filter_le (fun p : Str × Nat => p.2 == 0 || decide (0 < deep)) ws
        have := hw.len
        omega), ok_of]
    intro x hx
    obtain ⟨p, hp, rfl⟩ := List.mem_map.mp hx
    obtain ⟨hp1, hp2⟩ := List.mem_filter.mp hp
    have h3 := hw.three p hp1
    simp only [wordU, uT2_tup, bind_ret]
    rw [uRng1_nat (by omega), bind_ret]
    refine W.Ok.bnd (wLc_ok (P := fun y => ∃ t : Tree, y = t.u ∧ t.In ws hs ∧ t.dep ≤ deep) (fun x hx => ?_) fun ys hl hy => (⟨hl, hy⟩ : ys.length = _ ∧ ∀ y ∈ ys, ∃ t : Tree, y = t.u ∧ t.In ws hs ∧ t.dep ≤ deep)) fun ys ⟨hl, hy⟩ => ?_
    · have hd : 0 < deep := by
        have : 0 < p.2 := by
          cases e : p.2 with
          | zero => rw [e] at hx; simp at hx
          | succ n => omega
        simp only [Bool.or_eq_true, beq_iff_eq, decide_eq_true_eq] at hp2
        omega
      obtain ⟨d, rfl⟩ : ∃ d, deep = d + 1 := ⟨deep - 1, by omega⟩
      have e : uSub (.int ((d + 1 : Nat) : Int)) (.int 1) = .ret (.int (d : Int)) := by rw [uSub_ii]; congr 2; omega
      rw [e, bind_ret]
      refine W.Ok.bnd (hR d rfl ws hs hw hhs (by assumption)) fun u ⟨t, h1, h2, h3⟩ => ⟨_, rfl, t, h1, h2, h3⟩
    · rw [uTuple_lst, bind_ret]
      rw [List.length_map, List.length_range] at hl
      rw [uAdd_tt (by rw [sizeLine_val]; simp; omega), bind_ret]
      obtain ⟨cs, rfl, h12⟩ := unmap hy
      have h1 := fun t ht => (h12 t ht).1
      have h2 := fun t ht => (h12 t ht).2
      rw [List.length_map] at hl
      refine ⟨.node p.1 cs, by rw [u_node]; rfl, ?_, ?_⟩
      · simp only [Tree.In]
        rw [hl]
        exact ⟨hp1, InL_iff.mpr h1⟩
      · simp only [Tree.dep]
        have := depL_le.mpr h2
        omega

/-! ### the law: right, by each of the first cells -/
theorem law1_V {ns : List Int} (hH : ∀ k : Nat, k ≤ 100 → vc (Str.ofString "_law_hand") [.scr ns, .int k] = .ret .hnd) (hR : (vc (Str.ofString "_law_right") [.hnd]).Ok (fun u => u = .bl true) NoX) :
    (v_law_1 vc [.scr ns]).Ok (fun u => u = .bl true) NoX := by
  unfold v_law_1
  simp only [uLen_scr, bind_ret]
  have e1 : uMin2 ([(.int 3), .int ns.length] : List U) = .ret (.int (if (ns.length : Int) < 3 then ns.length else 3)) := rfl
  rw [e1, bind_ret]
  have e2 : ∀ m : Int, uMax2 ([(.int 1), .int m] : List U) = .ret (.int (if m > 1 then m else 1)) := fun _ => rfl
  rw [e2, bind_ret]
  obtain ⟨m, hm, hm3⟩ : ∃ m : Nat, (if (if (ns.length : Int) < 3 then (ns.length : Int) else 3) > 1 then (if (ns.length : Int) < 3 then (ns.length : Int) else 3) else 1) = (m : Int) ∧ m ≤ 3 := by
    refine ⟨(if (if (ns.length : Int) < 3 then (ns.length : Int) else 3) > 1 then (if (ns.length : Int) < 3 then (ns.length : Int) else 3) else 1 : Int).toNat, ?_, ?_⟩ <;> split <;> split at * <;> omega
  rw [hm, uRng1_nat (by omega), bind_ret]
  refine wFor_all rfl fun x hx nx hn => ?_
  obtain ⟨k, hk, rfl⟩ := List.mem_map.mp hx
  have hk := List.mem_range.mp hk
  rw [hH k (by omega), bind_ret]
  refine W.Ok.bnd hR fun u hu => ?_
  subst hu
  simp only [uTru_bl, bind_ret, Bool.not_true, Bool.false_eq_true, if_false]
  exact hn
theorem hand_V {ns : List Int} {k : Nat} (h : k ≤ 100) : vHand vc [.scr ns, .int k] = .ret .hnd := by
  unfold vHand
  simp only
  rw [if_pos ⟨by omega, by omega⟩]
end
end V

/-! S3: what is shown tells data apart. -/
namespace V
open PySem G

def Cd (p : PyData) : List Nat := p.shown.cps.toList
def cleanS (s : Str) : Bool := s.cps.toList.all fun c => decide (32 ≤ c) && decide (c < 127) && c != 39 && c != 92
mutual
def cleanP : PyData → Bool
  | .str s => cleanS s
  | .list xs => cleanPs xs
  | .tuple xs => cleanPs xs
  | .dict kvs => kvs.isEmpty
  | _ => true
def cleanPs : List PyData → Bool
  | [] => true
  | p :: ps => cleanP p && cleanPs ps
end
theorem app_toList (a b : Str) : (a ++ b).cps.toList = a.cps.toList ++ b.cps.toList := by
  show (a.cps ++ b.cps).toList = _
  simp
theorem cd_none : Cd .none = [78, 111, 110, 101] := by unfold Cd PyData.shown; decide +kernel
theorem cd_true : Cd (.bool true) = [84, 114, 117, 101] := by unfold Cd PyData.shown; decide +kernel
theorem cd_false : Cd (.bool false) = [70, 97, 108, 115, 101] := by unfold Cd PyData.shown; decide +kernel
theorem printable : ∀ c ∈ List.range 127, 32 ≤ c → Unicode.isPrintable c = true := by decide +kernel
theorem cd_str {s : Str} (h : cleanS s = true) : Cd (.str s) = 39 :: (s.cps.toList ++ [39]) := by
  have hs : ∀ c ∈ s.cps.toList, 32 ≤ c ∧ c < 127 ∧ c ≠ 39 ∧ c ≠ 92 := fun c hc => by
    have := List.all_eq_true.mp h c hc
    simp only [Bool.and_eq_true, decide_eq_true_eq, bne_iff_ne, ne_eq] at this
    exact ⟨this.1.1.1, this.1.1.2, this.1.2, this.2⟩
  have hq : reprQuote s = 39 := by
    unfold reprQuote
    rw [if_neg]
    simp only [Bool.and_eq_true, not_and, Bool.not_eq_true]
    intro z
    have : (39 : Nat) ∈ s.cps.toList := by simpa using z
    exact ((hs 39 this).2.2.1 rfl).elim
  unfold Cd PyData.shown reprText
  rw [hq]
  have fold : ∀ (l : List Nat) (acc : Array Nat), (∀ c ∈ l, 32 ≤ c ∧ c < 127 ∧ c ≠ 39 ∧ c ≠ 92) → l.foldl (fun out c => out ++ (Builtin.Str.reprChar 39 c).toArray) acc = acc ++ l.toArray := fun l => by
    induction l with
    | nil => intro acc _; simp
    | cons c l ih =>
      intro acc hl
      obtain ⟨h1, h2, h3, h4⟩ := hl c (by simp)
      have e : Builtin.Str.reprChar 39 c = [c] := by
        unfold Builtin.Str.reprChar
        simp only
        rw [if_neg (by simp; omega), if_neg (by simp; omega), if_neg (by simp; omega), if_neg (by simp; omega), if_pos (printable c (by simp; omega) h1)]
      rw [List.foldl_cons, e, ih _ fun x hx => hl x (by simp [hx])]
      simp
  show ((s.cps.foldl (fun out c => out ++ (Builtin.Str.reprChar 39 c).toArray) #[39]).push 39).toList = _
  rw [← Array.foldl_toList, fold _ _ hs]
  simp
/-- what stands behind the first -/
def Md : List PyData → List Nat
  | [] => []
  | q :: qs => 44 :: 32 :: (Cd q ++ Md qs)
def Ld : List PyData → List Nat
  | [] => []
  | p :: ps => Cd p ++ Md ps
theorem comma_cps : (Str.ofString ", ").cps.toList = [44, 32] := by decide +kernel
theorem textFrom_cps : ∀ (ps : List PyData) (k : Nat) (acc : Str), (textFrom k acc (PyData.shownAll ps)).cps.toList = acc.cps.toList ++ (if k = 0 then Ld ps else Md ps)
  | [], k, acc => by
    unfold PyData.shownAll textFrom
    split <;> simp [Ld, Md]
  | p :: ps, 0, acc => by
    unfold PyData.shownAll textFrom
    rw [textFrom_cps ps, app_toList, app_toList, if_neg (show ¬ (0 : Nat) > 0 by omega), if_neg (show ¬ 0 + 1 = 0 by omega), if_pos rfl]
    rw [show ((("" : String) : Str)).cps.toList = [] by decide +kernel]
    simp [Ld, Cd]
  | p :: ps, k + 1, acc => by
    unfold PyData.shownAll textFrom
    rw [textFrom_cps ps, app_toList, app_toList, if_pos (show k + 1 > 0 by omega), if_neg (show ¬ k + 1 + 1 = 0 by omega), if_neg (show ¬ k + 1 = 0 by omega)]
    rw [show (((", " : String) : Str)).cps.toList = [44, 32] by decide +kernel]
    simp [Md, Cd]
theorem cd_list {ps : List PyData} : Cd (.list ps) = 91 :: (Ld ps ++ [93]) := by
  unfold Cd PyData.shown listText
  rw [app_toList, textFrom_cps, if_pos rfl]
  rw [show ((("[" : String) : Str)).cps.toList = [91] by decide +kernel, show ((("]" : String) : Str)).cps.toList = [93] by decide +kernel]
  simp
theorem join_cps : ∀ (ps : List PyData), (Str.join ((", " : String) : Str) (PyData.shownAll ps)).cps.toList = Ld ps
  | [] => by unfold PyData.shownAll Str.join; decide +kernel
  | [p] => by simp [PyData.shownAll, Str.join, Ld, Md, Cd]
  | p :: q :: ps => by
    have ih := join_cps (q :: ps)
    simp only [PyData.shownAll] at ih ⊢
    unfold Str.join
    rw [app_toList, app_toList, ih, show (((", " : String) : Str)).cps.toList = [44, 32] by decide +kernel]
    simp [Ld, Md, Cd]
theorem shownAll_len : ∀ ps : List PyData, (PyData.shownAll ps).length = ps.length
  | [] => by simp [PyData.shownAll]
  | p :: ps => by simp [PyData.shownAll, shownAll_len ps]
def Td (ps : List PyData) : List Nat := if ps.length == 1 then [44, 41] else [41]
theorem cd_tuple {ps : List PyData} : Cd (.tuple ps) = 40 :: (Ld ps ++ Td ps) := by
  unfold Cd PyData.shown tupleText Td
  rw [app_toList, app_toList, join_cps, shownAll_len]
  rw [show ((("(" : String) : Str)).cps.toList = [40] by decide +kernel]
  split
  · rw [show (((",)" : String) : Str)).cps.toList = [44, 41] by decide +kernel]; simp
  · rw [show (((")" : String) : Str)).cps.toList = [41] by decide +kernel]; simp
theorem cd_dict0 : Cd (.dict []) = [123, 125] := by unfold Cd PyData.shown; decide +kernel
/-! numbers -/
theorem cd_int {i : Int} : Cd (.int i) = (Int.repr i).toList.map Char.toNat := by
  unfold Cd PyData.shown
  show (Str.ofString (toString i)).cps.toList = _
  rw [Str.ofString_eq_toList]
  rfl
theorem digits_nat (n : Nat) : ∀ c ∈ (Nat.repr n).toList, 48 ≤ c.toNat ∧ c.toNat ≤ 57 := fun c hc => by
  have : c.isDigit = true := by
    unfold Nat.repr at hc
    rw [String.toList_ofList] at hc
    exact Nat.isDigit_of_mem_toDigits (by decide) (by decide) hc
  simp only [Char.isDigit, Bool.and_eq_true, decide_eq_true_eq] at this
  exact ⟨this.1, this.2⟩
theorem repr_ne (n : Nat) : (Nat.repr n).toList ≠ [] := by
  unfold Nat.repr
  rw [String.toList_ofList]
  intro z
  have := PySem.toDigits_len_ge 10 n
  rw [z] at this
  simp at this
/-- what is a digit or a dash -/
def isNum (c : Nat) : Prop := (48 ≤ c ∧ c ≤ 57) ∨ c = 45
instance (c : Nat) : Decidable (isNum c) := by unfold isNum; exact inferInstance
theorem cd_int_num {i : Int} : (∀ c ∈ Cd (.int i), isNum c) ∧ Cd (.int i) ≠ [] := by
  rw [cd_int]
  cases i with
  | ofNat n =>
    refine ⟨fun c hc => ?_, fun z => ?_⟩
    · obtain ⟨d, hd, rfl⟩ := List.mem_map.mp hc
      exact .inl (digits_nat n d hd)
    · exact repr_ne n (List.map_eq_nil_iff.mp z)
  | negSucc n =>
    have e : (Int.repr (.negSucc n)).toList = '-' :: (Nat.repr (n + 1)).toList := by
      show ("-" ++ Nat.repr (n + 1)).toList = _
      rw [String.toList_append]
      rfl
    rw [e]
    refine ⟨fun c hc => ?_, by simp⟩
    rw [List.map_cons, List.mem_cons] at hc
    rcases hc with rfl | hc
    · exact .inr rfl
    · obtain ⟨d, hd, rfl⟩ := List.mem_map.mp hc
      exact .inl (digits_nat _ d hd)
theorem cd_int_inj {i j : Int} (h : Cd (.int i) = Cd (.int j)) : i = j := by
  rw [cd_int, cd_int] at h
  have : (Int.repr i).toList = (Int.repr j).toList := by
    exact (List.map_inj_right fun a b hab => Char.toNat_inj.mp hab).mp h
  exact Int.repr_inj.mp (String.toList_inj.mp this)
/-- where a datum ends -/
def Stop (r : List Nat) : Prop := ∀ c l, r = c :: l → c = 44 ∨ c = 41 ∨ c = 93 ∨ c = 125
theorem num_split {a b r r' : List Nat} (ha : ∀ c ∈ a, isNum c) (hb : ∀ c ∈ b, isNum c) (h : Stop r) (h' : Stop r') (e : a ++ r = b ++ r') : a = b ∧ r = r' := by
  have ns : ∀ {c : Nat}, isNum c → ¬ (c = 44 ∨ c = 41 ∨ c = 93 ∨ c = 125) := fun {c} h z => by
    unfold isNum at h
    omega
  induction a generalizing b with
  | nil =>
    cases b with
    | nil => exact ⟨rfl, e⟩
    | cons y b => exact (ns (hb y (by simp)) (h y _ (by simpa using e))).elim
  | cons x a ih =>
    cases b with
    | nil => exact (ns (ha x (by simp)) (h' x _ (by simpa using e.symm))).elim
    | cons y b =>
      simp only [List.cons_append, List.cons.injEq] at e
      obtain ⟨h1, h2⟩ := ih (fun c hc => ha c (by simp [hc])) (fun c hc => hb c (by simp [hc])) e.2
      exact ⟨by rw [e.1, h1], h2⟩
theorem quote_split {a b r r' : List Nat} (ha : ∀ c ∈ a, c ≠ 39) (hb : ∀ c ∈ b, c ≠ 39) (e : a ++ 39 :: r = b ++ 39 :: r') : a = b ∧ r = r' := by
  induction a generalizing b with
  | nil =>
    cases b with
    | nil => simpa using e
    | cons y b => simp at e; exact (hb y (by simp) e.1.symm).elim
  | cons x a ih =>
    cases b with
    | nil => simp at e; exact (ha x (by simp) e.1).elim
    | cons y b =>
      simp only [List.cons_append, List.cons.injEq] at e
      obtain ⟨h1, h2⟩ := ih (fun c hc => ha c (by simp [hc])) (fun c hc => hb c (by simp [hc])) e.2
      exact ⟨by rw [e.1, h1], h2⟩
/-- the first sign tells the kind -/
def kindC : PyData → Nat
  | .none => 78
  | .bool true => 84
  | .bool false => 70
  | .int _ => 0
  | .str _ => 39
  | .list _ => 91
  | .tuple _ => 40
  | .dict _ => 123
theorem head_kind {p : PyData} (h : cleanP p = true) : ∃ c l, Cd p = c :: l ∧ (if isNum c then kindC p = 0 else kindC p = c) := by
  have nn : ∀ c, (c = 78 ∨ c = 84 ∨ c = 70 ∨ c = 39 ∨ c = 91 ∨ c = 40 ∨ c = 123) → ¬ isNum c := fun c h z => by unfold isNum at z; omega
  cases p with
  | none => exact ⟨_, _, cd_none, by rw [if_neg (nn _ (by omega))]; rfl⟩
  | bool b =>
    cases b
    · exact ⟨_, _, cd_false, by rw [if_neg (nn _ (by omega))]; rfl⟩
    · exact ⟨_, _, cd_true, by rw [if_neg (nn _ (by omega))]; rfl⟩
  | int i =>
    obtain ⟨h1, h2⟩ := cd_int_num (i := i)
    cases e : Cd (.int i) with
    | nil => exact (h2 e).elim
    | cons c l => exact ⟨c, l, rfl, by rw [if_pos (h1 c (by rw [e]; simp))]; rfl⟩
  | str s => exact ⟨_, _, cd_str (by simpa [cleanP] using h), by rw [if_neg (nn _ (by omega))]; rfl⟩
  | list ps => exact ⟨_, _, cd_list, by rw [if_neg (nn _ (by omega))]; rfl⟩
  | tuple ps => exact ⟨_, _, cd_tuple, by rw [if_neg (nn _ (by omega))]; rfl⟩
  | dict kvs =>
    cases kvs with
    | nil => exact ⟨_, _, cd_dict0, by rw [if_neg (nn _ (by omega))]; rfl⟩
    | cons a b => simp [cleanP] at h
theorem same_kind {p q : PyData} {r r' : List Nat} (hp : cleanP p = true) (hq : cleanP q = true) (e : Cd p ++ r = Cd q ++ r') : kindC p = kindC q := by
  obtain ⟨c, l, e1, k1⟩ := head_kind hp
  obtain ⟨d, m, e2, k2⟩ := head_kind hq
  rw [e1, e2] at e
  simp only [List.cons_append, List.cons.injEq] at e
  obtain ⟨rfl, _⟩ := e
  split at k1
  · rename_i h; rw [if_pos h] at k2; rw [k1, k2]
  · rename_i h; rw [if_neg h] at k2; rw [k1, k2]
theorem kind_ne (q : PyData) : kindC q ≠ 44 ∧ kindC q ≠ 41 ∧ kindC q ≠ 93 ∧ kindC q ≠ 125 := by
  cases q with
  | bool b => cases b <;> simp [kindC]
  | _ => simp [kindC]
theorem not_head {q : PyData} {c : Nat} {l r : List Nat} (hq : cleanP q = true) (hc : c = 44 ∨ c = 41 ∨ c = 93 ∨ c = 125) (e : c :: l = Cd q ++ r) : False := by
  obtain ⟨d, m, e1, k⟩ := head_kind hq
  rw [e1] at e
  simp only [List.cons_append, List.cons.injEq] at e
  obtain ⟨rfl, _⟩ := e
  have : ¬ isNum c := fun h => by unfold isNum at h; omega
  rw [if_neg this] at k
  have := kind_ne q
  omega
theorem stop_M {qs : List PyData} {z : Nat} {r : List Nat} (hz : z = 44 ∨ z = 41 ∨ z = 93 ∨ z = 125) : Stop (Md qs ++ z :: r) := fun c l e => by
  cases qs with
  | nil => simp [Md] at e; omega
  | cons q qs => simp [Md] at e; omega
mutual
theorem cd_inj : ∀ (p q : PyData) (r r' : List Nat), cleanP p = true → cleanP q = true → Stop r → Stop r' → Cd p ++ r = Cd q ++ r' → p = q ∧ r = r'
  | .none, q, r, r', hp, hq, _, _, e => by
    have k := same_kind hp hq e
    cases q <;> simp [kindC] at k
    · exact ⟨rfl, by rw [cd_none] at e; simpa using e⟩
    · rename_i b; cases b <;> simp [kindC] at k
  | .bool b, q, r, r', hp, hq, _, _, e => by
    have k := same_kind hp hq e
    cases q with
    | bool b' =>
      cases b <;> cases b' <;> simp [kindC] at k
      · exact ⟨rfl, by rw [cd_false] at e; simpa using e⟩
      · exact ⟨rfl, by rw [cd_true] at e; simpa using e⟩
    | _ => cases b <;> simp [kindC] at k
  | .int i, q, r, r', hp, hq, s, s', e => by
    have k := same_kind hp hq e
    cases q with
    | int j =>
      obtain ⟨h1, h2⟩ := num_split cd_int_num.1 cd_int_num.1 s s' e
      exact ⟨by rw [cd_int_inj h1], h2⟩
    | bool b => cases b <;> simp [kindC] at k
    | _ => simp [kindC] at k
  | .str x, q, r, r', hp, hq, s, s', e => by
    have k := same_kind hp hq e
    cases q with
    | str y =>
      have cx : cleanS x = true := by simpa [cleanP] using hp
      have cy : cleanS y = true := by simpa [cleanP] using hq
      rw [cd_str cx, cd_str cy] at e
      simp only [List.cons_append, List.append_assoc, List.cons.injEq, List.nil_append, true_and] at e
      have nq : ∀ {z : Str}, cleanS z = true → ∀ c ∈ z.cps.toList, c ≠ 39 := fun {z} h c hc => by
        have := List.all_eq_true.mp h c hc
        simp only [Bool.and_eq_true, decide_eq_true_eq, bne_iff_ne, ne_eq] at this
        exact this.1.2
      obtain ⟨h1, h2⟩ := quote_split (nq cx) (nq cy) e
      refine ⟨?_, h2⟩
      obtain ⟨⟨a⟩⟩ := x
      obtain ⟨⟨b⟩⟩ := y
      simp at h1
      rw [h1]
    | bool b => cases b <;> simp [kindC] at k
    | _ => simp [kindC] at k
  | .list ps, q, r, r', hp, hq, s, s', e => by
    have k := same_kind hp hq e
    cases q with
    | list qs =>
      rw [cd_list, cd_list] at e
      simp only [List.cons_append, List.append_assoc, List.cons.injEq, List.nil_append, true_and] at e
      obtain ⟨h1, h2⟩ := ld_inj ps qs r r' 93 93 (by omega) (by omega) (by simpa [cleanP] using hp) (by simpa [cleanP] using hq) e
      exact ⟨by rw [h1], h2.2⟩
    | bool b => cases b <;> simp [kindC] at k
    | _ => simp [kindC] at k
  | .tuple ps, q, r, r', hp, hq, s, s', e => by
    have k := same_kind hp hq e
    cases q with
    | tuple qs =>
      have cp : cleanPs ps = true := by simpa [cleanP] using hp
      have cq : cleanPs qs = true := by simpa [cleanP] using hq
      rw [cd_tuple, cd_tuple] at e
      simp only [List.cons_append, List.append_assoc, List.cons.injEq, true_and] at e
      have e1 : ∀ ps : List PyData, ∃ z t, Td ps = z :: t ∧ (z = 44 ∨ z = 41 ∨ z = 93 ∨ z = 125) ∧ (z = 44 → t = [41]) ∧ (z ≠ 44 → t = []) := fun ps => by
        unfold Td
        split
        · exact ⟨44, [41], rfl, by omega, fun _ => rfl, fun h => (h rfl).elim⟩
        · exact ⟨41, [], rfl, by omega, fun h => (by omega), fun _ => rfl⟩
      obtain ⟨z, t, et, hz, t1, t2⟩ := e1 ps
      obtain ⟨z', t', et', hz', t1', t2'⟩ := e1 qs
      rw [et, et'] at e
      simp only [List.cons_append] at e
      -- one part more behind a comma is no closing
      obtain ⟨h1, h2⟩ := lt_inj ps qs (t ++ r) (t' ++ r') z z' hz hz' (fun h => by rw [t1 h]; exact ⟨_, _, rfl, by omega⟩) (fun h => by rw [t1' h]; exact ⟨_, _, rfl, by omega⟩) cp cq e
      refine ⟨by rw [h1], ?_⟩
      subst h1
      rw [et] at et'
      cases et'
      exact List.append_cancel_left h2.2
    | bool b => cases b <;> simp [kindC] at k
    | _ => simp [kindC] at k
  | .dict kvs, q, r, r', hp, hq, s, s', e => by
    have k := same_kind hp hq e
    cases q with
    | dict kvs' =>
      have h1 : kvs = [] := by simpa [cleanP] using hp
      have h2 : kvs' = [] := by simpa [cleanP] using hq
      subst h1 h2
      exact ⟨rfl, by rw [cd_dict0] at e; simpa using e⟩
    | bool b => cases b <;> simp [kindC] at k
    | _ => simp [kindC] at k
theorem ld_inj : ∀ (ps qs : List PyData) (r r' : List Nat) (z z' : Nat), (z = 93 ∨ z = 41) → (z' = 93 ∨ z' = 41) → cleanPs ps = true → cleanPs qs = true → Ld ps ++ z :: r = Ld qs ++ z' :: r' → ps = qs ∧ z = z' ∧ r = r'
  | [], [], r, r', z, z', _, _, _, _, e => by simp [Ld] at e; exact ⟨rfl, e⟩
  | [], q :: qs, r, r', z, z', hz, _, _, hq, e => by
    simp only [cleanPs, Bool.and_eq_true] at hq
    simp only [Ld, List.nil_append, List.append_assoc] at e
    exact (not_head hq.1 (by rcases hz with h | h <;> simp [h]) e).elim
  | p :: ps, [], r, r', z, z', _, hz, hp, _, e => by
    simp only [cleanPs, Bool.and_eq_true] at hp
    simp only [Ld, List.nil_append, List.append_assoc] at e
    exact (not_head hp.1 (by rcases hz with h | h <;> simp [h]) e.symm).elim
  | p :: ps, q :: qs, r, r', z, z', hz, hz', hp, hq, e => by
    simp only [cleanPs, Bool.and_eq_true] at hp hq
    simp only [Ld, List.append_assoc] at e
    obtain ⟨h1, h2⟩ := cd_inj p q _ _ hp.1 hq.1 (stop_M (by omega)) (stop_M (by omega)) e
    obtain ⟨h3, h4⟩ := md_inj ps qs r r' z z' (by omega) (by omega) (fun h => by omega) (fun h => by omega) hp.2 hq.2 h2
    exact ⟨by rw [h1, h3], h4⟩
theorem lt_inj : ∀ (ps qs : List PyData) (r r' : List Nat) (z z' : Nat), (z = 44 ∨ z = 41 ∨ z = 93 ∨ z = 125) → (z' = 44 ∨ z' = 41 ∨ z' = 93 ∨ z' = 125) → (z = 44 → ∃ c l, r = c :: l ∧ c ≠ 32) → (z' = 44 → ∃ c l, r' = c :: l ∧ c ≠ 32) → cleanPs ps = true → cleanPs qs = true → Ld ps ++ z :: r = Ld qs ++ z' :: r' → ps = qs ∧ z = z' ∧ r = r'
  | [], [], r, r', z, z', _, _, _, _, _, _, e => by simp [Ld] at e; exact ⟨rfl, e⟩
  | [], q :: qs, r, r', z, z', hz, _, _, _, _, hq, e => by
    simp only [cleanPs, Bool.and_eq_true] at hq
    simp only [Ld, List.nil_append, List.append_assoc] at e
    exact (not_head hq.1 (by rcases hz with h | h | h | h <;> simp [h]) e).elim
  | p :: ps, [], r, r', z, z', _, hz, _, _, hp, _, e => by
    simp only [cleanPs, Bool.and_eq_true] at hp
    simp only [Ld, List.nil_append, List.append_assoc] at e
    exact (not_head hp.1 (by rcases hz with h | h | h | h <;> simp [h]) e.symm).elim
  | p :: ps, q :: qs, r, r', z, z', hz, hz', c1, c2, hp, hq, e => by
    simp only [cleanPs, Bool.and_eq_true] at hp hq
    simp only [Ld, List.append_assoc] at e
    obtain ⟨h1, h2⟩ := cd_inj p q _ _ hp.1 hq.1 (stop_M hz) (stop_M hz') e
    obtain ⟨h3, h4⟩ := md_inj ps qs r r' z z' hz hz' c1 c2 hp.2 hq.2 h2
    exact ⟨by rw [h1, h3], h4⟩
theorem md_inj : ∀ (ps qs : List PyData) (r r' : List Nat) (z z' : Nat), (z = 44 ∨ z = 41 ∨ z = 93 ∨ z = 125) → (z' = 44 ∨ z' = 41 ∨ z' = 93 ∨ z' = 125) → (z = 44 → ∃ c l, r = c :: l ∧ c ≠ 32) → (z' = 44 → ∃ c l, r' = c :: l ∧ c ≠ 32) → cleanPs ps = true → cleanPs qs = true → Md ps ++ z :: r = Md qs ++ z' :: r' → ps = qs ∧ z = z' ∧ r = r'
  | [], [], r, r', z, z', _, _, _, _, _, _, e => by simp [Md] at e; exact ⟨rfl, e⟩
  | [], q :: qs, r, r', z, z', hz, _, c1, _, _, _, e => by
    simp only [Md, List.nil_append, List.cons_append, List.cons.injEq] at e
    obtain ⟨c, l, e2, hc⟩ := c1 e.1
    rw [e2] at e
    simp only [List.cons.injEq] at e
    exact (hc e.2.1).elim
  | p :: ps, [], r, r', z, z', _, hz, _, c2, _, _, e => by
    simp only [Md, List.nil_append, List.cons_append, List.cons.injEq] at e
    obtain ⟨c, l, e2, hc⟩ := c2 e.1.symm
    rw [e2] at e
    simp only [List.cons.injEq] at e
    exact (hc e.2.1.symm).elim
  | p :: ps, q :: qs, r, r', z, z', hz, hz', c1, c2, hp, hq, e => by
    simp only [cleanPs, Bool.and_eq_true] at hp hq
    simp only [Md, List.cons_append, List.append_assoc, List.cons.injEq, true_and] at e
    obtain ⟨h1, h2⟩ := cd_inj p q _ _ hp.1 hq.1 (stop_M hz) (stop_M hz') e
    obtain ⟨h3, h4⟩ := md_inj ps qs r r' z z' hz hz' c1 c2 hp.2 hq.2 h2
    exact ⟨by rw [h1, h3], h4⟩
end
theorem shown_inj {p q : PyData} (hp : cleanP p = true) (hq : cleanP q = true) (h : p.shown = q.shown) : p = q := by
  have e : Cd p ++ [] = Cd q ++ [] := by unfold Cd; rw [h]
  exact (cd_inj p q [] [] hp hq (fun _ _ z => nomatch z) (fun _ _ z => nomatch z) e).1
mutual
/-- clean data -/
def U.cl : U → Bool
  | .non => true
  | .bl _ => true
  | .int _ => true
  | .str s => cleanS s
  | .tup xs => cls xs
  | .lst xs => cls xs
  | .dct kvs => kvs.isEmpty
  | _ => false
def cls : List U → Bool
  | [] => true
  | x :: xs => x.cl && cls xs
end
mutual
theorem cl_py : ∀ (x : U), x.cl = true → cleanP x.py = true
  | .non, _ => by simp [U.py, cleanP]
  | .bl _, _ => by simp [U.py, cleanP]
  | .int _, _ => by simp [U.py, cleanP]
  | .str s, h => by simpa [U.py, cleanP, U.cl] using h
  | .tup xs, h => by simp only [U.py, cleanP]; exact cls_py xs (by simpa [U.cl] using h)
  | .lst xs, h => by simp only [U.py, cleanP]; exact cls_py xs (by simpa [U.cl] using h)
  | .dct _, _ => by simp [U.py, cleanP]
  | .scr _, h => by simp [U.cl] at h
  | .st _, h => by simp [U.cl] at h
  | .obj _ _, h => by simp [U.cl] at h
  | .fn _, h => by simp [U.cl] at h
  | .ty _, h => by simp [U.cl] at h
  | .hnd, h => by simp [U.cl] at h
theorem cls_py : ∀ (xs : List U), cls xs = true → cleanPs (pys xs) = true
  | [], _ => by simp [pys, cleanPs]
  | x :: xs, h => by
    simp only [cls, Bool.and_eq_true] at h
    simp only [pys, cleanPs, cl_py x h.1, cls_py xs h.2, Bool.and_self]
end
mutual
theorem py_inj : ∀ (x y : U), x.cl = true → y.cl = true → x.py = y.py → x = y
  | .non, y, _, hy, e => by cases y <;> simp_all [U.cl, U.py]
  | .bl _, y, _, hy, e => by cases y <;> simp_all [U.cl, U.py]
  | .int _, y, _, hy, e => by cases y <;> simp_all [U.cl, U.py]
  | .str s, y, _, hy, e => by cases y <;> simp_all [U.cl, U.py]
  | .tup xs, y, hx, hy, e => by
    cases y with
    | tup ys =>
      simp only [U.py, PyData.tuple.injEq] at e
      rw [pys_inj xs ys (by simpa [U.cl] using hx) (by simpa [U.cl] using hy) e]
    | _ => simp_all [U.cl, U.py]
  | .lst xs, y, hx, hy, e => by
    cases y with
    | lst ys =>
      simp only [U.py, PyData.list.injEq] at e
      rw [pys_inj xs ys (by simpa [U.cl] using hx) (by simpa [U.cl] using hy) e]
    | _ => simp_all [U.cl, U.py]
  | .dct _, y, hx, hy, e => by cases y <;> simp_all [U.cl, U.py]
  | .scr _, _, h, _, _ => by simp [U.cl] at h
  | .st _, _, h, _, _ => by simp [U.cl] at h
  | .obj _ _, _, h, _, _ => by simp [U.cl] at h
  | .fn _, _, h, _, _ => by simp [U.cl] at h
  | .ty _, _, h, _, _ => by simp [U.cl] at h
  | .hnd, _, h, _, _ => by simp [U.cl] at h
theorem pys_inj : ∀ (xs ys : List U), cls xs = true → cls ys = true → pys xs = pys ys → xs = ys
  | [], ys, _, _, e => by cases ys <;> simp_all [pys]
  | x :: xs, ys, hx, hy, e => by
    cases ys with
    | nil => simp [pys] at e
    | cons y ys =>
      simp only [cls, Bool.and_eq_true] at hx hy
      simp only [pys, List.cons.injEq] at e
      rw [py_inj x y hx.1 hy.1 e.1, pys_inj xs ys hx.2 hy.2 e.2]
end
theorem sh_inj {x y : U} (hx : x.cl = true) (hy : y.cl = true) (h : x.sh = y.sh) : x = y := py_inj x y hx hy (shown_inj (cl_py x hx) (cl_py y hy) h)
theorem sh_eq {x y : U} (hx : x.cl = true) (hy : y.cl = true) : (x.sh == y.sh) = true ↔ x = y := by
  rw [beq_iff_eq]
  exact ⟨sh_inj hx hy, fun e => by rw [e]⟩
end V

/-! V11: lists put together anew, of what is not one's own. -/
namespace V
open PySem L2 G
section
variable {α β γ δ : Type} {base C c ca cb : Nat} {υ : Fr} {a b : ME}
theorem sl_add {Ea Eb : (U → W β) → W β} (ha : SE base C ca a υ Ea) (hb : SE base C cb b υ Eb) : SL base C (ca + cb) (mBin opAdd a b) υ fun f => Ea fun x => Eb fun y => match x, y with
    | .lst xs, .lst ys => if xs.length + ys.length ≤ sizeLine then f (xs ++ ys) else .fail
    | _, _ => .fail := fun w σ f Q X gd F hR q => by
  unfold mBin
  refine ha.goes gd F hR q fun w1 dx x g1 F1 e1 h1 r1 q1 => hb.goes (c' := 0) g1 F1 h1 q1 fun w2 dy y g2 F2 e2 h2 r2 q2 => ?_
  split at q2
  · obtain ⟨m, ds, rfl, _, _, _, p2, x1, x2, x3⟩ := den_lst (e2.den r1)
    obtain ⟨n, es, rfl, _, _, _, r2, y1, y2, y3⟩ := den_lst r2
    split at q2
    · rename_i hh
      have hh' : ds.length + es.length ≤ sizeLine := by rw [p2.length, r2.length]; exact hh
      simp only [opAdd, x1, y1, if_pos hh']
      exact goes_new .ow (by decide) g2 (p2.append r2) fun w' e k s r => ⟨_, ⟨_, rfl, (by have := e1.len; have := e2.len; omega), _, k, s, by rw [List.length_append]; exact hh', r⟩, q2⟩
    · exact q2.elim
  · exact q2.elim
end
end V

namespace P
open PySem L2 G V
/-! holes_in -/
def b_holes_in_1_1 (call : CallF) : G.SS :=
  (sSeq (sAsg (mBM .lst mPop (mVar 2) aNil) (gNm 3))
  (sIf (mTru (mCB bIsi (aCons (mVar 3) (aCons (mC (.ty .str)) aNil)))) (sAsg (mC (.bl true)) (gSb (mVar 1) (mVar 3))) (sExpr (mBM .lst mExtend (mVar 2) (aCons (mSl3 (mVar 3) oNone (oSome (mC (.int 0))) (mUn opNeg (mC (.int 1)))) aNil)))))

def b_holes_in_1 (call : CallF) : G.SS :=
  (sSeq (sPar2 1 2 (aCons mDict0 (aCons (mLst (aCons (mVar 0) aNil)) aNil)))
  (sSeq (sWhile (mTru (mVar 2)) (b_holes_in_1_1 call))
  (sRet (mCB bTuple (aCons (mVar 1) aNil)))))

def v_holes_in_1 (vc : CallV) : List U → W U := fun us => match us with
  | [a1] => wWhile (S := List (U × U) × List U) LF ([], ([a1] : List U)) (fun s2 nx3 bk4 => ((uTru (.lst s2.2)).bind fun t17 => .ret t17).tot.bind fun t16 => if t16 = true then (uPop s2.2).bind fun q5 => (uIsi ([q5.1, (.ty .str)] : List U)).bind fun t13 => (uTru t13).bind fun t14 => if t14 = true then (uSetK s2.1 q5.1 (.bl true)).bind fun l6 => nx3 (l6, q5.2) else (uIntO (.int 0)).bind fun t9 => (uNeg (.int 1)).bind fun t10 => (uIntO t10).bind fun t11 => (uSl3 q5.1 none (some t9) t11).bind fun t12 => (uSeq t12).bind fun ys8 => if List.length q5.2 + ys8.length ≤ sizeLine then nx3 (s2.1, (q5.2 ++ ys8)) else .fail else bk4 s2) (fun s15 => if (List.isEmpty s15.1 || flatKeysU s15.1) = true then .ret (.tup (s15.1.map (·.1))) else .fail)
  | _ => .fail
theorem sb_holes_in_1 {C : Nat} {call : CallF} {vc : CallV} (hcall : CallS C call vc) : ∃ c, c ≤ CF ∧ ∀ (base : Nat) (a1 : U), ∃ wm : (Unit → W U) → (Unit → W U) → (Unit → W U) → W U, V.SS base C c (b_holes_in_1 call) [some (.v a1), none, none, none] [none, none, none, none] (fun _ => [none, none, none, none]) (fun _ => [none, none, none, none]) wm ∧ v_holes_in_1 vc [a1] = wm (fun _ => .ret .non) (fun _ => .fail) fun _ => .fail :=
  ⟨_, by decide +kernel, fun base a1 => ⟨_, (ss_seq (ss_par2 (en := fun z1 => [some (.v a1), some (.dct z1.1), some (.lst z1.2), none]) (ea := O.dct) (eb2 := O.lst) 1 2 (by decide) (.no (.no (.no (.no .nil)))) sd_dict0 (sl_lst (sa_cons (se_var 0 rfl) sa_nil) (by decide)) (fun _ => rfl)) fun z1 => (ss_seq (ss_while (emb := fun s2 : List (U × U) × List U => [some (.v a1), some (.dct s2.1), some (.lst s2.2), none]) (z1.1, z1.2) (fun _ => (.no (.no (.no (.no .nil))))) (.eq (.eq (.eq (.no .nil)))) (fun s2 => (st_bor (υ1 := [some (.v a1), some (.v (.dct s2.1)), some (.v (.lst s2.2)), none]) (.eq (.vd (.vl (.no .nil)))) (st_tru (se_var 2 rfl)))) fun s2 => (ss_seq (ss_asgX' (en := fun q5 : U × List U => [some (.v a1), some (.dct s2.1), some (.lst q5.2), some (.v q5.1)]) (.no (.no (.no (.no .nil)))) (sx_pop 2 rfl) (fun q5 => (stG_nm (en := fun _ => [some (.v a1), some (.dct s2.1), some (.lst q5.2), some (.v q5.1)]) 3 rfl)) (fun _ _ => rfl)) fun q5 => (ss_if (.no (.no (.no (.no .nil)))) (st_tru (se_cb uIsi_ok (sa_cons (se_var 3 rfl) (sa_cons (se_ty .str) sa_nil)))) (ss_weak (fun l6 => (l6, q5.2)) (ss_setK (en := fun l6 => [some (.v a1), some (.dct l6), some (.lst q5.2), some (.v q5.1)]) 1 rfl (.no (.no (.no (.no .nil)))) (se_bl true) (se_var 3 rfl) (fun _ => rfl)) fun l6 => (.eq (.eq (.eq (.no .nil))))) (ss_weak (fun l7 => (s2.1, l7)) (ss_extend (en := fun l7 => [some (.v a1), some (.dct s2.1), some (.lst l7), some (.v q5.1)]) 2 rfl (.no (.no (.no (.no .nil)))) (se_sl3 (se_var 3 rfl) sp_none (sp_some (se_int 0)) (se_un uNeg_ok (se_int 1))) (fun _ => rfl)) fun l7 => (.eq (.eq (.eq (.no .nil)))))))) fun s15 => (ss_ret (.no (.no (.no (.no .nil)))) (se_keysOwn 1 rfl)))), rfl⟩⟩
theorem s_holes_in_1 {C : Nat} {call : CallF} {vc : CallV} (hC : 1 ≤ C) (hcall : CallS C call vc) : FnS (CF * C) (runF 4 (b_holes_in_1 call)) (v_holes_in_1 vc) := let ⟨c, hc, h⟩ := sb_holes_in_1 hcall; fnS_of 4 1 c hc (fun base us hl => match us, hl with | [a1], _ => h base a1) fun us Q X h => by unfold v_holes_in_1 at h; split at h <;> first | rfl | exact h.elim
end P

/-! S4: trees' sizes; texts and their dots; names, full names; holes_in. -/
namespace V
open PySem G P
section
variable {β : Type} {Q : β → Prop} {X : UX → Prop} {vc : CallV}
def U.dat (u : U) : Bool := (tyU u).isSome
theorem isi_dat {u : U} (h : u.dat = true) {t : Ty} (ht : t ≠ .non) : ∃ a, tyU u = some a ∧ uIsi [u, .ty t] = .ret (.bl (a.sub t)) := by
  obtain ⟨a, e⟩ := Option.isSome_iff_exists.mp h
  refine ⟨a, e, ?_⟩
  unfold uIsi
  simp only
  rw [if_neg ht, e]
  rfl
mutual
def Tree.sz : Tree → Nat
  | .hole _ => 1
  | .node _ cs => szL cs + 1
def szL : List Tree → Nat
  | [] => 0
  | t :: ts => t.sz + szL ts
end
mutual
theorem dep_sz : ∀ (t : Tree), t.dep ≤ t.sz
  | .hole s => by simp [Tree.dep]
  | .node f cs => by simp only [Tree.dep, Tree.sz]; have := depL_sz cs; omega
theorem depL_sz : ∀ (ts : List Tree), depL ts ≤ szL ts
  | [] => by simp [depL]
  | t :: ts => by simp only [depL, szL]; have := dep_sz t; have := depL_sz ts; omega
end
theorem enumU_map {τ : Type} {e : τ → U} {ts : List τ} : enumU (ts.map e) = ts.zipIdx.map fun p => .tup [.int p.2, e p.1] := by
  unfold enumU
  rw [List.zipIdx_map, List.map_map]
  rfl
structure Sm1 (v : U) : Prop where
  dat : v.dat = true
  cl : v.cl = true
  ok : v.ok 7 = true
  wt : v.wt ≤ 100
  dp : v.dp ≤ 3
theorem cls_iff : ∀ {l : List U}, cls l = true ↔ ∀ v ∈ l, v.cl = true
  | [] => by simp [cls]
  | x :: l => by simp [cls, cls_iff (l := l)]
mutual
theorem ok_mono : ∀ (u : U) (j : Nat), u.ok j = true → u.ok (j + 1) = true
  | .non, _, _ => rfl
  | .bl _, _, _ => rfl
  | .int _, _, h => by simpa [U.ok] using h
  | .str _, _, h => by simpa [U.ok] using h
  | .tup xs, j, h => by simp only [U.ok] at h ⊢; exact oks_mono xs j h
  | .lst xs, 0, h => by simp [U.ok] at h
  | .lst xs, j + 1, h => by simp only [U.ok] at h ⊢; exact oks_mono xs j h
  | .scr _, _, h => by simp [U.ok] at h
  | .dct _, _, h => by simp [U.ok] at h
  | .st _, _, h => by simp [U.ok] at h
  | .obj _ _, _, h => by simp [U.ok] at h
  | .fn _, _, h => by simp [U.ok] at h
  | .ty _, _, h => by simp [U.ok] at h
  | .hnd, _, h => by simp [U.ok] at h
theorem oks_mono : ∀ (us : List U) (j : Nat), oks us j = true → oks us (j + 1) = true
  | [], _, _ => rfl
  | u :: us, j, h => by
    simp only [oks, Bool.and_eq_true] at h ⊢
    exact ⟨ok_mono u j h.1, oks_mono us j h.2⟩
end
theorem cutB_all {α : Type} {xs : List α} : cutB xs none none = xs.reverse := by
  unfold cutB bEnd
  simp
theorem sm1_int {i : Int} (h : i.natAbs < 1000000000000000000000000) : Sm1 (.int i) := ⟨rfl, rfl, by simpa [U.ok] using h, by simp [U.wt], by simp [U.dp]⟩
mutual
theorem sz_le : ∀ (ws : List (Str × Nat)) (hs : List Str) (t : Tree), WsOk ws → t.In ws hs → t.sz ≤ 4 ^ t.dep
  | ws, hs, .hole s, _, _ => by simp [Tree.sz, Tree.dep]
  | ws, hs, .node f cs, hw, hi => by
    simp only [Tree.In] at hi
    have h3 := hw.three _ hi.1
    have := szL_le ws hs cs hw hi.2
    simp only [Tree.sz, Tree.dep, Nat.pow_succ]
    have h4 : cs.length * 4 ^ depL cs ≤ 3 * 4 ^ depL cs := Nat.mul_le_mul_right _ h3
    have h5 : 1 ≤ 4 ^ depL cs := Nat.one_le_iff_ne_zero.mpr (Nat.pos_iff_ne_zero.mp (Nat.pow_pos (by decide)))
    omega
theorem szL_le : ∀ (ws : List (Str × Nat)) (hs : List Str) (ts : List Tree), WsOk ws → InL ws hs ts → szL ts ≤ ts.length * 4 ^ depL ts
  | ws, hs, [], _, _ => by simp [szL]
  | ws, hs, t :: ts, hw, hi => by
    simp only [InL] at hi
    have h1 := sz_le ws hs t hw hi.1
    have h2 := szL_le ws hs ts hw hi.2
    simp only [szL, depL, List.length_cons, Nat.add_mul, Nat.one_mul]
    have h3 : 4 ^ t.dep ≤ 4 ^ max t.dep (depL ts) := Nat.pow_le_pow_right (by decide) (Nat.le_max_left _ _)
    have h4 : ts.length * 4 ^ depL ts ≤ ts.length * 4 ^ max t.dep (depL ts) := Nat.mul_le_mul_left _ (Nat.pow_le_pow_right (by decide) (Nat.le_max_right _ _))
    omega
end
theorem sz_mem {ts : List Tree} {t : Tree} (h : t ∈ ts) : t.sz ≤ szL ts := by
  induction ts with
  | nil => cases h
  | cons x ts ih =>
    simp only [szL]
    rcases List.mem_cons.mp h with rfl | h
    · omega
    · have := ih h
      omega
/-- the trees drawn are data -/
structure TreeSm (t : Tree) : Prop where
  ok : ∀ j, t.u.ok j = true
  wt : t.u.wt + 1 ≤ 21 * t.sz
  dp : t.u.dp ≤ t.dep
  cl : t.u.cl = true
  nb : t.u.nb = true
theorem name_clean {s : Str} (h : NameOk s) : cleanS s = true := List.all_eq_true.mpr fun c hc => by
  have := h.2.2 c hc
  simp only [Bool.and_eq_true, decide_eq_true_eq, bne_iff_ne, ne_eq]
  omega
theorem full_clean {s : Str} (h : FullOk s) : cleanS s = true := List.all_eq_true.mpr fun c hc => by
  obtain ⟨a, b, e, ha, hb⟩ := h
  rw [e] at hc
  simp only [Bool.and_eq_true, decide_eq_true_eq, bne_iff_ne, ne_eq]
  rcases List.mem_append.mp hc with z | z
  · have := ha.2.2 c z; omega
  · rcases List.mem_cons.mp z with z | z
    · omega
    · have := hb.2.2 c z; omega
mutual
theorem tree_sm : ∀ (ws : List (Str × Nat)) (hs : List Str) (t : Tree), (∀ p ∈ ws, FullOk p.1) → (∀ s ∈ hs, NameOk s) → t.In ws hs → TreeSm t
  | ws, hs, .hole s, hw, hh, hi => by
    simp only [Tree.In] at hi
    have n := hh s hi
    have := n.len
    exact ⟨fun j => by simp only [u_hole, U.ok]; exact n.low, by simp only [u_hole, U.wt, Tree.sz]; omega, by simp [u_hole, U.dp], by simp only [u_hole, U.cl]; exact name_clean n, by simp [u_hole, U.nb]⟩
  | ws, hs, .node f cs, hw, hh, hi => by
    simp only [Tree.In] at hi
    have n := hw _ hi.1
    have : f.length ≤ 17 := n.len
    obtain ⟨h1, h2, h3, h4, h5⟩ := trees_sm ws hs cs hw hh hi.2
    refine ⟨fun j => ?_, ?_, ?_, ?_, ?_⟩
    · simp only [u_node, U.ok, oks, Bool.and_eq_true]; exact ⟨n.low, h1 j⟩
    · simp only [u_node, U.wt, wts, Tree.sz]; omega
    · simp only [u_node, U.dp, dps, Tree.dep]; omega
    · simp only [u_node, U.cl, cls, Bool.and_eq_true]; exact ⟨full_clean n, h4⟩
    · simp only [u_node, U.nb, nbs, Bool.and_eq_true]; exact ⟨trivial, h5⟩
theorem trees_sm : ∀ (ws : List (Str × Nat)) (hs : List Str) (ts : List Tree), (∀ p ∈ ws, FullOk p.1) → (∀ s ∈ hs, NameOk s) → InL ws hs ts → (∀ j, oks (ts.map Tree.u) j = true) ∧ wts (ts.map Tree.u) ≤ 21 * szL ts ∧ dps (ts.map Tree.u) ≤ depL ts ∧ cls (ts.map Tree.u) = true ∧ nbs (ts.map Tree.u) = true
  | ws, hs, [], _, _, _ => ⟨fun j => by simp [oks], by simp [wts, szL], by simp [dps, depL], by simp [cls], by simp [nbs]⟩
  | ws, hs, t :: ts, hw, hh, hi => by
    simp only [InL] at hi
    obtain ⟨a1, a2, a3, a4, a5⟩ := tree_sm ws hs t hw hh hi.1
    obtain ⟨h1, h2, h3, h4, h5⟩ := trees_sm ws hs ts hw hh hi.2
    have : 1 ≤ t.sz := by cases t <;> simp [Tree.sz]
    refine ⟨fun j => by simp only [List.map_cons, oks, a1 j, h1 j, Bool.and_self], by simp only [List.map_cons, wts, szL]; omega, by simp only [List.map_cons, dps, depL]; omega, by simp only [List.map_cons, cls, a4, h4, Bool.and_self], by simp only [List.map_cons, nbs, a5, h5, Bool.and_self]⟩
end

/-! ### one sign in a text -/
theorem inStr_one {c : Nat} {z : Str} : inStr ⟨#[c]⟩ z = decide (c ∈ z.cps.toList) := by
  unfold inStr
  rw [PySem.StrLaws.found_one]
theorem uIn_one {c : Nat} {z : Str} {neg : Bool} : uInN neg (.str ⟨#[c]⟩) (.str z) = .ret (.bl (decide (c ∈ z.cps.toList) != neg)) := by
  unfold uInN uIn
  simp only [inStr_one, Option.map_some]
  rfl
theorem dotStr : Str.ofString "." = ⟨#[46]⟩ := by decide +kernel
theorem uIn_dot {z : Str} {neg : Bool} : uInN neg (.str (Str.ofString ".")) (.str z) = .ret (.bl (decide (46 ∈ z.cps.toList) != neg)) := by
  rw [dotStr]; exact uIn_one

/-! ### split, count and find at a dot -/
theorem partsFrom_len (x : Str) (w : Nat) : ∀ (cuts : List Nat) (a : Nat), (PySem.StrLaws.partsFrom x w a cuts).length = cuts.length + 1
  | [], a => rfl
  | c :: r, a => by
    show (_ :: _).length = _
    rw [List.length_cons, partsFrom_len x w r, List.length_cons]
theorem split_none {x y : Str} (h : Builtin.Str.occurrences x y 0 x.length (x.length + 1) = []) : Txt.split x y = [x] := by
  unfold Txt.split
  rw [h]
  simp
theorem count_split (x : Str) : Txt.count x ⟨#[46]⟩ + 1 = ((Txt.split x ⟨#[46]⟩).length : Int) := by
  obtain ⟨f, g, hn⟩ := PySem.StrLaws.occ_tight x ⟨#[46]⟩ (by decide)
  unfold Txt.count
  cases ho : Builtin.Str.occurrences x ⟨#[46]⟩ 0 x.length (x.length + 1) with
  | nil => rw [split_none ho]; rfl
  | cons c r =>
    rw [ho] at g
    have hc : c + (⟨#[46]⟩ : Str).length ≤ x.length := g.2.1.1
    have h1 : ¬ (decide (x.length < (⟨#[46]⟩ : Str).length) || decide (Builtin.Str.strKind x < Builtin.Str.strKind ⟨#[46]⟩)) = true := by
      have hk : ¬ Builtin.Str.strKind x < Builtin.Str.strKind ⟨#[46]⟩ := TL.kind_ok (by decide +kernel)
      simp only [Bool.or_eq_true, decide_eq_true_eq, not_or]
      exact ⟨by omega, hk⟩
    unfold Txt.split
    rw [if_neg h1, ho, if_neg (by simp), PySem.StrLaws.partsBetween_eq, partsFrom_len]
    simp
/-- a text at its dots -/
theorem split_dots (x : Str) : (Txt.split x ⟨#[46]⟩).map TL.tl = TL.spl [46] 0 [] (TL.tl x) := TL.split_spl x ⟨#[46]⟩ (by decide) (TL.kind_ok (by decide +kernel))
/-- two parts: one dot -/
theorem split_two (x : Str) : (∃ a b : List Nat, x.cps.toList = a ++ 46 :: b ∧ 46 ∉ a ∧ 46 ∉ b ∧ Txt.split x ⟨#[46]⟩ = [⟨a.toArray⟩, ⟨b.toArray⟩]) ∨
    ((Txt.split x ⟨#[46]⟩).length ≠ 2 ∧ ¬ ∃ a b : List Nat, x.cps.toList = a ++ 46 :: b ∧ 46 ∉ a ∧ 46 ∉ b) := by
  have h := split_dots x
  by_cases m : 46 ∈ TL.tl x
  · obtain ⟨a, b, e, ha⟩ := List.eq_append_cons_of_mem m
    by_cases m2 : 46 ∈ b
    · obtain ⟨b1, b2, e2, hb⟩ := List.eq_append_cons_of_mem m2
      right
      constructor
      · have e3 : TL.tl x = a ++ (46 :: [] ++ (b1 ++ (46 :: [] ++ b2))) := by rw [e, e2]; simp
        rw [e3, TL.spl_part1 ha, TL.spl_part1 hb] at h
        have h2 := congrArg List.length h
        rw [List.length_map] at h2
        rw [h2]
        intro z
        simp only [List.length_cons] at z
        have : (TL.spl [46] 0 [] b2).length = 0 := by omega
        have h3 : TL.spl [46] 0 [] b2 = [] := List.length_eq_zero_iff.mp this
        by_cases m3 : 46 ∈ b2
        · obtain ⟨c1, c2, e4, hc⟩ := List.eq_append_cons_of_mem m3
          have e5 : b2 = c1 ++ (46 :: [] ++ c2) := by rw [e4]; simp
          rw [e5, TL.spl_part1 hc] at h3
          cases h3
        · rw [TL.spl_last1 m3] at h3; cases h3
      · rintro ⟨a', b', e', ha', hb'⟩
        have c1 : (TL.tl x).count 46 = 1 := by
          show x.cps.toList.count 46 = 1
          rw [e', List.count_append, List.count_cons, List.count_eq_zero.mpr ha', List.count_eq_zero.mpr hb']
          rfl
        have c2 : 2 ≤ (TL.tl x).count 46 := by
          rw [e, e2]
          simp only [List.count_append, List.count_cons_self]
          omega
        omega
    · left
      refine ⟨a, b, e, ha, m2, ?_⟩
      have e3 : TL.tl x = a ++ (46 :: [] ++ b) := by rw [e]; simp
      rw [e3, TL.spl_part1 ha, TL.spl_last1 m2] at h
      refine TL.map_tl_inj ?_
      rw [h]
      simp [TL.tl]
  · right
    constructor
    · rw [TL.spl_last1 m] at h
      have h2 := congrArg List.length h
      rw [List.length_map] at h2
      rw [h2]
      simp
    · rintro ⟨a, b, e, _, _⟩
      exact m (by show 46 ∈ x.cps.toList; rw [e]; simp)
theorem at_dot {f : Str} {i : Nat} : PySem.StrLaws.At f ⟨#[46]⟩ f.length i ↔ f.cps.toList[i]? = some 46 := PySem.StrLaws.subAt_one f 46 i
theorem find_dot {f : Str} {a b : List Nat} (e : f.cps.toList = a ++ 46 :: b) (ha : 46 ∉ a) : Txt.find f ⟨#[46]⟩ = (a.length : Int) := by
  have h1 : PySem.StrLaws.At f ⟨#[46]⟩ f.length a.length := by
    rw [at_dot, e, List.getElem?_append_right (Nat.le_refl _)]
    simp
  rcases PyProof.Rows.find_whole f ⟨#[46]⟩ with ⟨_, h⟩ | ⟨i, hz, hi, hn⟩
  · exact (h _ h1).elim
  · rw [hz]
    rcases Nat.lt_trichotomy i a.length with z | z | z
    · rw [at_dot, e, List.getElem?_append_left z] at hi
      exact (ha (List.mem_of_getElem? hi)).elim
    · rw [z]
    · exact (hn _ z h1).elim
theorem cutS_to {f : Str} {a b : List Nat} (e : f.cps.toList = a ++ b) : L2.cutS f none (some (a.length : Int)) = ⟨a.toArray⟩ := by
  have e2 : f.length = f.cps.toList.length := by simp [Str.length]
  unfold L2.cutS HT.sIx
  rw [e2, e]
  simp only [List.drop_zero, Nat.sub_zero]
  rw [if_neg (by omega), Int.toNat_natCast, Nat.min_eq_left (by simp)]
  simp
theorem cutS_from {f : Str} {a b : List Nat} (e : f.cps.toList = a ++ b) : L2.cutS f (some (a.length : Int)) none = ⟨b.toArray⟩ := by
  have e2 : f.length = f.cps.toList.length := by simp [Str.length]
  unfold L2.cutS HT.sIx
  rw [e2, e]
  dsimp only
  rw [if_neg (by omega), Int.toNat_natCast, Nat.min_eq_left (by simp)]
  simp

/-! ### names, full names, trees of anything -/
abbrev letters : Str := Str.ofString "abcdefghijklmnopqrstuvwxyz"
def lowC (c : Nat) : Bool := decide (c ∈ letters.cps.toList)
theorem lowC_dot : lowC 46 = false := by decide +kernel
def nmS (s : Str) : Bool := decide (1 ≤ s.length) && decide (s.length ≤ 8) && s.cps.toList.all lowC
def nmB : U → Bool
  | .str s => nmS s
  | _ => false
def flS (s : Str) : Bool := match Txt.split s ⟨#[46]⟩ with
  | [a, b] => nmS a && nmS b
  | _ => false
def flB : U → Bool
  | .str s => flS s
  | _ => false
mutual
def trB : U → Bool
  | .tup [] => false
  | .tup (f :: xs) => decide (xs.length ≤ 3) && flB f && trBs xs
  | u => nmB u
def trBs : List U → Bool
  | [] => true
  | x :: xs => trB x && trBs xs
end
theorem trBs_all : ∀ xs : List U, trBs xs = xs.all trB
  | [] => rfl
  | x :: xs => by simp only [trBs, List.all_cons, trBs_all xs]
theorem nm_dot {s : Str} (h : nmS s = true) : 46 ∉ s.cps.toList := fun m => by
  unfold nmS at h
  simp only [Bool.and_eq_true, List.all_eq_true] at h
  have := h.2 46 m
  rw [lowC_dot] at this
  cases this
theorem fl_dot {s : Str} (h : flS s = true) : ∃ a b : List Nat, s.cps.toList = a ++ 46 :: b ∧ 46 ∉ a ∧ 46 ∉ b := by
  unfold flS at h
  rcases split_two s with ⟨a, b, e, ha, hb, es⟩ | ⟨n, _⟩
  · exact ⟨a, b, e, ha, hb⟩
  · split at h
    · rename_i a b e
      rw [e] at n
      exact (n rfl).elim
    · cases h
def NmV (F : List U → W U) : Prop := ∀ u : U, u.dat = true → (∀ s, u = .str s → s.length ≤ sizeLine) → F [u] = .ret (.bl (nmB u))
def FlV (F : List U → W U) : Prop := ∀ u : U, u.dat = true → (∀ s, u = .str s → s.length ≤ 1000000) → F [u] = .ret (.bl (flB u))
theorem blsU_bl (bs : List Bool) : blsU (bs.map U.bl) = some bs := by
  induction bs with
  | nil => rfl
  | cons b bs ih => simp only [List.map_cons, blsU, ih, Option.map_some]
theorem uAll_bl {bs : List Bool} : uAll [.lst (bs.map U.bl)] = .ret (.bl (bs.all id)) := by
  unfold uAll
  simp only [blsU_bl, Option.map_some]
  rfl
theorem all_signs {vc : CallV} {s : Str} : ((uIter (.str s)).bind fun xs => (wLc xs fun x1 => ((uInN false) x1 (.str letters)).bind fun t3 => .ret (some t3)).bind fun ys => (uAll ([(.lst ys)] : List U)).bind fun t => (.ret t : W U)) = .ret (.bl (s.cps.toList.all lowC)) := by
  simp only [uIter, bind_ret]
  rw [wLc_mapE (g := fun c => U.bl (lowC c)) fun c hc => by
    rw [uIn_one]
    simp only [bind_ret, Bool.bne_false]
    rfl]
  simp only [bind_ret]
  have : (s.cps.toList.map fun c => U.bl (lowC c)) = (s.cps.toList.map lowC).map U.bl := by rw [List.map_map]; rfl
  rw [this, uAll_bl]
  simp [bind_ret, List.all_map]
end
end V

/-! S5: the holes of a tree. -/
namespace V
open PySem G P
section
variable {β : Type} {Q : β → Prop} {X : UX → Prop} {vc : CallV}
mutual
def Tree.hs : Tree → List Str
  | .hole s => [s]
  | .node _ cs => hsL cs
def hsL : List Tree → List Str
  | [] => []
  | t :: ts => t.hs ++ hsL ts
end
theorem hsL_app : ∀ (ts us : List Tree), hsL (ts ++ us) = hsL ts ++ hsL us
  | [], us => rfl
  | t :: ts, us => by simp [hsL, hsL_app ts us]
theorem szL_app : ∀ (ts us : List Tree), szL (ts ++ us) = szL ts + szL us
  | [], us => by simp [szL]
  | t :: ts, us => by simp only [List.cons_append, szL, szL_app ts us]; omega
theorem sz_pos (t : Tree) : 1 ≤ t.sz := by cases t <;> simp [Tree.sz]
theorem len_szL : ∀ ts : List Tree, ts.length ≤ szL ts
  | [] => by simp
  | t :: ts => by have := len_szL ts; have := sz_pos t; simp only [List.length_cons, szL]; omega
def addS (acc : List Str) (s : Str) : List Str := if s ∈ acc then acc else acc ++ [s]
/-- each hole once, as they first come -/
def Tree.holes (t : Tree) : List Str := t.hs.foldl addS []
theorem addS_len (acc : List Str) (s : Str) : (addS acc s).length ≤ acc.length + 1 := by
  unfold addS; split <;> simp
abbrev kvT (acc : List Str) : List (U × U) := acc.map fun s => (U.str s, U.bl true)
theorem setK_str {acc : List Str} {s : Str} (h : acc.length < sizeLine) : uSetK (kvT acc) (.str s) (.bl true) = .ret (kvT (addS acc s)) := by
  have ke : ∀ a : Str, decide (kOfU (.str a) = kOfU (.str s)) = decide (a = s) := fun a => by
    simp [kOfU]
  have k : kindOkU (kvT acc) (.str s) = true := by
    cases acc with
    | nil => rfl
    | cons a r => rfl
  unfold uSetK
  rw [if_pos ⟨k, by simpa using h⟩]
  congr 1
  unfold uPutK addS
  have an : ((kvT acc).any fun kv => decide (kOfU kv.1 = kOfU (.str s))) = decide (s ∈ acc) := by
    simp only [List.any_map, Function.comp_def, ke]
    rw [Bool.eq_iff_iff]
    simp only [List.any_eq_true, decide_eq_true_eq]
    exact ⟨fun ⟨a, ha, e⟩ => e ▸ ha, fun h => ⟨s, h, rfl⟩⟩
  rw [an]
  by_cases m : s ∈ acc
  · rw [if_pos (by simpa using m), if_pos m]
    simp only [List.map_map]
    refine List.map_congr_left fun a ha => ?_
    simp only [Function.comp_def]
    split <;> rfl
  · rw [if_neg (by simpa using m), if_neg m]
    simp
theorem cutB_tail {α : Type} {x : α} {xs : List α} : cutB (x :: xs) none (some 0) = xs.reverse := by
  unfold cutB bEnd
  simp
def HolesV (F : List U → W U) : Prop := ∀ t : Tree, t.sz ≤ 1000000 → F [t.u] = .ret (.tup (t.holes.map U.str))
def hBody : List (U × U) × List U → (List (U × U) × List U → W U) → (List (U × U) × List U → W U) → W U := (fun s2 nx3 bk4 => ((uTru (.lst s2.2)).bind fun t17 => .ret t17).tot.bind fun t16 => if t16 = true then (uPop s2.2).bind fun q5 => (uIsi ([q5.1, (.ty .str)] : List U)).bind fun t13 => (uTru t13).bind fun t14 => if t14 = true then (uSetK s2.1 q5.1 (.bl true)).bind fun l6 => nx3 (l6, q5.2) else (uIntO (.int 0)).bind fun t9 => (uNeg (.int 1)).bind fun t10 => (uIntO t10).bind fun t11 => (uSl3 q5.1 none (some t9) t11).bind fun t12 => (uSeq t12).bind fun ys8 => if List.length q5.2 + ys8.length ≤ sizeLine then nx3 (s2.1, (q5.2 ++ ys8)) else .fail else bk4 s2)
def hEnd : List (U × U) × List U → W U := (fun s15 => if (List.isEmpty s15.1 || flatKeysU s15.1) = true then .ret (.tup (s15.1.map (·.1))) else .fail)
theorem holes_run : ∀ (n : Nat) (ts : List Tree) (acc : List Str), szL ts < n → acc.length + szL ts ≤ 1000000 →
    wWhile (S := List (U × U) × List U) n (kvT acc, (ts.map Tree.u).reverse) hBody hEnd = .ret (.tup (((hsL ts).foldl addS acc).map U.str))
  | 0, ts, acc, h, _ => by omega
  | n + 1, [], acc, _, _ => by
    rw [wWhile_succ]
    unfold hBody hEnd
    simp only [List.map_nil, List.reverse_nil, uTru_lst, bind_ret, tot_ret, List.isEmpty_nil, Bool.not_true, Bool.false_eq_true, if_false, hsL, List.foldl_nil]
    rw [if_pos ?_]
    · simp [List.map_map, Function.comp_def]
    · cases acc with
      | nil => rfl
      | cons a r => rfl
  | n + 1, t :: ts, acc, h, hz => by
    have hl := len_szL ts
    have hp := sz_pos t
    simp only [szL] at h hz
    have e3 : sizeLine = 16777216 := rfl
    have eP : uPop (((t :: ts).map Tree.u).reverse) = .ret (t.u, (ts.map Tree.u).reverse) := by
      unfold uPop
      simp
    have eE : (((t :: ts).map Tree.u).reverse).isEmpty = false := by simp
    rw [wWhile_succ]
    generalize hk : (fun s' => wWhile n s' hBody hEnd) = kk
    unfold hBody
    dsimp only
    simp only [uTru_lst, bind_ret, tot_ret, eE, Bool.not_false, if_true, eP]
    cases t with
    | hole s =>
      rw [u_hole, isi_str (by decide)]
      have : Ty.str.sub .str = true := rfl
      simp only [bind_ret, this, uTru_bl, if_true]
      rw [setK_str (by omega)]
      simp only [bind_ret]
      have := addS_len acc s
      rw [← hk]
      dsimp only
      rw [holes_run n ts (addS acc s) (by omega) (by omega)]
      simp only [hsL, Tree.hs, List.cons_append, List.nil_append, List.foldl_cons]
    | node f cs =>
      rw [u_node, isi_tup (by decide)]
      have : Ty.tup.sub .str = false := rfl
      simp only [bind_ret, this, uTru_bl, Bool.false_eq_true, if_false, uIntO_int, uNeg_int, uSl3_tup, cutB_tail, uSeq_tup]
      simp only [Tree.sz] at h hz hp
      have hc := len_szL cs
      rw [if_pos (by simp only [List.length_reverse, List.length_map]; omega)]
      have e2 : (ts.map Tree.u).reverse ++ (cs.map Tree.u).reverse = ((cs ++ ts).map Tree.u).reverse := by simp
      rw [e2, ← hk]
      dsimp only
      rw [holes_run n (cs ++ ts) acc (by rw [szL_app]; omega) (by rw [szL_app]; omega)]
      simp only [hsL, Tree.hs, hsL_app]
theorem holes_V : HolesV (v_holes_in_1 vc) := fun t h => by
  show wWhile (S := List (U × U) × List U) LF (kvT [], ([t].map Tree.u).reverse) hBody hEnd = _
  have hL : szL [t] < LF := by
    simp only [szL]
    unfold LF
    omega
  rw [holes_run LF [t] [] hL (by simp only [szL, List.length_nil]; omega)]
  simp only [hsL, List.append_nil]
  rfl
end
end V

/-! V12: dict comprehensions, dict of pairs. -/
namespace V
open PySem L2 G
section
variable {α β γ δ : Type} {base C c ca cb ci : Nat} {υ υ1 : Fr}
theorem putK_len (kvs : List (U × U)) (k v : U) : (uPutK kvs k v).length ≤ kvs.length + 1 := by
  unfold uPutK
  split
  · rw [List.length_map]; omega
  · simp
def wDc : List U → (U → W (Option (U × U))) → List (U × U) → W (List (U × U))
  | [], _, acc => .ret acc
  | x :: xs, b, acc => (b x).tot.bind fun o => match o with
    | none => wDc xs b acc
    | some p => if (keyU p.1).isSome = true then wDc xs b (uPutK acc p.1 p.2) else .fail
/-- an item's run -/
def elemK (tt : MT) (tk tv : ME) : Sig → Store → R (Option (D × D)) := fun σ st => (tt σ st).bind fun b st3 => if b = true then (tk σ st3).bind fun y st4 => (tv σ st4).bind fun z st5 => .ok (some (y, z)) st5 else .ok none st3
def KR (w : Wd) (o : Option (D × D)) (u : Option (U × U)) : Prop := match o, u with
  | some d, some u => Den w.K w.st d.1 u.1 ∧ Den w.K w.st d.2 u.2
  | none, none => True
  | _, _ => False
theorem dc_run {it : ItD} {xs : List U} {t : Tg1} {tt : MT} {tk tv : ME} {B : U → W (Option (U × U))} {w0 : Wd} {ce : Nat} {σ : Sig} (g0 : Good w0) (F0 : FrR base w0 υ σ) (hi : IterR w0 it xs)
    (hb : ∀ (x : U) (w : Wd) (d : D) (Q : Option (U × U) → Prop), Good w → FrR base w υ σ → Den w.K w.st d x → ce * C ≤ w.R → (B x).Ok Q NoX → ∃ σ2, bindT t d σ = some σ2 ∧
      Goes noA (ce * C) w (elemK tt tk tv σ2 w.st) (fun w' o => ∃ u, KR w' o u ∧ Q u) NoX) :
    ∀ (k i : Nat) (w : Wd) (ad : List (D × D)) (acc : List (U × U)) (Q : List (U × U) → Prop) (X : UX → Prop), xs.length < i + k → i ≤ xs.length → Good w → Ext noA (i * (ce * C)) w0 w → DenK w.K w.st ad acc → acc.length ≤ i →
      (xs.length - i) * (ce * C) ≤ w.R → (wDc (xs.drop i) B acc).Ok Q X →
      ∃ kd w2 us, dcM it t tt tk tv σ k i ad w.st = some (kd, w2.st) ∧ Good w2 ∧ Ext noA (xs.length * (ce * C)) w0 w2 ∧ DenK w2.K w2.st kd us ∧ us.length ≤ xs.length ∧ Q us
  | 0, i, w, ad, acc, Q, X, hk, hi', _, _, _, _, _, _ => by omega
  | k + 1, i, w, ad, acc, Q, X, hk, hil, g, e, la, hl, hR, q => by
    have ia := hi.2 noA _ w e g i
    by_cases hx : i < xs.length
    · obtain ⟨d, ig, dn⟩ : ∃ d, itGet it i w.st = some (some d) ∧ Den w.K w.st d xs[i] := by
        rw [List.getElem?_eq_getElem hx] at ia
        exact ia
      rw [List.drop_eq_getElem_cons hx] at q
      unfold wDc at q
      rw [ok_bind, ok_tot] at q
      have cost : (xs.length - i) * (ce * C) = ce * C + (xs.length - (i + 1)) * (ce * C) := by
        have : xs.length - i = (xs.length - (i + 1)) + 1 := by omega
        rw [this, Nat.add_mul]; omega
      obtain ⟨σ2, eb, go⟩ := hb _ w d _ g (F0.ext e) dn (by omega) q
      unfold dcM
      simp only [ig, eb]
      have nf : ∀ {α : Type} {r : R α} {P : Wd → α → Prop}, Goes noA (ce * C) w r P NoX → ∃ a w', r = .ok a w'.st ∧ Good w' ∧ Ext noA (ce * C) w w' ∧ P w' a := fun {α r P} h => by
        cases r with
        | ok a st => obtain ⟨w', rfl, x⟩ := h; exact ⟨a, w', rfl, x⟩
        | exc a st => obtain ⟨_, _, _, _, _, _, z⟩ := h; exact z.elim
        | fail => exact h.elim
      obtain ⟨o, w', er, g', e', u, ru, qu⟩ := nf go
      have bud := e'.bud
      have ext' : Ext noA ((i + 1) * (ce * C)) w0 w' := by rw [Nat.add_mul, Nat.one_mul]; exact e.trans e'
      have la' := e'.denk la
      unfold elemK at er
      cases et : tt σ2 w.st with
      | fail => rw [et] at er; cases er
      | exc a st => rw [et] at er; cases er
      | ok b st3 =>
        rw [et] at er
        have er : (if b = true then (tk σ2 st3).bind fun y st4 => (tv σ2 st4).bind fun z st5 => .ok (some (y, z)) st5 else .ok none st3) = R.ok o w'.st := er
        cases b with
        | false =>
          rw [if_neg (by decide)] at er
          cases er
          cases u with
          | some u => exact ru.elim
          | none =>
            dsimp only
            exact dc_run g0 F0 hi hb k (i + 1) w' ad acc Q X (by omega) (by omega) g' ext' la' (by omega) (by omega) qu
        | true =>
          rw [if_pos rfl] at er
          cases ee : tk σ2 st3 with
          | fail => rw [ee] at er; cases er
          | exc a st => rw [ee] at er; cases er
          | ok y st4 =>
            rw [ee] at er
            have er : ((tv σ2 st4).bind fun z st5 => .ok (some (y, z)) st5) = R.ok o w'.st := er
            cases ef : tv σ2 st4 with
            | fail => rw [ef] at er; cases er
            | exc a st => rw [ef] at er; cases er
            | ok z st5 =>
              rw [ef] at er
              cases er
              cases u with
              | none => exact ru.elim
              | some u =>
                obtain ⟨r1, r2⟩ : Den w'.K w'.st y u.1 ∧ Den w'.K w'.st z u.2 := ru
                have qu : (if (keyU u.1).isSome = true then wDc (xs.drop (i + 1)) B (uPutK acc u.1 u.2) else .fail).Ok Q X := qu
                split at qu
                · rename_i hks
                  have l2 : ad.length < sizeLine := by
                    have := la.length
                    have := hi.1
                    omega
                  have kk : (keyD y).isSome = true := by rw [r1.keyD]; exact hks
                  simp only [ee, ef, if_pos (And.intro kk l2)]
                  have := putK_len acc u.1 u.2
                  exact dc_run g0 F0 hi hb k (i + 1) w' (dPut ad y z) (uPutK acc u.1 u.2) Q X (by omega) (by omega) g' ext' (la'.put r1 r2) (by omega) (by omega) qu
                · exact qu.elim
    · have hn : xs[i]? = none := List.getElem?_eq_none (by omega)
      rw [hn] at ia
      have ia : itGet it i w.st = some none := ia
      have : i = xs.length := by omega
      subst this
      rw [List.drop_length] at q
      have q : Q acc := q
      unfold dcM
      simp only [ia]
      exact ⟨_, w, acc, rfl, g, e, la, hl, q⟩
theorem elemK_all {tk tv : ME} {Ek Ev : (U → W (Option (U × U))) → W (Option (U × U))} {υ : Fr} {ck cv : Nat} (hk : SE base C ck tk υ Ek) (hv : SE base C cv tv υ Ev) {w : Wd} {σ : Sig} {Q : Option (U × U) → Prop} (g : Good w) (F : FrR base w υ σ) (hR : (ck + cv) * C ≤ w.R) (q : (Ek fun y => Ev fun z => .ret (some (y, z))).Ok Q NoX) :
    Goes noA ((ck + cv) * C) w (elemK tTrue tk tv σ w.st) (fun w' o => ∃ u, KR w' o u ∧ Q u) NoX := by
  have : elemK tTrue tk tv σ w.st = (tk σ w.st).bind fun y st4 => (tv σ st4).bind fun z st5 => .ok (some (y, z)) st5 := rfl
  rw [this]
  exact hk.goes g F hR q fun w1 d u g1 F1 e1 h1 r1 q1 => hv.goes (c' := 0) g1 F1 h1 q1 fun w2 d2 u2 g2 F2 e2 h2 r2 q2 => goes_ok g2 ⟨some (u, u2), ⟨e2.den r1, r2⟩, q2⟩
theorem elemK_if {tt : MT} {tk tv : ME} {Et : (Bool → W (Option (U × U))) → W (Option (U × U))} {Ek Ev : (U → W (Option (U × U))) → W (Option (U × U))} {υ : Fr} {ct ck cv : Nat} (ht : ST base C ct tt υ Et) (hk : SE base C ck tk υ Ek) (hv : SE base C cv tv υ Ev) {w : Wd} {σ : Sig} {Q : Option (U × U) → Prop} (g : Good w) (F : FrR base w υ σ) (hR : (ct + (ck + cv)) * C ≤ w.R)
    (q : (Et fun b => if b = true then Ek fun y => Ev fun z => .ret (some (y, z)) else .ret none).Ok Q NoX) :
    Goes noA ((ct + (ck + cv)) * C) w (elemK tt tk tv σ w.st) (fun w' o => ∃ u, KR w' o u ∧ Q u) NoX := by
  unfold elemK
  refine ht.goes g F hR q fun w1 b b' g1 F1 e1 h1 r1 q1 => ?_
  subst r1
  split at q1
  · rename_i hb
    rw [if_pos hb]
    exact hk.goes g1 F1 h1 q1 fun w2 d u g2 F2 e2 h2 r2 q2 => hv.goes (c' := 0) g2 F2 h2 q2 fun w3 d3 u3 g3 F3 e3 h3 r3 q3 => goes_ok g3 ⟨some (u, u3), ⟨e3.den r2, r3⟩, q3⟩
  · rename_i hb
    rw [if_neg hb]
    exact goes_ok g1 ⟨none, trivial, q1⟩
theorem sd_end {mi : MI} {t : Tg1} {tt : MT} {tk tv : ME} {vs : List Nat} {I : (List U → W β) → W β} {B : U → W (Option (U × U))} {ce : Nat} (hi : SI base C ci mi υ I) (hw : FrLe υ1 υ) (hv : vs.all (fun v => (υ1[v]?).getD none |>.isNone) = true)
    (hb : ∀ (σ : Sig) (x : U) (w : Wd) (d : D) (Q : Option (U × U) → Prop), Good w → FrR base w υ1 σ → Den w.K w.st d x → ce * C ≤ w.R → (B x).Ok Q NoX → ∃ σ2, bindT t d σ = some σ2 ∧
      Goes noA (ce * C) w (elemK tt tk tv σ2 w.st) (fun w' o => ∃ u, KR w' o u ∧ Q u) NoX) :
    SD base C (ci + 16777216 * ce) (mDc mi t tt tk tv vs) υ fun f => I fun xs => (wDc xs B []).bind f := fun w σ f Q X gd F hR q =>
  hi.goes gd F hR q fun w1 it xs g1 F1 e1 h1 r1 q1 => by
    rw [ok_bind] at q1
    have hl := r1.1
    have hl0 := hl
    rw [sizeLine_val] at hl
    have cst : xs.length * (ce * C) ≤ 16777216 * ce * C := by rw [Nat.mul_assoc]; exact Nat.mul_le_mul_right _ hl
    obtain ⟨kd, w2, us, h2, g2, e2, l2, lu, q2⟩ := dc_run (σ := wipeD σ vs) (υ := υ1) (B := B) (C := C) (ce := ce) (tt := tt) (tk := tk) (tv := tv) (t := t) g1 ((F1.le hw).wipe hv) r1 (hb (wipeD σ vs)) LF 0 w1 [] [] (fun us => (f us).Ok Q X) X (by unfold LF; omega) (by omega) g1 (Ext.mono (g := 0) Ext.refl (Nat.zero_le _)) .nil (by simp) (by
          rw [Nat.sub_zero]
          omega) (by simpa using q1)
    rw [h2]
    have x : Ext noA 0 w2 (w2.add (.dct kd) .ow) := Wd.add_ext g2
    have ⟨y, z⟩ := Wd.add_at w2 (.dct kd) .ow
    refine ⟨w2.add (.dct kd) .ow, rfl, Wd.add_good g2 (by decide), (e2.trans x).mono (by omega), us, ⟨_, rfl, by have := e1.len; have := e2.len; omega, kd, z, y, ?_, x.denk l2⟩, q2⟩
    rw [l2.length]
    omega
/-- without a test -/
theorem sd_map {S : Type} {mi : MI} {t : Tg1} {tk tv : ME} {vs : List Nat} {I : (List U → W β) → W β} {T : U → (S → W (Option (U × U))) → W (Option (U × U))} {en : U → S → Fr} {Ek Ev : U → S → (U → W (Option (U × U))) → W (Option (U × U))} {ck cv : Nat}
    (hi : SI base C ci mi υ I) (hw : FrLe υ1 υ) (hv : vs.all (fun v => (υ1[v]?).getD none |>.isNone) = true) (ht : ∀ x, STg base t υ1 x (T x) (en x))
    (hk : ∀ x s, SE base C ck tk (en x s) (Ek x s)) (he : ∀ x s, SE base C cv tv (en x s) (Ev x s)) :
    SD base C (ci + 16777216 * (ck + cv)) (mDc mi t tTrue tk tv vs) υ fun f => I fun xs => (wDc xs (fun x => T x fun s => Ek x s fun y => Ev x s fun z => .ret (some (y, z))) []).bind f :=
  sd_end hi hw hv fun σ x w d Q g F r hR q => by
    obtain ⟨σ2, s, eb, F2, q'⟩ := ht x w _ d _ Q NoX g F r q
    exact ⟨σ2, eb, elemK_all (hk x s) (he x s) g F2 hR q'⟩
/-- with a test -/
theorem sd_dc {S : Type} {mi : MI} {t : Tg1} {tt : MT} {tk tv : ME} {vs : List Nat} {I : (List U → W β) → W β} {T : U → (S → W (Option (U × U))) → W (Option (U × U))} {en : U → S → Fr} {Et : U → S → (Bool → W (Option (U × U))) → W (Option (U × U))} {Ek Ev : U → S → (U → W (Option (U × U))) → W (Option (U × U))} {ct ck cv : Nat}
    (hi : SI base C ci mi υ I) (hw : FrLe υ1 υ) (hv : vs.all (fun v => (υ1[v]?).getD none |>.isNone) = true) (ht : ∀ x, STg base t υ1 x (T x) (en x))
    (hc : ∀ x s, ST base C ct tt (en x s) (Et x s)) (hk : ∀ x s, SE base C ck tk (en x s) (Ek x s)) (he : ∀ x s, SE base C cv tv (en x s) (Ev x s)) :
    SD base C (ci + 16777216 * (ct + (ck + cv))) (mDc mi t tt tk tv vs) υ fun f => I fun xs => (wDc xs (fun x => T x fun s => Et x s fun b => if b = true then Ek x s fun y => Ev x s fun z => .ret (some (y, z)) else .ret none) []).bind f :=
  sd_end hi hw hv fun σ x w d Q g F r hR q => by
    obtain ⟨σ2, s, eb, F2, q'⟩ := ht x w _ d _ Q NoX g F r q
    exact ⟨σ2, eb, elemK_if (hc x s) (hk x s) (he x s) g F2 hR q'⟩
/-! ### dict of pairs -/
def prU : U → Option (U × U)
  | .tup [k, v] => if (keyU k).isSome = true then some (k, v) else none
  | _ => none
def prsU : List U → Option (List (U × U))
  | [] => some []
  | d :: ds => match prU d, prsU ds with
    | some p, some ps => some (p :: ps)
    | _, _ => none
def uPuts (acc ps : List (U × U)) : List (U × U) := ps.foldl (fun a p => uPutK a p.1 p.2) acc
theorem puts_len : ∀ (ps acc : List (U × U)), (uPuts acc ps).length ≤ acc.length + ps.length
  | [], acc => by simp [uPuts]
  | p :: ps, acc => by
    have := puts_len ps (uPutK acc p.1 p.2)
    have h := putK_len acc p.1 p.2
    have e : uPuts acc (p :: ps) = uPuts (uPutK acc p.1 p.2) ps := rfl
    rw [e, List.length_cons]
    omega
def uDict : List U → W U
  | [.lst xs] => match prsU xs with
    | some ps => .ret (.dct (uPuts [] ps))
    | none => .fail
  | _ => .fail
theorem prs_den {K : Nat → Kd} {st : Store} : ∀ {ds : List D} {us : List U} {ps : List (U × U)}, Dens K st ds us → prsU us = some ps → ∃ kd, prsD ds = some kd ∧ DenK K st kd ps ∧ ps.length ≤ us.length
  | _, _, _, .nil, e => by cases e; exact ⟨[], rfl, .nil, Nat.le_refl _⟩
  | d :: ds, u :: us, ps, .cons h r, e => by
    unfold prsU at e
    split at e
    · rename_i p ps' e1 e2
      cases e
      obtain ⟨kd, h1, h2, h3⟩ := prs_den r e2
      unfold prU at e1
      split at e1
      · rename_i k v
        split at e1
        · rename_i hk
          cases e1
          cases h with | tup l r => ?_
          obtain ⟨a, b, rfl, ha, hb⟩ := dens2' r
          refine ⟨(a, b) :: kd, ?_, .cons ha hb h2, by simp; exact h3⟩
          have : (keyD a).isSome = true := by rw [ha.keyD]; exact hk
          unfold prsD G.prD
          simp only [if_pos this, h1]
        · cases e1
      · cases e1
    · cases e
theorem denk_puts {K : Nat → Kd} {st : Store} : ∀ {ps : List (D × D)} {us : List (U × U)} {acc : List (D × D)} {bcc : List (U × U)}, DenK K st ps us → DenK K st acc bcc → DenK K st (dPuts acc ps) (uPuts bcc us)
  | _, _, _, _, .nil, h => h
  | (k, v) :: ps, (a, b) :: us, acc, bcc, .cons h1 h2 t, h => by
    show DenK K st (dPuts (dPut acc k v) ps) (uPuts (uPutK bcc a b) us)
    exact denk_puts t (h.put h1 h2)
theorem uDict_ok {w : Wd} {ds : List D} {us : List U} (g : Good w) (hs : Dens w.K w.st ds us) : OpOk w (bDict ds w.st) (uDict us) := by
  unfold uDict; split
  · obtain ⟨d, rfl, h⟩ := dens1 hs
    obtain ⟨n, ds, rfl, _, _, l, r, e1, e2, e3⟩ := den_lst h
    split
    · rename_i ps e
      obtain ⟨kd, h1, h2, h3⟩ := prs_den r e
      simp only [bDict, e3, Option.bind_some, h1]
      have x : Ext noA 0 w (w.add (.dct (dPuts [] kd)) .fz) := Wd.add_ext g
      have ⟨y, z⟩ := Wd.add_at w (.dct (dPuts [] kd)) .fz
      have dk := denk_puts h2 (.nil : DenK w.K w.st [] [])
      have hl := puts_len ps []
      have hll := dk.length
      intro Q E q
      exact ⟨_, w.add (.dct (dPuts [] kd)) .fz, .dct (uPuts [] ps), rfl, Wd.add_good g (by decide), x, .dct z y (by rw [hll]; have := r.length; simp at hl; omega) (x.denk dk), q⟩
    · exact opok_fail
  · exact opok_fail
/-! ### one's own list by one of two ways -/
theorem sl_if {a b : ME} {cc : Nat} {t : MT} {Et : (Bool → W (List U)) → W (List U)} {Ea Eb : (List U → W (List U)) → W (List U)} (ht : ST base C cc t υ Et) (ha : SL base C ca a υ Ea) (hb : SL base C cb b υ Eb) :
    SL (β := β) base C (cc + (ca + cb)) (mIf t a b) υ fun f => (Et fun k => if k = true then Ea .ret else Eb .ret).bind f := fun w σ f Q X gd F hR q => by
  rw [ok_bind] at q
  refine ht.goes gd F hR q fun w1 x y g1 F1 e1 h1 r1 q1 => ?_
  subst r1
  rw [Nat.add_mul] at h1
  have hl := e1.len
  split at q1
  · rename_i hx
    rw [if_pos hx]
    exact (ha.run g1 F1 (by omega) q1).mono (by rw [Nat.add_mul]; omega) fun w' a _ _ ⟨u, ⟨n, e, hn, la⟩, qu⟩ => ⟨u, ⟨n, e, by omega, la⟩, qu⟩
  · rename_i hx
    rw [if_neg hx]
    exact (hb.run g1 F1 (by omega) q1).mono (by rw [Nat.add_mul]; omega) fun w' a _ _ ⟨u, ⟨n, e, hn, la⟩, qu⟩ => ⟨u, ⟨n, e, by omega, la⟩, qu⟩
end
end V

/-! V13: effects within expressions. -/
namespace V
open PySem L2 G
section
variable {α β γ δ Sn Sb : Type} {base C c ca cb ci : Nat} {υ υ1 ex : Fr} {a b : ME} {eb : Sb → Fr}
/-- own.append(own2.pop(..)) -/
theorem ss_appendX (i j : Nat) {us : List U} {Ea : (U × List U → W U) → W U} {en : U × List U → Fr} (hij : j ≠ i) (e : υ[i]? = some (some (.lst us))) (hx : FrLe ex υ) (h : SX base C c a υ j Ea) (he : ∀ p, en p = (υ.set j (some (.lst p.2))).set i (some (.lst (us ++ [p.1])))) :
    SS base C c (sExpr (mBM .lst mAppend (mVar i) (aCons a aNil))) υ ex en eb fun nx _ _ => Ea fun p => if us.length < sizeLine then nx p else .fail := fun w σ nx bk ct Q X gd hb F hR q => by
  obtain ⟨n, ds, s, hn, hk, hl, la, l, r, ty⟩ := own_lst F e
  unfold sExpr
  rw [own_bm (.inr (.inl rfl)) i s ty, eb_assoc]
  unfold aCons
  rw [eb_assoc]
  have h1 := h w σ _ Q X gd F hR q
  generalize a σ w.st = rr at h1 ⊢
  cases rr with
  | fail => exact h1.elim
  | exc x st =>
    obtain ⟨w', y, rfl, g', e', F', x1, z⟩ := h1
    exact ⟨w', y, rfl, g', e', F'.le hx, x1, z⟩
  | ok d st =>
    obtain ⟨w', rfl, g', e1, p, rd, F', q'⟩ := h1
    split at q'
    · rename_i hlt
      have e' : (υ.set j (some (.lst p.2)))[i]? = some (some (.lst us)) := by rw [List.getElem?_set_ne hij]; exact e
      obtain ⟨n', ds', s', hn', hk', hl', la', l', r', ty'⟩ := own_lst F' e'
      rw [s] at s'; cases s'
      have hl2 : ds'.length < sizeLine := by rw [r'.length]; exact hlt
      obtain ⟨p1, p2, p3, p4⟩ := put_own (g := 0) (us' := us ++ [p.1]) (ds' := ds' ++ [d]) g' F' e' s hn' hk' hl' (by simp; omega) (r'.append (.cons rd .nil))
      show SGo base (c * C) w ex en eb nx bk ct Q X (G.eb (lift (mAppend (.loc n) [d] w'.st)) σ fun _ st1 => .ok (.nx σ) st1)
      simp only [mAppend, la', if_pos hl2]
      exact ⟨_, p, rfl, p1, (e1.trans p2).mono (Nat.le_refl _), by rw [he]; exact p3, q'⟩
    · exact q'.elim
end
end V

/-! V14: setdefault within an expression: the frame's dict is changed on the way. -/
namespace V
open PySem L2 G
section
variable {α β γ δ ε Sn Sb : Type} {base C c ca cb cc ci c2 : Nat} {υ υ1 ex : Fr} {a b : ME} {i : Nat} {eb : Sb → Fr} {en : Sn → Fr}
/-- a run that changes the dict at i -/
def SK {α δ β : Type} (base C c : Nat) (m : Sig → Store → R α) (υ : Fr) (i : Nat) (E : (δ × List (U × U) → W β) → W β) (Rl : Wd → α → δ → Prop) : Prop :=
  ∀ (w : Wd) (σ : Sig) (f : δ × List (U × U) → W β) (Q : β → Prop) (X : UX → Prop), Good w → FrR base w υ σ → c * C ≤ w.R → (E f).Ok Q X → match m σ w.st with
    | .ok d st' => ∃ w', w'.st = st' ∧ Good w' ∧ Ext (fromA base) (c * C) w w' ∧ ∃ p : δ × List (U × U), Rl w' d p.1 ∧ FrR base w' (υ.set i (some (.dct p.2))) σ ∧ (f p).Ok Q X
    | .exc x st' => ∃ w' y, w'.st = st' ∧ Good w' ∧ Ext (fromA base) (c * C) w w' ∧ FrR base w' (List.replicate υ.length none) σ ∧ ExnD w' x y ∧ X y
    | .fail => False
def uSetd (kvs : List (U × U)) (k v : U) : W (U × List (U × U)) :=
  if (keyU k).isSome = true ∧ kindOkU kvs k = true ∧ kvs.length < sizeLine then match uGetK kvs k with
    | some d => .ret (d, kvs)
    | none => .ret (v, uPutK kvs k v)
  else .fail
theorem sk_setd {Ea Eb : (U → W β) → W β} (i : Nat) {kvs : List (U × U)} (e : υ[i]? = some (some (.dct kvs))) (ha : SE base C ca a υ Ea) (hb : SE base C cb b υ Eb) :
    SK base C (ca + cb) (mBM .dct mSetd (mVar i) (aCons a (aCons b aNil))) υ i (fun f => Ea fun k => Eb fun v => (uSetd kvs k v).bind f) fun w' d u => Den w'.K w'.st d u := fun w σ f Q X gd F hR q => by
  obtain ⟨n0, ds0, s, hn, hk, hl, la, ln, l, r, ty⟩ := own_dct F e
  rw [own_bm (.inr (.inr rfl)) i s ty]
  have key : Goes (fromA base) ((ca + cb) * C) w ((aCons a (aCons b aNil) σ w.st).bind fun ds st2 => lift (mSetd (.loc n0) ds st2)) (fun w' d => ∃ p : U × List (U × U), Den w'.K w'.st d p.1 ∧ FrR base w' (υ.set i (some (.dct p.2))) σ ∧ (f p).Ok Q X) X := by
    unfold aCons
    rw [r_assoc]
    refine ha.goesA gd F hR q fun w1 dk k g1 F1 e1 h1 r1 q1 => ?_
    rw [r_assoc]
    rw [r_assoc]
    refine hb.goesA (c' := 0) g1 F1 h1 q1 fun w2 dv v g2 F2 e2 h2 r2 q2 => ?_
    obtain ⟨n', ds', s', hn', hk', hl', la', ln', l', r', ty'⟩ := own_dct F2 e
    rw [s] at s'; cases s'
    show Goes (fromA base) (0 * C) w2 (lift (mSetd (.loc n0) [dk, dv] w2.st)) _ X
    have rk := e2.den r1
    unfold uSetd at q2
    split at q2
    · rename_i hh
      have c1 : (keyD dk).isSome = true := by rw [rk.keyD]; exact hh.1
      have c2 : kindOk ds' dk = true := by rw [r'.kind rk]; exact hh.2.1
      have c3 : ds'.length < sizeLine := by rw [r'.length]; exact hh.2.2
      simp only [mSetd, la', c1, c2, c3, and_self, if_true]
      rcases r'.get rk with ⟨x1, x2⟩ | ⟨x, y, x1, x2, x3⟩
      · rw [x1] at q2
        rw [x2]
        obtain ⟨p1, p2, p3⟩ := put_ownK (g := 0 * C) (us' := uPutK kvs k v) (ds' := dPut ds' dk dv) g2 F2 e s hn' hk' hl' (by have := dPut_len ds' dk dv; omega) (r'.put rk r2)
        have pe : Ext (fun z => z = n0) 0 w2 (w2.put n0 (.dct (dPut ds' dk dv))) := Wd.put_ext hk' rfl
        exact ⟨_, rfl, p1, p2, (v, uPutK kvs k v), pe.den r2, p3, q2⟩
      · rw [x1] at q2
        rw [x2]
        have fs : υ.set i (some (.dct kvs)) = υ := set_same e
        exact goes_ok g2 ⟨(y, kvs), x3, by rw [fs]; exact F2, q2⟩
    · exact q2.elim
  revert key
  generalize ((aCons a (aCons b aNil) σ w.st).bind fun ds st2 => lift (mSetd (.loc n0) ds st2)) = rr
  intro key
  cases rr with
  | fail => exact key.elim
  | exc x st =>
    obtain ⟨w', y, e0, g', e', x1, z⟩ := key
    refine ⟨w', y, e0, g', e', ?_, x1, z⟩
    have no : ∀ (j : Nat) (o : O), (List.replicate υ.length (none : Option O))[j]? = some (some o) → False := fun j o h => by
      rw [List.getElem?_replicate] at h
      split at h
      · cases h
      · cases h
    exact ⟨by rw [List.length_replicate]; exact F.len, fun j o h => (no j o h).elim, fun j k o o' n h => (no j o h).elim⟩
  | ok d st => exact key
theorem SK.st {E : (δ × List (U × U) → W U) → W U} {m : Sig → Store → R α} {Rl : Wd → α → δ → Prop} {k : α → Store → R FL} {nx : Sn → W U} {bk ct : Sb → W U} (h : SK base C c m υ i E Rl) {w : Wd} {σ : Sig} {f : δ × List (U × U) → W U} {Q : U → Prop} {X : UX → Prop} {c' : Nat}
    (gd : Good w) (hb : base ≤ w.st.length) (F : FrR base w υ σ) (hx : ex = List.replicate υ.length none) (hR : (c + c') * C ≤ w.R) (q : (E f).Ok Q X)
    (h2 : ∀ (w' : Wd) (a : α) (p : δ × List (U × U)), Good w' → base ≤ w'.st.length → FrR base w' (υ.set i (some (.dct p.2))) σ → c' * C ≤ w'.R → Rl w' a p.1 → (f p).Ok Q X → SGo base (c' * C) w' ex en eb nx bk ct Q X (k a w'.st)) :
    SGo base ((c + c') * C) w ex en eb nx bk ct Q X (G.eb (m σ w.st) σ k) := by
  have h1 := h w σ f Q X gd F (cost1 hR) q
  rw [Nat.add_mul]
  unfold G.eb
  generalize m σ w.st = r at h1 ⊢
  cases r with
  | fail => exact h1.elim
  | exc x st =>
    obtain ⟨w', y, rfl, g', e, F', x, z⟩ := h1
    exact ⟨w', y, rfl, g', (e.mono (by omega)), by rw [hx]; exact F', x, z⟩
  | ok a st =>
    obtain ⟨w', rfl, g', e, p, r, F', q'⟩ := h1
    exact SGo.back e (h2 w' a p g' (Nat.le_trans hb e.len) F' (cost2 hR e.bud) r q')
/-- if own.setdefault(..) op b -/
theorem ss_ifK {ma : ME} {op : Op2} {g : U → U → W U} {Ea : (U × List (U × U) → W U) → W U} {Eb : List (U × U) → (U → W U) → W U} {A B : G.SS} {wa wb : List (U × U) → (Sn → W U) → (Sb → W U) → (Sb → W U) → W U}
    (o : ∀ {w : Wd} {dx dy : D} {x y : U}, Good w → Den w.K w.st dx x → Den w.K w.st dy y → OpOk w (op dx dy w.st) (g x y)) (hx : ex = List.replicate υ.length none)
    (h : SK base C ca ma υ i Ea fun w' d u => Den w'.K w'.st d u) (hb' : ∀ kv, SE base C cb b (υ.set i (some (.dct kv))) (Eb kv))
    (hA : ∀ kv, SS base C c1 A (υ.set i (some (.dct kv))) ex en eb (wa kv)) (hB : ∀ kv, SS base C c2 B (υ.set i (some (.dct kv))) ex en eb (wb kv)) :
    SS base C (ca + (cb + (c1 + c2))) (sIf (mBl (mBin op ma b)) A B) υ ex en eb fun nx bk ct => Ea fun p => Eb p.2 fun y => (g p.1 y).bind fun z => (uBl z).bind fun k => if k = true then wa p.2 nx bk ct else wb p.2 nx bk ct := fun w σ nx bk ct Q X gd hb F hR q => by
  unfold sIf mBl mBin
  rw [eb_assoc, eb_assoc]
  refine h.st gd hb F hx hR q fun w1 dx p g1 hb1 F1 h1 r1 q1 => ?_
  rw [eb_assoc]
  have hx1 : FrLe ex (υ.set i (some (.dct p.2))) := by
    have := noFr (υ.set i (some (.dct p.2)))
    rw [List.length_set] at this
    rw [hx]; exact this
  refine (hb' p.2).st g1 hb1 F1 hx1 h1 q1 fun w2 dy y g2 hb2 F2 e2 h2 r2 q2 => ?_
  rw [ok_bind] at q2
  obtain ⟨dz, w3, z, e, g3, e3, r3, q3⟩ := o g2 (e2.den r1) r2 _ _ q2
  rw [e]
  obtain ⟨k, rfl, q4⟩ := uBl_ok q3
  cases r3
  show SGo base _ w2 ex en eb nx bk ct Q X (if k = true then A σ w3.st else B σ w3.st)
  have h3 : (c1 + c2) * C ≤ w3.R := by have := e3.bud; omega
  rw [Nat.add_mul] at h3
  have F3 := F2.ext e3
  have hb3 : base ≤ w3.st.length := Nat.le_trans hb2 e3.len
  have e3' : Ext (fromA base) 0 w2 w3 := e3.any
  rw [← Nat.zero_add ((c1 + c2) * C)]
  refine SGo.back e3' ?_
  split at q4
  · rename_i hk; rw [if_pos hk]; exact (hA p.2 w3 σ nx bk ct Q X g3 hb3 F3 (by omega) q4).mono (by rw [Nat.add_mul]; omega)
  · rename_i hk; rw [if_neg hk]; exact (hB p.2 w3 σ nx bk ct Q X g3 hb3 F3 (by omega) q4).mono (by rw [Nat.add_mul]; omega)
end
end V

/-! V15: list(range(n)). -/
namespace V
open PySem L2 G
section
variable {α β γ δ : Type} {base C c ca cb : Nat} {υ : Fr} {a b : ME}
def rgU (n : Int) : List U := (List.range n.toNat).map fun i : Nat => .int (i : Int)
theorem rg_dens {K : Nat → Kd} {st : Store} (n : Int) : Dens K st (rgD n) (rgU n) := by
  unfold rgD rgU
  generalize List.range n.toNat = l
  induction l with
  | nil => exact .nil
  | cons x l ih => exact .cons (.int _) ih
theorem sl_rg {Ea : (U → W β) → W β} (ha : SE base C ca a υ Ea) : SL base C ca (mLRg a) υ fun f => Ea fun x => match x with
    | .int n => if -1000000 ≤ n ∧ n ≤ 16777216 then f (rgU n) else .fail
    | _ => .fail := fun w σ f Q X gd F hR q => by
  unfold mLRg
  refine ha.goes (c' := 0) gd F hR q fun w1 d x g1 F1 e1 h1 r1 q1 => ?_
  split at q1
  · cases r1
    split at q1
    · rename_i hn
      simp only [if_pos hn]
      refine goes_new .ow (by decide) g1 (rg_dens _) fun w' e k s r => ⟨_, ⟨_, rfl, e1.len, _, k, s, ?_, r⟩, q1⟩
      unfold rgD
      rw [List.length_map, List.length_range]
      have e3 : sizeLine = 16777216 := rfl
      omega
    · exact q1.elim
  · exact q1.elim
end
end V

/-! V16: sorted, sorted(d.items()), [(x,) + d[x] for x in d] by values. -/
open PySem L2
namespace V
open G
def txU : U → Option Str
  | .tup (.str s :: _) => some s
  | _ => none
def txsU : List U → Option (List (Str × U))
  | [] => some []
  | d :: ds => match txU d, txsU ds with
    | some s, some l => some ((s, d) :: l)
    | _, _ => none
def srtU (ps : List (Str × U)) : Option (List U) := if (ps.map (·.1)).Nodup then some ((srtT ps).map (·.2)) else none
def uSorted : List U → W U
  | [.lst xs] => match (txsU xs).bind srtU with
    | some ys => .ret (.lst ys)
    | none => .fail
  | _ => .fail
section
variable {K : Nat → Kd} {st : Store}
abbrev KyD (K : Nat → Kd) (st : Store) (p : Str × D) (q : Str × U) : Prop := p.1 = q.1 ∧ Den K st p.2 q.2
theorem ins_d {p : Str × D} {q : Str × U} (h : KyD K st p q) : ∀ {ps : List (Str × D)} {qs : List (Str × U)}, Paired (KyD K st) ps qs → Paired (KyD K st) (insT p ps) (insT q qs)
  | _, _, .nil => .cons h .nil
  | p' :: _, q' :: _, .cons h' t => by
    unfold insT
    rw [h.1, h'.1]
    split
    · exact .cons h (.cons h' t)
    · exact .cons h' (ins_d h t)
theorem srt_d : ∀ {ps : List (Str × D)} {qs : List (Str × U)}, Paired (KyD K st) ps qs → Paired (KyD K st) (srtT ps) (srtT qs)
  | _, _, .nil => .nil
  | _, _, .cons h t => ins_d h (srt_d t)
theorem ky_keys : ∀ {ps : List (Str × D)} {qs : List (Str × U)}, Paired (KyD K st) ps qs → ps.map (·.1) = qs.map (·.1)
  | _, _, .nil => rfl
  | _, _, .cons h t => by rw [List.map_cons, List.map_cons, h.1, ky_keys t]
theorem ky_dens : ∀ {ps : List (Str × D)} {qs : List (Str × U)}, Paired (KyD K st) ps qs → Dens K st (ps.map (·.2)) (qs.map (·.2))
  | _, _, .nil => .nil
  | _, _, .cons h t => .cons h.2 (ky_dens t)
theorem txs_den : ∀ {ds : List D} {us : List U} {ps : List (Str × U)}, Dens K st ds us → txsU us = some ps → ∃ kd, txsD ds = some kd ∧ Paired (KyD K st) kd ps
  | _, _, _, .nil, e => by cases e; exact ⟨[], rfl, .nil⟩
  | d :: ds, u :: us, _, .cons h r, e => by
    unfold txsU at e
    split at e
    · rename_i s l e1 e2
      cases e
      obtain ⟨kd, h1, h2⟩ := txs_den r e2
      unfold txU at e1
      split at e1
      · cases e1
        cases h with
        | tup l0 r0 =>
          cases r0 with
          | cons ra rb =>
            cases ra
            refine ⟨(s, _) :: kd, ?_, .cons ⟨rfl, .tup l0 (.cons (.str ‹_›) rb)⟩ h2⟩
            unfold txsD txD
            simp only [h1]
      · cases e1
    · cases e
end
theorem uSorted_ok {w : Wd} {ds : List D} {us : List U} (g : Good w) (hs : Dens w.K w.st ds us) : OpOk w (bSorted ds w.st) (uSorted us) := by
  unfold uSorted; split
  · obtain ⟨d, rfl, h⟩ := dens1 hs
    obtain ⟨n, ds, rfl, _, _, l, r, e1, e2, e3⟩ := den_lst h
    split
    · rename_i ys e
      obtain ⟨ps, h1, h2⟩ := Option.bind_eq_some_iff.mp e
      obtain ⟨kd, h3, h4⟩ := txs_den r h1
      unfold srtU at h2
      split at h2
      · rename_i hn
        cases h2
        have hn' : (kd.map (·.1)).Nodup := by rw [ky_keys h4]; exact hn
        refine opok_newR g (ds := (srtT kd).map (·.2)) (by simp only [bSorted, e3, Option.bind_some, h3, srtD, if_pos hn']) ?_ (ky_dens (srt_d h4))
        have len : ∀ {ds : List D} {kd : List (Str × D)}, txsD ds = some kd → kd.length = ds.length := fun {ds} => by
          induction ds with
          | nil => intro kd e; cases e; rfl
          | cons d ds ih =>
            intro kd e
            unfold txsD at e
            split at e
            · rename_i _ _ _ e2
              cases e
              simp [ih e2]
            · cases e
        rw [List.length_map, (srtT_perm kd).length_eq, len h3]
        exact l
      · cases h2
    · exact opok_fail
  · exact opok_fail
/-! ### sorted(d.items()) -/
def txkU : List (U × U) → Option (List (Str × U))
  | [] => some []
  | (.str s, d) :: l => match txkU l with
    | some r => some ((s, d) :: r)
    | none => none
  | _ :: _ => none
def prSU (q : Str × U) : U := .tup [.str q.1, q.2]
def uSItK (kvs : List (U × U)) : W U := if kvs.isEmpty = false then match txkU kvs with
    | some ks => .ret (.lst ((srtT ks).map prSU))
    | none => .fail
  else .fail
def uSIt : U → W U
  | .dct kvs => uSItK kvs
  | _ => .fail
theorem txk_den {K : Nat → Kd} {st : Store} : ∀ {ds : List (D × D)} {us : List (U × U)} {ps : List (Str × U)}, DenK K st ds us → txkU us = some ps → ∃ kd, txkD ds = some kd ∧ Paired (fun (p : Str × D) (q : Str × U) => KyD K st p q ∧ q.1.length ≤ sizeLine) kd ps ∧ kd.length = ds.length
  | _, _, _, .nil, e => by cases e; exact ⟨[], rfl, .nil, rfl⟩
  | (k, v) :: ds, (a, b) :: us, _, .cons h1 h2 r, e => by
    unfold txkU at e
    split at e
    · rename_i z
      cases z
    · rename_i x1 s d l z
      cases z
      split at e
      · rename_i r' e1
        cases e
        obtain ⟨kd, h3, h4, h5⟩ := txk_den r e1
        cases h1 with
        | str hs =>
          refine ⟨(s, v) :: kd, ?_, .cons ⟨⟨rfl, h2⟩, hs⟩ h4, by simp [h5]⟩
          unfold txkD
          simp only [h3]
      · cases e
    · cases e
theorem prs_dens {K : Nat → Kd} {st : Store} : ∀ {ps : List (Str × D)} {qs : List (Str × U)}, Paired (fun (p : Str × D) (q : Str × U) => KyD K st p q ∧ q.1.length ≤ sizeLine) ps qs → Dens K st (ps.map prSD) (qs.map prSU)
  | _, _, .nil => .nil
  | _, _, .cons h t => .cons (by unfold prSD prSU; rw [h.1.1]; exact .tup (show 2 ≤ sizeLine by decide) (.cons (.str h.2) (.cons h.1.2 .nil))) (prs_dens t)
theorem ins_d2 {K : Nat → Kd} {st : Store} {p : Str × D} {q : Str × U} (h : KyD K st p q ∧ q.1.length ≤ sizeLine) : ∀ {ps : List (Str × D)} {qs : List (Str × U)}, Paired (fun (p : Str × D) (q : Str × U) => KyD K st p q ∧ q.1.length ≤ sizeLine) ps qs → Paired (fun (p : Str × D) (q : Str × U) => KyD K st p q ∧ q.1.length ≤ sizeLine) (insT p ps) (insT q qs)
  | _, _, .nil => .cons h .nil
  | p' :: _, q' :: _, .cons h' t => by
    unfold insT
    rw [h.1.1, h'.1.1]
    split
    · exact .cons h (.cons h' t)
    · exact .cons h' (ins_d2 h t)
theorem srt_d2 {K : Nat → Kd} {st : Store} : ∀ {ps : List (Str × D)} {qs : List (Str × U)}, Paired (fun (p : Str × D) (q : Str × U) => KyD K st p q ∧ q.1.length ≤ sizeLine) ps qs → Paired (fun (p : Str × D) (q : Str × U) => KyD K st p q ∧ q.1.length ≤ sizeLine) (srtT ps) (srtT qs)
  | _, _, .nil => .nil
  | _, _, .cons h t => ins_d2 h (srt_d2 t)
section
variable {α β γ δ : Type} {base C c ca cb : Nat} {υ : Fr} {a b : ME}
theorem se_sIt {Ea : (U → W β) → W β} (ha : SE base C ca a υ Ea) : SE base C ca (mSIt a) υ fun f => Ea fun x => (uSIt x).bind f := fun w σ f Q X gd F hR q => by
  unfold mSIt
  refine ha.goes (c' := 0) gd F hR q fun w1 d x g1 F1 e1 h1 r1 q1 => ?_
  unfold uSIt at q1
  split at q1
  · obtain ⟨n, kvs, rfl, hk, hs, hl, dk, _⟩ := den_dct r1
    have ht : tyD (.loc n) w1.st = some .dct := by simp only [tyD, hs]
    rw [if_pos ht]
    simp only [dct_new hs]
    unfold uSItK at q1
    split at q1
    · rename_i hne
      rw [if_pos (show kvs.isEmpty = false by rw [dk.emp]; exact hne)]
      split at q1
      · rename_i ks hks
        obtain ⟨kd, h3, h4, h5⟩ := txk_den dk hks
        simp only [h3]
        refine goes_new .fz (by decide) g1 (prs_dens (srt_d2 h4)) fun w' e k s r => ⟨_, .lst k s ?_ r, q1⟩
        rw [List.length_map, (srtT_perm kd).length_eq, h5]
        exact hl
      · exact q1.elim
    · exact q1.elim
  · exact q1.elim
theorem se_sItOwn (i : Nat) {kvs : List (U × U)} (e : υ[i]? = some (some (.dct kvs))) : SE (β := β) base C 0 (mSIt (mVar i)) υ fun f => (uSItK kvs).bind f := fun w σ f Q X gd F hR q => by
  obtain ⟨n, ds, s, hn, hk, hl, la, ln, l, dk, ty⟩ := own_dct F e
  unfold mSIt
  simp only [mVar, s, R.bind_ok]
  rw [if_pos ty]
  simp only [la]
  unfold uSItK at q
  split at q
  · rename_i hne
    rw [if_pos (show ds.isEmpty = false by rw [dk.emp]; exact hne)]
    split at q
    · rename_i ks hks
      obtain ⟨kd, h3, h4, h5⟩ := txk_den dk hks
      simp only [h3]
      refine goes_new .fz (by decide) gd (prs_dens (srt_d2 h4)) fun w' e k s r => ⟨_, .lst k s ?_ r, q⟩
      rw [List.length_map, (srtT_perm kd).length_eq, h5]
      exact l
    · exact q.elim
  · exact q.elim
/-! ### [(x,) + d[x] for x in d] -/
def uKVi (kvs : List (U × U)) (k : U) : Option U := match uGetK kvs k with
  | some (.tup vs) => if (keyU k).isSome = true ∧ vs.isEmpty = false ∧ vs.length + 1 ≤ sizeLine then some (.tup (k :: vs)) else none
  | _ => none
def uKVL (kvs : List (U × U)) : List (U × U) → Option (List U)
  | [] => some []
  | p :: l => match uKVi kvs p.1, uKVL kvs l with
    | some y, some ys => some (y :: ys)
    | _, _ => none
def uKV (kvs : List (U × U)) : Option (List U) := if kvs.isEmpty = false ∧ kvs.length < sizeLine then uKVL kvs kvs else none
theorem kvi_den {K : Nat → Kd} {st : Store} {ds : List (D × D)} {us : List (U × U)} {d : D} {u y : U} (h : DenK K st ds us) (hk : Den K st d u) (e : uKVi us u = some y) : ∃ z, kvI ds d = some z ∧ Den K st z y := by
  unfold uKVi at e
  split at e
  · rename_i vs e1
    split at e
    · rename_i hc
      cases e
      rcases h.get hk with ⟨a, b⟩ | ⟨x, y, a, b, c⟩
      · rw [a] at e1; cases e1
      · rw [a] at e1
        cases e1
        cases c with
        | tup l0 r0 =>
          rename_i ds'
          have le := r0.length
          refine ⟨.tup (d :: ds'), ?_, .tup (by simp [le]; exact hc.2.2) (.cons hk r0)⟩
          unfold kvI
          have c1 : (keyD d).isSome = true := by rw [hk.keyD]; exact hc.1
          have c2 : ds'.isEmpty = false := by
            cases r0 with
            | nil => exact hc.2.1
            | cons _ _ => rfl
          simp only [b]
          rw [if_pos ⟨c1, c2, by rw [le]; exact hc.2.2⟩]
    · cases e
  · cases e
theorem kvl_den {K : Nat → Kd} {st : Store} {ds : List (D × D)} {us : List (U × U)} (h : DenK K st ds us) : ∀ {l : List (D × D)} {m : List (U × U)} {ys : List U}, DenK K st l m → uKVL us m = some ys → ∃ zs, kvL ds l = some zs ∧ Dens K st zs ys ∧ zs.length = l.length
  | _, _, _, .nil, e => by cases e; exact ⟨[], rfl, .nil, rfl⟩
  | (k, v) :: l, (a, b) :: m, _, .cons h1 h2 r, e => by
    unfold uKVL at e
    split at e
    · rename_i y ys e1 e2
      cases e
      obtain ⟨z, z1, z2⟩ := kvi_den h h1 e1
      obtain ⟨zs, y1, y2, y3⟩ := kvl_den h r e2
      refine ⟨z :: zs, ?_, .cons z2 y2, by simp [y3]⟩
      unfold kvL
      simp only [z1, y1]
    · cases e
theorem kv_goes {w : Wd} {σ : Sig} {n i j : Nat} {ds : List (D × D)} {us : List (U × U)} {f : List U → W β} {Q : β → Prop} {X : UX → Prop} (gd : Good w) (s : σ[i]? = some (some (.loc n))) (hj : j < σ.length) (hd : dctW w.st n = some ds) (dk : DenK w.K w.st ds us)
    (q : (match uKV us with | some ys => f ys | none => .fail).Ok Q X) : Goes noA (0 * C) w (mKV i j σ w.st) (fun w' d => ∃ ys : List U, (∃ m, d = .loc m ∧ w.st.length ≤ m ∧ LstAt w' m ys) ∧ (f ys).Ok Q X) X := by
  split at q
  · rename_i ys e
    unfold uKV at e
    split at e
    · rename_i hc
      obtain ⟨zs, h1, h2, h3⟩ := kvl_den dk dk e
      have le := dk.length
      unfold mKV
      rw [if_pos hj]
      simp only [s, hd]
      rw [if_pos ⟨show ds.isEmpty = false by rw [dk.emp]; exact hc.1, by rw [le]; exact hc.2⟩]
      simp only [h1]
      exact goes_new .ow (by decide) gd h2 fun w' e k s r => ⟨_, ⟨_, rfl, Nat.le_refl _, zs, k, s, by rw [h3, le]; exact Nat.le_of_lt hc.2, r⟩, q⟩
    · cases e
  · exact q.elim
theorem sl_kvOwn (i j : Nat) {kvs : List (U × U)} (e : υ[i]? = some (some (.dct kvs))) (hj : j < υ.length) : SL (β := β) base C 0 (mKV i j) υ fun f => match uKV kvs with | some ys => f ys | none => .fail := fun w σ f Q X gd F hR q => by
  obtain ⟨n, ds, s, hn, hk, hl, la, ln, l, dk, ty⟩ := own_dct F e
  exact kv_goes gd s (by rw [← F.len]; exact hj) la dk q
theorem sl_kv (i j : Nat) {u : U} (e : υ[i]? = some (some (.v u))) (hj : j < υ.length) : SL (β := β) base C 0 (mKV i j) υ fun f => match u with
    | .dct kvs => match uKV kvs with | some ys => f ys | none => .fail
    | _ => .fail := fun w σ f Q X gd F hR q => by
  obtain ⟨d, s, dn⟩ := F.val e
  split at q
  · obtain ⟨n, kvs, rfl, hk, hs, hl, dk, _⟩ := den_dct dn
    exact kv_goes gd s (by rw [← F.len]; exact hj) (dct_new hs) dk q
  · exact q.elim
end
end V

/-! V17: (x, y) = (a, b) where a name is a cell: as if in parallel. -/
open PySem L2
namespace V
open G
section
variable {α β γ δ : Type} {base C c ca cb : Nat} {υ ex : Fr} {a b d : ME} {T1 T2 T3 Sb : Type} {eb : Sb → Fr}
theorem par2_eq (i j : Nat) : sAsg (mTup (aCons a (aCons b aNil))) (gTp 2 (gCn (gNm i) (gCn (gNm j) gNl))) = sPar2 i j (aCons a (aCons b aNil)) := by
  funext σ st
  unfold sAsg sPar2 mTup aCons aNil
  cases a σ st with
  | fail => rfl
  | exc e s => rfl
  | ok x st1 =>
    simp only [R.bind_ok]
    cases b σ st1 with
    | fail => rfl
    | exc e s => rfl
    | ok y st2 =>
      have h : [x, y].length ≤ sizeLine := by show 2 ≤ sizeLine; decide
      simp only [R.bind_ok, if_pos h]
      rfl
theorem par3_eq (i j k : Nat) : sAsg (mTup (aCons a (aCons b (aCons d aNil)))) (gTp 3 (gCn (gNm i) (gCn (gNm j) (gCn (gNm k) gNl)))) = sPar3 i j k (aCons a (aCons b (aCons d aNil))) := by
  funext σ st
  unfold sAsg sPar3 mTup aCons aNil
  cases a σ st with
  | fail => rfl
  | exc e s => rfl
  | ok x st1 =>
    simp only [R.bind_ok]
    cases b σ st1 with
    | fail => rfl
    | exc e s => rfl
    | ok y st2 =>
      simp only [R.bind_ok]
      cases d σ st2 with
      | fail => rfl
      | exc e s => rfl
      | ok z st3 =>
        have h : [x, y, z].length ≤ sizeLine := by show 3 ≤ sizeLine; decide
        simp only [R.bind_ok, if_pos h]
        rfl
theorem ss_tpl2 (i j : Nat) {Ea : (T1 → W U) → W U} {Eb : (T2 → W U) → W U} {ea : T1 → O} {eb2 : T2 → O} {en : T1 × T2 → Fr} (hij : i ≠ j) (hx : FrLe ex υ) (ha : SOx base C ca a υ Ea ea) (hb' : SOx base C cb b υ Eb eb2) (he : ∀ p, en p = (υ.set i (some (ea p.1))).set j (some (eb2 p.2))) :
    SS base C (ca + cb) (sAsg (mTup (aCons a (aCons b aNil))) (gTp 2 (gCn (gNm i) (gCn (gNm j) gNl)))) υ ex en eb fun nx _ _ => Ea fun x => Eb fun y => nx (x, y) := by
  rw [par2_eq]; exact ss_par2 i j hij hx ha hb' he
theorem ss_tpl3 (i j k : Nat) {cd : Nat} {Ea : (T1 → W U) → W U} {Eb : (T2 → W U) → W U} {Ed : (T3 → W U) → W U} {ea : T1 → O} {eb2 : T2 → O} {ed : T3 → O} {en : T1 × T2 × T3 → Fr} (hx : FrLe ex υ) (ha : SOx base C ca a υ Ea ea) (hb' : SOx base C cb b υ Eb eb2) (hd : SOx base C cd d υ Ed ed)
    (he : ∀ p, en p = ((υ.set i (some (ea p.1))).set j (some (eb2 p.2.1))).set k (some (ed p.2.2))) :
    SS base C (ca + (cb + cd)) (sAsg (mTup (aCons a (aCons b (aCons d aNil)))) (gTp 3 (gCn (gNm i) (gCn (gNm j) (gCn (gNm k) gNl))))) υ ex en eb fun nx _ _ => Ea fun x => Eb fun y => Ed fun z => nx (x, y, z) := by
  rw [par3_eq]; exact ss_par3 i j k hx ha hb' hd he
/-- list(range(n)) -/
def uLRg : U → W (List U)
  | .int n => if -1000000 ≤ n ∧ n ≤ 16777216 then .ret (rgU n) else .fail
  | _ => .fail
theorem sl_rgW {β : Type} {Ea : (U → W β) → W β} (ha : SE base C ca a υ Ea) : SL base C ca (mLRg a) υ fun f => Ea fun x => (uLRg x).bind f := fun w σ f Q X gd F hR q => by
  refine sl_rg ha w σ f Q X gd F hR ?_
  have e : (fun x => (uLRg x).bind f) = fun (x : U) => match x with
    | .int n => if -1000000 ≤ n ∧ n ≤ 16777216 then f (rgU n) else .fail
    | _ => .fail := by
    funext x
    unfold uLRg
    cases x with
    | int n =>
      show (if _ then W.ret (rgU n) else .fail).bind f = if _ then f (rgU n) else .fail
      split <;> rfl
    | _ => rfl
  have q' : (Ea fun x => (uLRg x).bind f).Ok Q X := q
  rw [e] at q'
  exact q'
end
end V

namespace P
open PySem L2 G V
/-! _law_drawn_order -/
def b_law_drawn_order_1_1 (call : CallF) : G.SS :=
  (sExpr (mBM .lst mAppend (mVar 3) (aCons (mBM .lst mPop (mVar 2) (aCons (mCallP 2 (call (Str.ofString "_law_take")) (aCons (mVar 0) (aCons (mCB bLen (aCons (mVar 2) aNil)) aNil))) aNil)) aNil)))

def b_law_drawn_order_1 (call : CallF) : G.SS :=
  (sSeq (sPar2 2 3 (aCons (mLRg (mCallP 2 (call (Str.ofString "_law_take")) (aCons (mVar 0) (aCons (mBin opAdd (mVar 1) (mC (.int 1))) aNil)))) (aCons (mLst aNil) aNil)))
  (sSeq (sWhile (mBl (mBin (opEq true) (mVar 2) (mLst aNil))) (b_law_drawn_order_1_1 call))
  (sRet (mCB bTuple (aCons (mVar 3) aNil)))))

def v_law_drawn_order_1 (vc : CallV) : List U → W U := fun us => match us with
  | [a1, a2] => (uAdd a2 (.int 1)).bind fun t15 => (vc (Str.ofString "_law_take") ([a1, t15] : List U)).bind fun t16 => (uLRg t16).bind fun n14 => wWhile (S := List U × List U) LF (n14, ([] : List U)) (fun s2 nx3 bk4 => (((uEq true) (.lst s2.1) (.lst ([] : List U))).bind fun t12 => (uBl t12).bind fun t13 => .ret t13).tot.bind fun t11 => if t11 = true then ((uLen ([(.lst s2.1)] : List U)).bind fun t7 => .ret t7).tot.bind fun t6 => (flatW t6).bind fun t8 => (vc (Str.ofString "_law_take") ([a1, t8] : List U)).bind fun t9 => (uPopI s2.1 t9).bind fun q5 => if List.length s2.2 < sizeLine then nx3 (q5.2, (s2.2 ++ [q5.1])) else .fail else bk4 s2) (fun s10 => .ret (.tup s10.2))
  | _ => .fail
theorem sb_law_drawn_order_1 {C : Nat} {call : CallF} {vc : CallV} (hcall : CallS C call vc) : ∃ c, c ≤ CF ∧ ∀ (base : Nat) (a1 a2 : U), ∃ wm : (Unit → W U) → (Unit → W U) → (Unit → W U) → W U, V.SS base C c (b_law_drawn_order_1 call) [some (.v a1), some (.v a2), none, none] [none, none, none, none] (fun _ => [none, none, none, none]) (fun _ => [none, none, none, none]) wm ∧ v_law_drawn_order_1 vc [a1, a2] = wm (fun _ => .ret .non) (fun _ => .fail) fun _ => .fail :=
  ⟨_, by decide +kernel, fun base a1 a2 => ⟨_, (ss_seq (ss_par2 (en := fun z1 => [some (.v a1), some (.v a2), some (.lst z1.1), some (.lst z1.2)]) (ea := O.lst) (eb2 := O.lst) 2 3 (by decide) (.no (.no (.no (.no .nil)))) (sl_rgW (se_callP (hcall (Str.ofString "_law_take")) (sa_cons (se_var 0 rfl) (sa_cons (se_bin uAdd_ok (se_var 1 rfl) (se_int 1)) sa_nil)))) (sl_lst sa_nil (by decide)) (fun _ => rfl)) fun z1 => (ss_seq (ss_while (emb := fun s2 : List U × List U => [some (.v a1), some (.v a2), some (.lst s2.1), some (.lst s2.2)]) (z1.1, z1.2) (fun _ => (.no (.no (.no (.no .nil))))) (.eq (.eq (.eq (.eq .nil)))) (fun s2 => (st_bor (υ1 := [some (.v a1), some (.v a2), some (.v (.lst s2.1)), some (.v (.lst s2.2))]) (.eq (.eq (.vl (.vl .nil)))) (st_bl (se_bin uEq_ok (se_var 2 rfl) (se_lst sa_nil (by decide)))))) fun s2 => (ss_weak (fun q5 => (q5.2, (s2.2 ++ [q5.1]))) (ss_appendX (en := fun q5 : U × List U => [some (.v a1), some (.v a2), some (.lst q5.2), some (.lst (s2.2 ++ [q5.1]))]) 3 2 (by decide) rfl (.no (.no (.no (.no .nil)))) (sx_popI 2 rfl (se_callP (hcall (Str.ofString "_law_take")) (sa_cons (se_var 0 rfl) (sa_cons (se_bor (υ1 := [some (.v a1), some (.v a2), some (.v (.lst s2.1)), some (.v (.lst s2.2))]) (.eq (.eq (.vl (.vl .nil)))) (se_cb uLen_ok (sa_cons (se_var 2 rfl) sa_nil))) sa_nil)))) (fun _ => rfl)) fun q5 => (.eq (.eq (.eq (.eq .nil)))))) fun s10 => (ss_ret (.no (.no (.no (.no .nil)))) (se_tupleOwn 3 rfl)))), by kernel_rfl⟩⟩
theorem s_law_drawn_order_1 {C : Nat} {call : CallF} {vc : CallV} (hC : 1 ≤ C) (hcall : CallS C call vc) : FnS (CF * C) (runF 4 (b_law_drawn_order_1 call)) (v_law_drawn_order_1 vc) := let ⟨c, hc, h⟩ := sb_law_drawn_order_1 hcall; fnS_of 4 2 c hc (fun base us hl => match us, hl with | [a1, a2], _ => h base a1 a2) fun us Q X h => by unfold v_law_drawn_order_1 at h; split at h <;> first | rfl | exact h.elim
end P

namespace P
open PySem L2 G V
/-! _law_drawn_lore -/
def b_law_drawn_lore_1_1 (call : CallF) : G.SS :=
  (sSeq (sAsg (mBin opAdd (mBin opAdd (mCallP 2 (call (Str.ofString "_law_of")) (aCons (mVar 0) (aCons (mVar 2) aNil))) (mC (.str (Str.ofString ".")))) (mCallP 2 (call (Str.ofString "_law_of")) (aCons (mVar 0) (aCons (mLst (aCons (mC (.str (Str.ofString "v"))) (aCons (mC (.str (Str.ofString "do"))) (aCons (mC (.str (Str.ofString "zzzzzzzz"))) aNil)))) aNil)))) (gNm 5))
  (sAsg (mTup (aCons (mCallP 2 (call (Str.ofString "_law_drawn_order")) (aCons (mVar 0) (aCons (mC (.int 3)) aNil))) (aCons (mCallP 2 (call (Str.ofString "_law_of")) (aCons (mVar 0) (aCons (mLst (aCons (mC (.str (Str.ofString "deep"))) (aCons (mC (.str (Str.ofString "wide"))) aNil))) aNil))) aNil))) (gSb (mVar 4) (mVar 5))))

def b_law_drawn_lore_1_2 (call : CallF) : G.SS :=
  (sSeq (sAsg (mBin opAdd (mBin opAdd (mCallP 2 (call (Str.ofString "_law_of")) (aCons (mVar 0) (aCons (mVar 2) aNil))) (mC (.str (Str.ofString ".")))) (mCallP 2 (call (Str.ofString "_law_of")) (aCons (mVar 0) (aCons (mLst (aCons (mC (.str (Str.ofString "w"))) (aCons (mC (.str (Str.ofString "n"))) (aCons (mC (.str (Str.ofString "cons"))) (aCons (mC (.str (Str.ofString "x"))) (aCons (mC (.str (Str.ofString "wwwwwwww"))) aNil)))))) aNil)))) (gNm 5))
  (sAsg (mCallP 2 (call (Str.ofString "_law_drawn_order")) (aCons (mVar 0) (aCons (mC (.int 3)) aNil))) (gSb (mVar 3) (mVar 5))))

def b_law_drawn_lore_1 (call : CallF) : G.SS :=
  (sSeq (sAsg (mTup (aCons (mSl (mLst (aCons (mC (.str (Str.ofString "a"))) (aCons (mC (.str (Str.ofString "b"))) (aCons (mC (.str (Str.ofString "lines"))) (aCons (mC (.str (Str.ofString "abcdefgh"))) aNil))))) oNone (oSome (mBin opAdd (mC (.int 1)) (mCallP 2 (call (Str.ofString "_law_take")) (aCons (mVar 0) (aCons (mC (.int 4)) aNil)))))) (aCons mDict0 (aCons mDict0 aNil)))) (gTp 3 (gCn (gNm 2) (gCn (gNm 3) (gCn (gNm 4) gNl)))))
  (sSeq (sFor (iRng1 (aCons (mBin opAdd (mC (.int 2)) (mCallP 2 (call (Str.ofString "_law_take")) (aCons (mVar 0) (aCons (mC (.int 6)) aNil)))) aNil)) (gNm 1) (b_law_drawn_lore_1_2 call))
  (sSeq (sAsg (mTup aNil) (gSb (mVar 3) (mC (.str (Str.ofString "b.nil")))))
  (sSeq (sFor (iRng1 (aCons (mBin opAdd (mC (.int 1)) (mCallP 2 (call (Str.ofString "_law_take")) (aCons (mVar 0) (aCons (mC (.int 3)) aNil)))) aNil)) (gNm 1) (b_law_drawn_lore_1_1 call))
  (sRet (mTup (aCons (mCB bTuple (aCons (mSIt (mVar 3)) aNil)) (aCons (mCB bTuple (aCons (mCB bSorted (aCons (mKV 4 5) aNil)) aNil)) aNil))))))))

def v_law_drawn_lore_1 (vc : CallV) : List U → W U := fun us => match us with
  | [a1] => (vc (Str.ofString "_law_take") ([a1, (.int 4)] : List U)).bind fun t42 => (uAdd (.int 1) t42).bind fun t43 => (uIntO t43).bind fun t44 => (uSl (.lst ([(.str (Str.ofString "a")), (.str (Str.ofString "b")), (.str (Str.ofString "lines")), (.str (Str.ofString "abcdefgh"))] : List U)) none (some t44)).bind fun t45 => (vc (Str.ofString "_law_take") ([a1, (.int 6)] : List U)).bind fun t39 => (uAdd (.int 2) t39).bind fun t40 => (uRng1 ([t40] : List U)).bind fun xs41 => wFor (S := List (U × U)) xs41 [] (fun x5 s2 nx3 bk4 => (vc (Str.ofString "_law_of") ([a1, t45] : List U)).bind fun t9 => (uAdd t9 (.str (Str.ofString "."))).bind fun t10 => (vc (Str.ofString "_law_of") ([a1, (.lst ([(.str (Str.ofString "w")), (.str (Str.ofString "n")), (.str (Str.ofString "cons")), (.str (Str.ofString "x")), (.str (Str.ofString "wwwwwwww"))] : List U))] : List U)).bind fun t11 => (uAdd t10 t11).bind fun t12 => (vc (Str.ofString "_law_drawn_order") ([a1, (.int 3)] : List U)).bind fun t8 => (uSetK s2 t12 t8).bind fun l7 => nx3 l7) (fun s14 => (uSetK s14 (.str (Str.ofString "b.nil")) (.tup ([] : List U))).bind fun l15 => (vc (Str.ofString "_law_take") ([a1, (.int 3)] : List U)).bind fun t36 => (uAdd (.int 1) t36).bind fun t37 => (uRng1 ([t37] : List U)).bind fun xs38 => wFor (S := List (U × U)) xs38 [] (fun x19 s16 nx17 bk18 => (vc (Str.ofString "_law_of") ([a1, t45] : List U)).bind fun t24 => (uAdd t24 (.str (Str.ofString "."))).bind fun t25 => (vc (Str.ofString "_law_of") ([a1, (.lst ([(.str (Str.ofString "v")), (.str (Str.ofString "do")), (.str (Str.ofString "zzzzzzzz"))] : List U))] : List U)).bind fun t26 => (uAdd t25 t26).bind fun t27 => (vc (Str.ofString "_law_drawn_order") ([a1, (.int 3)] : List U)).bind fun t22 => (vc (Str.ofString "_law_of") ([a1, (.lst ([(.str (Str.ofString "deep")), (.str (Str.ofString "wide"))] : List U))] : List U)).bind fun t23 => (uSetK s16 t27 (.tup ([t22, t23] : List U))).bind fun l21 => nx17 l21) (fun s29 => (uSItK l15).bind fun t32 => (uTuple ([t32] : List U)).bind fun t33 => match uKV s29 with | some ys30 => (uSorted ([(.lst ys30)] : List U)).bind fun t34 => (uTuple ([t34] : List U)).bind fun t35 => .ret (.tup ([t33, t35] : List U)) | none => .fail))
  | _ => .fail
theorem sb_law_drawn_lore_1 {C : Nat} {call : CallF} {vc : CallV} (hcall : CallS C call vc) : ∃ c, c ≤ CF ∧ ∀ (base : Nat) (a1 : U), ∃ wm : (Unit → W U) → (Unit → W U) → (Unit → W U) → W U, V.SS base C c (b_law_drawn_lore_1 call) [some (.v a1), none, none, none, none, none] [none, none, none, none, none, none] (fun _ => [none, none, none, none, none, none]) (fun _ => [none, none, none, none, none, none]) wm ∧ v_law_drawn_lore_1 vc [a1] = wm (fun _ => .ret .non) (fun _ => .fail) fun _ => .fail :=
  ⟨_, by decide +kernel, fun base a1 => ⟨_, (ss_seq (ss_tpl3 (en := fun z1 => [some (.v a1), none, some (.v z1.1), some (.dct z1.2.1), some (.dct z1.2.2), none]) (ea := O.v) (eb2 := O.dct) (ed := O.dct) 2 3 4 (.no (.no (.no (.no (.no (.no .nil)))))) (se_sl (se_lst (sa_cons (se_str (Str.ofString "a") (by decide +kernel)) (sa_cons (se_str (Str.ofString "b") (by decide +kernel)) (sa_cons (se_str (Str.ofString "lines") (by decide +kernel)) (sa_cons (se_str (Str.ofString "abcdefgh") (by decide +kernel)) sa_nil)))) (by decide)) sp_none (sp_some (se_bin uAdd_ok (se_int 1) (se_callP (hcall (Str.ofString "_law_take")) (sa_cons (se_var 0 rfl) (sa_cons (se_int 4) sa_nil)))))) sd_dict0 sd_dict0 (fun _ => rfl)) fun z1 => (ss_seq (ss_for (emb := fun s2 : List (U × U) => [some (.v a1), none, some (.v z1.1), some (.dct s2), some (.dct z1.2.2), none]) (en1 := fun (x5 : U) (s2 : List (U × U)) (u13 : Unit) => [some (.v a1), some (.v x5), some (.v z1.1), some (.dct s2), some (.dct z1.2.2), none]) z1.2.1 (.no (.no (.no (.no (.no (.no .nil)))))) (si_rng1 (sa_cons (se_bin uAdd_ok (se_int 2) (se_callP (hcall (Str.ofString "_law_take")) (sa_cons (se_var 0 rfl) (sa_cons (se_int 6) sa_nil)))) sa_nil)) (.eq (.no (.eq (.eq (.eq (.no .nil)))))) (fun x5 s2 => (stG_nm (en := fun _ => [some (.v a1), some (.v x5), some (.v z1.1), some (.dct s2), some (.dct z1.2.2), none]) 1 rfl)) fun x5 s2 u13 => (ss_seq (ss_asg (em := O.v) (en := fun t6 => [some (.v a1), some (.v x5), some (.v z1.1), some (.dct s2), some (.dct z1.2.2), some (.v t6)]) 5 (.no (.no (.no (.no (.no (.no .nil)))))) (se_bin uAdd_ok (se_bin uAdd_ok (se_callP (hcall (Str.ofString "_law_of")) (sa_cons (se_var 0 rfl) (sa_cons (se_var 2 rfl) sa_nil))) (se_str (Str.ofString ".") (by decide +kernel))) (se_callP (hcall (Str.ofString "_law_of")) (sa_cons (se_var 0 rfl) (sa_cons (se_lst (sa_cons (se_str (Str.ofString "w") (by decide +kernel)) (sa_cons (se_str (Str.ofString "n") (by decide +kernel)) (sa_cons (se_str (Str.ofString "cons") (by decide +kernel)) (sa_cons (se_str (Str.ofString "x") (by decide +kernel)) (sa_cons (se_str (Str.ofString "wwwwwwww") (by decide +kernel)) sa_nil))))) (by decide)) sa_nil)))) (fun _ => rfl)) fun t6 => (ss_weak (fun l7 => l7) (ss_setK (en := fun l7 => [some (.v a1), some (.v x5), some (.v z1.1), some (.dct l7), some (.dct z1.2.2), some (.v t6)]) 3 rfl (.no (.no (.no (.no (.no (.no .nil)))))) (se_callP (hcall (Str.ofString "_law_drawn_order")) (sa_cons (se_var 0 rfl) (sa_cons (se_int 3) sa_nil))) (se_var 5 rfl) (fun _ => rfl)) fun l7 => (.eq (.no (.eq (.eq (.eq (.no .nil))))))))) fun s14 => (ss_seq (ss_setK (en := fun l15 => [some (.v a1), none, some (.v z1.1), some (.dct l15), some (.dct z1.2.2), none]) 3 rfl (.no (.no (.no (.no (.no (.no .nil)))))) (se_tup sa_nil (by decide)) (se_str (Str.ofString "b.nil") (by decide +kernel)) (fun _ => rfl)) fun l15 => (ss_seq (ss_for (emb := fun s16 : List (U × U) => [some (.v a1), none, some (.v z1.1), some (.dct l15), some (.dct s16), none]) (en1 := fun (x19 : U) (s16 : List (U × U)) (u28 : Unit) => [some (.v a1), some (.v x19), some (.v z1.1), some (.dct l15), some (.dct s16), none]) z1.2.2 (.no (.no (.no (.no (.no (.no .nil)))))) (si_rng1 (sa_cons (se_bin uAdd_ok (se_int 1) (se_callP (hcall (Str.ofString "_law_take")) (sa_cons (se_var 0 rfl) (sa_cons (se_int 3) sa_nil)))) sa_nil)) (.eq (.no (.eq (.eq (.eq (.no .nil)))))) (fun x19 s16 => (stG_nm (en := fun _ => [some (.v a1), some (.v x19), some (.v z1.1), some (.dct l15), some (.dct s16), none]) 1 rfl)) fun x19 s16 u28 => (ss_seq (ss_asg (em := O.v) (en := fun t20 => [some (.v a1), some (.v x19), some (.v z1.1), some (.dct l15), some (.dct s16), some (.v t20)]) 5 (.no (.no (.no (.no (.no (.no .nil)))))) (se_bin uAdd_ok (se_bin uAdd_ok (se_callP (hcall (Str.ofString "_law_of")) (sa_cons (se_var 0 rfl) (sa_cons (se_var 2 rfl) sa_nil))) (se_str (Str.ofString ".") (by decide +kernel))) (se_callP (hcall (Str.ofString "_law_of")) (sa_cons (se_var 0 rfl) (sa_cons (se_lst (sa_cons (se_str (Str.ofString "v") (by decide +kernel)) (sa_cons (se_str (Str.ofString "do") (by decide +kernel)) (sa_cons (se_str (Str.ofString "zzzzzzzz") (by decide +kernel)) sa_nil))) (by decide)) sa_nil)))) (fun _ => rfl)) fun t20 => (ss_weak (fun l21 => l21) (ss_setK (en := fun l21 => [some (.v a1), some (.v x19), some (.v z1.1), some (.dct l15), some (.dct l21), some (.v t20)]) 4 rfl (.no (.no (.no (.no (.no (.no .nil)))))) (se_tup (sa_cons (se_callP (hcall (Str.ofString "_law_drawn_order")) (sa_cons (se_var 0 rfl) (sa_cons (se_int 3) sa_nil))) (sa_cons (se_callP (hcall (Str.ofString "_law_of")) (sa_cons (se_var 0 rfl) (sa_cons (se_lst (sa_cons (se_str (Str.ofString "deep") (by decide +kernel)) (sa_cons (se_str (Str.ofString "wide") (by decide +kernel)) sa_nil)) (by decide)) sa_nil))) sa_nil)) (by decide)) (se_var 5 rfl) (fun _ => rfl)) fun l21 => (.eq (.no (.eq (.eq (.eq (.no .nil))))))))) fun s29 => (ss_ret (.no (.no (.no (.no (.no (.no .nil)))))) (se_tup (sa_cons (se_cb uTuple_ok (sa_cons (se_sItOwn 3 rfl) sa_nil)) (sa_cons (se_cb uTuple_ok (sa_cons (se_cb uSorted_ok (sa_cons (se_sl' (sl_kvOwn 4 5 rfl (Nat.le_of_ble_eq_true rfl))) sa_nil)) sa_nil)) sa_nil)) (by decide))))))), rfl⟩⟩
theorem s_law_drawn_lore_1 {C : Nat} {call : CallF} {vc : CallV} (hC : 1 ≤ C) (hcall : CallS C call vc) : FnS (CF * C) (runF 6 (b_law_drawn_lore_1 call)) (v_law_drawn_lore_1 vc) := let ⟨c, hc, h⟩ := sb_law_drawn_lore_1 hcall; fnS_of 6 1 c hc (fun base us hl => match us, hl with | [a1], _ => h base a1) fun us Q X h => by unfold v_law_drawn_lore_1 at h; split at h <;> first | rfl | exact h.elim
end P

namespace P
open PySem L2 G V
/-! _law_drawn_head -/
def b_law_drawn_head_1_1 (call : CallF) : ME :=
  (mCallP 4 (call (Str.ofString "_law_tree")) (aCons (mVar 0) (aCons (mVar 3) (aCons (mVar 2) (aCons (mCallP 2 (call (Str.ofString "_law_take")) (aCons (mVar 0) (aCons (mC (.int 3)) aNil))) aNil)))))

def b_law_drawn_head_1_2 (call : CallF) : ME :=
  (mTup (aCons (mVar 7) (aCons (mCB bLen (aCons (mVar 8) aNil)) aNil)))

def b_law_drawn_head_1 (call : CallF) : G.SS :=
  (sSeq (sAsg (mCallP 2 (call (Str.ofString "_law_of")) (aCons (mVar 0) (aCons (mCB bList (aCons (mBin opIx (mVar 1) (mC (.int 1))) aNil)) aNil))) (gTp 3 (gCn (gNm 4) (gCn (gNm 5) (gCn (gNm 6) gNl)))))
  (sSeq (sAsg (mLc (iAny (mBin opIx (mVar 1) (mC (.int 0)))) (.tp [7, 8]) tTrue (b_law_drawn_head_1_2 call) [7, 8]) (gNm 3))
  (sRet (mBin opAdd (mTup (aCons (mVar 4) aNil)) (mCB bTuple (aCons (mLc (iAny (mVar 5)) (.nm 9) tTrue (b_law_drawn_head_1_1 call) [9]) aNil))))))

def v_law_drawn_head_1 (vc : CallV) : List U → W U := fun us => match us with
  | [a1, a2, a3] => (uIx a2 (.int 1)).bind fun t18 => (uList ([t18] : List U)).bind fun t19 => (vc (Str.ofString "_law_of") ([a1, t19] : List U)).bind fun t20 => (uT3 t20).bind fun p2 => (uIx a2 (.int 0)).bind fun t16 => (uIter t16).bind fun xs17 => (wLc xs17 fun x3 => (uT2 x3).bind fun p4 => (uLen ([p4.2] : List U)).bind fun t5 => .ret (some (.tup ([p4.1, t5] : List U)))).bind fun ys15 => (uIter p2.2.1).bind fun xs12 => (wLc xs12 fun x7 => (vc (Str.ofString "_law_take") ([a1, (.int 3)] : List U)).bind fun t9 => (vc (Str.ofString "_law_tree") ([a1, (.lst ys15), a3, t9] : List U)).bind fun t10 => .ret (some t10)).bind fun ys11 => (uTuple ([(.lst ys11)] : List U)).bind fun t13 => (uAdd (.tup ([p2.1] : List U)) t13).bind fun t14 => .ret t14
  | _ => .fail
theorem sb_law_drawn_head_1 {C : Nat} {call : CallF} {vc : CallV} (hcall : CallS C call vc) : ∃ c, c ≤ CF ∧ ∀ (base : Nat) (a1 a2 a3 : U), ∃ wm : (Unit → W U) → (Unit → W U) → (Unit → W U) → W U, V.SS base C c (b_law_drawn_head_1 call) [some (.v a1), some (.v a2), some (.v a3), none, none, none, none, none, none, none] [none, none, none, none, none, none, none, none, none, none] (fun _ => [none, none, none, none, none, none, none, none, none, none]) (fun _ => [none, none, none, none, none, none, none, none, none, none]) wm ∧ v_law_drawn_head_1 vc [a1, a2, a3] = wm (fun _ => .ret .non) (fun _ => .fail) fun _ => .fail :=
  ⟨_, by decide +kernel, fun base a1 a2 a3 => ⟨_, (ss_seq (ss_asgT (en := fun p2 : U × U × U => [some (.v a1), some (.v a2), some (.v a3), none, some (.v p2.1), some (.v p2.2.1), some (.v p2.2.2), none, none, none]) (.no (.no (.no (.no (.no (.no (.no (.no (.no (.no .nil)))))))))) (se_callP (hcall (Str.ofString "_law_of")) (sa_cons (se_var 0 rfl) (sa_cons (se_cb uList_ok (sa_cons (se_bin uIx_ok (se_var 1 rfl) (se_int 1)) sa_nil)) sa_nil))) (fun x1 => (stG_nm3 (en := fun p2 => [some (.v a1), some (.v a2), some (.v a3), none, some (.v p2.1), some (.v p2.2.1), some (.v p2.2.2), none, none, none]) 4 5 6 (fun _ => rfl))) (fun _ _ => rfl)) fun p2 => (ss_seq (ss_asg (em := O.v) (en := fun t6 => [some (.v a1), some (.v a2), some (.v a3), some (.v t6), some (.v p2.1), some (.v p2.2.1), some (.v p2.2.2), none, none, none]) 3 (.no (.no (.no (.no (.no (.no (.no (.no (.no (.no .nil)))))))))) (se_sl' (sl_map (υ1 := [some (.v a1), some (.v a2), some (.v a3), none, some (.v p2.1), some (.v p2.2.1), some (.v p2.2.2), none, none, none]) (si_any (se_bin uIx_ok (se_var 1 rfl) (se_int 0))) (.eq (.eq (.eq (.no (.eq (.eq (.eq (.no (.no (.no .nil)))))))))) rfl (fun x3 => stg_tp2 (en := fun p4 => [some (.v a1), some (.v a2), some (.v a3), none, some (.v p2.1), some (.v p2.2.1), some (.v p2.2.2), some (.v p4.1), some (.v p4.2), none]) 7 8 (fun _ => rfl)) fun x3 p4 => (se_tup (sa_cons (se_var 7 rfl) (sa_cons (se_cb uLen_ok (sa_cons (se_var 8 rfl) sa_nil)) sa_nil)) (by decide)))) (fun _ => rfl)) fun t6 => (ss_ret (.no (.no (.no (.no (.no (.no (.no (.no (.no (.no .nil)))))))))) (se_bin uAdd_ok (se_tup (sa_cons (se_var 4 rfl) sa_nil) (by decide)) (se_cb uTuple_ok (sa_cons (se_sl' (sl_map (υ1 := [some (.v a1), some (.v a2), some (.v a3), some (.v t6), some (.v p2.1), some (.v p2.2.1), some (.v p2.2.2), none, none, none]) (si_any (se_var 5 rfl)) (.eq (.eq (.eq (.eq (.eq (.eq (.eq (.no (.no (.no .nil)))))))))) rfl (fun x7 => stg_nm (en := fun _ => [some (.v a1), some (.v a2), some (.v a3), some (.v t6), some (.v p2.1), some (.v p2.2.1), some (.v p2.2.2), none, none, some (.v x7)]) 9 rfl) fun x7 p8 => (se_callP (hcall (Str.ofString "_law_tree")) (sa_cons (se_var 0 rfl) (sa_cons (se_var 3 rfl) (sa_cons (se_var 2 rfl) (sa_cons (se_callP (hcall (Str.ofString "_law_take")) (sa_cons (se_var 0 rfl) (sa_cons (se_int 3) sa_nil))) sa_nil))))))) sa_nil)))))), rfl⟩⟩
theorem s_law_drawn_head_1 {C : Nat} {call : CallF} {vc : CallV} (hC : 1 ≤ C) (hcall : CallS C call vc) : FnS (CF * C) (runF 10 (b_law_drawn_head_1 call)) (v_law_drawn_head_1 vc) := let ⟨c, hc, h⟩ := sb_law_drawn_head_1 hcall; fnS_of 10 3 c hc (fun base us hl => match us, hl with | [a1, a2, a3], _ => h base a1 a2 a3) fun us Q X h => by unfold v_law_drawn_head_1 at h; split at h <;> first | rfl | exact h.elim
end P

/-! S6: orders, lore and heads that the laws draw. -/
namespace V
open PySem G P

/-! ### a list beside the empty one -/
theorem eqv_nil {xs : List U} : (U.lst xs).eqv (.lst []) = xs.isEmpty := by
  cases xs <;> simp [U.eqv, U.py, pys, PyData.eqv, PyData.eqvAll]
theorem uEq_nil {xs : List U} {neg : Bool} (h : oks xs 7 = true) (hd : dps xs ≤ 60) : uEq neg (.lst xs) (.lst []) = .ret (.bl (xs.isEmpty != neg)) := by
  rw [uEq_data (by simp only [U.ok]; exact h) (by simp [U.ok, oks]) (by simp only [U.dp]; omega) (by simp [U.dp, dps]), eqv_nil]

/-! ### an order -/
abbrev numU (n : Nat) : U := .int n
abbrev ordU (o : List Nat) : U := .tup (o.map numU)
def OrdOk (o : List Nat) : Prop := o.Perm (List.range o.length) ∧ o.length ≤ 3
def OrdV (F : List U → W U) : Prop := (F [.hnd, .int 3]).Ok (fun u => ∃ o, u = ordU o ∧ OrdOk o) NoX
theorem ok_nums {l : List Nat} {j : Nat} (h : ∀ x ∈ l, x < 1000000000000) : oks (l.map numU) j = true := oks_iff.mpr fun x hx => by
  obtain ⟨n, hn, rfl⟩ := List.mem_map.mp hx
  simp only [U.ok, decide_eq_true_eq]
  have := h n hn
  show (n : Int).natAbs < _
  omega
theorem dp_nums {l : List Nat} : dps (l.map numU) = 0 := Nat.le_zero.mp (dps_le fun x hx => by
  obtain ⟨n, hn, rfl⟩ := List.mem_map.mp hx
  simp [U.dp])
theorem popI_nat {us : List U} {i : Nat} (h : i < us.length) (hs : us.length < 2 ^ 40) : uPopI us (.int i) = .ret (us[i], us.eraseIdx i) := by
  have hz : us.length < 2 ^ 40 := hs
  simp only [uPopI]
  rw [if_pos ⟨by omega, by omega⟩]
  unfold L2.ixN
  rw [if_pos (by omega), if_pos (by omega)]
  simp [h]
theorem erase_map {α γ : Type} (g : α → γ) (l : List α) (i : Nat) : (l.map g).eraseIdx i = (l.eraseIdx i).map g := by
  rw [List.eraseIdx_eq_take_drop_succ, List.eraseIdx_eq_take_drop_succ, List.map_append, List.map_take, List.map_drop]
theorem erase_perm {α : Type} {l : List α} {i : Nat} (h : i < l.length) : (l[i] :: l.eraseIdx i).Perm l := by
  rw [List.eraseIdx_eq_take_drop_succ]
  have e : l = l.take i ++ l[i] :: l.drop (i + 1) := by
    rw [← List.drop_eq_getElem_cons h, List.take_append_drop]
  exact (List.perm_middle.symm.trans (.of_eq e.symm))
variable {vc : CallV} {β : Type} {Q : β → Prop} {X : UX → Prop}
theorem order_V (hT : TakeV (vc (Str.ofString "_law_take"))) : OrdV (v_law_drawn_order_1 vc) := by
  unfold OrdV v_law_drawn_order_1
  dsimp only
  have t4 : vc (Str.ofString "_law_take") ([.hnd, .int 4] : List U) = wTk 4 := hT 4 (by omega) (by omega)
  rw [uAdd_ii, bind_ret]
  show ((vc (Str.ofString "_law_take") ([.hnd, .int 4] : List U)).bind _).Ok _ _
  rw [t4, ok_tk]
  intro m hm
  have e1 : uLRg (.int (m : Int)) = .ret ((List.range m).map numU) := by
    show (if -1000000 ≤ (m : Int) ∧ (m : Int) ≤ 16777216 then W.ret (rgU m) else W.fail) = _
    rw [if_pos ⟨by omega, by omega⟩]
    rfl
  rw [e1, bind_ret]
  refine wWhile_inv (fun s => ∃ l f : List Nat, s = (l.map numU, f.map numU) ∧ (f ++ l).Perm (List.range m)) (fun s => s.1.length) (fun s hs nx hn => ?_) LF _ ⟨List.range m, [], rfl, by simp⟩ (by simp; unfold LF; omega)
  obtain ⟨l, f, rfl, hp⟩ := hs
  have hlen : f.length + l.length = m := by
    have := hp.length_eq
    simpa using this
  have hlt : ∀ x ∈ l, x < 1000000000000 := fun x hx => by
    have := List.mem_range.mp (hp.mem_iff.mp (List.mem_append_right f hx))
    omega
  dsimp only
  rw [uEq_nil (ok_nums hlt) (by rw [dp_nums]; omega)]
  simp only [bind_ret, uBl_bl, tot_ret]
  cases l with
  | nil =>
    simp only [List.map_nil, List.isEmpty_nil, Bool.bne_true, Bool.not_true, Bool.false_eq_true, if_false]
    refine ⟨f, rfl, ?_, ?_⟩
    · have : m = f.length := by simpa using hlen.symm
      rw [← this]; simpa using hp
    · simp at hlen; omega
  | cons x l =>
    simp only [List.map_cons, List.isEmpty_cons, Bool.bne_true, Bool.not_false, if_true]
    rw [uLen_lst]
    simp only [bind_ret, tot_ret]
    have fl : flatW (.int ((numU x :: l.map numU).length : Int)) = .ret (.int ((numU x :: l.map numU).length : Int)) := rfl
    rw [fl, bind_ret]
    have ln : (numU x :: l.map numU).length = (x :: l).length := by simp
    rw [ln, hT (x :: l).length (by simp) (by simp at hlen ⊢; omega), ok_tk]
    intro i hi
    rw [popI_nat (by rw [ln]; exact hi) (by rw [ln]; omega), bind_ret]
    rw [if_pos (by rw [List.length_map, sizeLine_val]; omega)]
    refine hn _ ⟨(x :: l).eraseIdx i, f ++ [(x :: l)[i]], ?_, ?_⟩ ?_
    · show (((x :: l).map numU).eraseIdx i, f.map numU ++ [((x :: l).map numU)[i]'(by simpa using hi)]) = _
      rw [erase_map, List.getElem_map, List.map_append]
      rfl
    · refine List.Perm.trans ?_ hp
      rw [List.append_assoc]
      refine List.Perm.append_left f ?_
      exact erase_perm hi
    · dsimp only
      rw [List.length_eraseIdx, if_pos (by rw [ln]; exact hi)]
      simp

/-! ### dicts with texts for keys -/
section
variable {τ σ : Type}
def putS (ks : List (Str × τ)) (n : Str) (x : τ) : List (Str × τ) := if n ∈ ks.map (·.1) then ks.map (fun p => if p.1 = n then (p.1, x) else p) else ks ++ [(n, x)]
abbrev kvE (g : τ → U) (p : Str × τ) : U × U := (.str p.1, g p.2)
theorem key_eq (a s : Str) : decide (kOfU (.str a) = kOfU (.str s)) = decide (a = s) := by simp [kOfU]
theorem kind_str {g : τ → U} {ks : List (Str × τ)} {s : Str} : kindOkU (ks.map (kvE g)) (.str s) = true := by
  cases ks <;> rfl
theorem setK_put {g : τ → U} {ks : List (Str × τ)} {n : Str} {x : τ} (h : ks.length < sizeLine) : uSetK (ks.map (kvE g)) (.str n) (g x) = .ret ((putS ks n x).map (kvE g)) := by
  unfold uSetK
  rw [if_pos ⟨kind_str, by simpa using h⟩]
  congr 1
  unfold uPutK putS
  have an : ((ks.map (kvE g)).any fun kv => decide (kOfU kv.1 = kOfU (.str n))) = decide (n ∈ ks.map (·.1)) := by
    simp only [List.any_map, Function.comp_def, key_eq]
    rw [Bool.eq_iff_iff]
    simp only [List.any_eq_true, decide_eq_true_eq, List.mem_map]
  rw [an]
  by_cases m : n ∈ ks.map (·.1)
  · rw [if_pos (by simpa using m), if_pos m, List.map_map, List.map_map]
    refine List.map_congr_left fun p hp => ?_
    show (if kOfU (.str p.1) = kOfU (.str n) then (U.str p.1, g x) else (U.str p.1, g p.2)) = kvE g (if p.1 = n then (p.1, x) else p)
    by_cases e : p.1 = n
    · rw [if_pos (by rw [e]), if_pos e]
    · rw [if_neg (by simpa [kOfU] using e), if_neg e]
  · rw [if_neg (by simpa using m), if_neg m]
    simp
theorem putS_len (ks : List (Str × τ)) (n : Str) (x : τ) : (putS ks n x).length ≤ ks.length + 1 := by
  unfold putS; split <;> simp
theorem putS_mem {ks : List (Str × τ)} {n : Str} {x : τ} : ∀ p ∈ putS ks n x, p ∈ ks ∨ p = (n, x) := fun p hp => by
  unfold putS at hp
  split at hp
  · obtain ⟨q, hq, e⟩ := List.mem_map.mp hp
    split at e
    · rename_i h; rw [← e, h]; exact .inr rfl
    · rw [← e]; exact .inl hq
  · rcases List.mem_append.mp hp with h | h
    · exact .inl h
    · exact .inr (List.mem_singleton.mp h)
theorem putS_has {ks : List (Str × τ)} {n : Str} {x : τ} : (n, x) ∈ putS ks n x := by
  unfold putS
  split
  · rename_i h
    obtain ⟨q, hq, e⟩ := List.mem_map.mp h
    exact List.mem_map.mpr ⟨q, hq, by rw [if_pos e, e]⟩
  · simp
theorem putS_nd {ks : List (Str × τ)} {n : Str} {x : τ} (h : (ks.map (·.1)).Nodup) : ((putS ks n x).map (·.1)).Nodup := by
  unfold putS
  split
  · rw [List.map_map]
    have e : ((fun p : Str × τ => p.1) ∘ fun p => if p.1 = n then (p.1, x) else p) = fun p => p.1 := by
      funext p
      show (if p.1 = n then (p.1, x) else p).1 = p.1
      split <;> rfl
    rw [e]; exact h
  · rename_i hn
    rw [List.map_append, List.nodup_append]
    refine ⟨h, by simp, fun a ha b hb e => ?_⟩
    simp at hb
    rw [e, hb] at ha
    exact hn ha
theorem getK_find {g : τ → U} : ∀ {ks : List (Str × τ)} {n : Str}, uGetK (ks.map (kvE g)) (.str n) = (ks.find? fun p => decide (p.1 = n)).map fun p => g p.2
  | [], _ => rfl
  | p :: ks, n => by
    have ih := getK_find (g := g) (ks := ks) (n := n)
    unfold uGetK at ih ⊢
    rw [List.map_cons, List.find?_cons, List.find?_cons]
    have e : decide (kOfU (kvE g p).1 = kOfU (.str n)) = decide (p.1 = n) := key_eq _ _
    rw [e]
    by_cases h : p.1 = n
    · simp [h]
    · simp only [h, decide_false, ih]
theorem find_key {ks : List (Str × τ)} (nd : (ks.map (·.1)).Nodup) {p : Str × τ} (h : p ∈ ks) : (ks.find? fun q => decide (q.1 = p.1)) = some p := by
  cases e : ks.find? fun q => decide (q.1 = p.1) with
  | none =>
    have := List.find?_eq_none.mp e p h
    simp at this
  | some q =>
    have h1 := List.mem_of_find?_eq_some e
    have h2 := List.find?_some e
    rw [G.nodup_key nd q h1 p h (by simpa using h2)]
theorem srtT_map {f : Str × τ → Str × σ} (hf : ∀ p, (f p).1 = p.1) : ∀ l : List (Str × τ), srtT (l.map f) = (srtT l).map f := by
  have ins : ∀ (p : Str × τ) (l : List (Str × τ)), insT (f p) (l.map f) = (insT p l).map f := fun p l => by
    induction l with
    | nil => rfl
    | cons q l ih =>
      unfold insT
      rw [List.map_cons]
      show (if ltS (f p).1 (f q).1 = true then f p :: f q :: l.map f else f q :: insT (f p) (l.map f)) = _
      rw [hf, hf]
      split
      · rfl
      · rw [ih]; rfl
  intro l
  induction l with
  | nil => rfl
  | cons p l ih =>
    show insT (f p) (srtT (l.map f)) = (insT p (srtT l)).map f
    rw [ih, ins]
theorem txk_map {g : τ → U} : ∀ ks : List (Str × τ), txkU (ks.map (kvE g)) = some (ks.map fun p => (p.1, g p.2))
  | [] => rfl
  | p :: ks => by
    show (match txkU (ks.map (kvE g)) with | some r => some ((p.1, g p.2) :: r) | none => none) = _
    rw [txk_map ks]; rfl
/-- sorted(d.items()) -/
theorem sItK_eq {g : τ → U} {ks : List (Str × τ)} (h : ks ≠ []) : uSItK (ks.map (kvE g)) = .ret (.lst ((srtT ks).map fun p => .tup [.str p.1, g p.2])) := by
  unfold uSItK
  rw [if_pos (by cases ks with | nil => exact absurd rfl h | cons _ _ => rfl)]
  simp only [txk_map]
  rw [srtT_map (f := fun p : Str × τ => (p.1, g p.2)) (fun _ => rfl), List.map_map]
  rfl
/-- sorted, tuples with texts in front -/
theorem sorted_eq {g : τ → List U} {ks : List (Str × τ)} (nd : (ks.map (·.1)).Nodup) : uSorted [.lst (ks.map fun p => .tup (.str p.1 :: g p.2))] = .ret (.lst ((srtT ks).map fun p => .tup (.str p.1 :: g p.2))) := by
  have tx : ∀ l : List (Str × τ), txsU (l.map fun p => U.tup (.str p.1 :: g p.2)) = some (l.map fun p => (p.1, U.tup (.str p.1 :: g p.2))) := fun l => by
    induction l with
    | nil => rfl
    | cons p l ih =>
      show (match txU (U.tup (.str p.1 :: g p.2)), txsU (l.map fun p => U.tup (.str p.1 :: g p.2)) with | some s, some l => some ((s, U.tup (.str p.1 :: g p.2)) :: l) | _, _ => none) = _
      rw [ih]; rfl
  unfold uSorted
  simp only [tx, Option.bind_some]
  have n2 : ((ks.map fun p => (p.1, U.tup (.str p.1 :: g p.2))).map (·.1)).Nodup := by
    rw [List.map_map]; exact nd
  unfold srtU
  rw [if_pos n2, srtT_map (f := fun p : Str × τ => (p.1, U.tup (.str p.1 :: g p.2))) (fun _ => rfl), List.map_map]
  rfl
theorem kv_eq {g : τ → List U} {ks : List (Str × τ)} (nd : (ks.map (·.1)).Nodup) (h0 : ks ≠ []) (hl : ks.length < sizeLine) (hg : ∀ p ∈ ks, g p.2 ≠ [] ∧ (g p.2).length + 1 ≤ sizeLine) :
    uKV (ks.map (kvE fun x => .tup (g x))) = some (ks.map fun p => .tup (.str p.1 :: g p.2)) := by
  unfold uKV
  rw [if_pos ⟨by cases ks with | nil => exact absurd rfl h0 | cons _ _ => rfl, by simpa using hl⟩]
  have go : ∀ l : List (Str × τ), (∀ p ∈ l, p ∈ ks) → uKVL (ks.map (kvE fun x => .tup (g x))) (l.map (kvE fun x => .tup (g x))) = some (l.map fun p => .tup (.str p.1 :: g p.2)) := fun l hl => by
    induction l with
    | nil => rfl
    | cons p l ih =>
      rw [List.map_cons]
      unfold uKVL
      rw [ih fun q hq => hl q (List.mem_cons_of_mem _ hq)]
      have hp := hl p List.mem_cons_self
      have e : uKVi (ks.map (kvE fun x => .tup (g x))) (.str p.1) = some (.tup (.str p.1 :: g p.2)) := by
        unfold uKVi
        rw [getK_find, find_key nd hp]
        have h2 := hg p hp
        simp only [Option.map_some]
        rw [if_pos ⟨rfl, by cases e : g p.2 with | nil => exact absurd e h2.1 | cons _ _ => rfl, h2.2⟩]
      show (match uKVi _ (.str p.1), some _ with | some y, some ys => some (y :: ys) | _, _ => none) = _
      rw [e]
      rfl
  exact go ks fun _ h => h
end

/-! ### lore -/
structure Lore where
  ws : List (Str × List Nat)
  vs : List (Str × List Nat × Str)
abbrev wU (p : Str × List Nat) : U := .tup [.str p.1, ordU p.2]
abbrev vU (p : Str × List Nat × Str) : U := .tup [.str p.1, ordU p.2.1, .str p.2.2]
def Lore.u (L : Lore) : U := .tup [.tup (L.ws.map wU), .tup (L.vs.map vU)]
abbrev lastC (f : Str) : Option Nat := f.cps.toList.getLast?
def WordN (f : Str) : Prop := FullOk f ∧ lastC f ∈ [some 119, some 110, some 115, some 120, some 108]
def VerbN (f : Str) : Prop := FullOk f ∧ lastC f ∈ [some 118, some 111, some 122]
theorem wv_ne {a b : Str} (ha : WordN a) (hb : VerbN b) : a ≠ b := fun e => by
  subst e
  have h1 := ha.2
  have h2 := hb.2
  generalize lastC a = c at h1 h2
  simp only [List.mem_cons, List.not_mem_nil, or_false] at h1 h2
  rcases h1 with rfl | rfl | rfl | rfl | rfl <;> simp at h2
abbrev deepS : Str := Str.ofString "deep"
abbrev wideS : Str := Str.ofString "wide"
structure LoreOk (L : Lore) : Prop where
  wn : (L.ws.map (·.1)).Nodup
  vn : (L.vs.map (·.1)).Nodup
  wf : ∀ p ∈ L.ws, WordN p.1 ∧ OrdOk p.2
  vf : ∀ p ∈ L.vs, VerbN p.1 ∧ OrdOk p.2.1 ∧ (p.2.2 = deepS ∨ p.2.2 = wideS)
  nil : ∃ p ∈ L.ws, p.2 = []
  wl : L.ws.length ≤ 8
  vl : L.vs ≠ [] ∧ L.vs.length ≤ 3
def LoreV (F : List U → W U) : Prop := (F [.hnd]).Ok (fun u => ∃ L : Lore, u = L.u ∧ LoreOk L) NoX
theorem dot_name {line own : Str} (h1 : NameOk line) (h2 : NameOk own) : FullOk (line ++ Str.ofString "." ++ own) ∧ lastC (line ++ Str.ofString "." ++ own) = lastC own := by
  have e : (line ++ Str.ofString "." ++ own).cps.toList = line.cps.toList ++ 46 :: own.cps.toList := by
    rw [app_cps, app_cps, dot_cps]; simp
  refine ⟨⟨_, _, e, h1, h2⟩, ?_⟩
  unfold lastC
  rw [e]
  obtain ⟨c, l, ec⟩ : ∃ c l, own.cps.toList = c :: l := by
    cases q : own.cps.toList with
    | nil => exact absurd q h2.1
    | cons c l => exact ⟨c, l, rfl⟩
  rw [List.getLast?_append, List.getLast?_cons]
  rw [ec]
  simp [List.getLast?_cons]
theorem draw_name {hO : OfV (vc (Str.ofString "_law_of"))} {lines owns : List Str} {f : U → W β} (h1 : ∀ s ∈ lines, NameOk s) (n1 : lines ≠ []) (l1 : lines.length ≤ 1000) (h2 : ∀ s ∈ owns, NameOk s) (n2 : owns ≠ []) (l2 : owns.length ≤ 1000)
    (q : ∀ line ∈ lines, ∀ own ∈ owns, (f (.str (line ++ Str.ofString "." ++ own))).Ok Q X) :
    ((vc (Str.ofString "_law_of") ([.hnd, .lst (lines.map U.str)] : List U)).bind fun t9 => (uAdd t9 (.str (Str.ofString "."))).bind fun t10 => (vc (Str.ofString "_law_of") ([.hnd, .lst (owns.map U.str)] : List U)).bind fun t11 => (uAdd t10 t11).bind f).Ok Q X := by
  rw [hO.lst _ (by simpa using n1) (by rw [List.length_map]; omega), ok_of]
  intro x hx
  obtain ⟨line, hl, rfl⟩ := List.mem_map.mp hx
  have k1 := (h1 line hl).len
  have l3 : (Str.ofString ".").length = 1 := by decide +kernel
  rw [uAdd_ss (by rw [sizeLine_val]; omega), bind_ret, hO.lst _ (by simpa using n2) (by rw [List.length_map]; omega), ok_of]
  intro y hy
  obtain ⟨own, ho, rfl⟩ := List.mem_map.mp hy
  have k2 := (h2 own ho).len
  rw [uAdd_ss (by rw [str_app_len, sizeLine_val]; omega), bind_ret]
  exact q line hl own ho

abbrev lineN : List Str := [Str.ofString "a", Str.ofString "b", Str.ofString "lines", Str.ofString "abcdefgh"]
abbrev wOwn : List Str := [Str.ofString "w", Str.ofString "n", Str.ofString "cons", Str.ofString "x", Str.ofString "wwwwwwww"]
abbrev vOwn : List Str := [Str.ofString "v", Str.ofString "do", Str.ofString "zzzzzzzz"]
theorem line_sl {i : Nat} (h : i < 4) : uSl (.lst (lineN.map U.str)) none (some (1 + (i : Int))) = .ret (.lst ((lineN.take (i + 1)).map U.str)) := by
  rw [uSl_lst]
  match i, h with
  | 0, _ => rfl
  | 1, _ => rfl
  | 2, _ => rfl
  | 3, _ => rfl
theorem line_ok : ∀ s ∈ lineN, NameOk s := fun s h => nameB_ok (List.all_eq_true.mp (show lineN.all nameB = true by decide +kernel) s h)
theorem wOwn_ok : ∀ s ∈ wOwn, NameOk s := fun s h => nameB_ok (List.all_eq_true.mp (show wOwn.all nameB = true by decide +kernel) s h)
theorem vOwn_ok : ∀ s ∈ vOwn, NameOk s := fun s h => nameB_ok (List.all_eq_true.mp (show vOwn.all nameB = true by decide +kernel) s h)
theorem wOwn_last : ∀ s ∈ wOwn, lastC s ∈ [some 119, some 110, some 115, some 120, some 108] := fun s h => by
  have := List.all_eq_true.mp (show (wOwn.all fun s => [some 119, some 110, some 115, some 120, some 108].contains (lastC s)) = true by decide +kernel) s h
  simpa using this
theorem vOwn_last : ∀ s ∈ vOwn, lastC s ∈ [some 118, some 111, some 122] := fun s h => by
  have := List.all_eq_true.mp (show (vOwn.all fun s => [some 118, some 111, some 122].contains (lastC s)) = true by decide +kernel) s h
  simpa using this
theorem nil_word : WordN (Str.ofString "b.nil") := by
  have e : Str.ofString "b.nil" = Str.ofString "b" ++ Str.ofString "." ++ Str.ofString "nil" := by decide +kernel
  have n1 : NameOk (Str.ofString "b") := nameB_ok (by decide +kernel)
  have n2 : NameOk (Str.ofString "nil") := nameB_ok (by decide +kernel)
  obtain ⟨a, b⟩ := dot_name n1 n2
  rw [← e] at a b
  refine ⟨a, ?_⟩
  rw [b]
  have := (show ([some 119, some 110, some 115, some 120, some 108].contains (lastC (Str.ofString "nil"))) = true by decide +kernel)
  simpa using this
abbrev gV (x : List Nat × Str) : List U := [ordU x.1, .str x.2]
theorem lore_V (hT : TakeV (vc (Str.ofString "_law_take"))) (hO : OfV (vc (Str.ofString "_law_of"))) (hD : OrdV (vc (Str.ofString "_law_drawn_order"))) : LoreV (v_law_drawn_lore_1 vc) := by
  unfold LoreV v_law_drawn_lore_1
  dsimp only
  have tk : ∀ m : Nat, 0 < m → m < 1000 → vc (Str.ofString "_law_take") ([.hnd, .int (m : Int)] : List U) = wTk m := fun m h0 h1 => hT m h0 (by omega)
  have t4 : vc (Str.ofString "_law_take") ([.hnd, .int 4] : List U) = wTk 4 := tk 4 (by omega) (by omega)
  have t6 : vc (Str.ofString "_law_take") ([.hnd, .int 6] : List U) = wTk 6 := tk 6 (by omega) (by omega)
  have t3 : vc (Str.ofString "_law_take") ([.hnd, .int 3] : List U) = wTk 3 := tk 3 (by omega) (by omega)
  rw [t4, ok_tk]
  intro i hi
  rw [uAdd_ii, bind_ret, uIntO_int, bind_ret]
  have ls := line_sl hi
  show ((uSl (.lst (lineN.map U.str)) none (some (1 + (i : Int)))).bind _).Ok _ _
  rw [ls, bind_ret]
  have hline : ∀ s ∈ lineN.take (i + 1), NameOk s := fun s h => line_ok s (List.mem_of_mem_take h)
  have nline : lineN.take (i + 1) ≠ [] := by simp
  have lline : (lineN.take (i + 1)).length ≤ 1000 := by rw [List.length_take]; simp; omega
  generalize lineN.take (i + 1) = lines at hline nline lline
  rw [t6, ok_tk]
  intro j hj
  have c1 : uAdd (.int 2) (.int (j : Int)) = .ret (.int ((2 + j : Nat) : Int)) := by rw [uAdd_ii]; congr 2
  rw [c1, bind_ret, uRng1_nat (by omega), bind_ret]
  refine wFor_inv (e := numU) (fun ts s => ∃ ks : List (Str × List Nat), s = ks.map (kvE ordU) ∧ (ks.map (·.1)).Nodup ∧ (∀ p ∈ ks, WordN p.1 ∧ OrdOk p.2) ∧ ks.length + ts.length ≤ 7) (fun s hs => ?_) (fun t ts s hs nx hn => ?_) (List.range (2 + j)) [] ⟨[], rfl, by simp, by simp, by simp; omega⟩
  rotate_left
  · obtain ⟨ks, rfl, nd, hk, hl⟩ := hs
    rw [List.length_cons] at hl
    refine draw_name (hO := hO) (owns := wOwn) hline nline lline wOwn_ok (by simp) (by simp) fun line h1 own h2 => ?_
    refine W.Ok.bnd hD fun u ⟨o, e, ho⟩ => ?_
    subst e
    obtain ⟨d1, d2⟩ := dot_name (hline _ h1) (wOwn_ok _ h2)
    generalize line ++ Str.ofString "." ++ own = f at d1 d2
    rw [setK_put (by rw [sizeLine_val]; omega), bind_ret]
    refine hn _ ⟨_, rfl, putS_nd nd, fun p hp => ?_, ?_⟩
    · rcases putS_mem p hp with h | rfl
      · exact hk p h
      · exact ⟨⟨d1, by rw [d2]; exact wOwn_last _ h2⟩, ho⟩
    · have := putS_len ks f o
      omega
  · obtain ⟨ks0, rfl, nd0, hk0, hl0⟩ := hs
    rw [List.length_nil] at hl0
    show ((uSetK (ks0.map (kvE ordU)) (.str (Str.ofString "b.nil")) (ordU [])).bind _).Ok _ _
    rw [setK_put (by rw [sizeLine_val]; omega), bind_ret]
    have kl : (putS ks0 (Str.ofString "b.nil") []).length ≤ 8 := by have := putS_len ks0 (Str.ofString "b.nil") []; omega
    have kn : ((putS ks0 (Str.ofString "b.nil") []).map (·.1)).Nodup := putS_nd nd0
    have km : ∀ p ∈ putS ks0 (Str.ofString "b.nil") [], WordN p.1 ∧ OrdOk p.2 := fun p hp => by
      rcases putS_mem p hp with h | rfl
      · exact hk0 p h
      · exact ⟨nil_word, by simp [OrdOk]⟩
    have kz : ∃ p ∈ putS ks0 (Str.ofString "b.nil") [], p.2 = [] := ⟨_, putS_has, rfl⟩
    generalize putS ks0 (Str.ofString "b.nil") [] = ks at kl kn km kz
    rw [t3, ok_tk]
    intro k hk
    have c2 : uAdd (.int 1) (.int (k : Int)) = .ret (.int ((1 + k : Nat) : Int)) := by rw [uAdd_ii]; congr 2
    rw [c2, bind_ret, uRng1_nat (by omega), bind_ret]
    refine wFor_inv (e := numU) (fun ts s => ∃ vs : List (Str × List Nat × Str), s = vs.map (kvE fun x => .tup (gV x)) ∧ (vs.map (·.1)).Nodup ∧ (∀ p ∈ vs, VerbN p.1 ∧ OrdOk p.2.1 ∧ (p.2.2 = deepS ∨ p.2.2 = wideS)) ∧ vs.length + ts.length ≤ 3 ∧ (vs = [] → ts ≠ [])) (fun s hs => ?_) (fun t ts s hs nx hn => ?_) (List.range (1 + k)) [] ⟨[], rfl, by simp, by simp, by simp; omega, fun _ z => by have := congrArg List.length z; simp at this⟩
    · obtain ⟨vs, rfl, nv, hv, hlv, hne⟩ := hs
      have v0 : vs ≠ [] := fun z => hne z rfl
      have k0 : ks ≠ [] := fun z => by obtain ⟨p, hp, _⟩ := kz; rw [z] at hp; cases hp
      rw [List.length_nil] at hlv
      rw [sItK_eq k0, bind_ret, uTuple_lst, bind_ret]
      rw [kv_eq nv v0 (by rw [sizeLine_val]; omega) fun p _ => ⟨by simp, by simp [sizeLine_val]⟩]
      show ((uSorted _).bind _).Ok _ _
      rw [sorted_eq nv, bind_ret, uTuple_lst, bind_ret]
      have pk := srtT_perm ks
      have pv := srtT_perm vs
      refine ⟨⟨srtT ks, srtT vs⟩, rfl, ⟨((pk.map _).nodup_iff).mpr kn, ((pv.map _).nodup_iff).mpr nv, fun p hp => km p (pk.mem_iff.mp hp), fun p hp => hv p (pv.mem_iff.mp hp), ?_, by show (srtT ks).length ≤ 8; rw [pk.length_eq]; exact kl, ?_, ?_⟩⟩
      · obtain ⟨p, hp, e⟩ := kz
        exact ⟨p, pk.mem_iff.mpr hp, e⟩
      · intro z
        have := pv.length_eq
        have z' : srtT vs = [] := z
        rw [z'] at this
        exact v0 (List.eq_nil_of_length_eq_zero this.symm)
      · show (srtT vs).length ≤ 3
        rw [pv.length_eq]; omega
    · obtain ⟨vs, rfl, nv, hv, hlv, hne⟩ := hs
      rw [List.length_cons] at hlv
      refine draw_name (hO := hO) (owns := vOwn) hline nline lline vOwn_ok (by simp) (by simp) fun line h1 own h2 => ?_
      refine W.Ok.bnd hD fun u ⟨o, e, ho⟩ => ?_
      subst e
      obtain ⟨d1, d2⟩ := dot_name (hline _ h1) (vOwn_ok _ h2)
      generalize line ++ Str.ofString "." ++ own = f at d1 d2
      rw [hO.lst _ (by simp) (by simp), ok_of]
      intro x hx
      obtain ⟨way, rfl, hw⟩ : ∃ way, x = .str way ∧ (way = deepS ∨ way = wideS) := by
        simp only [List.mem_cons, List.not_mem_nil, or_false] at hx
        rcases hx with rfl | rfl
        · exact ⟨_, rfl, .inl rfl⟩
        · exact ⟨_, rfl, .inr rfl⟩
      show ((uSetK (vs.map (kvE fun x => .tup (gV x))) (.str f) ((fun x : List Nat × Str => U.tup (gV x)) (o, way))).bind _).Ok _ _
      rw [setK_put (by rw [sizeLine_val]; omega), bind_ret]
      refine hn _ ⟨_, rfl, putS_nd nv, fun p hp => ?_, ?_, fun z => ?_⟩
      · rcases putS_mem p hp with h | rfl
        · exact hv p h
        · exact ⟨⟨d1, by rw [d2]; exact vOwn_last _ h2⟩, ho, hw⟩
      · have := putS_len vs f (o, way)
        omega
      · have := putS_has (ks := vs) (n := f) (x := (o, way))
        rw [z] at this
        cases this

/-! ### a head -/
def Lore.wl (L : Lore) : List (Str × Nat) := L.ws.map fun p => (p.1, p.2.length)
theorem LoreOk.ws {L : Lore} (h : LoreOk L) : WsOk L.wl := by
  refine ⟨?_, fun p hp => ?_, ?_⟩
  · obtain ⟨p, hp, e⟩ := h.nil
    exact ⟨_, List.mem_map.mpr ⟨p, hp, rfl⟩, by rw [e]; rfl⟩
  · obtain ⟨q, hq, rfl⟩ := List.mem_map.mp hp
    exact (h.wf q hq).2.2
  · have := h.wl
    unfold Lore.wl
    rw [List.length_map]
    omega
structure HeadOk (L : Lore) (hs : List Str) (f : Str) (cs : List Tree) : Prop where
  verb : ∃ q ∈ L.vs, q.1 = f ∧ cs.length = q.2.1.length
  parts : InL L.wl hs cs
  dep : depL cs ≤ 3
def HeadV (F : List U → W U) : Prop := ∀ (L : Lore) (hs : List Str), LoreOk L → (∀ s ∈ hs, NameOk s) → hs.length ≤ 1000 → (F [.hnd, L.u, .lst (hs.map U.str)]).Ok (fun u => ∃ f cs, u = (Tree.node f cs).u ∧ HeadOk L hs f cs) NoX
theorem wl_comp {ws : List (Str × List Nat)} : wLc (ws.map wU) (fun x3 => (uT2 x3).bind fun p4 => (uLen ([p4.2] : List U)).bind fun t5 => .ret (some (.tup ([p4.1, t5] : List U)))) = .ret ((ws.map fun p => (p.1, p.2.length)).map wordU) := by
  rw [List.map_map]
  refine wLc_mapE fun p hp => ?_
  simp only [wU, uT2_tup, bind_ret, uLen_tup, List.length_map]
  rfl
theorem head_V (hT : TakeV (vc (Str.ofString "_law_take"))) (hO : OfV (vc (Str.ofString "_law_of"))) (hR : ∀ d, d ≤ 2 → TreeV (vc (Str.ofString "_law_tree")) d) : HeadV (v_law_drawn_head_1 vc) := by
  intro L hs hL hn hl
  unfold v_law_drawn_head_1
  dsimp only
  have v0 := hL.vl
  have i1 : uIx L.u (.int 1) = .ret (.tup (L.vs.map vU)) := by unfold Lore.u; rw [uIx_ti, atI_1]; rfl
  have i0 : uIx L.u (.int 0) = .ret (.tup (L.ws.map wU)) := by unfold Lore.u; rw [uIx_ti, atI_0]; rfl
  rw [i1, bind_ret, uList_tup, bind_ret, hO.lst _ (by simpa using v0.1) (by rw [List.length_map]; omega), ok_of]
  intro x hx
  obtain ⟨q, hq, rfl⟩ := List.mem_map.mp hx
  obtain ⟨vn, vo, vw⟩ := hL.vf q hq
  have l3 := vo.2
  simp only [vU, uT3_tup, bind_ret, i0, uIter_tup]
  rw [wl_comp, bind_ret]
  refine W.Ok.bnd (wLc_ok (P := fun y => ∃ t : Tree, y = t.u ∧ t.In L.wl hs ∧ t.dep ≤ 3) (fun x hx => ?_) fun ys hl hy => (⟨hl, hy⟩ : ys.length = _ ∧ ∀ y ∈ ys, ∃ t : Tree, y = t.u ∧ t.In L.wl hs ∧ t.dep ≤ 3)) fun ys ⟨hl, hy⟩ => ?_
  · have t3 : vc (Str.ofString "_law_take") ([.hnd, .int 3] : List U) = wTk 3 := hT 3 (by omega) (by omega)
    rw [t3, ok_tk]
    intro d hd
    refine W.Ok.bnd (hR d (by omega) L.wl hs hL.ws hn (by assumption)) fun u ⟨t, h1, h2, h3⟩ => ⟨_, rfl, t, h1, h2, by omega⟩
  · rw [List.length_map] at hl
    obtain ⟨cs, rfl, h12⟩ := unmap hy
    rw [List.length_map] at hl
    rw [uTuple_lst, bind_ret, uAdd_tt (by rw [sizeLine_val]; simp; omega), bind_ret]
    refine ⟨q.1, cs, by rw [u_node]; rfl, ⟨q, hq, rfl, hl⟩, InL_iff.mpr fun t ht => (h12 t ht).1, depL_le.mpr fun t ht => (h12 t ht).2⟩
end V

namespace P
open PySem L2 G V
/-! orders_of -/
def b_orders_of_1_1 (call : CallF) : ME :=
  (mBin opIx (mVar 1) (mC (.int 0)))

def b_orders_of_1_2 (call : CallF) : ME :=
  (mBin opIx (mVar 1) (mC (.int 1)))

def b_orders_of_1 (call : CallF) : G.SS :=
  (sRet (mDc (iAny (mVar 0)) (.nm 1) tTrue (b_orders_of_1_1 call) (b_orders_of_1_2 call) [1]))

def v_orders_of_1 (vc : CallV) : List U → W U := fun us => match us with
  | [a1] => (uIter a1).bind fun xs6 => (wDc xs6 (fun x1 => (uIx x1 (.int 0)).bind fun t3 => (uIx x1 (.int 1)).bind fun t4 => .ret (some (t3, t4))) []).bind fun ys5 => .ret (.dct ys5)
  | _ => .fail
theorem sb_orders_of_1 {C : Nat} {call : CallF} {vc : CallV} (hcall : CallS C call vc) : ∃ c, c ≤ CF ∧ ∀ (base : Nat) (a1 : U), ∃ wm : (Unit → W U) → (Unit → W U) → (Unit → W U) → W U, V.SS base C c (b_orders_of_1 call) [some (.v a1), none] [none, none] (fun _ => [none, none]) (fun _ => [none, none]) wm ∧ v_orders_of_1 vc [a1] = wm (fun _ => .ret .non) (fun _ => .fail) fun _ => .fail :=
  ⟨_, by decide +kernel, fun base a1 => ⟨_, (ss_ret (.no (.no .nil)) (se_sd' (sd_map (υ1 := [some (.v a1), none]) (si_any (se_var 0 rfl)) (.eq (.no .nil)) rfl (fun x1 => stg_nm (en := fun _ => [some (.v a1), some (.v x1)]) 1 rfl) (fun x1 p2 => (se_bin uIx_ok (se_var 1 rfl) (se_int 0))) fun x1 p2 => (se_bin uIx_ok (se_var 1 rfl) (se_int 1))))), rfl⟩⟩
theorem s_orders_of_1 {C : Nat} {call : CallF} {vc : CallV} (hC : 1 ≤ C) (hcall : CallS C call vc) : FnS (CF * C) (runF 2 (b_orders_of_1 call)) (v_orders_of_1 vc) := let ⟨c, hc, h⟩ := sb_orders_of_1 hcall; fnS_of 2 1 c hc (fun base us hl => match us, hl with | [a1], _ => h base a1) fun us Q X h => by unfold v_orders_of_1 at h; split at h <;> first | rfl | exact h.elim
end P

/-! S7: trees of any names and holes; one of some things; the orders of lore. -/
namespace V
open PySem G P
section
variable {vc : CallV} {β : Type} {Q : β → Prop} {X : UX → Prop}
mutual
/-- a tree of full names and of holes -/
def Tree.Fine : Tree → Prop
  | .hole s => NameOk s
  | .node f cs => FullOk f ∧ FineL cs
def FineL : List Tree → Prop
  | [] => True
  | t :: ts => t.Fine ∧ FineL ts
end
theorem FineL_iff : ∀ {ts : List Tree}, FineL ts ↔ ∀ t ∈ ts, t.Fine
  | [] => by simp [FineL]
  | t :: ts => by simp [FineL, FineL_iff (ts := ts)]
mutual
theorem in_fine : ∀ (ws : List (Str × Nat)) (hs : List Str) (t : Tree), (∀ p ∈ ws, FullOk p.1) → (∀ s ∈ hs, NameOk s) → t.In ws hs → t.Fine
  | ws, hs, .hole s, hw, hh, hi => hh s (by simpa [Tree.In] using hi)
  | ws, hs, .node f cs, hw, hh, hi => by
    simp only [Tree.In] at hi
    exact ⟨hw _ hi.1, inL_fine ws hs cs hw hh hi.2⟩
theorem inL_fine : ∀ (ws : List (Str × Nat)) (hs : List Str) (ts : List Tree), (∀ p ∈ ws, FullOk p.1) → (∀ s ∈ hs, NameOk s) → InL ws hs ts → FineL ts
  | _, _, [], _, _, _ => trivial
  | ws, hs, t :: ts, hw, hh, hi => by
    simp only [InL] at hi
    exact ⟨in_fine ws hs t hw hh hi.1, inL_fine ws hs ts hw hh hi.2⟩
end
mutual
theorem fine_sm : ∀ (t : Tree), t.Fine → TreeSm t
  | .hole s, n => by
    have := NameOk.len n
    exact ⟨fun j => by simp only [u_hole, U.ok]; exact NameOk.low n, by simp only [u_hole, U.wt, Tree.sz]; omega, by simp [u_hole, U.dp], by simp only [u_hole, U.cl]; exact name_clean n, by simp [u_hole, U.nb]⟩
  | .node f cs, hi => by
    obtain ⟨n, hc⟩ : FullOk f ∧ FineL cs := hi
    have : f.length ≤ 17 := n.len
    obtain ⟨h1, h2, h3, h4, h5⟩ := fineL_sm cs hc
    refine ⟨fun j => ?_, ?_, ?_, ?_, ?_⟩
    · simp only [u_node, U.ok, oks, Bool.and_eq_true]; exact ⟨n.low, h1 j⟩
    · simp only [u_node, U.wt, wts, Tree.sz]; omega
    · simp only [u_node, U.dp, dps, Tree.dep]; omega
    · simp only [u_node, U.cl, cls, Bool.and_eq_true]; exact ⟨full_clean n, h4⟩
    · simp only [u_node, U.nb, nbs, Bool.and_eq_true]; exact ⟨trivial, h5⟩
theorem fineL_sm : ∀ (ts : List Tree), FineL ts → (∀ j, oks (ts.map Tree.u) j = true) ∧ wts (ts.map Tree.u) ≤ 21 * szL ts ∧ dps (ts.map Tree.u) ≤ depL ts ∧ cls (ts.map Tree.u) = true ∧ nbs (ts.map Tree.u) = true
  | [], _ => ⟨fun j => by simp [oks], by simp [wts, szL], by simp [dps, depL], by simp [cls], by simp [nbs]⟩
  | t :: ts, hi => by
    obtain ⟨a1, a2, a3, a4, a5⟩ := fine_sm t hi.1
    obtain ⟨h1, h2, h3, h4, h5⟩ := fineL_sm ts hi.2
    have : 1 ≤ t.sz := by cases t <;> simp [Tree.sz]
    refine ⟨fun j => by simp only [List.map_cons, oks, a1 j, h1 j, Bool.and_self], by simp only [List.map_cons, wts, szL]; omega, by simp only [List.map_cons, dps, depL]; omega, by simp only [List.map_cons, cls, a4, h4, Bool.and_self], by simp only [List.map_cons, nbs, a5, h5, Bool.and_self]⟩
end
/-! ### one of some things -/
theorem pys_any (p : PyData → Bool) : ∀ xs : List U, (pys xs).any p = xs.any fun z => p z.py
  | [] => rfl
  | x :: xs => by rw [pys, List.any_cons, List.any_cons, pys_any p xs]
theorem shaped_of {u : U} {j : Nat} (h : u.ok j = true) (hd : u.dp ≤ 64) : SeqAt.shaped u.py = true := by
  have b := (ok_py u j h).2
  unfold SeqAt.shaped
  rw [b.lay, Bool.true_and]
  have := b.dp
  simp only [decide_eq_true_eq]
  omega
theorem uIn_data {neg : Bool} {x : U} {ys : List U} (hx : x.ok 8 = true) (hy : oks ys 7 = true) (dx : x.dp ≤ 60) (dy : dps ys ≤ 60) : uInN neg x (.lst ys) = .ret (.bl ((ys.any fun z => z.eqv x) != neg)) := by
  have hl : (U.lst ys).ok 8 = true := by simp only [U.ok]; exact hy
  have e1 := (ok_py x 8 hx).1
  have e2 := (ok_py (.lst ys) 8 hl).1
  have s1 := shaped_of hx (by omega)
  have s2 := shaped_of hl (by simp only [U.dp]; omega)
  have hp : (U.lst ys).py = .list (pys ys) := by simp [U.py]
  have : uIn x (.lst ys) = some (ys.any fun z => z.eqv x) := by
    unfold uIn
    simp only [uPy, e1, e2, hp]
    rw [hp] at s2
    rw [s1, s2, Bool.and_self, if_pos rfl, pys_any]
    rfl
  unfold uInN
  rw [this]
  rfl
/-- a name with a number, among such -/
theorem wordU_inj {p q : Str × Nat} (h : wordU p = wordU q) : p = q := by
  obtain ⟨a, b⟩ := p
  obtain ⟨c, d⟩ := q
  unfold wordU at h
  simp only [U.tup.injEq, List.cons.injEq, U.str.injEq, U.int.injEq] at h
  obtain ⟨h1, h2, _⟩ := h
  have h2 : (b : Int) = (d : Int) := h2
  rw [h1, Int.ofNat.inj h2]
theorem wordU_nb (p : Str × Nat) : (wordU p).nb = true := by simp [wordU, U.nb, nbs]
theorem any_word {l : List (Str × Nat)} {p : Str × Nat} : ((l.map wordU).any fun z => z.eqv (wordU p)) = decide (p ∈ l) := by
  rw [Bool.eq_iff_iff, List.any_eq_true, decide_eq_true_eq]
  constructor
  · rintro ⟨z, hz, e⟩
    obtain ⟨q, hq, rfl⟩ := List.mem_map.mp hz
    have := (eqv_iff (wordU_nb q) (wordU_nb p)).mp e
    rw [← wordU_inj this]
    exact hq
  · intro h
    exact ⟨_, List.mem_map_of_mem h, eqv_self (wordU_nb p)⟩
theorem word_data {p : Str × Nat} (h : FullOk p.1) (hn : p.2 < 1000000000000) {j : Nat} : (wordU p).ok j = true ∧ (wordU p).dp ≤ 1 := by
  refine ⟨?_, by simp [wordU, U.dp, dps]⟩
  simp only [wordU, U.ok, oks, Bool.and_eq_true, decide_eq_true_eq, and_true]
  refine ⟨h.low, ?_⟩
  show ((p.2 : Nat) : Int).natAbs < _
  omega
theorem uIn_words {neg : Bool} {p : Str × Nat} {l : List (Str × Nat)} (h : FullOk p.1) (hn : p.2 < 1000000000000) (hl : ∀ q ∈ l, FullOk q.1 ∧ q.2 < 1000000000000) : uInN neg (wordU p) (.lst (l.map wordU)) = .ret (.bl (decide (p ∈ l) != neg)) := by
  rw [uIn_data (word_data h hn).1 (oks_iff.mpr fun x hx => by
    obtain ⟨q, hq, rfl⟩ := List.mem_map.mp hx
    exact (word_data (hl q hq).1 (hl q hq).2).1) (by have := (word_data h hn (j := 0)).2; omega) (Nat.le_trans (dps_le (n := 1) fun x hx => by
    obtain ⟨q, hq, rfl⟩ := List.mem_map.mp hx
    exact (word_data (hl q hq).1 (hl q hq).2 (j := 0)).2) (by omega)), any_word]

/-! ### the orders of lore -/
theorem putK_put {τ : Type} {g : τ → U} {ks : List (Str × τ)} {n : Str} {x : τ} (h : ks.length < sizeLine) : uPutK (ks.map (kvE g)) (.str n) (g x) = (putS ks n x).map (kvE g) := by
  have := setK_put (g := g) (x := x) (n := n) h
  unfold uSetK at this
  rw [if_pos ⟨kind_str, by simpa using h⟩] at this
  exact W.ret.inj this
theorem wDc_keys {τ ρ : Type} {g : τ → U} {b : U → W (Option (U × U))} {e : ρ → U} {h : ρ → Str × τ} : ∀ {l : List ρ} {ks : List (Str × τ)}, (∀ p ∈ l, b (e p) = .ret (some (.str (h p).1, g (h p).2))) → ((ks ++ l.map h).map (·.1)).Nodup → (ks ++ l.map h).length ≤ 1000 →
    wDc (l.map e) b (ks.map (kvE g)) = .ret ((ks ++ l.map h).map (kvE g))
  | [], ks, _, _, _ => by simp [wDc]
  | p :: l, ks, hb, nd, hl => by
    rw [List.map_cons]
    unfold wDc
    rw [hb p (by simp)]
    simp only [tot_ret, bind_ret]
    rw [if_pos (show (keyU (U.str (h p).1)).isSome = true from rfl)]
    rw [List.map_cons] at nd hl
    have hl2 : ks.length + (l.length + 1) ≤ 1000 := by simpa using hl
    rw [putK_put (by rw [sizeLine_val]; omega)]
    have e1 : putS ks (h p).1 (h p).2 = ks ++ [h p] := by
      unfold putS
      rw [if_neg]
      intro hm
      rw [List.map_append, List.nodup_append] at nd
      exact nd.2.2 _ hm _ (by simp) rfl
    have e2 : ks ++ h p :: l.map h = (ks ++ [h p]) ++ l.map h := by simp
    rw [e1, List.map_cons, e2]
    rw [e2] at nd hl
    exact wDc_keys (fun q hq => hb q (List.mem_cons_of_mem _ hq)) nd hl
structure OrdersV (F : List U → W U) : Prop where
  ws : ∀ ws : List (Str × List Nat), (ws.map (·.1)).Nodup → ws.length ≤ 1000 → F [.tup (ws.map wU)] = .ret (.dct (ws.map (kvE ordU)))
  vs : ∀ vs : List (Str × List Nat × Str), (vs.map (·.1)).Nodup → vs.length ≤ 1000 → F [.tup (vs.map vU)] = .ret (.dct ((vs.map fun p => (p.1, p.2.1)).map (kvE ordU)))
theorem orders_V : OrdersV (v_orders_of_1 vc) := by
  refine ⟨fun ws nd hl => ?_, fun vs nd hl => ?_⟩
  · unfold v_orders_of_1
    simp only [uIter_tup, bind_ret]
    have := wDc_keys (g := ordU) (b := fun x1 => (uIx x1 (.int 0)).bind fun t3 => (uIx x1 (.int 1)).bind fun t4 => .ret (some (t3, t4))) (e := wU) (h := fun p : Str × List Nat => p) (l := ws) (ks := []) (fun p _ => by
      simp only [wU, uIx_ti, atI_0, atI_1, ofO_some, bind_ret]) (by simpa using nd) (by simpa using hl)
    simp only [List.map_nil, List.nil_append, List.map_id'] at this
    rw [this, bind_ret]
  · unfold v_orders_of_1
    simp only [uIter_tup, bind_ret]
    have := wDc_keys (g := ordU) (b := fun x1 => (uIx x1 (.int 0)).bind fun t3 => (uIx x1 (.int 1)).bind fun t4 => .ret (some (t3, t4))) (e := vU) (h := fun p : Str × List Nat × Str => (p.1, p.2.1)) (l := vs) (ks := []) (fun p _ => by
      simp only [vU, uIx_ti, atI_0, atI_1, ofO_some, bind_ret]) (by simp only [List.nil_append, List.map_map]; exact nd) (by simpa using hl)
    simp only [List.map_nil, List.nil_append] at this
    rw [this, bind_ret]
end
end V

namespace P
open PySem L2 G V
/-! undue_within -/
def b_undue_within_1_1 (call : CallF) : G.SS :=
  (sIf (mTru (mCB bIsi (aCons (mVar 3) (aCons (mC (.ty .tup)) aNil)))) (sSeq (sIf (tOo (mBl (mBin (opIn true) (mBin opIx (mVar 3) (mC (.int 0))) (mVar 0))) (mBl (mBin (opEq true) (mCB bLen (aCons (mBin opIx (mVar 0) (mBin opIx (mVar 3) (mC (.int 0)))) aNil)) (mBin opSub (mCB bLen (aCons (mVar 3) aNil)) (mC (.int 1)))))) (sExpr (mBM .lst mAppend (mVar 2) (aCons (mBin opIx (mVar 3) (mC (.int 0))) aNil))) sNx)
  (sExpr (mBM .lst mExtend (mVar 2) (aCons (mCallP 2 (call (Str.ofString "undue_within")) (aCons (mVar 0) (aCons (mSl (mVar 3) (oSome (mC (.int 1))) oNone) aNil))) aNil)))) sNx)

def b_undue_within_1 (call : CallF) : G.SS :=
  (sSeq (sAsg (mLst aNil) (gNm 2))
  (sSeq (sFor (iAny (mVar 1)) (gNm 3) (b_undue_within_1_1 call))
  (sRet (mVar 2))))

def v_undue_within_1 (vc : CallV) : List U → W U := fun us => match us with
  | [a1, a2] => (uIter a2).bind fun xs30 => wFor (S := List U) xs30 ([] : List U) (fun x5 s2 nx3 bk4 => (uIsi ([x5, (.ty .tup)] : List U)).bind fun t26 => (uTru t26).bind fun t27 => if t27 = true then wSeq (S := List U) (fun k12 => ((uIx x5 (.int 0)).bind fun t15 => ((uInN true) t15 a1).bind fun t16 => (uBl t16).bind fun t17 => if t17 = true then .ret true else (uIx x5 (.int 0)).bind fun t18 => (uIx a1 t18).bind fun t19 => (uLen ([t19] : List U)).bind fun t20 => (uLen ([x5] : List U)).bind fun t21 => (uSub t21 (.int 1)).bind fun t22 => ((uEq true) t20 t22).bind fun t23 => (uBl t23).bind fun t24 => .ret t24).bind fun t25 => if t25 = true then (uIx x5 (.int 0)).bind fun t14 => if List.length s2 < sizeLine then k12 (s2 ++ [t14]) else .fail else k12 s2) fun z6 => (uIntO (.int 1)).bind fun t9 => (uSl x5 (some t9) none).bind fun t10 => (vc (Str.ofString "undue_within") ([a1, t10] : List U)).bind fun t11 => (uSeq t11).bind fun ys8 => if List.length z6 + ys8.length ≤ sizeLine then nx3 (z6 ++ ys8) else .fail else nx3 s2) (fun s29 => .ret (.lst s29))
  | _ => .fail
theorem sb_undue_within_1 {C : Nat} {call : CallF} {vc : CallV} (hcall : CallS C call vc) : ∃ c, c ≤ CF ∧ ∀ (base : Nat) (a1 a2 : U), ∃ wm : (Unit → W U) → (Unit → W U) → (Unit → W U) → W U, V.SS base C c (b_undue_within_1 call) [some (.v a1), some (.v a2), none, none] [none, none, none, none] (fun _ => [none, none, none, none]) (fun _ => [none, none, none, none]) wm ∧ v_undue_within_1 vc [a1, a2] = wm (fun _ => .ret .non) (fun _ => .fail) fun _ => .fail :=
  ⟨_, by decide +kernel, fun base a1 a2 => ⟨_, (ss_seq (ss_asg (em := O.lst) (en := fun l1 => [some (.v a1), some (.v a2), some (.lst l1), none]) 2 (.no (.no (.no (.no .nil)))) (sl_lst sa_nil (by decide)) (fun _ => rfl)) fun l1 => (ss_seq (ss_for (emb := fun s2 : List U => [some (.v a1), some (.v a2), some (.lst s2), none]) (en1 := fun (x5 : U) (s2 : List U) (u28 : Unit) => [some (.v a1), some (.v a2), some (.lst s2), some (.v x5)]) l1 (.no (.no (.no (.no .nil)))) (si_any (se_var 1 rfl)) (.eq (.eq (.eq (.no .nil)))) (fun x5 s2 => (stG_nm (en := fun _ => [some (.v a1), some (.v a2), some (.lst s2), some (.v x5)]) 3 rfl)) fun x5 s2 u28 => (ss_if (.no (.no (.no (.no .nil)))) (st_tru (se_cb uIsi_ok (sa_cons (se_var 3 rfl) (sa_cons (se_ty .tup) sa_nil)))) (ss_seq (ss_if (en := fun z6 : List U => [some (.v a1), some (.v a2), some (.lst z6), some (.v x5)]) (.no (.no (.no (.no .nil)))) (st_oo (st_bl (se_bin uInN_ok (se_bin uIx_ok (se_var 3 rfl) (se_int 0)) (se_var 0 rfl))) (st_bl (se_bin uEq_ok (se_cb uLen_ok (sa_cons (se_bin uIx_ok (se_var 0 rfl) (se_bin uIx_ok (se_var 3 rfl) (se_int 0))) sa_nil)) (se_bin uSub_ok (se_cb uLen_ok (sa_cons (se_var 3 rfl) sa_nil)) (se_int 1))))) (ss_weak (fun l13 => l13) (ss_append (en := fun l13 => [some (.v a1), some (.v a2), some (.lst l13), some (.v x5)]) 2 rfl (.no (.no (.no (.no .nil)))) (se_bin uIx_ok (se_var 3 rfl) (se_int 0)) (fun _ => rfl)) fun l13 => (.eq (.eq (.eq (.eq .nil))))) (ss_nx s2 (.eq (.eq (.eq (.eq .nil)))))) fun z6 => (ss_weak (fun l7 => l7) (ss_extend (en := fun l7 => [some (.v a1), some (.v a2), some (.lst l7), some (.v x5)]) 2 rfl (.no (.no (.no (.no .nil)))) (se_callP (hcall (Str.ofString "undue_within")) (sa_cons (se_var 0 rfl) (sa_cons (se_sl (se_var 3 rfl) (sp_some (se_int 1)) sp_none) sa_nil))) (fun _ => rfl)) fun l7 => (.eq (.eq (.eq (.no .nil)))))) (ss_nx s2 (.eq (.eq (.eq (.no .nil))))))) fun s29 => (ss_frz (υ1 := [some (.v a1), some (.v a2), some (.v (.lst s29)), none]) 2 rfl rfl (ss_ret (.no (.no (.no (.no .nil)))) (se_var 2 rfl)) rfl))), rfl⟩⟩
theorem s_undue_within_1 {C : Nat} {call : CallF} {vc : CallV} (hC : 1 ≤ C) (hcall : CallS C call vc) : FnS (CF * C) (runF 4 (b_undue_within_1 call)) (v_undue_within_1 vc) := let ⟨c, hc, h⟩ := sb_undue_within_1 hcall; fnS_of 4 2 c hc (fun base us hl => match us, hl with | [a1, a2], _ => h base a1 a2) fun us Q X h => by unfold v_undue_within_1 at h; split at h <;> first | rfl | exact h.elim
end P

namespace P
open PySem L2 G V
/-! undue -/
def b_undue_1 (call : CallF) : G.SS :=
  (sSeq (sAsg (mCallP 1 (call (Str.ofString "orders_of")) (aCons (mBin opIx (mVar 0) (mC (.int 1))) aNil)) (gNm 2))
  (sSeq (sAsg (mIf (tOo (mBl (mBin (opIn true) (mBin opIx (mVar 1) (mC (.int 0))) (mVar 2))) (mBl (mBin (opEq true) (mCB bLen (aCons (mBin opIx (mVar 2) (mBin opIx (mVar 1) (mC (.int 0)))) aNil)) (mBin opSub (mCB bLen (aCons (mVar 1) aNil)) (mC (.int 1)))))) (mLst (aCons (mBin opIx (mVar 1) (mC (.int 0))) aNil)) (mLst aNil)) (gNm 3))
  (sRet (mBin opAdd (mVar 3) (mCallP 2 (call (Str.ofString "undue_within")) (aCons (mCallP 1 (call (Str.ofString "orders_of")) (aCons (mBin opIx (mVar 0) (mC (.int 0))) aNil)) (aCons (mSl (mVar 1) (oSome (mC (.int 1))) oNone) aNil)))))))

def v_undue_1 (vc : CallV) : List U → W U := fun us => match us with
  | [a1, a2] => (uIx a1 (.int 1)).bind fun t22 => (vc (Str.ofString "orders_of") ([t22] : List U)).bind fun t23 => (((uIx a2 (.int 0)).bind fun t9 => ((uInN true) t9 t23).bind fun t10 => (uBl t10).bind fun t11 => if t11 = true then .ret true else (uIx a2 (.int 0)).bind fun t12 => (uIx t23 t12).bind fun t13 => (uLen ([t13] : List U)).bind fun t14 => (uLen ([a2] : List U)).bind fun t15 => (uSub t15 (.int 1)).bind fun t16 => ((uEq true) t14 t16).bind fun t17 => (uBl t17).bind fun t18 => .ret t18).bind fun t19 => if t19 = true then (uIx a2 (.int 0)).bind fun t20 => .ret (.lst ([t20] : List U)) else .ret (.lst ([] : List U))).bind fun t21 => (uIx a1 (.int 0)).bind fun t3 => (vc (Str.ofString "orders_of") ([t3] : List U)).bind fun t4 => (uIntO (.int 1)).bind fun t5 => (uSl a2 (some t5) none).bind fun t6 => (vc (Str.ofString "undue_within") ([t4, t6] : List U)).bind fun t7 => (uAdd t21 t7).bind fun t8 => .ret t8
  | _ => .fail
theorem sb_undue_1 {C : Nat} {call : CallF} {vc : CallV} (hcall : CallS C call vc) : ∃ c, c ≤ CF ∧ ∀ (base : Nat) (a1 a2 : U), ∃ wm : (Unit → W U) → (Unit → W U) → (Unit → W U) → W U, V.SS base C c (b_undue_1 call) [some (.v a1), some (.v a2), none, none] [none, none, none, none] (fun _ => [none, none, none, none]) (fun _ => [none, none, none, none]) wm ∧ v_undue_1 vc [a1, a2] = wm (fun _ => .ret .non) (fun _ => .fail) fun _ => .fail :=
  ⟨_, by decide +kernel, fun base a1 a2 => ⟨_, (ss_seq (ss_asg (em := O.v) (en := fun t1 => [some (.v a1), some (.v a2), some (.v t1), none]) 2 (.no (.no (.no (.no .nil)))) (se_callP (hcall (Str.ofString "orders_of")) (sa_cons (se_bin uIx_ok (se_var 0 rfl) (se_int 1)) sa_nil)) (fun _ => rfl)) fun t1 => (ss_seq (ss_asg (em := O.v) (en := fun t2 => [some (.v a1), some (.v a2), some (.v t1), some (.v t2)]) 3 (.no (.no (.no (.no .nil)))) (se_if (st_oo (st_bl (se_bin uInN_ok (se_bin uIx_ok (se_var 1 rfl) (se_int 0)) (se_var 2 rfl))) (st_bl (se_bin uEq_ok (se_cb uLen_ok (sa_cons (se_bin uIx_ok (se_var 2 rfl) (se_bin uIx_ok (se_var 1 rfl) (se_int 0))) sa_nil)) (se_bin uSub_ok (se_cb uLen_ok (sa_cons (se_var 1 rfl) sa_nil)) (se_int 1))))) (se_lst (sa_cons (se_bin uIx_ok (se_var 1 rfl) (se_int 0)) sa_nil) (by decide)) (se_lst sa_nil (by decide))) (fun _ => rfl)) fun t2 => (ss_ret (.no (.no (.no (.no .nil)))) (se_bin uAdd_ok (se_var 3 rfl) (se_callP (hcall (Str.ofString "undue_within")) (sa_cons (se_callP (hcall (Str.ofString "orders_of")) (sa_cons (se_bin uIx_ok (se_var 0 rfl) (se_int 0)) sa_nil)) (sa_cons (se_sl (se_var 1 rfl) (sp_some (se_int 1)) sp_none) sa_nil))))))), rfl⟩⟩
theorem s_undue_1 {C : Nat} {call : CallF} {vc : CallV} (hC : 1 ≤ C) (hcall : CallS C call vc) : FnS (CF * C) (runF 4 (b_undue_1 call)) (v_undue_1 vc) := let ⟨c, hc, h⟩ := sb_undue_1 hcall; fnS_of 4 2 c hc (fun base us hl => match us, hl with | [a1, a2], _ => h base a1 a2) fun us Q X h => by unfold v_undue_1 at h; split at h <;> first | rfl | exact h.elim
end P

namespace P
open PySem L2 G V
/-! is_of -/
def b_is_of_1 (call : CallF) : G.SS :=
  (sRet (mBin (opEq false) (mCallP 2 (call (Str.ofString "undue")) (aCons (mVar 0) (aCons (mVar 1) aNil))) (mLst aNil)))

def v_is_of_1 (vc : CallV) : List U → W U := fun us => match us with
  | [a1, a2] => (vc (Str.ofString "undue") ([a1, a2] : List U)).bind fun t1 => ((uEq false) t1 (.lst ([] : List U))).bind fun t2 => .ret t2
  | _ => .fail
theorem sb_is_of_1 {C : Nat} {call : CallF} {vc : CallV} (hcall : CallS C call vc) : ∃ c, c ≤ CF ∧ ∀ (base : Nat) (a1 a2 : U), ∃ wm : (Unit → W U) → (Unit → W U) → (Unit → W U) → W U, V.SS base C c (b_is_of_1 call) [some (.v a1), some (.v a2)] [none, none] (fun _ => [none, none]) (fun _ => [none, none]) wm ∧ v_is_of_1 vc [a1, a2] = wm (fun _ => .ret .non) (fun _ => .fail) fun _ => .fail :=
  ⟨_, by decide +kernel, fun base a1 a2 => ⟨_, (ss_ret (.no (.no .nil)) (se_bin uEq_ok (se_callP (hcall (Str.ofString "undue")) (sa_cons (se_var 0 rfl) (sa_cons (se_var 1 rfl) sa_nil))) (se_lst sa_nil (by decide)))), rfl⟩⟩
theorem s_is_of_1 {C : Nat} {call : CallF} {vc : CallV} (hC : 1 ≤ C) (hcall : CallS C call vc) : FnS (CF * C) (runF 2 (b_is_of_1 call)) (v_is_of_1 vc) := let ⟨c, hc, h⟩ := sb_is_of_1 hcall; fnS_of 2 2 c hc (fun base us hl => match us, hl with | [a1, a2], _ => h base a1 a2) fun us Q X h => by unfold v_is_of_1 at h; split at h <;> first | rfl | exact h.elim
end P

namespace P
open PySem L2 G V
/-! _law_due -/
def b_law_due_2_1 (call : CallF) : G.SS :=
  (sSeq (sAsg (mBM .lst mPop (mVar 3) aNil) (gNm 4))
  (sIf (tNt (mTru (mCB bIsi (aCons (mVar 4) (aCons (mC (.ty .str)) aNil))))) (sSeq (sIf (mBl (mBin (opIn true) (mTup (aCons (mBin opIx (mVar 4) (mC (.int 0))) (aCons (mBin opSub (mCB bLen (aCons (mVar 4) aNil)) (mC (.int 1))) aNil))) (mVar 2))) (sRet (mC (.bl false))) sNx)
  (sExpr (mBM .lst mExtend (mVar 3) (aCons (mSl (mVar 4) (oSome (mC (.int 1))) oNone) aNil)))) sNx))

def b_law_due_2_2 (call : CallF) : ME :=
  (mTup (aCons (mVar 5) (aCons (mCB bLen (aCons (mVar 6) aNil)) aNil)))

def b_law_due_2_3 (call : CallF) : ME :=
  (mTup (aCons (mVar 5) (aCons (mCB bLen (aCons (mVar 6) aNil)) aNil)))

def b_law_due_2 (call : CallF) : G.SS :=
  (sSeq (sAsg (mLc (iAny (mBin opIx (mVar 0) (mC (.int 0)))) (.tp [5, 6]) tTrue (b_law_due_2_3 call) [5, 6]) (gNm 2))
  (sSeq (sIf (mBl (mBin (opIn true) (mTup (aCons (mBin opIx (mVar 1) (mC (.int 0))) (aCons (mBin opSub (mCB bLen (aCons (mVar 1) aNil)) (mC (.int 1))) aNil))) (mLc (iAny (mBin opIx (mVar 0) (mC (.int 1)))) (.tp [5, 6, 7]) tTrue (b_law_due_2_2 call) [5, 6, 7]))) (sRet (mC (.bl false))) sNx)
  (sSeq (sAsg (mCB bList (aCons (mSl (mVar 1) (oSome (mC (.int 1))) oNone) aNil)) (gNm 3))
  (sSeq (sWhile (mBl (mBin (opEq true) (mVar 3) (mLst aNil))) (b_law_due_2_1 call))
  (sRet (mC (.bl true)))))))

def v_law_due_2 (vc : CallV) : List U → W U := fun us => match us with
  | [a1, a2] => (uIx a1 (.int 0)).bind fun t40 => (uIter t40).bind fun xs41 => (wLc xs41 fun x1 => (uT2 x1).bind fun p2 => (uLen ([p2.2] : List U)).bind fun t3 => .ret (some (.tup ([p2.1, t3] : List U)))).bind fun ys39 => (uIx a2 (.int 0)).bind fun t31 => (uLen ([a2] : List U)).bind fun t32 => (uSub t32 (.int 1)).bind fun t33 => (uIx a1 (.int 1)).bind fun t35 => (uIter t35).bind fun xs36 => (wLc xs36 fun x5 => (uT3 x5).bind fun p6 => (uLen ([p6.2.1] : List U)).bind fun t7 => .ret (some (.tup ([p6.1, t7] : List U)))).bind fun ys34 => ((uInN true) (.tup ([t31, t33] : List U)) (.lst ys34)).bind fun t37 => (uBl t37).bind fun t38 => if t38 = true then .ret (.bl false) else (uIntO (.int 1)).bind fun t29 => (uSl a2 (some t29) none).bind fun t30 => (uListL ([t30] : List U)).bind fun t28 => wWhile (S := List U) LF t28 (fun s9 nx10 bk11 => (((uEq true) (.lst s9) (.lst ([] : List U))).bind fun t26 => (uBl t26).bind fun t27 => .ret t27).tot.bind fun t25 => if t25 = true then (uPop s9).bind fun q12 => (uIsi ([q12.1, (.ty .str)] : List U)).bind fun t22 => (uTru t22).bind fun t23 => if (!t23) = true then (uIx q12.1 (.int 0)).bind fun t17 => (uLen ([q12.1] : List U)).bind fun t18 => (uSub t18 (.int 1)).bind fun t19 => ((uInN true) (.tup ([t17, t19] : List U)) (.lst ys39)).bind fun t20 => (uBl t20).bind fun t21 => if t21 = true then .ret (.bl false) else (uIntO (.int 1)).bind fun t15 => (uSl q12.1 (some t15) none).bind fun t16 => (uSeq t16).bind fun ys14 => if List.length q12.2 + ys14.length ≤ sizeLine then nx10 (q12.2 ++ ys14) else .fail else nx10 q12.2 else bk11 s9) (fun s24 => .ret (.bl true))
  | _ => .fail
theorem sb_law_due_2 {C : Nat} {call : CallF} {vc : CallV} (hcall : CallS C call vc) : ∃ c, c ≤ CF ∧ ∀ (base : Nat) (a1 a2 : U), ∃ wm : (Unit → W U) → (Unit → W U) → (Unit → W U) → W U, V.SS base C c (b_law_due_2 call) [some (.v a1), some (.v a2), none, none, none, none, none, none] [none, none, none, none, none, none, none, none] (fun _ => [none, none, none, none, none, none, none, none]) (fun _ => [none, none, none, none, none, none, none, none]) wm ∧ v_law_due_2 vc [a1, a2] = wm (fun _ => .ret .non) (fun _ => .fail) fun _ => .fail :=
  ⟨_, by decide +kernel, fun base a1 a2 => ⟨_, (ss_seq (ss_asg (em := O.v) (en := fun t4 => [some (.v a1), some (.v a2), some (.v t4), none, none, none, none, none]) 2 (.no (.no (.no (.no (.no (.no (.no (.no .nil)))))))) (se_sl' (sl_map (υ1 := [some (.v a1), some (.v a2), none, none, none, none, none, none]) (si_any (se_bin uIx_ok (se_var 0 rfl) (se_int 0))) (.eq (.eq (.no (.no (.no (.no (.no (.no .nil)))))))) rfl (fun x1 => stg_tp2 (en := fun p2 => [some (.v a1), some (.v a2), none, none, none, some (.v p2.1), some (.v p2.2), none]) 5 6 (fun _ => rfl)) fun x1 p2 => (se_tup (sa_cons (se_var 5 rfl) (sa_cons (se_cb uLen_ok (sa_cons (se_var 6 rfl) sa_nil)) sa_nil)) (by decide)))) (fun _ => rfl)) fun t4 => (ss_seq (ss_if (en := fun _ : Unit => [some (.v a1), some (.v a2), some (.v t4), none, none, none, none, none]) (.no (.no (.no (.no (.no (.no (.no (.no .nil)))))))) (st_bl (se_bin uInN_ok (se_tup (sa_cons (se_bin uIx_ok (se_var 1 rfl) (se_int 0)) (sa_cons (se_bin uSub_ok (se_cb uLen_ok (sa_cons (se_var 1 rfl) sa_nil)) (se_int 1)) sa_nil)) (by decide)) (se_sl' (sl_map (υ1 := [some (.v a1), some (.v a2), some (.v t4), none, none, none, none, none]) (si_any (se_bin uIx_ok (se_var 0 rfl) (se_int 1))) (.eq (.eq (.eq (.no (.no (.no (.no (.no .nil)))))))) rfl (fun x5 => stg_tp3 (en := fun p6 => [some (.v a1), some (.v a2), some (.v t4), none, none, some (.v p6.1), some (.v p6.2.1), some (.v p6.2.2)]) 5 6 7 (fun _ => rfl)) fun x5 p6 => (se_tup (sa_cons (se_var 5 rfl) (sa_cons (se_cb uLen_ok (sa_cons (se_var 6 rfl) sa_nil)) sa_nil)) (by decide)))))) (ss_ret (.no (.no (.no (.no (.no (.no (.no (.no .nil)))))))) (se_bl false)) (ss_nx () (.eq (.eq (.eq (.no (.no (.no (.no (.no .nil)))))))))) fun _ => (ss_seq (ss_asg (em := O.lst) (en := fun l8 => [some (.v a1), some (.v a2), some (.v t4), some (.lst l8), none, none, none, none]) 3 (.no (.no (.no (.no (.no (.no (.no (.no .nil)))))))) (sl_list (sa_cons (se_sl (se_var 1 rfl) (sp_some (se_int 1)) sp_none) sa_nil)) (fun _ => rfl)) fun l8 => (ss_seq (ss_while (emb := fun s9 : List U => [some (.v a1), some (.v a2), some (.v t4), some (.lst s9), none, none, none, none]) l8 (fun _ => (.no (.no (.no (.no (.no (.no (.no (.no .nil))))))))) (.eq (.eq (.eq (.eq (.no (.no (.no (.no .nil)))))))) (fun s9 => (st_bor (υ1 := [some (.v a1), some (.v a2), some (.v t4), some (.v (.lst s9)), none, none, none, none]) (.eq (.eq (.eq (.vl (.no (.no (.no (.no .nil)))))))) (st_bl (se_bin uEq_ok (se_var 3 rfl) (se_lst sa_nil (by decide)))))) fun s9 => (ss_seq (ss_asgX' (en := fun q12 : U × List U => [some (.v a1), some (.v a2), some (.v t4), some (.lst q12.2), some (.v q12.1), none, none, none]) (.no (.no (.no (.no (.no (.no (.no (.no .nil)))))))) (sx_pop 3 rfl) (fun q12 => (stG_nm (en := fun _ => [some (.v a1), some (.v a2), some (.v t4), some (.lst q12.2), some (.v q12.1), none, none, none]) 4 rfl)) (fun _ _ => rfl)) fun q12 => (ss_if (.no (.no (.no (.no (.no (.no (.no (.no .nil)))))))) (st_nt (st_tru (se_cb uIsi_ok (sa_cons (se_var 4 rfl) (sa_cons (se_ty .str) sa_nil))))) (ss_seq (ss_if (en := fun _ : Unit => [some (.v a1), some (.v a2), some (.v t4), some (.lst q12.2), some (.v q12.1), none, none, none]) (.no (.no (.no (.no (.no (.no (.no (.no .nil)))))))) (st_bl (se_bin uInN_ok (se_tup (sa_cons (se_bin uIx_ok (se_var 4 rfl) (se_int 0)) (sa_cons (se_bin uSub_ok (se_cb uLen_ok (sa_cons (se_var 4 rfl) sa_nil)) (se_int 1)) sa_nil)) (by decide)) (se_var 2 rfl))) (ss_ret (.no (.no (.no (.no (.no (.no (.no (.no .nil)))))))) (se_bl false)) (ss_nx () (.eq (.eq (.eq (.eq (.eq (.no (.no (.no .nil)))))))))) fun _ => (ss_weak (fun l13 => l13) (ss_extend (en := fun l13 => [some (.v a1), some (.v a2), some (.v t4), some (.lst l13), some (.v q12.1), none, none, none]) 3 rfl (.no (.no (.no (.no (.no (.no (.no (.no .nil)))))))) (se_sl (se_var 4 rfl) (sp_some (se_int 1)) sp_none) (fun _ => rfl)) fun l13 => (.eq (.eq (.eq (.eq (.no (.no (.no (.no .nil)))))))))) (ss_nx q12.2 (.eq (.eq (.eq (.eq (.no (.no (.no (.no .nil)))))))))))) fun s24 => (ss_ret (.no (.no (.no (.no (.no (.no (.no (.no .nil)))))))) (se_bl true)))))), rfl⟩⟩
theorem s_law_due_2 {C : Nat} {call : CallF} {vc : CallV} (hC : 1 ≤ C) (hcall : CallS C call vc) : FnS (CF * C) (runF 8 (b_law_due_2 call)) (v_law_due_2 vc) := let ⟨c, hc, h⟩ := sb_law_due_2 hcall; fnS_of 8 2 c hc (fun base us hl => match us, hl with | [a1, a2], _ => h base a1 a2) fun us Q X h => by unfold v_law_due_2 at h; split at h <;> first | rfl | exact h.elim
end P

namespace P
open PySem L2 G V
/-! _law_bent -/
def b_law_bent_1_1 (call : CallF) : ME :=
  (mBin opIx (mVar 6) (mC (.int 0)))

def b_law_bent_1 (call : CallF) : G.SS :=
  (sSeq (sAsg (mBin opAdd (mLc (iAny (mBin opAdd (mBin opIx (mVar 1) (mC (.int 0))) (mBin opIx (mVar 1) (mC (.int 1))))) (.nm 6) tTrue (b_law_bent_1_1 call) [6]) (mLst (aCons (mC (.str (Str.ofString "a.none"))) (aCons (mC (.str (Str.ofString "none.w"))) aNil)))) (gNm 3))
  (sSeq (sIf (mTru (mCB bIsi (aCons (mVar 2) (aCons (mC (.ty .str)) aNil)))) (sRet (mCallP 2 (call (Str.ofString "_law_of")) (aCons (mVar 0) (aCons (mLst (aCons (mC (.str (Str.ofString "z"))) (aCons (mTup (aCons (mCallP 2 (call (Str.ofString "_law_of")) (aCons (mVar 0) (aCons (mVar 3) aNil))) aNil)) (aCons (mTup (aCons (mBin opIx (mBin opIx (mBin opIx (mVar 1) (mC (.int 0))) (mC (.int 0))) (mC (.int 0))) (aCons (mC (.str (Str.ofString "x"))) aNil))) aNil)))) aNil)))) sNx)
  (sSeq (sPar2 4 5 (aCons (mCallP 2 (call (Str.ofString "_law_take")) (aCons (mVar 0) (aCons (mC (.int 6)) aNil))) (aCons (mBin opAdd (mC (.int 1)) (mCallP 2 (call (Str.ofString "_law_take")) (aCons (mVar 0) (aCons (mCB bMax2 (aCons (mC (.int 1)) (aCons (mBin opSub (mCB bLen (aCons (mVar 2) aNil)) (mC (.int 1))) aNil))) aNil)))) aNil)))
  (sSeq (sIf (tOo (mBl (mBin (opEq false) (mVar 4) (mC (.int 0)))) (tAn (mBl (mBin (opEq false) (mCB bLen (aCons (mVar 2) aNil)) (mC (.int 1)))) (mBl (mBin opGt (mVar 4) (mC (.int 2)))))) (sRet (mBin opAdd (mTup (aCons (mCallP 2 (call (Str.ofString "_law_of")) (aCons (mVar 0) (aCons (mVar 3) aNil))) aNil)) (mSl (mVar 2) (oSome (mC (.int 1))) oNone))) sNx)
  (sSeq (sIf (tAn (mBl (mBin (opEq false) (mVar 4) (mC (.int 1)))) (mBl (mBin opLt (mCB bLen (aCons (mVar 2) aNil)) (mC (.int 4))))) (sRet (mIf (mBl (mBin opGt (mCB bLen (aCons (mVar 2) aNil)) (mC (.int 1)))) (mBin opAdd (mVar 2) (mSl (mVar 2) (oSome (mUn opNeg (mC (.int 1)))) oNone)) (mBin opAdd (mVar 2) (mTup (aCons (mC (.str (Str.ofString "x"))) aNil))))) sNx)
  (sSeq (sIf (mBl (mBin opLt (mVar 4) (mC (.int 3)))) (sRet (mBin opAdd (mSl (mVar 2) oNone (oSome (mVar 5))) (mSl (mVar 2) (oSome (mBin opAdd (mVar 5) (mC (.int 1)))) oNone))) sNx)
  (sRet (mBin opAdd (mBin opAdd (mSl (mVar 2) oNone (oSome (mVar 5))) (mTup (aCons (mCallP 3 (call (Str.ofString "_law_bent")) (aCons (mVar 0) (aCons (mVar 1) (aCons (mBin opIx (mVar 2) (mVar 5)) aNil)))) aNil))) (mSl (mVar 2) (oSome (mBin opAdd (mVar 5) (mC (.int 1)))) oNone)))))))))

def v_law_bent_1 (vc : CallV) : List U → W U := fun us => match us with
  | [a1, a2, a3] => (uIx a2 (.int 0)).bind fun t65 => (uIx a2 (.int 1)).bind fun t66 => (uAdd t65 t66).bind fun t67 => (uIter t67).bind fun xs68 => (wLc xs68 fun x1 => (uIx x1 (.int 0)).bind fun t3 => .ret (some t3)).bind fun ys64 => (uAdd (.lst ys64) (.lst ([(.str (Str.ofString "a.none")), (.str (Str.ofString "none.w"))] : List U))).bind fun t69 => (uIsi ([a3, (.ty .str)] : List U)).bind fun t62 => (uTru t62).bind fun t63 => if t63 = true then (vc (Str.ofString "_law_of") ([a1, t69] : List U)).bind fun t57 => (uIx a2 (.int 0)).bind fun t58 => (uIx t58 (.int 0)).bind fun t59 => (uIx t59 (.int 0)).bind fun t60 => (vc (Str.ofString "_law_of") ([a1, (.lst ([(.str (Str.ofString "z")), (.tup ([t57] : List U)), (.tup ([t60, (.str (Str.ofString "x"))] : List U))] : List U))] : List U)).bind fun t61 => .ret t61 else (vc (Str.ofString "_law_take") ([a1, (.int 6)] : List U)).bind fun t51 => (uLen ([a3] : List U)).bind fun t52 => (uSub t52 (.int 1)).bind fun t53 => (uMax2 ([(.int 1), t53] : List U)).bind fun t54 => (vc (Str.ofString "_law_take") ([a1, t54] : List U)).bind fun t55 => (uAdd (.int 1) t55).bind fun t56 => (((uEq false) t51 (.int 0)).bind fun t42 => (uBl t42).bind fun t43 => if t43 = true then .ret true else ((uLen ([a3] : List U)).bind fun t44 => ((uEq false) t44 (.int 1)).bind fun t45 => (uBl t45).bind fun t46 => if t46 = true then (uGt t51 (.int 2)).bind fun t47 => (uBl t47).bind fun t48 => .ret t48 else .ret false).bind fun t49 => .ret t49).bind fun t50 => if t50 = true then (vc (Str.ofString "_law_of") ([a1, t69] : List U)).bind fun t38 => (uIntO (.int 1)).bind fun t39 => (uSl a3 (some t39) none).bind fun t40 => (uAdd (.tup ([t38] : List U)) t40).bind fun t41 => .ret t41 else (((uEq false) t51 (.int 1)).bind fun t32 => (uBl t32).bind fun t33 => if t33 = true then (uLen ([a3] : List U)).bind fun t34 => (uLt t34 (.int 4)).bind fun t35 => (uBl t35).bind fun t36 => .ret t36 else .ret false).bind fun t37 => if t37 = true then ((uLen ([a3] : List U)).bind fun t23 => (uGt t23 (.int 1)).bind fun t24 => (uBl t24).bind fun t25 => if t25 = true then (uNeg (.int 1)).bind fun t26 => (uIntO t26).bind fun t27 => (uSl a3 (some t27) none).bind fun t28 => (uAdd a3 t28).bind fun t29 => .ret t29 else (uAdd a3 (.tup ([(.str (Str.ofString "x"))] : List U))).bind fun t30 => .ret t30).bind fun t31 => .ret t31 else (uLt t51 (.int 3)).bind fun t21 => (uBl t21).bind fun t22 => if t22 = true then (uIntO t56).bind fun t15 => (uSl a3 none (some t15)).bind fun t16 => (uAdd t56 (.int 1)).bind fun t17 => (uIntO t17).bind fun t18 => (uSl a3 (some t18) none).bind fun t19 => (uAdd t16 t19).bind fun t20 => .ret t20 else (uIntO t56).bind fun t6 => (uSl a3 none (some t6)).bind fun t7 => (uIx a3 t56).bind fun t8 => (vc (Str.ofString "_law_bent") ([a1, a2, t8] : List U)).bind fun t9 => (uAdd t7 (.tup ([t9] : List U))).bind fun t10 => (uAdd t56 (.int 1)).bind fun t11 => (uIntO t11).bind fun t12 => (uSl a3 (some t12) none).bind fun t13 => (uAdd t10 t13).bind fun t14 => .ret t14
  | _ => .fail
theorem sb_law_bent_1 {C : Nat} {call : CallF} {vc : CallV} (hcall : CallS C call vc) : ∃ c, c ≤ CF ∧ ∀ (base : Nat) (a1 a2 a3 : U), ∃ wm : (Unit → W U) → (Unit → W U) → (Unit → W U) → W U, V.SS base C c (b_law_bent_1 call) [some (.v a1), some (.v a2), some (.v a3), none, none, none, none] [none, none, none, none, none, none, none] (fun _ => [none, none, none, none, none, none, none]) (fun _ => [none, none, none, none, none, none, none]) wm ∧ v_law_bent_1 vc [a1, a2, a3] = wm (fun _ => .ret .non) (fun _ => .fail) fun _ => .fail :=
  ⟨_, by decide +kernel, fun base a1 a2 a3 => ⟨_, (ss_seq (ss_asg (em := O.v) (en := fun t4 => [some (.v a1), some (.v a2), some (.v a3), some (.v t4), none, none, none]) 3 (.no (.no (.no (.no (.no (.no (.no .nil))))))) (se_bin uAdd_ok (se_sl' (sl_map (υ1 := [some (.v a1), some (.v a2), some (.v a3), none, none, none, none]) (si_any (se_bin uAdd_ok (se_bin uIx_ok (se_var 1 rfl) (se_int 0)) (se_bin uIx_ok (se_var 1 rfl) (se_int 1)))) (.eq (.eq (.eq (.no (.no (.no (.no .nil))))))) rfl (fun x1 => stg_nm (en := fun _ => [some (.v a1), some (.v a2), some (.v a3), none, none, none, some (.v x1)]) 6 rfl) fun x1 p2 => (se_bin uIx_ok (se_var 6 rfl) (se_int 0)))) (se_lst (sa_cons (se_str (Str.ofString "a.none") (by decide +kernel)) (sa_cons (se_str (Str.ofString "none.w") (by decide +kernel)) sa_nil)) (by decide))) (fun _ => rfl)) fun t4 => (ss_seq (ss_if (en := fun _ : Unit => [some (.v a1), some (.v a2), some (.v a3), some (.v t4), none, none, none]) (.no (.no (.no (.no (.no (.no (.no .nil))))))) (st_tru (se_cb uIsi_ok (sa_cons (se_var 2 rfl) (sa_cons (se_ty .str) sa_nil)))) (ss_ret (.no (.no (.no (.no (.no (.no (.no .nil))))))) (se_callP (hcall (Str.ofString "_law_of")) (sa_cons (se_var 0 rfl) (sa_cons (se_lst (sa_cons (se_str (Str.ofString "z") (by decide +kernel)) (sa_cons (se_tup (sa_cons (se_callP (hcall (Str.ofString "_law_of")) (sa_cons (se_var 0 rfl) (sa_cons (se_var 3 rfl) sa_nil))) sa_nil) (by decide)) (sa_cons (se_tup (sa_cons (se_bin uIx_ok (se_bin uIx_ok (se_bin uIx_ok (se_var 1 rfl) (se_int 0)) (se_int 0)) (se_int 0)) (sa_cons (se_str (Str.ofString "x") (by decide +kernel)) sa_nil)) (by decide)) sa_nil))) (by decide)) sa_nil)))) (ss_nx () (.eq (.eq (.eq (.eq (.no (.no (.no .nil))))))))) fun _ => (ss_seq (ss_par2 (en := fun z5 => [some (.v a1), some (.v a2), some (.v a3), some (.v t4), some (.v z5.1), some (.v z5.2), none]) (ea := O.v) (eb2 := O.v) 4 5 (by decide) (.no (.no (.no (.no (.no (.no (.no .nil))))))) (se_callP (hcall (Str.ofString "_law_take")) (sa_cons (se_var 0 rfl) (sa_cons (se_int 6) sa_nil))) (se_bin uAdd_ok (se_int 1) (se_callP (hcall (Str.ofString "_law_take")) (sa_cons (se_var 0 rfl) (sa_cons (se_cb uMax2_ok (sa_cons (se_int 1) (sa_cons (se_bin uSub_ok (se_cb uLen_ok (sa_cons (se_var 2 rfl) sa_nil)) (se_int 1)) sa_nil))) sa_nil)))) (fun _ => rfl)) fun z5 => (ss_seq (ss_if (en := fun _ : Unit => [some (.v a1), some (.v a2), some (.v a3), some (.v t4), some (.v z5.1), some (.v z5.2), none]) (.no (.no (.no (.no (.no (.no (.no .nil))))))) (st_oo (st_bl (se_bin uEq_ok (se_var 4 rfl) (se_int 0))) (st_an (st_bl (se_bin uEq_ok (se_cb uLen_ok (sa_cons (se_var 2 rfl) sa_nil)) (se_int 1))) (st_bl (se_bin uCmp_ok (se_var 4 rfl) (se_int 2))))) (ss_ret (.no (.no (.no (.no (.no (.no (.no .nil))))))) (se_bin uAdd_ok (se_tup (sa_cons (se_callP (hcall (Str.ofString "_law_of")) (sa_cons (se_var 0 rfl) (sa_cons (se_var 3 rfl) sa_nil))) sa_nil) (by decide)) (se_sl (se_var 2 rfl) (sp_some (se_int 1)) sp_none))) (ss_nx () (.eq (.eq (.eq (.eq (.eq (.eq (.no .nil))))))))) fun _ => (ss_seq (ss_if (en := fun _ : Unit => [some (.v a1), some (.v a2), some (.v a3), some (.v t4), some (.v z5.1), some (.v z5.2), none]) (.no (.no (.no (.no (.no (.no (.no .nil))))))) (st_an (st_bl (se_bin uEq_ok (se_var 4 rfl) (se_int 1))) (st_bl (se_bin uCmp_ok (se_cb uLen_ok (sa_cons (se_var 2 rfl) sa_nil)) (se_int 4)))) (ss_ret (.no (.no (.no (.no (.no (.no (.no .nil))))))) (se_if (st_bl (se_bin uCmp_ok (se_cb uLen_ok (sa_cons (se_var 2 rfl) sa_nil)) (se_int 1))) (se_bin uAdd_ok (se_var 2 rfl) (se_sl (se_var 2 rfl) (sp_some (se_un uNeg_ok (se_int 1))) sp_none)) (se_bin uAdd_ok (se_var 2 rfl) (se_tup (sa_cons (se_str (Str.ofString "x") (by decide +kernel)) sa_nil) (by decide))))) (ss_nx () (.eq (.eq (.eq (.eq (.eq (.eq (.no .nil))))))))) fun _ => (ss_seq (ss_if (en := fun _ : Unit => [some (.v a1), some (.v a2), some (.v a3), some (.v t4), some (.v z5.1), some (.v z5.2), none]) (.no (.no (.no (.no (.no (.no (.no .nil))))))) (st_bl (se_bin uCmp_ok (se_var 4 rfl) (se_int 3))) (ss_ret (.no (.no (.no (.no (.no (.no (.no .nil))))))) (se_bin uAdd_ok (se_sl (se_var 2 rfl) sp_none (sp_some (se_var 5 rfl))) (se_sl (se_var 2 rfl) (sp_some (se_bin uAdd_ok (se_var 5 rfl) (se_int 1))) sp_none))) (ss_nx () (.eq (.eq (.eq (.eq (.eq (.eq (.no .nil))))))))) fun _ => (ss_ret (.no (.no (.no (.no (.no (.no (.no .nil))))))) (se_bin uAdd_ok (se_bin uAdd_ok (se_sl (se_var 2 rfl) sp_none (sp_some (se_var 5 rfl))) (se_tup (sa_cons (se_callP (hcall (Str.ofString "_law_bent")) (sa_cons (se_var 0 rfl) (sa_cons (se_var 1 rfl) (sa_cons (se_bin uIx_ok (se_var 2 rfl) (se_var 5 rfl)) sa_nil)))) sa_nil) (by decide))) (se_sl (se_var 2 rfl) (sp_some (se_bin uAdd_ok (se_var 5 rfl) (se_int 1))) sp_none))))))))), rfl⟩⟩
theorem s_law_bent_1 {C : Nat} {call : CallF} {vc : CallV} (hC : 1 ≤ C) (hcall : CallS C call vc) : FnS (CF * C) (runF 7 (b_law_bent_1 call)) (v_law_bent_1 vc) := let ⟨c, hc, h⟩ := sb_law_bent_1 hcall; fnS_of 7 3 c hc (fun base us hl => match us, hl with | [a1, a2, a3], _ => h base a1 a2 a3) fun us Q X h => by unfold v_law_bent_1 at h; split at h <;> first | rfl | exact h.elim
end P

namespace P
open PySem L2 G V
/-! _law_right -/
def b_law_right_3 (call : CallF) : G.SS :=
  (sSeq (sPar2 3 4 (aCons (mCB bRepr (aCons (mTup (aCons (mVar 0) (aCons (mVar 1) aNil))) aNil)) (aCons (mCallP 2 (call (Str.ofString "_law_due")) (aCons (mVar 0) (aCons (mVar 1) aNil))) aNil)))
  (sSeq (sAsg (mLst (aCons (mCallP 2 (call (Str.ofString "is_of")) (aCons (mVar 0) (aCons (mVar 1) aNil))) (aCons (mCall 0 2 [1, 0] (call (Str.ofString "is_of")) aNil (aCons (mVar 1) (aCons (mVar 0) aNil))) aNil))) (gNm 2))
  (sRet (mAn (mBin (opEq false) (mCB bRepr (aCons (mVar 2) aNil)) (mCB bRepr (aCons (mLst (aCons (mVar 4) (aCons (mVar 4) aNil))) aNil))) (mBin (opEq false) (mCB bRepr (aCons (mTup (aCons (mVar 0) (aCons (mVar 1) aNil))) aNil)) (mVar 3))))))

def v_law_right_3 (vc : CallV) : List U → W U := fun us => match us with
  | [a1, a2] => (uRepr ([(.tup ([a1, a2] : List U))] : List U)).bind fun t12 => (vc (Str.ofString "_law_due") ([a1, a2] : List U)).bind fun t13 => (vc (Str.ofString "is_of") ([a1, a2] : List U)).bind fun t10 => (vc (Str.ofString "is_of") (pick [1, 0] (([] : List U) ++ ([a2, a1] : List U)))).bind fun t11 => ((uRepr ([(.lst ([t10, t11] : List U))] : List U)).bind fun t4 => (uRepr ([(.lst ([t13, t13] : List U))] : List U)).bind fun t5 => ((uEq false) t4 t5).bind fun t6 => (uTru t6).bind fun t7 => if t7 = true then (uRepr ([(.tup ([a1, a2] : List U))] : List U)).bind fun t8 => ((uEq false) t8 t12).bind fun t9 => .ret t9 else .ret t6).bind fun t3 => .ret t3
  | _ => .fail
theorem sb_law_right_3 {C : Nat} {call : CallF} {vc : CallV} (hcall : CallS C call vc) : ∃ c, c ≤ CF ∧ ∀ (base : Nat) (a1 a2 : U), ∃ wm : (Unit → W U) → (Unit → W U) → (Unit → W U) → W U, V.SS base C c (b_law_right_3 call) [some (.v a1), some (.v a2), none, none, none] [none, none, none, none, none] (fun _ => [none, none, none, none, none]) (fun _ => [none, none, none, none, none]) wm ∧ v_law_right_3 vc [a1, a2] = wm (fun _ => .ret .non) (fun _ => .fail) fun _ => .fail :=
  ⟨_, by decide +kernel, fun base a1 a2 => ⟨_, (ss_seq (ss_par2 (en := fun z1 => [some (.v a1), some (.v a2), none, some (.v z1.1), some (.v z1.2)]) (ea := O.v) (eb2 := O.v) 3 4 (by decide) (.no (.no (.no (.no (.no .nil))))) (se_cb uRepr_ok (sa_cons (se_tup (sa_cons (se_var 0 rfl) (sa_cons (se_var 1 rfl) sa_nil)) (by decide)) sa_nil)) (se_callP (hcall (Str.ofString "_law_due")) (sa_cons (se_var 0 rfl) (sa_cons (se_var 1 rfl) sa_nil))) (fun _ => rfl)) fun z1 => (ss_seq (ss_asg (em := O.v) (en := fun t2 => [some (.v a1), some (.v a2), some (.v t2), some (.v z1.1), some (.v z1.2)]) 2 (.no (.no (.no (.no (.no .nil))))) (se_lst (sa_cons (se_callP (hcall (Str.ofString "is_of")) (sa_cons (se_var 0 rfl) (sa_cons (se_var 1 rfl) sa_nil))) (sa_cons (se_call rfl (hcall (Str.ofString "is_of")) sa_nil (sa_cons (se_var 1 rfl) (sa_cons (se_var 0 rfl) sa_nil))) sa_nil)) (by decide)) (fun _ => rfl)) fun t2 => (ss_ret (.no (.no (.no (.no (.no .nil))))) (se_mAn (se_bin uEq_ok (se_cb uRepr_ok (sa_cons (se_var 2 rfl) sa_nil)) (se_cb uRepr_ok (sa_cons (se_lst (sa_cons (se_var 4 rfl) (sa_cons (se_var 4 rfl) sa_nil)) (by decide)) sa_nil))) (se_bin uEq_ok (se_cb uRepr_ok (sa_cons (se_tup (sa_cons (se_var 0 rfl) (sa_cons (se_var 1 rfl) sa_nil)) (by decide)) sa_nil)) (se_var 3 rfl)))))), rfl⟩⟩
theorem s_law_right_3 {C : Nat} {call : CallF} {vc : CallV} (hC : 1 ≤ C) (hcall : CallS C call vc) : FnS (CF * C) (runF 5 (b_law_right_3 call)) (v_law_right_3 vc) := let ⟨c, hc, h⟩ := sb_law_right_3 hcall; fnS_of 5 2 c hc (fun base us hl => match us, hl with | [a1, a2], _ => h base a1 a2) fun us Q X h => by unfold v_law_right_3 at h; split at h <;> first | rfl | exact h.elim
end P

namespace P
open PySem L2 G V
/-! law -/
def b_law_2_1 (call : CallF) : G.SS :=
  (sSeq (sAsg (mCallP 3 (call (Str.ofString "_law_bent")) (aCons (mVar 2) (aCons (mVar 3) (aCons (mVar 5) aNil)))) (gNm 7))
  (sIf (tOo (tNt (mTru (mCallP 2 (call (Str.ofString "_law_right")) (aCons (mVar 3) (aCons (mVar 7) aNil))))) (tNt (mTru (mCallP 2 (call (Str.ofString "_law_right")) (aCons (mVar 3) (aCons (mCallP 3 (call (Str.ofString "_law_bent")) (aCons (mVar 2) (aCons (mVar 3) (aCons (mVar 7) aNil)))) aNil)))))) (sRet (mC (.bl false))) sNx))

def b_law_2_2 (call : CallF) : G.SS :=
  (sSeq (sAsg (mCallP 3 (call (Str.ofString "_law_drawn_head")) (aCons (mVar 2) (aCons (mVar 3) (aCons (mBin opIx (mLst (aCons (mLst (aCons (mC (.str (Str.ofString "x"))) (aCons (mC (.str (Str.ofString "y"))) aNil))) (aCons (mLst (aCons (mC (.str (Str.ofString "x"))) aNil)) (aCons (mLst aNil) aNil)))) (mCallP 2 (call (Str.ofString "_law_take")) (aCons (mVar 2) (aCons (mC (.int 3)) aNil)))) aNil)))) (gNm 5))
  (sSeq (sIf (tOo (tNt (mTru (mCallP 2 (call (Str.ofString "_law_right")) (aCons (mVar 3) (aCons (mVar 5) aNil))))) (mBl (mBin (opEq true) (mLst (aCons (mCallP 2 (call (Str.ofString "is_of")) (aCons (mVar 3) (aCons (mVar 5) aNil))) (aCons (mCallP 2 (call (Str.ofString "is_of")) (aCons (mTup (aCons (mTup aNil) (aCons (mTup aNil) aNil))) (aCons (mVar 5) aNil))) aNil))) (mLst (aCons (mC (.bl true)) (aCons (mC (.bl false)) aNil)))))) (sRet (mC (.bl false))) sNx)
  (sFor (iRng1 (aCons (mC (.int 8)) aNil)) (gNm 6) (b_law_2_1 call))))

def b_law_2_3 (call : CallF) : G.SS :=
  (sSeq (sAsg (mCallP 2 (call (Str.ofString "_law_hand")) (aCons (mVar 0) (aCons (mVar 1) aNil))) (gNm 2))
  (sSeq (sAsg (mCallP 1 (call (Str.ofString "_law_drawn_lore")) (aCons (mVar 2) aNil)) (gNm 3))
  (sFor (iRng1 (aCons (mC (.int 3)) aNil)) (gNm 4) (b_law_2_2 call))))

def b_law_2 (call : CallF) : G.SS :=
  (sSeq (sFor (iRng1 (aCons (mCB bMax2 (aCons (mC (.int 1)) (aCons (mCB bMin2 (aCons (mC (.int 3)) (aCons (mCB bLen (aCons (mVar 0) aNil)) aNil))) aNil))) aNil)) (gNm 1) (b_law_2_3 call))
  (sRet (mC (.bl true))))

def v_law_2 (vc : CallV) : List U → W U := fun us => match us with
  | [a1] => (uLen ([a1] : List U)).bind fun t44 => (uMin2 ([(.int 3), t44] : List U)).bind fun t45 => (uMax2 ([(.int 1), t45] : List U)).bind fun t46 => (uRng1 ([t46] : List U)).bind fun xs47 => wFor (S := Unit) xs47 () (fun x4 s1 nx2 bk3 => (vc (Str.ofString "_law_hand") ([a1, x4] : List U)).bind fun t41 => (vc (Str.ofString "_law_drawn_lore") ([t41] : List U)).bind fun t40 => (uRng1 ([(.int 3)] : List U)).bind fun xs39 => wFor (S := Unit) xs39 () (fun x10 s7 nx8 bk9 => (vc (Str.ofString "_law_take") ([t41, (.int 3)] : List U)).bind fun t34 => (uIx (.lst ([(.lst ([(.str (Str.ofString "x")), (.str (Str.ofString "y"))] : List U)), (.lst ([(.str (Str.ofString "x"))] : List U)), (.lst ([] : List U))] : List U)) t34).bind fun t35 => (vc (Str.ofString "_law_drawn_head") ([t41, t40, t35] : List U)).bind fun t36 => ((vc (Str.ofString "_law_right") ([t40, t36] : List U)).bind fun t27 => (uTru t27).bind fun t28 => if (!t28) = true then .ret true else (vc (Str.ofString "is_of") ([t40, t36] : List U)).bind fun t29 => (vc (Str.ofString "is_of") ([(.tup ([(.tup ([] : List U)), (.tup ([] : List U))] : List U)), t36] : List U)).bind fun t30 => ((uEq true) (.lst ([t29, t30] : List U)) (.lst ([(.bl true), (.bl false)] : List U))).bind fun t31 => (uBl t31).bind fun t32 => .ret t32).bind fun t33 => if t33 = true then .ret (.bl false) else (uRng1 ([(.int 8)] : List U)).bind fun xs26 => wFor (S := Unit) xs26 () (fun x15 s12 nx13 bk14 => (vc (Str.ofString "_law_bent") ([t41, t40, t36] : List U)).bind fun t23 => ((vc (Str.ofString "_law_right") ([t40, t23] : List U)).bind fun t17 => (uTru t17).bind fun t18 => if (!t18) = true then .ret true else (vc (Str.ofString "_law_bent") ([t41, t40, t23] : List U)).bind fun t19 => (vc (Str.ofString "_law_right") ([t40, t19] : List U)).bind fun t20 => (uTru t20).bind fun t21 => .ret (!t21)).bind fun t22 => if t22 = true then .ret (.bl false) else nx13 ()) (fun s25 => nx8 ())) (fun s38 => nx2 ())) (fun s43 => .ret (.bl true))
  | _ => .fail
theorem sb_law_2 {C : Nat} {call : CallF} {vc : CallV} (hcall : CallS C call vc) : ∃ c, c ≤ CF ∧ ∀ (base : Nat) (a1 : U), ∃ wm : (Unit → W U) → (Unit → W U) → (Unit → W U) → W U, V.SS base C c (b_law_2 call) [some (.v a1), none, none, none, none, none, none, none] [none, none, none, none, none, none, none, none] (fun _ => [none, none, none, none, none, none, none, none]) (fun _ => [none, none, none, none, none, none, none, none]) wm ∧ v_law_2 vc [a1] = wm (fun _ => .ret .non) (fun _ => .fail) fun _ => .fail :=
  ⟨_, by decide +kernel, fun base a1 => ⟨_, (ss_seq (ss_for (emb := fun s1 : Unit => [some (.v a1), none, none, none, none, none, none, none]) (en1 := fun (x4 : U) (s1 : Unit) (u42 : Unit) => [some (.v a1), some (.v x4), none, none, none, none, none, none]) () (.no (.no (.no (.no (.no (.no (.no (.no .nil)))))))) (si_rng1 (sa_cons (se_cb uMax2_ok (sa_cons (se_int 1) (sa_cons (se_cb uMin2_ok (sa_cons (se_int 3) (sa_cons (se_cb uLen_ok (sa_cons (se_var 0 rfl) sa_nil)) sa_nil))) sa_nil))) sa_nil)) (.eq (.no (.no (.no (.no (.no (.no (.no .nil)))))))) (fun x4 s1 => (stG_nm (en := fun _ => [some (.v a1), some (.v x4), none, none, none, none, none, none]) 1 rfl)) fun x4 s1 u42 => (ss_seq (ss_asg (em := O.v) (en := fun t5 => [some (.v a1), some (.v x4), some (.v t5), none, none, none, none, none]) 2 (.no (.no (.no (.no (.no (.no (.no (.no .nil)))))))) (se_callP (hcall (Str.ofString "_law_hand")) (sa_cons (se_var 0 rfl) (sa_cons (se_var 1 rfl) sa_nil))) (fun _ => rfl)) fun t5 => (ss_seq (ss_asg (em := O.v) (en := fun t6 => [some (.v a1), some (.v x4), some (.v t5), some (.v t6), none, none, none, none]) 3 (.no (.no (.no (.no (.no (.no (.no (.no .nil)))))))) (se_callP (hcall (Str.ofString "_law_drawn_lore")) (sa_cons (se_var 2 rfl) sa_nil)) (fun _ => rfl)) fun t6 => (ss_weak (fun s38 => ()) (ss_for (emb := fun s7 : Unit => [some (.v a1), some (.v x4), some (.v t5), some (.v t6), none, none, none, none]) (en1 := fun (x10 : U) (s7 : Unit) (u37 : Unit) => [some (.v a1), some (.v x4), some (.v t5), some (.v t6), some (.v x10), none, none, none]) () (.no (.no (.no (.no (.no (.no (.no (.no .nil)))))))) (si_rng1 (sa_cons (se_int 3) sa_nil)) (.eq (.eq (.eq (.eq (.no (.no (.no (.no .nil)))))))) (fun x10 s7 => (stG_nm (en := fun _ => [some (.v a1), some (.v x4), some (.v t5), some (.v t6), some (.v x10), none, none, none]) 4 rfl)) fun x10 s7 u37 => (ss_seq (ss_asg (em := O.v) (en := fun t11 => [some (.v a1), some (.v x4), some (.v t5), some (.v t6), some (.v x10), some (.v t11), none, none]) 5 (.no (.no (.no (.no (.no (.no (.no (.no .nil)))))))) (se_callP (hcall (Str.ofString "_law_drawn_head")) (sa_cons (se_var 2 rfl) (sa_cons (se_var 3 rfl) (sa_cons (se_bin uIx_ok (se_lst (sa_cons (se_lst (sa_cons (se_str (Str.ofString "x") (by decide +kernel)) (sa_cons (se_str (Str.ofString "y") (by decide +kernel)) sa_nil)) (by decide)) (sa_cons (se_lst (sa_cons (se_str (Str.ofString "x") (by decide +kernel)) sa_nil) (by decide)) (sa_cons (se_lst sa_nil (by decide)) sa_nil))) (by decide)) (se_callP (hcall (Str.ofString "_law_take")) (sa_cons (se_var 2 rfl) (sa_cons (se_int 3) sa_nil)))) sa_nil)))) (fun _ => rfl)) fun t11 => (ss_seq (ss_if (en := fun _ : Unit => [some (.v a1), some (.v x4), some (.v t5), some (.v t6), some (.v x10), some (.v t11), none, none]) (.no (.no (.no (.no (.no (.no (.no (.no .nil)))))))) (st_oo (st_nt (st_tru (se_callP (hcall (Str.ofString "_law_right")) (sa_cons (se_var 3 rfl) (sa_cons (se_var 5 rfl) sa_nil))))) (st_bl (se_bin uEq_ok (se_lst (sa_cons (se_callP (hcall (Str.ofString "is_of")) (sa_cons (se_var 3 rfl) (sa_cons (se_var 5 rfl) sa_nil))) (sa_cons (se_callP (hcall (Str.ofString "is_of")) (sa_cons (se_tup (sa_cons (se_tup sa_nil (by decide)) (sa_cons (se_tup sa_nil (by decide)) sa_nil)) (by decide)) (sa_cons (se_var 5 rfl) sa_nil))) sa_nil)) (by decide)) (se_lst (sa_cons (se_bl true) (sa_cons (se_bl false) sa_nil)) (by decide))))) (ss_ret (.no (.no (.no (.no (.no (.no (.no (.no .nil)))))))) (se_bl false)) (ss_nx () (.eq (.eq (.eq (.eq (.eq (.eq (.no (.no .nil)))))))))) fun _ => (ss_weak (fun s25 => ()) (ss_for (emb := fun s12 : Unit => [some (.v a1), some (.v x4), some (.v t5), some (.v t6), some (.v x10), some (.v t11), none, none]) (en1 := fun (x15 : U) (s12 : Unit) (u24 : Unit) => [some (.v a1), some (.v x4), some (.v t5), some (.v t6), some (.v x10), some (.v t11), some (.v x15), none]) () (.no (.no (.no (.no (.no (.no (.no (.no .nil)))))))) (si_rng1 (sa_cons (se_int 8) sa_nil)) (.eq (.eq (.eq (.eq (.eq (.eq (.no (.no .nil)))))))) (fun x15 s12 => (stG_nm (en := fun _ => [some (.v a1), some (.v x4), some (.v t5), some (.v t6), some (.v x10), some (.v t11), some (.v x15), none]) 6 rfl)) fun x15 s12 u24 => (ss_seq (ss_asg (em := O.v) (en := fun t16 => [some (.v a1), some (.v x4), some (.v t5), some (.v t6), some (.v x10), some (.v t11), some (.v x15), some (.v t16)]) 7 (.no (.no (.no (.no (.no (.no (.no (.no .nil)))))))) (se_callP (hcall (Str.ofString "_law_bent")) (sa_cons (se_var 2 rfl) (sa_cons (se_var 3 rfl) (sa_cons (se_var 5 rfl) sa_nil)))) (fun _ => rfl)) fun t16 => (ss_if (.no (.no (.no (.no (.no (.no (.no (.no .nil)))))))) (st_oo (st_nt (st_tru (se_callP (hcall (Str.ofString "_law_right")) (sa_cons (se_var 3 rfl) (sa_cons (se_var 7 rfl) sa_nil))))) (st_nt (st_tru (se_callP (hcall (Str.ofString "_law_right")) (sa_cons (se_var 3 rfl) (sa_cons (se_callP (hcall (Str.ofString "_law_bent")) (sa_cons (se_var 2 rfl) (sa_cons (se_var 3 rfl) (sa_cons (se_var 7 rfl) sa_nil)))) sa_nil)))))) (ss_ret (.no (.no (.no (.no (.no (.no (.no (.no .nil)))))))) (se_bl false)) (ss_nx () (.eq (.eq (.eq (.eq (.eq (.eq (.no (.no .nil)))))))))))) fun s25 => (.eq (.eq (.eq (.eq (.no (.no (.no (.no .nil)))))))))))) fun s38 => (.eq (.no (.no (.no (.no (.no (.no (.no .nil)))))))))))) fun s43 => (ss_ret (.no (.no (.no (.no (.no (.no (.no (.no .nil)))))))) (se_bl true))), rfl⟩⟩
theorem s_law_2 {C : Nat} {call : CallF} {vc : CallV} (hC : 1 ≤ C) (hcall : CallS C call vc) : FnS (CF * C) (runF 8 (b_law_2 call)) (v_law_2 vc) := let ⟨c, hc, h⟩ := sb_law_2 hcall; fnS_of 8 1 c hc (fun base us hl => match us, hl with | [a1], _ => h base a1) fun us Q X h => by unfold v_law_2 at h; split at h <;> first | rfl | exact h.elim
end P

/-! K24: heads of a lore. -/
namespace V
open PySem G P
section
variable {vc : CallV} {β : Type} {Q : β → Prop} {X : UX → Prop}
/-- how many parts a name has -/
def manyOf (ks : List (Str × List Nat)) (f : Str) : Option Nat := (ks.find? fun p => decide (p.1 = f)).map fun p => p.2.length
mutual
def badT (m : Str → Option Nat) : Tree → List Str
  | .hole _ => []
  | .node f cs => (if m f = some cs.length then [] else [f]) ++ badL m cs
def badL (m : Str → Option Nat) : List Tree → List Str
  | [] => []
  | t :: ts => badT m t ++ badL m ts
end
theorem badL_flat (m : Str → Option Nat) : ∀ ts : List Tree, badL m ts = ts.flatMap (badT m)
  | [] => rfl
  | t :: ts => by simp [badL, badL_flat m ts]
theorem ite_len {p : Prop} [Decidable p] {f : Str} : (if p then ([] : List Str) else [f]).length ≤ 1 := by split <;> simp
mutual
theorem badT_len (m : Str → Option Nat) : ∀ t : Tree, (badT m t).length ≤ t.sz
  | .hole _ => by simp [badT]
  | .node f cs => by
    have := badL_len m cs
    have := ite_len (p := m f = some cs.length) (f := f)
    simp only [badT, Tree.sz, List.length_append]
    omega
theorem badL_len (m : Str → Option Nat) : ∀ ts : List Tree, (badL m ts).length ≤ szL ts
  | [] => by simp [badL]
  | t :: ts => by
    have := badT_len m t
    have := badL_len m ts
    simp only [badL, szL, List.length_append]
    omega
end
/-- is a name not there, or with other parts -/
theorem many_in {ks : List (Str × List Nat)} {f : Str} : uInN true (.str f) (.dct (ks.map (kvE ordU))) = .ret (.bl (!(manyOf ks f).isSome)) := by
  unfold uInN
  have : uIn (.str f) (.dct (ks.map (kvE ordU))) = some (manyOf ks f).isSome := by
    show (if kindOkU (ks.map (kvE ordU)) (.str f) then some (uGetK (ks.map (kvE ordU)) (.str f)).isSome else none) = _
    rw [if_pos kind_str, getK_find]
    unfold manyOf
    simp
  rw [this]
  cases (manyOf ks f).isSome <;> rfl
theorem many_test {ks : List (Str × List Nat)} {f : Str} {cs : List U} (x : U) (hx : x = .tup (.str f :: cs)) :
    ((uIx x (.int 0)).bind fun t15 => ((uInN true) t15 (.dct (ks.map (kvE ordU)))).bind fun t16 => (uBl t16).bind fun t17 => if t17 = true then W.ret true else (uIx x (.int 0)).bind fun t18 => (uIx (.dct (ks.map (kvE ordU))) t18).bind fun t19 => (uLen ([t19] : List U)).bind fun t20 => (uLen ([x] : List U)).bind fun t21 => (uSub t21 (.int 1)).bind fun t22 => ((uEq true) t20 t22).bind fun t23 => (uBl t23).bind fun t24 => .ret t24) =
      .ret (decide (manyOf ks f ≠ some cs.length)) := by
  subst hx
  simp only [uIx_ti, atI_0, ofO_some, bind_ret, many_in, uBl_bl]
  cases e : manyOf ks f with
  | none => simp
  | some n =>
    simp only [Option.isSome_some, Bool.not_true, Bool.false_eq_true, if_false]
    unfold manyOf at e
    obtain ⟨p, hp, e2⟩ := Option.map_eq_some_iff.mp e
    have g : uIx (.dct (ks.map (kvE ordU))) (.str f) = .ret (ordU p.2) := by
      show (if kindOkU (ks.map (kvE ordU)) (.str f) then ofO (uGetK (ks.map (kvE ordU)) (.str f)) else .fail) = _
      rw [if_pos kind_str, getK_find, hp]
      rfl
    rw [g, bind_ret, uLen_tup, bind_ret, uLen_tup, bind_ret, uSub_ii, bind_ret, uEq_ii, bind_ret, uBl_bl, bind_ret]
    rw [List.length_map, e2, List.length_cons]
    congr 1
    have : ((n : Int) == ((cs.length + 1 : Nat) : Int) - 1) = decide (n = cs.length) := by
      rw [Bool.eq_iff_iff, beq_iff_eq, decide_eq_true_eq]; omega
    rw [this]
    by_cases h : n = cs.length <;> simp [h]
def UndueV (F : List U → W U) (ks : List (Str × List Nat)) (ts : List Tree) : Prop := F [.dct (ks.map (kvE ordU)), .tup (ts.map Tree.u)] = .ret (.lst ((badL (manyOf ks) ts).map U.str))
theorem undueW_V {ks : List (Str × List Nat)} {ts : List Tree} (hz : szL ts ≤ 1000000) (hR : ∀ f cs, Tree.node f cs ∈ ts → UndueV (vc (Str.ofString "undue_within")) ks cs) : UndueV (v_undue_within_1 vc) ks ts := by
  unfold UndueV v_undue_within_1
  simp only [uIter_tup, bind_ret]
  have hb : (ts.flatMap fun t => (badT (manyOf ks) t).map U.str) = (badL (manyOf ks) ts).map U.str := by
    rw [badL_flat, List.map_flatMap]
  have hlen : (badL (manyOf ks) ts).length ≤ 1000000 := Nat.le_trans (badL_len _ _) hz
  rw [wFor_app (g := fun t => (badT (manyOf ks) t).map U.str) (fun t ht s nx hs => ?_) (by rw [hb, sizeLine_val, List.length_map]; simp; omega)]
  · rw [hb, List.nil_append]
  · rw [List.length_map] at hs
    cases t with
    | hole z =>
      rw [u_hole, isi_str (by decide)]
      have : Ty.str.sub .tup = false := rfl
      simp only [bind_ret, this, uTru_bl, Bool.false_eq_true, if_false, badT, List.map_nil, List.append_nil]
    | node f cs =>
      have hm := many_test (ks := ks) (f := f) (cs := cs.map Tree.u) (Tree.node f cs).u u_node
      rw [u_node] at hm ⊢
      rw [isi_tup (by decide)]
      have : Ty.tup.sub .tup = true := rfl
      simp only [bind_ret, this, uTru_bl, if_true]
      rw [hm]
      have hc := hR f cs ht
      unfold UndueV at hc
      simp only [badT] at hs ⊢
      rw [List.length_append] at hs
      have s1 : (uSl (.tup (.str f :: cs.map Tree.u)) (some 1) none) = .ret (.tup (cs.map Tree.u)) := by
        rw [uSl_tup, cutF_1]
      by_cases h : manyOf ks f = some cs.length
      · have e : decide (manyOf ks f ≠ some (cs.map Tree.u).length) = false := by simp [h]
        rw [if_pos h] at hs ⊢
        simp only [e, bind_ret, wSeq, Bool.false_eq_true, if_false, uIntO_int, s1, hc, uSeq_lst]
        rw [if_pos (by rw [List.length_map]; simpa using hs)]
        simp
      · have e : decide (manyOf ks f ≠ some (cs.map Tree.u).length) = true := by simp [h]
        rw [if_neg h] at hs ⊢
        have hs' : s.length + (1 + (badL (manyOf ks) cs).length) ≤ sizeLine := by simpa using hs
        simp only [e, bind_ret, wSeq, if_true, uIx_ti, atI_0, ofO_some, uIntO_int, s1, hc, uSeq_lst]
        rw [if_pos (by omega)]
        rw [if_pos (by rw [List.length_map, List.length_append]; simp; omega)]
        simp

/-! ### is it one of lore -/
/-- lore whose names are told once -/
structure LoreN (L : Lore) : Prop where
  wn : (L.ws.map (·.1)).Nodup
  vn : (L.vs.map (·.1)).Nodup
  wl : L.ws.length ≤ 1000
  vl : L.vs.length ≤ 1000
theorem LoreOk.n {L : Lore} (h : LoreOk L) : LoreN L := ⟨h.wn, h.vn, by have := h.wl; omega, by have := h.vl.2; omega⟩
def Lore.vm (L : Lore) : List (Str × List Nat) := L.vs.map fun p => (p.1, p.2.1)
def badH (L : Lore) (f : Str) (cs : List Tree) : List Str := (if manyOf L.vm f = some cs.length then [] else [f]) ++ badL (manyOf L.ws) cs
theorem lore_0 {L : Lore} : uIx L.u (.int 0) = .ret (.tup (L.ws.map wU)) := by unfold Lore.u; rw [uIx_ti, atI_0]; rfl
theorem lore_1 {L : Lore} : uIx L.u (.int 1) = .ret (.tup (L.vs.map vU)) := by unfold Lore.u; rw [uIx_ti, atI_1]; rfl
theorem undue_V {L : Lore} {f : Str} {cs : List Tree} (hL : LoreN L) (hz : szL cs ≤ 1000000) (hO : OrdersV (vc (Str.ofString "orders_of"))) (hU : UndueV (vc (Str.ofString "undue_within")) L.ws cs) :
    v_undue_1 vc [L.u, (Tree.node f cs).u] = .ret (.lst ((badH L f cs).map U.str)) := by
  unfold v_undue_1
  have hm := many_test (ks := L.vm) (f := f) (cs := cs.map Tree.u) (Tree.node f cs).u u_node
  simp only [lore_1, lore_0, bind_ret, hO.vs L.vs hL.vn hL.vl, hO.ws L.ws hL.wn hL.wl]
  have e9 : (L.vs.map fun p => (p.1, p.2.1)) = L.vm := rfl
  rw [e9, hm, bind_ret]
  unfold UndueV at hU
  rw [u_node]
  simp only [uIx_ti, atI_0, ofO_some, bind_ret, uIntO_int, uSl_tup, cutF_1, hU]
  have hb := badL_len (manyOf L.ws) cs
  unfold badH
  by_cases h : manyOf L.vm f = some cs.length
  · have e : decide (manyOf L.vm f ≠ some (cs.map Tree.u).length) = false := by simp [h]
    rw [e, if_pos h]
    simp only [Bool.false_eq_true, if_false, bind_ret]
    rw [uAdd_ll (by rw [List.length_map, sizeLine_val]; simp; omega), bind_ret]
    rfl
  · have e : decide (manyOf L.vm f ≠ some (cs.map Tree.u).length) = true := by simp [h]
    rw [e, if_neg h]
    simp only [if_true, bind_ret]
    rw [uAdd_ll (by rw [List.length_map, sizeLine_val]; simp; omega), bind_ret]
    simp
mutual
theorem badT_fine (m : Str → Option Nat) : ∀ t : Tree, t.Fine → ∀ s ∈ badT m t, FullOk s
  | .hole _, _, s, h => by simp [badT] at h
  | .node f cs, hf, s, h => by
    simp only [badT] at h
    rcases List.mem_append.mp h with h | h
    · split at h
      · cases h
      · rw [List.mem_singleton.mp h]; exact hf.1
    · exact badL_fine m cs hf.2 s h
theorem badL_fine (m : Str → Option Nat) : ∀ ts : List Tree, FineL ts → ∀ s ∈ badL m ts, FullOk s
  | [], _, s, h => by simp [badL] at h
  | t :: ts, hf, s, h => by
    simp only [badL] at h
    rcases List.mem_append.mp h with h | h
    · exact badT_fine m t hf.1 s h
    · exact badL_fine m ts hf.2 s h
end
theorem ok_fulls {l : List Str} (h : ∀ s ∈ l, FullOk s) {j : Nat} : oks (l.map U.str) j = true := oks_iff.mpr fun x hx => by
  obtain ⟨s, hs', rfl⟩ := List.mem_map.mp hx
  simp only [U.ok]
  exact (h s hs').low
def IsOfV (F : List U → W U) : Prop := ∀ (L : Lore) (f : Str) (cs : List Tree), LoreN L → (Tree.node f cs).Fine → szL cs ≤ 1000000 → depL cs ≤ 60 → F [L.u, (Tree.node f cs).u] = .ret (.bl (badH L f cs).isEmpty)
theorem isOf_V (hU : ∀ (L : Lore) (f : Str) (cs : List Tree), LoreN L → szL cs ≤ 1000000 → depL cs ≤ 60 → vc (Str.ofString "undue") [L.u, (Tree.node f cs).u] = .ret (.lst ((badH L f cs).map U.str))) : IsOfV (v_is_of_1 vc) := by
  intro L f cs hL hf hz hd
  unfold v_is_of_1
  simp only [hU L f cs hL hz hd, bind_ret]
  have fine : ∀ s ∈ badH L f cs, FullOk s := fun s h => by
    unfold badH at h
    rcases List.mem_append.mp h with h | h
    · split at h
      · cases h
      · rw [List.mem_singleton.mp h]; exact hf.1
    · exact badL_fine _ _ hf.2 s h
  rw [uEq_nil (ok_fulls fine) (by rw [dp_strs]; omega), bind_ret]
  simp

/-! ### what the law finds -/
mutual
def goodT (l : List (Str × Nat)) : Tree → Bool
  | .hole _ => true
  | .node f cs => decide ((f, cs.length) ∈ l) && goodL l cs
def goodL (l : List (Str × Nat)) : List Tree → Bool
  | [] => true
  | t :: ts => goodT l t && goodL l ts
end
theorem goodL_app (l : List (Str × Nat)) : ∀ ts us : List Tree, goodL l (ts ++ us) = (goodL l ts && goodL l us)
  | [], us => by simp [goodL]
  | t :: ts, us => by simp [goodL, goodL_app l ts us, Bool.and_assoc]
/-- many told by a list without doubles -/
theorem many_iff {ks : List (Str × List Nat)} (nd : (ks.map (·.1)).Nodup) {f : Str} {n : Nat} : manyOf ks f = some n ↔ (f, n) ∈ ks.map fun p => (p.1, p.2.length) := by
  unfold manyOf
  constructor
  · intro h
    obtain ⟨p, hp, e⟩ := Option.map_eq_some_iff.mp h
    have h1 := List.mem_of_find?_eq_some hp
    have h2 : p.1 = f := by simpa using List.find?_some hp
    exact List.mem_map.mpr ⟨p, h1, by rw [h2, e]⟩
  · intro h
    obtain ⟨p, hp, e⟩ := List.mem_map.mp h
    cases e
    rw [find_key nd hp]
    rfl
mutual
theorem good_bad {ks : List (Str × List Nat)} (nd : (ks.map (·.1)).Nodup) : ∀ t : Tree, goodT (ks.map fun p => (p.1, p.2.length)) t = (badT (manyOf ks) t).isEmpty
  | .hole _ => by simp [goodT, badT]
  | .node f cs => by
    simp only [goodT, badT, goodL_bad nd cs]
    by_cases h : manyOf ks f = some cs.length
    · rw [if_pos h]
      simp [(many_iff nd).mp h]
    · rw [if_neg h]
      have e : decide ((f, cs.length) ∈ ks.map fun p => (p.1, p.2.length)) = false := decide_eq_false fun z => h ((many_iff nd).mpr z)
      rw [e]
      rfl
theorem goodL_bad {ks : List (Str × List Nat)} (nd : (ks.map (·.1)).Nodup) : ∀ ts : List Tree, goodL (ks.map fun p => (p.1, p.2.length)) ts = (badL (manyOf ks) ts).isEmpty
  | [] => by simp [goodL, badL]
  | t :: ts => by
    simp only [goodL, badL, good_bad nd t, goodL_bad nd ts]
    cases badT (manyOf ks) t <;> simp
end
/-- lore that is drawn, its names full -/
structure LoreF (L : Lore) : Prop extends LoreN L where
  wf : ∀ p ∈ L.ws, FullOk p.1 ∧ p.2.length ≤ 1000
  vf : ∀ p ∈ L.vs, FullOk p.1 ∧ p.2.1.length ≤ 1000
theorem LoreOk.f {L : Lore} (h : LoreOk L) : LoreF L := ⟨h.n, fun p hp => ⟨(h.wf p hp).1.1, by have := (h.wf p hp).2.2; omega⟩, fun p hp => ⟨(h.vf p hp).1.1, by have := (h.vf p hp).2.1.2; omega⟩⟩
def Lore.vl (L : Lore) : List (Str × Nat) := L.vs.map fun p => (p.1, p.2.1.length)
theorem vl_comp {vs : List (Str × List Nat × Str)} : wLc (vs.map vU) (fun x5 => (uT3 x5).bind fun p6 => (uLen ([p6.2.1] : List U)).bind fun t7 => .ret (some (.tup ([p6.1, t7] : List U)))) = .ret ((vs.map fun p => (p.1, p.2.1.length)).map wordU) := by
  rw [List.map_map]
  refine wLc_mapE fun p hp => ?_
  simp only [vU, uT3_tup, bind_ret, uLen_tup, List.length_map]
  rfl
theorem pop_snoc {us : List U} {u : U} : uPop (us ++ [u]) = .ret (u, us) := by
  unfold uPop
  simp
def dBody (wl : List (Str × Nat)) : List U → (List U → W U) → (List U → W U) → W U := fun s9 nx10 bk11 => (((uEq true) (.lst s9) (.lst ([] : List U))).bind fun t26 => (uBl t26).bind fun t27 => .ret t27).tot.bind fun t25 => if t25 = true then (uPop s9).bind fun q12 => (uIsi ([q12.1, (.ty .str)] : List U)).bind fun t22 => (uTru t22).bind fun t23 => if (!t23) = true then (uIx q12.1 (.int 0)).bind fun t17 => (uLen ([q12.1] : List U)).bind fun t18 => (uSub t18 (.int 1)).bind fun t19 => ((uInN true) (.tup ([t17, t19] : List U)) (.lst (wl.map wordU))).bind fun t20 => (uBl t20).bind fun t21 => if t21 = true then .ret (.bl false) else (uIntO (.int 1)).bind fun t15 => (uSl q12.1 (some t15) none).bind fun t16 => (uSeq t16).bind fun ys14 => if List.length q12.2 + ys14.length ≤ sizeLine then nx10 (q12.2 ++ ys14) else .fail else nx10 q12.2 else bk11 s9
theorem fineL_app {ts us : List Tree} : FineL (ts ++ us) ↔ FineL ts ∧ FineL us := by
  rw [FineL_iff, FineL_iff, FineL_iff]
  simp only [List.mem_append]
  exact ⟨fun h => ⟨fun t ht => h t (.inl ht), fun t ht => h t (.inr ht)⟩, fun h t ht => ht.elim (h.1 t) (h.2 t)⟩
theorem due_run {wl : List (Str × Nat)} (hw : ∀ q ∈ wl, FullOk q.1 ∧ q.2 < 1000000000000) : ∀ (n : Nat) (ts : List Tree), szL ts < n → szL ts ≤ 1000000 → depL ts ≤ 60 → FineL ts →
    wWhile (S := List U) n (ts.map Tree.u) (dBody wl) (fun _ => .ret (.bl true)) = .ret (.bl (goodL wl ts))
  | 0, ts, h, _, _, _ => by omega
  | n + 1, ts, h, hz, hd, hf => by
    rw [wWhile_succ]
    have sm := fineL_sm ts hf
    generalize hk : (fun s' => wWhile n s' (dBody wl) (fun _ => W.ret (U.bl true))) = kk
    unfold dBody
    rw [uEq_nil (sm.1 7) (Nat.le_trans sm.2.2.1 hd)]
    simp only [bind_ret, uBl_bl, tot_ret]
    rcases List.eq_nil_or_concat ts with rfl | ⟨ts', t, rfl⟩
    · simp [goodL]
    · rw [List.concat_eq_append] at *
      have ne : ((ts' ++ [t]).map Tree.u).isEmpty = false := by simp
      rw [ne]
      simp only [Bool.false_bne, if_true]
      rw [List.map_append, List.map_singleton, pop_snoc, bind_ret]
      rw [szL_app] at h hz
      have h1 : szL [t] = t.sz := by simp [szL]
      rw [h1] at h hz
      have hd' := depL_le.mp hd
      have hf' := fineL_app.mp hf
      have hp := sz_pos t
      rw [goodL_app]
      cases t with
      | hole z =>
        dsimp only
        rw [u_hole, isi_str (by decide)]
        have : Ty.str.sub .str = true := rfl
        simp only [bind_ret, this, uTru_bl, Bool.not_true, Bool.false_eq_true, if_false]
        rw [← hk]
        dsimp only
        rw [due_run hw n ts' (by omega) (by omega) (depL_le.mpr fun t ht => hd' t (List.mem_append_left _ ht)) hf'.1]
        simp [goodL, goodT]
      | node f cs =>
        dsimp only
        rw [u_node, isi_tup (by decide)]
        have : Ty.tup.sub .str = false := rfl
        simp only [bind_ret, this, uTru_bl, Bool.not_false, if_true, uIx_ti, atI_0, ofO_some, uLen_tup, uSub_ii]
        have hff : FullOk f ∧ FineL cs := hf'.2.1
        simp only [Tree.sz] at h hz
        have hc := len_szL cs
        have e1 : U.tup [.str f, .int (((U.str f :: cs.map Tree.u).length : Nat) - 1 : Int)] = wordU (f, cs.length) := by
          unfold wordU
          simp
        have hd1 : depL cs ≤ 60 := by
          have := hd' (.node f cs) (by simp)
          simp only [Tree.dep] at this
          omega
        have hword := uIn_words (neg := true) (p := (f, cs.length)) (l := wl) hff.1 (by show cs.length < _; omega) hw
        rw [← e1] at hword
        rw [hword]
        simp only [bind_ret, uBl_bl]
        by_cases hm : (f, cs.length) ∈ wl
        · have e : (decide ((f, cs.length) ∈ wl) != true) = false := by simp [hm]
          rw [e]
          simp only [Bool.false_eq_true, if_false, uIntO_int, bind_ret, uSl_tup, cutF_1, uSeq_tup]
          rw [if_pos (by rw [List.length_map, List.length_map, sizeLine_val]; have := len_szL ts'; omega), ← List.map_append, ← hk]
          dsimp only
          rw [due_run hw n (ts' ++ cs) (by rw [szL_app]; omega) (by rw [szL_app]; omega) (depL_le.mpr fun t ht => (List.mem_append.mp ht).elim (fun h => hd' t (List.mem_append_left _ h)) (fun h => Nat.le_trans (dep_mem h) hd1)) (fineL_app.mpr ⟨hf'.1, hff.2⟩), goodL_app]
          simp [goodL, goodT, hm]
        · have e : (decide ((f, cs.length) ∈ wl) != true) = true := by simp [hm]
          rw [e]
          simp only [if_true]
          simp [goodL, goodT, hm]
def DueV (F : List U → W U) : Prop := ∀ (L : Lore) (f : Str) (cs : List Tree), LoreF L → (Tree.node f cs).Fine → szL cs ≤ 1000000 → depL cs ≤ 60 → F [L.u, (Tree.node f cs).u] = .ret (.bl (badH L f cs).isEmpty)
end
end V

/-! K24b: what the law finds, bent heads, the law. -/
namespace V
open PySem G P
section
variable {vc : CallV} {β : Type} {Q : β → Prop} {X : UX → Prop}
theorem due_V : DueV (v_law_due_2 vc) := by
  intro L f cs hL hf hz hd
  have hff : FullOk f ∧ FineL cs := hf
  have hc := len_szL cs
  unfold v_law_due_2
  have hLF : szL cs < LF := by unfold LF; omega
  generalize LF = N at hLF ⊢
  simp only [lore_0, lore_1, bind_ret, uIter_tup]
  rw [wl_comp, bind_ret]
  rw [u_node]
  simp only [uIx_ti, atI_0, ofO_some, bind_ret, uLen_tup, uSub_ii]
  rw [vl_comp, bind_ret]
  have e1 : U.tup [.str f, .int (((U.str f :: cs.map Tree.u).length : Nat) - 1 : Int)] = wordU (f, cs.length) := by
    unfold wordU
    simp
  have nums : ∀ {n : Nat}, n ≤ 1000 → n < 1000000000000 := fun h => by omega
  have hword := uIn_words (neg := true) (p := (f, cs.length)) (l := L.vs.map fun p => (p.1, p.2.1.length)) hff.1 (by show cs.length < _; omega) (fun q hq => by
    obtain ⟨p, hp, rfl⟩ := List.mem_map.mp hq
    exact ⟨(hL.vf p hp).1, nums (hL.vf p hp).2⟩)
  rw [← e1] at hword
  rw [hword]
  simp only [bind_ret, uBl_bl]
  have vm : manyOf L.vm f = some cs.length ↔ (f, cs.length) ∈ L.vs.map fun p => (p.1, p.2.1.length) := by
    have nd : (L.vm.map (·.1)).Nodup := by unfold Lore.vm; rw [List.map_map]; exact hL.vn
    rw [many_iff nd]
    unfold Lore.vm
    rw [List.map_map]
    rfl
  unfold badH
  by_cases hm : (f, cs.length) ∈ L.vs.map fun p => (p.1, p.2.1.length)
  · have e : (decide ((f, cs.length) ∈ L.vs.map fun p => (p.1, p.2.1.length)) != true) = false := by rw [decide_eq_true hm]; rfl
    rw [e, if_pos (vm.mpr hm)]
    rw [if_neg Bool.false_ne_true, uIntO_int, bind_ret, uSl_tup, bind_ret, cutF_1, uListL_tup, bind_ret]
    have := due_run (wl := L.ws.map fun p => (p.1, p.2.length)) (fun q hq => by
      obtain ⟨p, hp, rfl⟩ := List.mem_map.mp hq
      exact ⟨(hL.wf p hp).1, nums (hL.wf p hp).2⟩) N cs hLF hz hd hff.2
    rw [goodL_bad hL.wn] at this
    rw [List.nil_append]
    refine Eq.trans ?_ this
    unfold dBody
    rfl
  · have e : (decide ((f, cs.length) ∈ L.vs.map fun p => (p.1, p.2.1.length)) != true) = true := by rw [decide_eq_false hm]; rfl
    rw [e, if_neg fun z => hm (vm.mp z)]
    simp

/-! ### bent heads -/
structure BentOk (t t' : Tree) : Prop where
  fine : t'.Fine
  dep : t'.dep ≤ t.dep + 1
  sz : t'.sz ≤ 2 * t.sz + 2
  node : (∃ f cs, t = .node f cs) → ∃ f cs, t' = .node f cs
def BentV (F : List U → W U) (D : Nat) : Prop := ∀ (L : Lore) (t : Tree), LoreOk L → t.Fine → t.dep ≤ D → t.sz ≤ 10000 → (F [.hnd, L.u, t.u]).Ok (fun u => ∃ t' : Tree, u = t'.u ∧ BentOk t t') NoX
abbrev bentN (L : Lore) : List Str := L.ws.map (·.1) ++ L.vs.map (·.1) ++ [Str.ofString "a.none", Str.ofString "none.w"]
theorem names_comp {L : Lore} : wLc (L.ws.map wU ++ L.vs.map vU) (fun x1 => (uIx x1 (.int 0)).bind fun t3 => .ret (some t3)) = .ret ((L.ws.map (·.1) ++ L.vs.map (·.1)).map U.str) := by
  have e1 : L.ws.map wU ++ L.vs.map vU = (L.ws.map (fun p => (p.1, wU p)) ++ L.vs.map (fun p => (p.1, vU p))).map fun q : Str × U => q.2 := by
    rw [List.map_append, List.map_map, List.map_map]; rfl
  have e2 : (L.ws.map (·.1) ++ L.vs.map (·.1)).map U.str = (L.ws.map (fun p => (p.1, wU p)) ++ L.vs.map (fun p => (p.1, vU p))).map fun q : Str × U => U.str q.1 := by
    rw [List.map_append, List.map_append, List.map_map, List.map_map, List.map_map, List.map_map]; rfl
  rw [e1, e2]
  refine wLc_mapE fun q hq => ?_
  rcases List.mem_append.mp hq with h | h
  · obtain ⟨p, _, rfl⟩ := List.mem_map.mp h
    simp only [wU, uIx_ti, atI_0, ofO_some, bind_ret]
  · obtain ⟨p, _, rfl⟩ := List.mem_map.mp h
    simp only [vU, uIx_ti, atI_0, ofO_some, bind_ret]
theorem full_by {a b c : Str} (e : c = a ++ Str.ofString "." ++ b) (ha : nameB a = true) (hb : nameB b = true) : FullOk c := by
  rw [e]; exact (dot_name (nameB_ok ha) (nameB_ok hb)).1
theorem bentN_full {L : Lore} (hL : LoreOk L) : ∀ s ∈ bentN L, FullOk s := fun s hs => by
  rcases List.mem_append.mp hs with h | h
  · rcases List.mem_append.mp h with h | h
    · obtain ⟨p, hp, rfl⟩ := List.mem_map.mp h
      exact (hL.wf p hp).1.1
    · obtain ⟨p, hp, rfl⟩ := List.mem_map.mp h
      exact (hL.vf p hp).1.1
  · simp only [List.mem_cons, List.not_mem_nil, or_false] at h
    rcases h with rfl | rfl
    · exact full_by (a := Str.ofString "a") (b := Str.ofString "none") (by decide +kernel) (by decide +kernel) (by decide +kernel)
    · exact full_by (a := Str.ofString "none") (b := Str.ofString "w") (by decide +kernel) (by decide +kernel) (by decide +kernel)
theorem cut_last {α : Type} {ys : List α} {y : α} : cutF (ys ++ [y]) (some (-1)) none = [y] := by
  unfold cutF
  have h1 : HT.sIx (ys ++ [y]).length 0 (some (-1)) = ys.length := by
    unfold HT.sIx
    simp
    omega
  have h2 : HT.sIx (ys ++ [y]).length (ys ++ [y]).length none = (ys ++ [y]).length := rfl
  rw [h1, h2]
  simp
theorem split_at {cs : List Tree} {a : Nat} (h : a < cs.length) : cs = cs.take a ++ cs[a] :: cs.drop (a + 1) := by
  rw [← List.drop_eq_getElem_cons h, List.take_append_drop]
theorem nameOk_x : NameOk (Str.ofString "x") := nameB_ok (by decide +kernel)
theorem nameOk_z : NameOk (Str.ofString "z") := nameB_ok (by decide +kernel)
theorem bent_V {D : Nat} (hT : TakeV (vc (Str.ofString "_law_take"))) (hO : OfV (vc (Str.ofString "_law_of"))) (hR : ∀ d, D = d + 1 → BentV (vc (Str.ofString "_law_bent")) d) : BentV (v_law_bent_1 vc) D := by
  intro L t hL hf hd hz
  have w8 := hL.wl
  have v3 := hL.vl.2
  unfold v_law_bent_1
  dsimp only
  rw [lore_0, bind_ret, lore_1, bind_ret, uAdd_tt (by rw [List.length_map, List.length_map, sizeLine_val]; omega), bind_ret, uIter_tup, bind_ret, names_comp, bind_ret]
  have e1 : uAdd (.lst ((L.ws.map (·.1) ++ L.vs.map (·.1)).map U.str)) (.lst ([(.str (Str.ofString "a.none")), (.str (Str.ofString "none.w"))] : List U)) = .ret (.lst ((bentN L).map U.str)) := by
    rw [uAdd_ll (by rw [List.length_map, List.length_append, List.length_map, List.length_map, sizeLine_val]; simp; omega)]
    simp
  rw [e1, bind_ret]
  have nf := bentN_full hL
  have nl : (bentN L).length ≤ 1000 := by simp; omega
  have n0 : bentN L ≠ [] := by simp
  generalize bentN L = names at nf nl n0
  have hnames : ∀ {f : U → W U}, (∀ s ∈ names, (f (.str s)).Ok (fun u => ∃ t' : Tree, u = t'.u ∧ BentOk t t') NoX) → ((vc (Str.ofString "_law_of") ([.hnd, .lst (names.map U.str)] : List U)).bind f).Ok (fun u => ∃ t' : Tree, u = t'.u ∧ BentOk t t') NoX := fun {f} h => by
    rw [hO.lst _ (by simpa using n0) (by rw [List.length_map]; omega), ok_of]
    intro x hx
    obtain ⟨s, hs, rfl⟩ := List.mem_map.mp hx
    exact h s hs
  cases t with
  | hole z =>
    rw [u_hole, isi_str (by decide)]
    have : Ty.str.sub .str = true := rfl
    simp only [bind_ret, this, uTru_bl, if_true]
    refine hnames fun nm hnm => ?_
    obtain ⟨w0, wr, hw⟩ : ∃ w0 wr, L.ws = w0 :: wr := by
      obtain ⟨p, hp, _⟩ := hL.nil
      cases e : L.ws with
      | nil => rw [e] at hp; cases hp
      | cons a b => exact ⟨a, b, rfl⟩
    have hw0 := (hL.wf w0 (by rw [hw]; simp)).1.1
    rw [hw, List.map_cons, uIx_ti, atI_0]
    simp only [ofO_some, bind_ret, wU, uIx_ti, atI_0]
    rw [hO.lst _ (by simp) (by simp), ok_of]
    intro x hx
    have nn := nf nm hnm
    simp only [List.mem_cons, List.not_mem_nil, or_false] at hx
    rcases hx with rfl | rfl | rfl
    · exact ⟨.hole (Str.ofString "z"), u_hole.symm, nameOk_z, by simp [Tree.dep], by simp [Tree.sz], fun ⟨_, _, h⟩ => by cases h⟩
    · exact ⟨.node nm [], by rw [u_node]; rfl, ⟨nn, trivial⟩, by simp [Tree.dep, depL], by simp [Tree.sz, szL], fun _ => ⟨_, _, rfl⟩⟩
    · exact ⟨.node w0.1 [.hole (Str.ofString "x")], by rw [u_node]; simp [u_hole], ⟨hw0, nameOk_x, trivial⟩, by simp [Tree.dep, depL], by simp [Tree.sz, szL], fun _ => ⟨_, _, rfl⟩⟩
  | node f cs =>
    obtain ⟨ff, fc⟩ : FullOk f ∧ FineL cs := hf
    have fc' := FineL_iff.mp fc
    simp only [Tree.dep] at hd
    simp only [Tree.sz] at hz
    have lc := len_szL cs
    rw [u_node, isi_tup (by decide)]
    have : Ty.tup.sub .str = false := rfl
    rw [bind_ret, this, uTru_bl, bind_ret, if_neg Bool.false_ne_true]
    have t6 : vc (Str.ofString "_law_take") ([.hnd, .int 6] : List U) = wTk 6 := hT 6 (by omega) (by omega)
    rw [t6, ok_tk]
    intro way hway
    rw [uLen_tup, bind_ret, uSub_ii, bind_ret]
    have ml : (((U.str f :: cs.map Tree.u).length : Nat) : Int) - 1 = (cs.length : Int) := by simp
    rw [ml]
    have e2 : uMax2 ([(.int 1), .int (cs.length : Int)] : List U) = .ret (.int ((max 1 cs.length : Nat) : Int)) := by
      show W.ret (U.int (if (cs.length : Int) > 1 then (cs.length : Int) else 1)) = _
      congr 2
      split <;> omega
    rw [e2, bind_ret, hT (max 1 cs.length) (by omega) (by omega), ok_tk]
    intro a ha
    rw [uAdd_ii, bind_ret]
    have ea : (1 : Int) + (a : Int) = ((a + 1 : Nat) : Int) := by omega
    rw [ea]
    have c1 : (((uEq false) (.int (way : Int)) (.int 0)).bind fun t42 => (uBl t42).bind fun t43 => if t43 = true then .ret true else ((W.ret (U.int (((U.str f :: cs.map Tree.u).length : Nat) : Int))).bind fun t44 => ((uEq false) t44 (.int 1)).bind fun t45 => (uBl t45).bind fun t46 => if t46 = true then (uGt (.int (way : Int)) (.int 2)).bind fun t47 => (uBl t47).bind fun t48 => .ret t48 else .ret false).bind fun t49 => .ret t49) = .ret (decide (way = 0 ∨ (cs.length = 0 ∧ 2 < way))) := by
      simp only [uEq_ii, bind_ret, uBl_bl, uGt_ii]
      have k1 : ((way : Int) == 0) = decide (way = 0) := by rw [Bool.eq_iff_iff, beq_iff_eq, decide_eq_true_eq]; omega
      have k2 : ((((U.str f :: cs.map Tree.u).length : Nat) : Int) == 1) = decide (cs.length = 0) := by rw [Bool.eq_iff_iff, beq_iff_eq, decide_eq_true_eq, List.length_cons, List.length_map]; omega
      have k3 : decide ((2 : Int) < (way : Int)) = decide (2 < way) := by rw [Bool.eq_iff_iff, decide_eq_true_eq, decide_eq_true_eq]; omega
      rw [k1, k2, k3]
      by_cases h0 : way = 0
      · simp [h0]
      · by_cases h1 : cs.length = 0
        · simp [h0, h1]
        · simp [h0, h1]
    rw [c1, bind_ret]
    have s1 : uSl (.tup (.str f :: cs.map Tree.u)) (some 1) none = .ret (.tup (cs.map Tree.u)) := by rw [uSl_tup, cutF_1]
    by_cases h1 : way = 0 ∨ (cs.length = 0 ∧ 2 < way)
    · rw [decide_eq_true h1, if_pos rfl]
      refine hnames fun nm hnm => ?_
      rw [uIntO_int, bind_ret, s1, bind_ret, uAdd_tt (by rw [List.length_map, sizeLine_val]; simp; omega), bind_ret]
      exact ⟨.node nm cs, by rw [u_node]; rfl, ⟨nf nm hnm, fc⟩, by simp [Tree.dep], by simp only [Tree.sz]; omega, fun _ => ⟨_, _, rfl⟩⟩
    · rw [decide_eq_false h1, if_neg Bool.false_ne_true]
      have c2 : (((uEq false) (.int (way : Int)) (.int 1)).bind fun t32 => (uBl t32).bind fun t33 => if t33 = true then (W.ret (U.int (((U.str f :: cs.map Tree.u).length : Nat) : Int))).bind fun t34 => (uLt t34 (.int 4)).bind fun t35 => (uBl t35).bind fun t36 => .ret t36 else .ret false) = .ret (decide (way = 1 ∧ cs.length < 3)) := by
        simp only [uEq_ii, bind_ret, uBl_bl, uLt_ii]
        have k1 : ((way : Int) == 1) = decide (way = 1) := by rw [Bool.eq_iff_iff, beq_iff_eq, decide_eq_true_eq]; omega
        have k2 : decide ((((U.str f :: cs.map Tree.u).length : Nat) : Int) < 4) = decide (cs.length < 3) := by rw [Bool.eq_iff_iff, decide_eq_true_eq, decide_eq_true_eq, List.length_cons, List.length_map]; omega
        rw [k1, k2]
        by_cases h0 : way = 1
        · simp [h0]
        · simp [h0]
      rw [c2, bind_ret]
      by_cases h2 : way = 1 ∧ cs.length < 3
      · rw [decide_eq_true h2, if_pos rfl, bind_ret, uGt_ii, bind_ret, uBl_bl, bind_ret]
        rcases List.eq_nil_or_concat cs with rfl | ⟨cs', c, rfl⟩
        · rw [if_neg (by simp), uAdd_tt (by rw [sizeLine_val]; simp), bind_ret, bind_ret]
          exact ⟨.node f [.hole (Str.ofString "x")], by rw [u_node]; simp [u_hole], ⟨ff, nameOk_x, trivial⟩, by simp [Tree.dep, depL], by simp [Tree.sz, szL], fun _ => ⟨_, _, rfl⟩⟩
        · rw [List.concat_eq_append] at *
          rw [if_pos (by simp; omega), uNeg_int, bind_ret, uIntO_int, bind_ret, uSl_tup, bind_ret]
          have e3 : U.str f :: (cs' ++ [c]).map Tree.u = (U.str f :: cs'.map Tree.u) ++ [c.u] := by simp
          rw [e3, cut_last, uAdd_tt (by rw [sizeLine_val]; simp at lc ⊢; omega), bind_ret, bind_ret]
          have hc := fc' c (by simp)
          have szc := szL_app cs' [c]
          refine ⟨.node f (cs' ++ [c] ++ [c]), by rw [u_node]; simp, ⟨ff, FineL_iff.mpr fun t ht => ?_⟩, ?_, ?_, fun _ => ⟨_, _, rfl⟩⟩
          · rcases List.mem_append.mp ht with h | h
            · exact fc' t h
            · rw [List.mem_singleton.mp h]; exact hc
          · simp only [Tree.dep]
            have : depL (cs' ++ [c] ++ [c]) ≤ depL (cs' ++ [c]) := depL_le.mpr fun t ht => by
              rcases List.mem_append.mp ht with h | h
              · exact dep_mem h
              · rw [List.mem_singleton.mp h]; exact dep_mem (by simp)
            omega
          · simp only [Tree.sz, szL_app, szL] at *
            omega
      · rw [decide_eq_false h2, if_neg Bool.false_ne_true, uLt_ii, bind_ret, uBl_bl, bind_ret]
        have eb : uAdd (.int ((a + 1 : Nat) : Int)) (.int 1) = .ret (.int ((a + 1 + 1 : Nat) : Int)) := by rw [uAdd_ii]; rfl
        have sto : uSl (.tup (.str f :: cs.map Tree.u)) none (some ((a + 1 : Nat) : Int)) = .ret (.tup (.str f :: (cs.take a).map Tree.u)) := by
          rw [uSl_tup, cutF_to, List.take_succ_cons, List.map_take]
        have sfr : uSl (.tup (.str f :: cs.map Tree.u)) (some ((a + 1 + 1 : Nat) : Int)) none = .ret (.tup ((cs.drop (a + 1)).map Tree.u)) := by
          rw [uSl_tup, cutF_from, List.drop_succ_cons, List.map_drop]
        by_cases h3 : way < 3
        · have k3 : decide ((way : Int) < 3) = true := decide_eq_true (by omega)
          rw [k3, if_pos rfl, uIntO_int, bind_ret, sto, bind_ret, eb, bind_ret, uIntO_int, bind_ret, sfr, bind_ret, uAdd_tt (by rw [sizeLine_val]; simp; omega), bind_ret]
          have mem : ∀ t ∈ cs.take a ++ cs.drop (a + 1), t ∈ cs := fun t ht => by
            rcases List.mem_append.mp ht with h | h
            · exact List.mem_of_mem_take h
            · exact List.mem_of_mem_drop h
          refine ⟨.node f (cs.take a ++ cs.drop (a + 1)), by rw [u_node]; simp, ⟨ff, FineL_iff.mpr fun t ht => fc' t (mem t ht)⟩, ?_, ?_, fun _ => ⟨_, _, rfl⟩⟩
          · simp only [Tree.dep]
            have : depL (cs.take a ++ cs.drop (a + 1)) ≤ depL cs := depL_le.mpr fun t ht => dep_mem (mem t ht)
            omega
          · simp only [Tree.sz]
            have h1 : szL cs = szL (cs.take a) + szL (cs.drop a) := by rw [← szL_app, List.take_append_drop]
            have h2 : szL (cs.drop (a + 1)) ≤ szL (cs.drop a) := by
              by_cases hl : a < cs.length
              · rw [List.drop_eq_getElem_cons hl]; simp only [szL]; omega
              · rw [List.drop_of_length_le (by omega), List.drop_of_length_le (by omega)]; exact Nat.le_refl _
            rw [szL_app]
            omega
        · have k3 : decide ((way : Int) < 3) = false := decide_eq_false (by omega)
          have hl : a < cs.length := by
            by_cases z : cs.length = 0
            · exact absurd (.inr ⟨z, by omega⟩) h1
            · omega
          rw [k3, if_neg Bool.false_ne_true, uIntO_int, bind_ret, sto, bind_ret]
          have ix : uIx (.tup (.str f :: cs.map Tree.u)) (.int ((a + 1 : Nat) : Int)) = .ret cs[a].u := by
            rw [uIx_ti, atI_ofNat]
            simp [hl]
          rw [ix, bind_ret]
          have sp := split_at hl
          have hca := fc' cs[a] (List.getElem_mem hl)
          have dca := dep_mem (List.getElem_mem hl)
          have sca : szL cs = szL (cs.take a) + (cs[a].sz + szL (cs.drop (a + 1))) := by
            conv => lhs; rw [sp]
            rw [szL_app]; rfl
          obtain ⟨d, rfl⟩ : ∃ d, D = d + 1 := ⟨D - 1, by omega⟩
          refine W.Ok.bnd (hR d rfl L cs[a] hL hca (by omega) (by omega)) fun u ⟨t', e, b⟩ => ?_
          subst e
          rw [uAdd_tt (by rw [sizeLine_val]; simp; omega), bind_ret, eb, bind_ret, uIntO_int, bind_ret, sfr, bind_ret, uAdd_tt (by rw [sizeLine_val]; simp; omega), bind_ret]
          refine ⟨.node f (cs.take a ++ [t'] ++ cs.drop (a + 1)), by rw [u_node]; simp, ⟨ff, FineL_iff.mpr fun t ht => ?_⟩, ?_, ?_, fun _ => ⟨_, _, rfl⟩⟩
          · rcases List.mem_append.mp ht with h | h
            · rcases List.mem_append.mp h with h | h
              · exact fc' t (List.mem_of_mem_take h)
              · rw [List.mem_singleton.mp h]; exact b.fine
            · exact fc' t (List.mem_of_mem_drop h)
          · simp only [Tree.dep]
            have := b.dep
            have : depL (cs.take a ++ [t'] ++ cs.drop (a + 1)) ≤ depL cs + 1 := depL_le.mpr fun t ht => by
              rcases List.mem_append.mp ht with h | h
              · rcases List.mem_append.mp h with h | h
                · have := dep_mem (List.mem_of_mem_take h); omega
                · rw [List.mem_singleton.mp h]; omega
              · have := dep_mem (List.mem_of_mem_drop h); omega
            omega
          · have := b.sz
            simp only [Tree.sz, szL_app, szL] at *
            omega
end
end V

/-! K24c: what the law asks of a head, and the law. -/
namespace V
open PySem G P
section
variable {vc : CallV} {β : Type} {Q : β → Prop} {X : UX → Prop}
/-! ### lore is data -/
theorem ord_data {o : List Nat} (h : OrdOk o) : (∀ j, (ordU o).ok j = true) ∧ (ordU o).wt ≤ 243 ∧ (ordU o).dp ≤ 1 := by
  have h3 := h.2
  refine ⟨fun j => ?_, ?_, ?_⟩
  · simp only [U.ok]
    refine ok_nums fun x hx => ?_
    have := List.mem_range.mp (h.1.mem_iff.mp hx)
    omega
  · simp only [U.wt]
    have := wts_le (n := 80) (xs := o.map numU) fun x hx => by
      obtain ⟨n, _, rfl⟩ := List.mem_map.mp hx
      simp [U.wt]
    rw [List.length_map] at this
    omega
  · simp only [U.dp, dp_nums]; omega
theorem lore_data {L : Lore} (hL : LoreOk L) : (∀ j, L.u.ok j = true) ∧ L.u.wt ≤ 10000 ∧ L.u.dp ≤ 4 := by
  have w : ∀ p ∈ L.ws, (∀ j, (wU p).ok j = true) ∧ (wU p).wt ≤ 300 ∧ (wU p).dp ≤ 2 := fun p hp => by
    obtain ⟨⟨n, _⟩, o⟩ := hL.wf p hp
    obtain ⟨o1, o2, o3⟩ := ord_data o
    have nl := n.len
    refine ⟨fun j => ?_, ?_, ?_⟩
    · simp only [wU, U.ok, oks, Bool.and_eq_true, and_true]
      have := o1 j
      simp only [U.ok] at this
      exact ⟨n.low, this⟩
    · simp only [wU, U.wt, wts] at *; omega
    · simp only [wU, U.dp, dps] at *; omega
  have v : ∀ p ∈ L.vs, (∀ j, (vU p).ok j = true) ∧ (vU p).wt ≤ 300 ∧ (vU p).dp ≤ 2 := fun p hp => by
    obtain ⟨⟨n, _⟩, o, y⟩ := hL.vf p hp
    obtain ⟨o1, o2, o3⟩ := ord_data o
    have nl := n.len
    have ys : strLow p.2.2 = true ∧ p.2.2.length = 4 := by
      rcases y with e | e
      · rw [e]; exact ⟨by decide +kernel, by decide +kernel⟩
      · rw [e]; exact ⟨by decide +kernel, by decide +kernel⟩
    refine ⟨fun j => ?_, ?_, ?_⟩
    · simp only [vU, U.ok, oks, Bool.and_eq_true, and_true]
      have := o1 j
      simp only [U.ok] at this
      exact ⟨n.low, this, ys.1⟩
    · simp only [vU, U.wt, wts] at *; omega
    · simp only [vU, U.dp, dps] at *; omega
  have l1 := hL.wl
  have l2 := hL.vl.2
  have a1 := wts_le (n := 300) (xs := L.ws.map wU) fun x hx => by obtain ⟨p, hp, rfl⟩ := List.mem_map.mp hx; exact (w p hp).2.1
  have a2 := wts_le (n := 300) (xs := L.vs.map vU) fun x hx => by obtain ⟨p, hp, rfl⟩ := List.mem_map.mp hx; exact (v p hp).2.1
  have a3 := dps_le (n := 2) (xs := L.ws.map wU) fun x hx => by obtain ⟨p, hp, rfl⟩ := List.mem_map.mp hx; exact (w p hp).2.2
  have a4 := dps_le (n := 2) (xs := L.vs.map vU) fun x hx => by obtain ⟨p, hp, rfl⟩ := List.mem_map.mp hx; exact (v p hp).2.2
  rw [List.length_map] at a1 a2
  unfold Lore.u
  refine ⟨fun j => ?_, ?_, ?_⟩
  · simp only [U.ok, oks, Bool.and_eq_true, and_true]
    exact ⟨oks_iff.mpr fun x hx => by obtain ⟨p, hp, rfl⟩ := List.mem_map.mp hx; exact (w p hp).1 j, oks_iff.mpr fun x hx => by obtain ⟨p, hp, rfl⟩ := List.mem_map.mp hx; exact (v p hp).1 j⟩
  · simp only [U.wt, wts]; omega
  · simp only [U.dp, dps]; omega
theorem bls_repr (b : Bool) : uRepr [.lst [.bl b, .bl b]] = .ret (.str (U.lst [.bl b, .bl b]).sh) :=
  uRepr_data (by simp [U.ok, oks]) (by simp [U.wt, wts]) (by simp [U.dp, dps])
def RightV (F : List U → W U) : Prop := ∀ (L : Lore) (f : Str) (cs : List Tree), LoreOk L → (Tree.node f cs).Fine → szL cs ≤ 10000 → depL cs ≤ 50 → F [L.u, (Tree.node f cs).u] = .ret (.bl true)
theorem right24_V (hD : DueV (vc (Str.ofString "_law_due"))) (hI : IsOfV (vc (Str.ofString "is_of"))) : RightV (v_law_right_3 vc) := by
  intro L f cs hL hf hz hd
  obtain ⟨l1, l2, l3⟩ := lore_data hL
  have sm := fine_sm _ hf
  have s1 := sm.wt
  have s2 := sm.dp
  simp only [Tree.sz] at s1
  simp only [Tree.dep] at s2
  have r1 : uRepr ([(.tup ([L.u, (Tree.node f cs).u] : List U))] : List U) = .ret (.str (U.tup [L.u, (Tree.node f cs).u]).sh) :=
    uRepr_data (by simp only [U.ok, oks, Bool.and_eq_true, and_true]; exact ⟨l1 8, sm.ok 8⟩) (by simp only [U.wt, wts]; omega) (by simp only [U.dp, dps]; omega)
  unfold v_law_right_3
  dsimp only
  rw [r1, bind_ret, hD L f cs hL.f hf (by omega) (by omega), bind_ret, hI L f cs hL.n hf (by omega) (by omega), bind_ret]
  have e : pick [1, 0] (([] : List U) ++ ([(Tree.node f cs).u, L.u] : List U)) = [L.u, (Tree.node f cs).u] := rfl
  rw [e, hI L f cs hL.n hf (by omega) (by omega), bind_ret, bls_repr, bind_ret, bind_ret, uEq_ss, bind_ret, uTru_bl, bind_ret]
  have b1 : ∀ s : Str, ((s == s) != false) = true := fun s => by simp
  rw [b1, if_pos rfl, bind_ret, uEq_ss, bind_ret, b1]
  rfl
/-! ### drawn heads are of lore -/
mutual
theorem in_good : ∀ (ws : List (Str × Nat)) (hs : List Str) (t : Tree), t.In ws hs → goodT ws t = true
  | ws, hs, .hole s, _ => by simp [goodT]
  | ws, hs, .node f cs, hi => by
    simp only [Tree.In] at hi
    simp only [goodT, Bool.and_eq_true, decide_eq_true_eq]
    exact ⟨hi.1, inL_good ws hs cs hi.2⟩
theorem inL_good : ∀ (ws : List (Str × Nat)) (hs : List Str) (ts : List Tree), InL ws hs ts → goodL ws ts = true
  | _, _, [], _ => rfl
  | ws, hs, t :: ts, hi => by
    simp only [InL] at hi
    simp only [goodL, Bool.and_eq_true]
    exact ⟨in_good ws hs t hi.1, inL_good ws hs ts hi.2⟩
end
theorem head_good {L : Lore} {hs : List Str} {f : Str} {cs : List Tree} (hL : LoreOk L) (h : HeadOk L hs f cs) : badH L f cs = [] := by
  obtain ⟨q, hq, e1, e2⟩ := h.verb
  have vm : manyOf L.vm f = some cs.length := by
    have nd : (L.vm.map (·.1)).Nodup := by unfold Lore.vm; rw [List.map_map]; exact hL.vn
    rw [many_iff nd]
    unfold Lore.vm
    rw [List.map_map]
    exact List.mem_map.mpr ⟨q, hq, by show (q.1, q.2.1.length) = _; rw [e1, e2]⟩
  unfold badH
  rw [if_pos vm, List.nil_append]
  have := inL_good _ _ _ h.parts
  unfold Lore.wl at this
  rw [goodL_bad hL.wn] at this
  exact List.isEmpty_iff.mp this
theorem head_fine {L : Lore} {hs : List Str} {f : Str} {cs : List Tree} (hL : LoreOk L) (hh : ∀ s ∈ hs, NameOk s) (h : HeadOk L hs f cs) : (Tree.node f cs).Fine ∧ (Tree.node f cs).dep ≤ 4 ∧ (Tree.node f cs).sz ≤ 300 := by
  obtain ⟨q, hq, e1, e2⟩ := h.verb
  have hv := hL.vf q hq
  have fw : ∀ p ∈ L.wl, FullOk p.1 := fun p hp => by
    obtain ⟨w, hw, rfl⟩ := List.mem_map.mp hp
    exact (hL.wf w hw).1.1
  have hd := h.dep
  have hs1 := szL_le L.wl hs cs hL.ws h.parts
  have l3 : cs.length ≤ 3 := by rw [e2]; exact hv.2.1.2
  refine ⟨⟨by rw [← e1]; exact hv.1.1, inL_fine _ _ _ fw hh h.parts⟩, by simp only [Tree.dep]; omega, ?_⟩
  simp only [Tree.sz]
  have h64 : 4 ^ depL cs ≤ 64 := Nat.le_trans (Nat.pow_le_pow_right (by omega) hd) (by decide)
  have := Nat.mul_le_mul l3 h64
  omega
def HandOk (vc : CallV) (ns : List Int) : Prop := ∀ k : Nat, k ≤ 100 → vc (Str.ofString "_law_hand") [.scr ns, .int k] = .ret .hnd
theorem law24_V {ns : List Int} (hH : HandOk vc ns) (hT : TakeV (vc (Str.ofString "_law_take"))) (hLo : LoreV (vc (Str.ofString "_law_drawn_lore"))) (hHd : HeadV (vc (Str.ofString "_law_drawn_head"))) (hI : IsOfV (vc (Str.ofString "is_of"))) (hB : BentV (vc (Str.ofString "_law_bent")) 60) (hR : RightV (vc (Str.ofString "_law_right"))) :
    (v_law_2 vc [.scr ns]).Ok (fun u => u = .bl true) NoX := by
  unfold v_law_2
  simp only [uLen_scr, bind_ret]
  have e1 : uMin2 ([(.int 3), .int ns.length] : List U) = .ret (.int (if (ns.length : Int) < 3 then ns.length else 3)) := rfl
  rw [e1, bind_ret]
  have e2 : ∀ m : Int, uMax2 ([(.int 1), .int m] : List U) = .ret (.int (if m > 1 then m else 1)) := fun _ => rfl
  rw [e2, bind_ret]
  obtain ⟨m, hm, hm3⟩ : ∃ m : Nat, (if (if (ns.length : Int) < 3 then (ns.length : Int) else 3) > 1 then (if (ns.length : Int) < 3 then (ns.length : Int) else 3) else 1) = (m : Int) ∧ m ≤ 3 := by
    refine ⟨(if (if (ns.length : Int) < 3 then (ns.length : Int) else 3) > 1 then (if (ns.length : Int) < 3 then (ns.length : Int) else 3) else 1 : Int).toNat, ?_, ?_⟩ <;> split <;> split at * <;> omega
  rw [hm, uRng1_nat (by omega), bind_ret]
  refine wFor_all rfl fun x hx nx hn => ?_
  obtain ⟨k, hk, rfl⟩ := List.mem_map.mp hx
  have hk := List.mem_range.mp hk
  rw [hH k (by omega), bind_ret]
  refine W.Ok.bnd hLo fun u ⟨L, e, hL⟩ => ?_
  subst e
  have r3 : uRng1 ([(.int 3)] : List U) = .ret ((List.range 3).map fun i : Nat => .int i) := uRng1_nat (n := 3) (by omega)
  have r8 : uRng1 ([(.int 8)] : List U) = .ret ((List.range 8).map fun i : Nat => .int i) := uRng1_nat (n := 8) (by omega)
  rw [r3, bind_ret]
  refine wFor_all hn fun _ _ nx3 hn3 => ?_
  have t3 : vc (Str.ofString "_law_take") ([.hnd, .int 3] : List U) = wTk 3 := hT 3 (by omega) (by omega)
  rw [t3, ok_tk]
  intro i hi
  obtain ⟨hs, ix, hhs, hl⟩ : ∃ hs : List Str, uIx (.lst ([(.lst ([(.str (Str.ofString "x")), (.str (Str.ofString "y"))] : List U)), (.lst ([(.str (Str.ofString "x"))] : List U)), (.lst ([] : List U))] : List U)) (.int (i : Int)) = .ret (.lst (hs.map U.str)) ∧ (∀ s ∈ hs, NameOk s) ∧ hs.length ≤ 1000 := by
    have mk : ∀ hs : List Str, hs.all nameB = true → ∀ s ∈ hs, NameOk s := fun hs h s hs' => nameB_ok (List.all_eq_true.mp h s hs')
    rw [uIx_li, atI_ofNat]
    match i, hi with
    | 0, _ => exact ⟨[Str.ofString "x", Str.ofString "y"], rfl, mk _ (by decide +kernel), by simp⟩
    | 1, _ => exact ⟨[Str.ofString "x"], rfl, mk _ (by decide +kernel), by simp⟩
    | 2, _ => exact ⟨[], rfl, mk _ rfl, by simp⟩
  rw [ix, bind_ret]
  refine W.Ok.bnd (hHd L hs hL hhs hl) fun u ⟨f, cs, e, hh⟩ => ?_
  subst e
  obtain ⟨hf, hd, hz⟩ := head_fine hL hhs hh
  have hd' := hd
  have hz' := hz
  simp only [Tree.dep] at hd
  simp only [Tree.sz] at hz
  rw [hR L f cs hL hf (by omega) (by omega), bind_ret, uTru_bl, bind_ret, if_neg (by decide), hI L f cs hL.n hf (by omega) (by omega), bind_ret]
  have e0 : U.tup [(.tup ([] : List U)), (.tup ([] : List U))] = (Lore.mk [] []).u := rfl
  have n0 : LoreN (Lore.mk [] []) := ⟨by simp, by simp, by simp, by simp⟩
  rw [e0, hI (Lore.mk [] []) f cs n0 hf (by omega) (by omega), bind_ret, head_good hL hh]
  have e3 : (badH (Lore.mk [] []) f cs).isEmpty = false := rfl
  rw [e3]
  have e4 : uEq true (.lst ([(.bl true), (.bl false)] : List U)) (.lst ([(.bl true), (.bl false)] : List U)) = .ret (.bl false) := by
    rw [uEq_data (by simp [U.ok, oks]) (by simp [U.ok, oks]) (by simp [U.dp, dps]) (by simp [U.dp, dps])]
    simp [U.eqv, U.py, pys, PyData.eqv, PyData.eqvAll]
  have e5 : (.lst ([(.bl (([] : List Str).isEmpty)), (.bl false)] : List U)) = U.lst ([(.bl true), (.bl false)] : List U) := rfl
  rw [e5, e4, bind_ret, uBl_bl, bind_ret, bind_ret, if_neg (by decide), r8, bind_ret]
  refine wFor_all hn3 fun _ _ nx4 hn4 => ?_
  refine W.Ok.bnd (hB L (.node f cs) hL hf (by omega) (by omega)) fun u ⟨t1, e, b1⟩ => ?_
  subst e
  obtain ⟨f1, cs1, rfl⟩ := b1.node ⟨_, _, rfl⟩
  have z1 := b1.sz
  have d1 := b1.dep
  have z1' := z1
  have d1' := d1
  simp only [Tree.sz, Tree.dep] at z1 d1
  rw [hR L f1 cs1 hL b1.fine (by omega) (by omega), bind_ret, uTru_bl, bind_ret, if_neg (by decide), ok_bind]
  refine W.Ok.bnd (hB L (.node f1 cs1) hL b1.fine (by simp only [Tree.dep]; omega) (by simp only [Tree.sz]; omega)) fun u ⟨t2, e, b2⟩ => ?_
  subst e
  obtain ⟨f2, cs2, rfl⟩ := b2.node ⟨_, _, rfl⟩
  have z2 := b2.sz
  have d2 := b2.dep
  simp only [Tree.sz, Tree.dep] at z2 d2
  rw [hR L f2 cs2 hL b2.fine (by omega) (by omega), bind_ret, uTru_bl, bind_ret]
  show (if (!true) = true then W.ret (.bl false) else nx4 ()).Ok _ _
  rw [if_neg (by decide)]
  exact hn4
end
end V

namespace P
open PySem L2 G V
/-! _law_hand -/
def b_law_hand_1 (call : CallF) : G.SS :=
  (sSeq (sAsg (mIf (mBl (mBin opLt (mVar 1) (mCB bLen (aCons (mVar 0) aNil)))) (mBin opIx (mVar 0) (mVar 1)) (mC (.int 0))) (gNm 2))
  (sSeq (sAsg (mBin opMul (mBin opMod (mCB bAbs (aCons (mVar 2) aNil)) (mBin opMul (mBin opMul (mBin opPow (mC (.int 10)) (mC (.int 60))) (mBin opPow (mC (.int 10)) (mC (.int 60)))) (mBin opPow (mC (.int 10)) (mC (.int 60))))) (mCB bInt (aCons (mBin opGe (mCB bAbs (aCons (mVar 2) aNil)) (mBin opPow (mC (.int 10)) (mC (.int 18)))) aNil))) (gNm 3))
  (sRet (mLst (aCons (mVar 3) (aCons (mBin opMod (mBin opMul (mBin opAdd (mBin opAdd (mBin opMod (mVar 2) (mC (.int 2147483629))) (mBin opMul (mC (.int 7919)) (mVar 1))) (mC (.int 13))) (mC (.int 48271))) (mC (.int 2147483647))) (aCons (mC (.int 0)) aNil)))))))

abbrev v_law_hand_1 : CallV → List U → W U := vHand
theorem s_law_hand_1 {C : Nat} {call : CallF} {vc : CallV} (hC : 1 ≤ C) (hcall : CallS C call vc) : FnS (CF * C) (runF 4 (b_law_hand_1 call)) (v_law_hand_1 vc) := hand_S
end P

namespace P
open PySem L2 G V
/-! _law_take -/
def b_law_take_1 (call : CallF) : G.SS :=
  (sSeq (sIf (mBl (mBin opGt (mBin opIx (mVar 0) (mC (.int 0))) (mC (.int 0)))) (sSeq (sAsg (mBin opMod (mBin opIx (mVar 0) (mC (.int 0))) (mVar 1)) (gNm 4))
  (sSeq (sAsg (mBin opDiv (mBin opIx (mVar 0) (mC (.int 0))) (mVar 1)) (gSb (mVar 0) (mC (.int 0))))
  (sRet (mVar 4)))) sNx)
  (sSeq (sAsg (mBin opAdd (mBin opIx (mVar 0) (mC (.int 2))) (mC (.int 1))) (gSb (mVar 0) (mC (.int 2))))
  (sSeq (sAsg (mBin opIx (mLst (aCons (mC (.int 2147483647)) (aCons (mC (.int 2147483629)) (aCons (mC (.int 2147483587)) (aCons (mC (.int 2147483579)) (aCons (mC (.int 2147483563)) aNil)))))) (mBin opMod (mBin opIx (mVar 0) (mC (.int 2))) (mC (.int 5)))) (gNm 2))
  (sSeq (sAsg (mBin opMod (mBin opPow (mBin opAdd (mBin opIx (mVar 0) (mC (.int 1))) (mBin opMul (mC (.int 7919)) (mBin opIx (mVar 0) (mC (.int 2))))) (mC (.int 3))) (mVar 2)) (gNm 3))
  (sRet (mBin opMod (mBin opDiv (mBin opMod (mBin opMul (mVar 3) (mBin opAdd (mBin opMod (mVar 3) (mC (.int 1009))) (mBin opIx (mVar 0) (mC (.int 2))))) (mVar 2)) (mC (.int 11))) (mVar 1)))))))

abbrev v_law_take_1 : CallV → List U → W U := vTake
theorem s_law_take_1 {C : Nat} {call : CallF} {vc : CallV} (hC : 1 ≤ C) (hcall : CallS C call vc) : FnS (CF * C) (runF 5 (b_law_take_1 call)) (v_law_take_1 vc) := take_S hC
end P

namespace L
open PySem L2 G V P
/-- how deep calls may go -/
def LV : Nat := 200
def top (i : Nat) : Stmt := PySem.Challenge.pw_aheadofholes_k24_heads_of_a_lore.main.body.getD i (.Pass ⟨0, 0, 0, 0⟩)

def d_orders_of : DefE := ⟨(Str.ofString "orders_of"), top 1, [(Str.ofString "some"), (Str.ofString "one")], [(Str.ofString "some")], [], b_orders_of_1⟩

def d_undue_within : DefE := ⟨(Str.ofString "undue_within"), top 2, [(Str.ofString "orders"), (Str.ofString "trees"), (Str.ofString "found"), (Str.ofString "tree")], [(Str.ofString "orders"), (Str.ofString "trees")], [], b_undue_within_1⟩

def d_undue : DefE := ⟨(Str.ofString "undue"), top 3, [(Str.ofString "lore"), (Str.ofString "head"), (Str.ofString "verbs"), (Str.ofString "own")], [(Str.ofString "lore"), (Str.ofString "head")], [], b_undue_1⟩

def d_is_of : DefE := ⟨(Str.ofString "is_of"), top 4, [(Str.ofString "lore"), (Str.ofString "head")], [(Str.ofString "lore"), (Str.ofString "head")], [(0, [(Str.ofString "head"), (Str.ofString "lore")], [1, 0])], b_is_of_1⟩

def d__law_hand : DefE := ⟨(Str.ofString "_law_hand"), top 6, [(Str.ofString "script"), (Str.ofString "k"), (Str.ofString "cell"), (Str.ofString "great")], [(Str.ofString "script"), (Str.ofString "k")], [], b_law_hand_1⟩

def d__law_take : DefE := ⟨(Str.ofString "_law_take"), top 7, [(Str.ofString "hand"), (Str.ofString "many"), (Str.ofString "prime"), (Str.ofString "drawn"), (Str.ofString "digit")], [(Str.ofString "hand"), (Str.ofString "many")], [], b_law_take_1⟩

def d__law_of : DefE := ⟨(Str.ofString "_law_of"), top 8, [(Str.ofString "hand"), (Str.ofString "some")], [(Str.ofString "hand"), (Str.ofString "some")], [], b_law_of_1⟩

def d__law_drawn_order : DefE := ⟨(Str.ofString "_law_drawn_order"), top 9, [(Str.ofString "hand"), (Str.ofString "most"), (Str.ofString "left"), (Str.ofString "found")], [(Str.ofString "hand"), (Str.ofString "most")], [], b_law_drawn_order_1⟩

def d__law_drawn_lore : DefE := ⟨(Str.ofString "_law_drawn_lore"), top 10, [(Str.ofString "hand"), (Str.ofString "k"), (Str.ofString "lines"), (Str.ofString "words"), (Str.ofString "verbs"), (Str.ofString "name")], [(Str.ofString "hand")], [], b_law_drawn_lore_1⟩

def d__law_tree : DefE := ⟨(Str.ofString "_law_tree"), top 11, [(Str.ofString "hand"), (Str.ofString "names"), (Str.ofString "holes"), (Str.ofString "deep"), (Str.ofString "name"), (Str.ofString "many"), (Str.ofString "one"), (Str.ofString "k")], [(Str.ofString "hand"), (Str.ofString "names"), (Str.ofString "holes"), (Str.ofString "deep")], [], b_law_tree_1⟩

def d__law_drawn_head : DefE := ⟨(Str.ofString "_law_drawn_head"), top 12, [(Str.ofString "hand"), (Str.ofString "known"), (Str.ofString "holes"), (Str.ofString "words"), (Str.ofString "name"), (Str.ofString "order"), (Str.ofString "way"), (Str.ofString "word"), (Str.ofString "numbers"), (Str.ofString "piece")], [(Str.ofString "hand"), (Str.ofString "known"), (Str.ofString "holes")], [], b_law_drawn_head_1⟩

def d__law_due : DefE := ⟨(Str.ofString "_law_due"), top 13, [(Str.ofString "known"), (Str.ofString "whole"), (Str.ofString "words"), (Str.ofString "waiting"), (Str.ofString "tree"), (Str.ofString "name"), (Str.ofString "order"), (Str.ofString "way")], [(Str.ofString "known"), (Str.ofString "whole")], [], b_law_due_2⟩

def d__law_bent : DefE := ⟨(Str.ofString "_law_bent"), top 14, [(Str.ofString "hand"), (Str.ofString "known"), (Str.ofString "tree"), (Str.ofString "names"), (Str.ofString "way"), (Str.ofString "at"), (Str.ofString "one")], [(Str.ofString "hand"), (Str.ofString "known"), (Str.ofString "tree")], [], b_law_bent_1⟩

def d__law_right : DefE := ⟨(Str.ofString "_law_right"), top 15, [(Str.ofString "known"), (Str.ofString "whole"), (Str.ofString "told"), (Str.ofString "kept"), (Str.ofString "due")], [(Str.ofString "known"), (Str.ofString "whole")], [], b_law_right_3⟩

def d_law : DefE := ⟨(Str.ofString "law"), top 16, [(Str.ofString "script"), (Str.ofString "k"), (Str.ofString "hand"), (Str.ofString "known"), (Str.ofString "turn"), (Str.ofString "whole"), (Str.ofString "more"), (Str.ofString "bent")], [(Str.ofString "script")], [], b_law_2⟩

def T : List DefE := [d_orders_of, d_undue_within, d_undue, d_is_of, d__law_hand, d__law_take, d__law_of, d__law_drawn_order, d__law_drawn_lore, d__law_tree, d__law_drawn_head, d__law_due, d__law_bent, d__law_right, d_law]

def TV : List (Str × DefV) := [((Str.ofString "orders_of"), v_orders_of_1), ((Str.ofString "undue_within"), v_undue_within_1), ((Str.ofString "undue"), v_undue_1), ((Str.ofString "is_of"), v_is_of_1), ((Str.ofString "_law_hand"), v_law_hand_1), ((Str.ofString "_law_take"), v_law_take_1), ((Str.ofString "_law_of"), v_law_of_1), ((Str.ofString "_law_drawn_order"), v_law_drawn_order_1), ((Str.ofString "_law_drawn_lore"), v_law_drawn_lore_1), ((Str.ofString "_law_tree"), v_law_tree_1), ((Str.ofString "_law_drawn_head"), v_law_drawn_head_1), ((Str.ofString "_law_due"), v_law_due_2), ((Str.ofString "_law_bent"), v_law_bent_1), ((Str.ofString "_law_right"), v_law_right_3), ((Str.ofString "law"), v_law_2)]

theorem tabs : Tabs T TV := (.cons (d := d_orders_of) (fun C call vc hC hcall => s_orders_of_1 hC hcall) (.cons (d := d_undue_within) (fun C call vc hC hcall => s_undue_within_1 hC hcall) (.cons (d := d_undue) (fun C call vc hC hcall => s_undue_1 hC hcall) (.cons (d := d_is_of) (fun C call vc hC hcall => s_is_of_1 hC hcall) (.cons (d := d__law_hand) (fun C call vc hC hcall => s_law_hand_1 hC hcall) (.cons (d := d__law_take) (fun C call vc hC hcall => s_law_take_1 hC hcall) (.cons (d := d__law_of) (fun C call vc hC hcall => s_law_of_1 hC hcall) (.cons (d := d__law_drawn_order) (fun C call vc hC hcall => s_law_drawn_order_1 hC hcall) (.cons (d := d__law_drawn_lore) (fun C call vc hC hcall => s_law_drawn_lore_1 hC hcall) (.cons (d := d__law_tree) (fun C call vc hC hcall => s_law_tree_1 hC hcall) (.cons (d := d__law_drawn_head) (fun C call vc hC hcall => s_law_drawn_head_1 hC hcall) (.cons (d := d__law_due) (fun C call vc hC hcall => s_law_due_2 hC hcall) (.cons (d := d__law_bent) (fun C call vc hC hcall => s_law_bent_1 hC hcall) (.cons (d := d__law_right) (fun C call vc hC hcall => s_law_right_3 hC hcall) (.cons (d := d_law) (fun C call vc hC hcall => s_law_2 hC hcall) .nil)))))))))))))))

def blt : List Str := [(Str.ofString "isinstance"), (Str.ofString "tuple"), (Str.ofString "len"), (Str.ofString "abs"), (Str.ofString "int"), (Str.ofString "list"), (Str.ofString "range"), (Str.ofString "sorted"), (Str.ofString "str"), (Str.ofString "max"), (Str.ofString "repr"), (Str.ofString "min")]

def cons : List (Str × D) := []

theorem r_orders_of : Reads1 (fnsOf T) cons blt d_orders_of := ⟨by kernel_rfl, 60, fun k call => by kernel_rfl⟩

theorem r_undue_within : Reads1 (fnsOf T) cons blt d_undue_within := ⟨by kernel_rfl, 60, fun k call => by kernel_rfl⟩

theorem r_undue : Reads1 (fnsOf T) cons blt d_undue := ⟨by kernel_rfl, 60, fun k call => by kernel_rfl⟩

theorem r_is_of : Reads1 (fnsOf T) cons blt d_is_of := ⟨by kernel_rfl, 60, fun k call => by kernel_rfl⟩

theorem r__law_hand : Reads1 (fnsOf T) cons blt d__law_hand := ⟨by kernel_rfl, 60, fun k call => by kernel_rfl⟩

theorem r__law_take : Reads1 (fnsOf T) cons blt d__law_take := ⟨by kernel_rfl, 60, fun k call => by kernel_rfl⟩

theorem r__law_of : Reads1 (fnsOf T) cons blt d__law_of := ⟨by kernel_rfl, 60, fun k call => by kernel_rfl⟩

theorem r__law_drawn_order : Reads1 (fnsOf T) cons blt d__law_drawn_order := ⟨by kernel_rfl, 60, fun k call => by kernel_rfl⟩

theorem r__law_drawn_lore : Reads1 (fnsOf T) cons blt d__law_drawn_lore := ⟨by kernel_rfl, 60, fun k call => by kernel_rfl⟩

theorem r__law_tree : Reads1 (fnsOf T) cons blt d__law_tree := ⟨by kernel_rfl, 60, fun k call => by kernel_rfl⟩

theorem r__law_drawn_head : Reads1 (fnsOf T) cons blt d__law_drawn_head := ⟨by kernel_rfl, 60, fun k call => by kernel_rfl⟩

theorem r__law_due : Reads1 (fnsOf T) cons blt d__law_due := ⟨by kernel_rfl, 60, fun k call => by kernel_rfl⟩

theorem r__law_bent : Reads1 (fnsOf T) cons blt d__law_bent := ⟨by kernel_rfl, 60, fun k call => by kernel_rfl⟩

theorem r__law_right : Reads1 (fnsOf T) cons blt d__law_right := ⟨by kernel_rfl, 60, fun k call => by kernel_rfl⟩

theorem r_law : Reads1 (fnsOf T) cons blt d_law := ⟨by kernel_rfl, 60, fun k call => by kernel_rfl⟩

theorem R_orders_of (n : Nat) : vT TV (n + 1) (Str.ofString "orders_of") = v_orders_of_1 (vT TV n) := by kernel_rfl

theorem R_undue_within (n : Nat) : vT TV (n + 1) (Str.ofString "undue_within") = v_undue_within_1 (vT TV n) := by kernel_rfl

theorem R_undue (n : Nat) : vT TV (n + 1) (Str.ofString "undue") = v_undue_1 (vT TV n) := by kernel_rfl

theorem R_is_of (n : Nat) : vT TV (n + 1) (Str.ofString "is_of") = v_is_of_1 (vT TV n) := by kernel_rfl

theorem R_law_hand (n : Nat) : vT TV (n + 1) (Str.ofString "_law_hand") = v_law_hand_1 (vT TV n) := by kernel_rfl

theorem R_law_take (n : Nat) : vT TV (n + 1) (Str.ofString "_law_take") = v_law_take_1 (vT TV n) := by kernel_rfl

theorem R_law_of (n : Nat) : vT TV (n + 1) (Str.ofString "_law_of") = v_law_of_1 (vT TV n) := by kernel_rfl

theorem R_law_drawn_order (n : Nat) : vT TV (n + 1) (Str.ofString "_law_drawn_order") = v_law_drawn_order_1 (vT TV n) := by kernel_rfl

theorem R_law_drawn_lore (n : Nat) : vT TV (n + 1) (Str.ofString "_law_drawn_lore") = v_law_drawn_lore_1 (vT TV n) := by kernel_rfl

theorem R_law_tree (n : Nat) : vT TV (n + 1) (Str.ofString "_law_tree") = v_law_tree_1 (vT TV n) := by kernel_rfl

theorem R_law_drawn_head (n : Nat) : vT TV (n + 1) (Str.ofString "_law_drawn_head") = v_law_drawn_head_1 (vT TV n) := by kernel_rfl

theorem R_law_due (n : Nat) : vT TV (n + 1) (Str.ofString "_law_due") = v_law_due_2 (vT TV n) := by kernel_rfl

theorem R_law_bent (n : Nat) : vT TV (n + 1) (Str.ofString "_law_bent") = v_law_bent_1 (vT TV n) := by kernel_rfl

theorem R_law_right (n : Nat) : vT TV (n + 1) (Str.ofString "_law_right") = v_law_right_3 (vT TV n) := by kernel_rfl

theorem R_law (n : Nat) : vT TV (n + 1) (Str.ofString "law") = v_law_2 (vT TV n) := by kernel_rfl

theorem V_take (n : Nat) : TakeV (vT TV (n + 1) (Str.ofString "_law_take")) := by rw [R_law_take]; exact take_V
theorem V_of (n : Nat) : OfV (vT TV (n + 2) (Str.ofString "_law_of")) := by rw [R_law_of]; exact of_V (V_take n)
theorem V_tree : ∀ (deep n : Nat), TreeV (vT TV (n + deep + 3) (Str.ofString "_law_tree")) deep
  | 0, n => by rw [R_law_tree]; exact tree_V (V_take _) (V_of n) 0 fun d z => by omega
  | deep + 1, n => by
    have e : n + (deep + 1) + 3 = (n + deep + 3) + 1 := by omega
    rw [e, R_law_tree]
    refine tree_V (V_take _) (V_of (n + deep + 1)) _ fun d z => ?_
    have e2 : d = deep := by omega
    subst e2
    exact V_tree d n
theorem V_tree' {deep m : Nat} (h : deep + 3 ≤ m) : TreeV (vT TV m (Str.ofString "_law_tree")) deep := by
  obtain ⟨n, rfl⟩ : ∃ n, m = n + deep + 3 := ⟨m - deep - 3, by omega⟩
  exact V_tree deep n
theorem V_order (n : Nat) : OrdV (vT TV (n + 2) (Str.ofString "_law_drawn_order")) := by rw [R_law_drawn_order]; exact order_V (V_take n)
theorem V_lore (n : Nat) : LoreV (vT TV (n + 3) (Str.ofString "_law_drawn_lore")) := by rw [R_law_drawn_lore]; exact lore_V (V_take (n + 1)) (V_of n) (V_order n)
theorem V_head (n : Nat) : HeadV (vT TV (n + 6) (Str.ofString "_law_drawn_head")) := by rw [R_law_drawn_head]; exact head_V (V_take _) (V_of _) fun d hd => V_tree' (by omega)
theorem V_orders (n : Nat) : OrdersV (vT TV (n + 1) (Str.ofString "orders_of")) := by rw [R_orders_of]; exact orders_V
theorem V_undueW (ks : List (Str × List Nat)) : ∀ (m : Nat) (ts : List V.Tree), V.depL ts + 1 ≤ m → V.szL ts ≤ 1000000 → UndueV (vT TV m (Str.ofString "undue_within")) ks ts
  | 0, ts, h, _ => by omega
  | m + 1, ts, h, hz => by
    rw [R_undue_within]
    refine undueW_V hz fun f cs hc => ?_
    have d := V.dep_mem hc
    have z := V.sz_mem hc
    simp only [V.Tree.dep] at d
    simp only [V.Tree.sz] at z
    exact V_undueW ks m cs (by omega) (by omega)
theorem V_isOf (n : Nat) : IsOfV (vT TV (n + 70) (Str.ofString "is_of")) := by
  show IsOfV (vT TV (n + 69 + 1) (Str.ofString "is_of"))
  rw [R_is_of]
  refine isOf_V fun L f cs hL hz hd => ?_
  show vT TV (n + 68 + 1) (Str.ofString "undue") _ = _
  rw [R_undue]
  exact undue_V hL hz (V_orders _) (V_undueW _ _ _ (by omega) hz)
theorem V_due (n : Nat) : DueV (vT TV (n + 1) (Str.ofString "_law_due")) := by rw [R_law_due]; exact due_V
theorem V_bent : ∀ (D n : Nat), BentV (vT TV (n + D + 3) (Str.ofString "_law_bent")) D
  | 0, n => by rw [R_law_bent]; exact bent_V (V_take _) (V_of n) fun d z => by omega
  | D + 1, n => by
    have e : n + (D + 1) + 3 = (n + D + 3) + 1 := by omega
    rw [e, R_law_bent]
    refine bent_V (V_take _) (V_of (n + D + 1)) fun d z => ?_
    have e2 : d = D := by omega
    subst e2
    exact V_bent d n
theorem law_ok (ns : List Int) : (vT TV LV (Str.ofString "law") [.scr ns]).Ok (fun u => u = .bl true) NoX := by
  show (vT TV (199 + 1) (Str.ofString "law") [.scr ns]).Ok _ _
  rw [R_law]
  refine law24_V (fun k hk => ?_) (V_take 198) (V_lore 196) (V_head 193) (V_isOf 129) (V_bent 60 136) ?_
  · show vT TV (198 + 1) (Str.ofString "_law_hand") _ = _
    rw [R_law_hand]
    exact hand_V hk
  · show RightV (vT TV (198 + 1) (Str.ofString "_law_right"))
    rw [R_law_right]
    exact right24_V (V_due 197) (V_isOf 128)

theorem law_runs : ∀ ns : List Int, ns.length ≤ 63 → (∀ z ∈ ns, Builtin.Int.intBits z ≤ 1048576) → ∃ st, runT T LV (Str.ofString "law") [.rol (ns.map D.int)] [] = .ok (.bl true) st := fun ns hl _ => law_of tabs LV (by decide) ns hl (law_ok ns)
theorem all_mk {P : Program} {w : World} {K : PySem.W.Frag} {h : Heap} {mg : Str → Option Value} {fa : Addr} (X : K.In h) (G : h.Ns mainGlobals mg) (hfa : mg "law" = some (.ref fa)) {f1 f2 f3 f4 f5 f6 f7 f8 f9 f10 f11 f12 f13 f14 f15 : Addr}
    {od1 od2 od3 od4 od5 od6 od7 od8 od9 od10 od11 od12 od13 od14 od15 an1 an2 an3 an4 an5 an6 an7 an8 an9 an10 an11 an12 an13 an14 an15 : Option Addr} {sl1 sl2 sl3 sl4 sl5 sl6 sl7 sl8 sl9 sl10 sl11 sl12 sl13 sl14 sl15 : Array (Option Value)} {oc1 oc2 oc3 oc4 oc5 oc6 oc7 oc8 oc9 oc10 oc11 oc12 oc13 oc14 oc15 kV1 kV2 kV3 kV4 kV5 kV6 kV7 kV8 kV9 kV10 kV11 kV12 kV13 kV14 kV15 dc1 dc2 dc3 dc4 dc5 dc6 dc7 dc8 dc9 dc10 dc11 dc12 dc13 dc14 dc15 pm1 pm2 pm3 pm4 pm5 pm6 pm7 pm8 pm9 pm10 pm11 pm12 pm13 pm14 pm15 cd1 cd2 cd3 cd4 cd5 cd6 cd7 cd8 cd9 cd10 cd11 cd12 cd13 cd14 cd15 ct1 ct2 ct3 ct4 ct5 ct6 ct7 ct8 ct9 ct10 ct11 ct12 ct13 ct14 ct15 : Value}
    (a1 : PySem.W.nsIn K mainGlobals (Str.ofString "orders_of") = some (some (.ref f1))) (l1 : K.lookup f1 = some ⟨oc1, od1, .func (PySem.W.fnOf (Str.ofString "orders_of") (Str.ofString "orders_of") (defArgs (top 1)) (defBody (top 1)) (defScope (top 1)) .none kV1 dc1 pm1 an1 cd1 ct1), sl1⟩) (c1 : PySem.W.codeIn K cd1 (Str.ofString "orders_of") = true) (k1 : PySem.W.keepIn K (.ref f1) = true)
    (a2 : PySem.W.nsIn K mainGlobals (Str.ofString "undue_within") = some (some (.ref f2))) (l2 : K.lookup f2 = some ⟨oc2, od2, .func (PySem.W.fnOf (Str.ofString "undue_within") (Str.ofString "undue_within") (defArgs (top 2)) (defBody (top 2)) (defScope (top 2)) .none kV2 dc2 pm2 an2 cd2 ct2), sl2⟩) (c2 : PySem.W.codeIn K cd2 (Str.ofString "undue_within") = true) (k2 : PySem.W.keepIn K (.ref f2) = true)
    (a3 : PySem.W.nsIn K mainGlobals (Str.ofString "undue") = some (some (.ref f3))) (l3 : K.lookup f3 = some ⟨oc3, od3, .func (PySem.W.fnOf (Str.ofString "undue") (Str.ofString "undue") (defArgs (top 3)) (defBody (top 3)) (defScope (top 3)) .none kV3 dc3 pm3 an3 cd3 ct3), sl3⟩) (c3 : PySem.W.codeIn K cd3 (Str.ofString "undue") = true) (k3 : PySem.W.keepIn K (.ref f3) = true)
    (a4 : PySem.W.nsIn K mainGlobals (Str.ofString "is_of") = some (some (.ref f4))) (l4 : K.lookup f4 = some ⟨oc4, od4, .func (PySem.W.fnOf (Str.ofString "is_of") (Str.ofString "is_of") (defArgs (top 4)) (defBody (top 4)) (defScope (top 4)) .none kV4 dc4 pm4 an4 cd4 ct4), sl4⟩) (c4 : PySem.W.codeIn K cd4 (Str.ofString "is_of") = true) (k4 : PySem.W.keepIn K (.ref f4) = true)
    (a5 : PySem.W.nsIn K mainGlobals (Str.ofString "_law_hand") = some (some (.ref f5))) (l5 : K.lookup f5 = some ⟨oc5, od5, .func (PySem.W.fnOf (Str.ofString "_law_hand") (Str.ofString "_law_hand") (defArgs (top 6)) (defBody (top 6)) (defScope (top 6)) .none kV5 dc5 pm5 an5 cd5 ct5), sl5⟩) (c5 : PySem.W.codeIn K cd5 (Str.ofString "_law_hand") = true) (k5 : PySem.W.keepIn K (.ref f5) = true)
    (a6 : PySem.W.nsIn K mainGlobals (Str.ofString "_law_take") = some (some (.ref f6))) (l6 : K.lookup f6 = some ⟨oc6, od6, .func (PySem.W.fnOf (Str.ofString "_law_take") (Str.ofString "_law_take") (defArgs (top 7)) (defBody (top 7)) (defScope (top 7)) .none kV6 dc6 pm6 an6 cd6 ct6), sl6⟩) (c6 : PySem.W.codeIn K cd6 (Str.ofString "_law_take") = true) (k6 : PySem.W.keepIn K (.ref f6) = true)
    (a7 : PySem.W.nsIn K mainGlobals (Str.ofString "_law_of") = some (some (.ref f7))) (l7 : K.lookup f7 = some ⟨oc7, od7, .func (PySem.W.fnOf (Str.ofString "_law_of") (Str.ofString "_law_of") (defArgs (top 8)) (defBody (top 8)) (defScope (top 8)) .none kV7 dc7 pm7 an7 cd7 ct7), sl7⟩) (c7 : PySem.W.codeIn K cd7 (Str.ofString "_law_of") = true) (k7 : PySem.W.keepIn K (.ref f7) = true)
    (a8 : PySem.W.nsIn K mainGlobals (Str.ofString "_law_drawn_order") = some (some (.ref f8))) (l8 : K.lookup f8 = some ⟨oc8, od8, .func (PySem.W.fnOf (Str.ofString "_law_drawn_order") (Str.ofString "_law_drawn_order") (defArgs (top 9)) (defBody (top 9)) (defScope (top 9)) .none kV8 dc8 pm8 an8 cd8 ct8), sl8⟩) (c8 : PySem.W.codeIn K cd8 (Str.ofString "_law_drawn_order") = true) (k8 : PySem.W.keepIn K (.ref f8) = true)
    (a9 : PySem.W.nsIn K mainGlobals (Str.ofString "_law_drawn_lore") = some (some (.ref f9))) (l9 : K.lookup f9 = some ⟨oc9, od9, .func (PySem.W.fnOf (Str.ofString "_law_drawn_lore") (Str.ofString "_law_drawn_lore") (defArgs (top 10)) (defBody (top 10)) (defScope (top 10)) .none kV9 dc9 pm9 an9 cd9 ct9), sl9⟩) (c9 : PySem.W.codeIn K cd9 (Str.ofString "_law_drawn_lore") = true) (k9 : PySem.W.keepIn K (.ref f9) = true)
    (a10 : PySem.W.nsIn K mainGlobals (Str.ofString "_law_tree") = some (some (.ref f10))) (l10 : K.lookup f10 = some ⟨oc10, od10, .func (PySem.W.fnOf (Str.ofString "_law_tree") (Str.ofString "_law_tree") (defArgs (top 11)) (defBody (top 11)) (defScope (top 11)) .none kV10 dc10 pm10 an10 cd10 ct10), sl10⟩) (c10 : PySem.W.codeIn K cd10 (Str.ofString "_law_tree") = true) (k10 : PySem.W.keepIn K (.ref f10) = true)
    (a11 : PySem.W.nsIn K mainGlobals (Str.ofString "_law_drawn_head") = some (some (.ref f11))) (l11 : K.lookup f11 = some ⟨oc11, od11, .func (PySem.W.fnOf (Str.ofString "_law_drawn_head") (Str.ofString "_law_drawn_head") (defArgs (top 12)) (defBody (top 12)) (defScope (top 12)) .none kV11 dc11 pm11 an11 cd11 ct11), sl11⟩) (c11 : PySem.W.codeIn K cd11 (Str.ofString "_law_drawn_head") = true) (k11 : PySem.W.keepIn K (.ref f11) = true)
    (a12 : PySem.W.nsIn K mainGlobals (Str.ofString "_law_due") = some (some (.ref f12))) (l12 : K.lookup f12 = some ⟨oc12, od12, .func (PySem.W.fnOf (Str.ofString "_law_due") (Str.ofString "_law_due") (defArgs (top 13)) (defBody (top 13)) (defScope (top 13)) .none kV12 dc12 pm12 an12 cd12 ct12), sl12⟩) (c12 : PySem.W.codeIn K cd12 (Str.ofString "_law_due") = true) (k12 : PySem.W.keepIn K (.ref f12) = true)
    (a13 : PySem.W.nsIn K mainGlobals (Str.ofString "_law_bent") = some (some (.ref f13))) (l13 : K.lookup f13 = some ⟨oc13, od13, .func (PySem.W.fnOf (Str.ofString "_law_bent") (Str.ofString "_law_bent") (defArgs (top 14)) (defBody (top 14)) (defScope (top 14)) .none kV13 dc13 pm13 an13 cd13 ct13), sl13⟩) (c13 : PySem.W.codeIn K cd13 (Str.ofString "_law_bent") = true) (k13 : PySem.W.keepIn K (.ref f13) = true)
    (a14 : PySem.W.nsIn K mainGlobals (Str.ofString "_law_right") = some (some (.ref f14))) (l14 : K.lookup f14 = some ⟨oc14, od14, .func (PySem.W.fnOf (Str.ofString "_law_right") (Str.ofString "_law_right") (defArgs (top 15)) (defBody (top 15)) (defScope (top 15)) .none kV14 dc14 pm14 an14 cd14 ct14), sl14⟩) (c14 : PySem.W.codeIn K cd14 (Str.ofString "_law_right") = true) (k14 : PySem.W.keepIn K (.ref f14) = true)
    (a15 : PySem.W.nsIn K mainGlobals (Str.ofString "law") = some (some (.ref f15))) (l15 : K.lookup f15 = some ⟨oc15, od15, .func (PySem.W.fnOf (Str.ofString "law") (Str.ofString "law") (defArgs (top 16)) (defBody (top 16)) (defScope (top 16)) .none kV15 dc15 pm15 an15 cd15 ct15), sl15⟩) (c15 : PySem.W.codeIn K cd15 (Str.ofString "law") = true) (k15 : PySem.W.keepIn K (.ref f15) = true)
    (z1 : PySem.W.nsIn K mainGlobals (Str.ofString "isinstance") = some none)
    (z2 : PySem.W.nsIn K mainGlobals (Str.ofString "tuple") = some none)
    (z3 : PySem.W.nsIn K mainGlobals (Str.ofString "len") = some none)
    (z4 : PySem.W.nsIn K mainGlobals (Str.ofString "abs") = some none)
    (z5 : PySem.W.nsIn K mainGlobals (Str.ofString "int") = some none)
    (z6 : PySem.W.nsIn K mainGlobals (Str.ofString "list") = some none)
    (z7 : PySem.W.nsIn K mainGlobals (Str.ofString "range") = some none)
    (z8 : PySem.W.nsIn K mainGlobals (Str.ofString "sorted") = some none)
    (z9 : PySem.W.nsIn K mainGlobals (Str.ofString "str") = some none)
    (z10 : PySem.W.nsIn K mainGlobals (Str.ofString "max") = some none)
    (z11 : PySem.W.nsIn K mainGlobals (Str.ofString "repr") = some none)
    (z12 : PySem.W.nsIn K mainGlobals (Str.ofString "min") = some none) :
    ∀ base : Heap, K.In base → base.Ns mainGlobals mg → ∃ fd, FnG P w K mg base LV fa fd ["script"] (spG K mg 1 (runT T LV "law")) ∧ Binds K fd ["script"] [] := by
  have F1 := fun_mk (st := top 1) l1 c1 k1
  have F2 := fun_mk (st := top 2) l2 c2 k2
  have F3 := fun_mk (st := top 3) l3 c3 k3
  have F4 := fun_mk (st := top 4) l4 c4 k4
  have F5 := fun_mk (st := top 6) l5 c5 k5
  have F6 := fun_mk (st := top 7) l6 c6 k6
  have F7 := fun_mk (st := top 8) l7 c7 k7
  have F8 := fun_mk (st := top 9) l8 c8 k8
  have F9 := fun_mk (st := top 10) l9 c9 k9
  have F10 := fun_mk (st := top 11) l10 c10 k10
  have F11 := fun_mk (st := top 12) l11 c11 k11
  have F12 := fun_mk (st := top 13) l12 c12 k12
  have F13 := fun_mk (st := top 14) l13 c13 k13
  have F14 := fun_mk (st := top 15) l14 c14 k14
  have F15 := fun_mk (st := top 16) l15 c15 k15
  have q1 : Fact K mg d_orders_of := ⟨⟨f1, _, F1, PySem.W.mg_of X G a1, F1.binds (ps := [(Str.ofString "some")]) (fun _ _ _ _ _ _ us hl => match us, hl with | [_], _ => rfl), fun _ _ _ h => (nomatch h)⟩⟩
  have q2 : Fact K mg d_undue_within := ⟨⟨f2, _, F2, PySem.W.mg_of X G a2, F2.binds (ps := [(Str.ofString "orders"), (Str.ofString "trees")]) (fun _ _ _ _ _ _ us hl => match us, hl with | [_, _], _ => rfl), fun _ _ _ h => (nomatch h)⟩⟩
  have q3 : Fact K mg d_undue := ⟨⟨f3, _, F3, PySem.W.mg_of X G a3, F3.binds (ps := [(Str.ofString "lore"), (Str.ofString "head")]) (fun _ _ _ _ _ _ us hl => match us, hl with | [_, _], _ => rfl), fun _ _ _ h => (nomatch h)⟩⟩
  have q4 : Fact K mg d_is_of := ⟨⟨f4, _, F4, PySem.W.mg_of X G a4, F4.binds (ps := [(Str.ofString "lore"), (Str.ofString "head")]) (fun _ _ _ _ _ _ us hl => match us, hl with | [_, _], _ => rfl), fun n ks perm h => by
      simp only [d_is_of, List.mem_cons, Prod.mk.injEq, List.not_mem_nil, or_false] at h
      rcases h with ⟨rfl, rfl, rfl⟩
      · exact ⟨rfl, bindP_of F4 fun _ _ _ _ _ _ us ws h1 h2 => match us, ws, h1, h2 with | [], [_, _], _, _ => rfl⟩
⟩⟩
  have q5 : Fact K mg d__law_hand := ⟨⟨f5, _, F5, PySem.W.mg_of X G a5, F5.binds (ps := [(Str.ofString "script"), (Str.ofString "k")]) (fun _ _ _ _ _ _ us hl => match us, hl with | [_, _], _ => rfl), fun _ _ _ h => (nomatch h)⟩⟩
  have q6 : Fact K mg d__law_take := ⟨⟨f6, _, F6, PySem.W.mg_of X G a6, F6.binds (ps := [(Str.ofString "hand"), (Str.ofString "many")]) (fun _ _ _ _ _ _ us hl => match us, hl with | [_, _], _ => rfl), fun _ _ _ h => (nomatch h)⟩⟩
  have q7 : Fact K mg d__law_of := ⟨⟨f7, _, F7, PySem.W.mg_of X G a7, F7.binds (ps := [(Str.ofString "hand"), (Str.ofString "some")]) (fun _ _ _ _ _ _ us hl => match us, hl with | [_, _], _ => rfl), fun _ _ _ h => (nomatch h)⟩⟩
  have q8 : Fact K mg d__law_drawn_order := ⟨⟨f8, _, F8, PySem.W.mg_of X G a8, F8.binds (ps := [(Str.ofString "hand"), (Str.ofString "most")]) (fun _ _ _ _ _ _ us hl => match us, hl with | [_, _], _ => rfl), fun _ _ _ h => (nomatch h)⟩⟩
  have q9 : Fact K mg d__law_drawn_lore := ⟨⟨f9, _, F9, PySem.W.mg_of X G a9, F9.binds (ps := [(Str.ofString "hand")]) (fun _ _ _ _ _ _ us hl => match us, hl with | [_], _ => rfl), fun _ _ _ h => (nomatch h)⟩⟩
  have q10 : Fact K mg d__law_tree := ⟨⟨f10, _, F10, PySem.W.mg_of X G a10, F10.binds (ps := [(Str.ofString "hand"), (Str.ofString "names"), (Str.ofString "holes"), (Str.ofString "deep")]) (fun _ _ _ _ _ _ us hl => match us, hl with | [_, _, _, _], _ => rfl), fun _ _ _ h => (nomatch h)⟩⟩
  have q11 : Fact K mg d__law_drawn_head := ⟨⟨f11, _, F11, PySem.W.mg_of X G a11, F11.binds (ps := [(Str.ofString "hand"), (Str.ofString "known"), (Str.ofString "holes")]) (fun _ _ _ _ _ _ us hl => match us, hl with | [_, _, _], _ => rfl), fun _ _ _ h => (nomatch h)⟩⟩
  have q12 : Fact K mg d__law_due := ⟨⟨f12, _, F12, PySem.W.mg_of X G a12, F12.binds (ps := [(Str.ofString "known"), (Str.ofString "whole")]) (fun _ _ _ _ _ _ us hl => match us, hl with | [_, _], _ => rfl), fun _ _ _ h => (nomatch h)⟩⟩
  have q13 : Fact K mg d__law_bent := ⟨⟨f13, _, F13, PySem.W.mg_of X G a13, F13.binds (ps := [(Str.ofString "hand"), (Str.ofString "known"), (Str.ofString "tree")]) (fun _ _ _ _ _ _ us hl => match us, hl with | [_, _, _], _ => rfl), fun _ _ _ h => (nomatch h)⟩⟩
  have q14 : Fact K mg d__law_right := ⟨⟨f14, _, F14, PySem.W.mg_of X G a14, F14.binds (ps := [(Str.ofString "known"), (Str.ofString "whole")]) (fun _ _ _ _ _ _ us hl => match us, hl with | [_, _], _ => rfl), fun _ _ _ h => (nomatch h)⟩⟩
  have q15 : Fact K mg d_law := ⟨⟨f15, _, F15, PySem.W.mg_of X G a15, F15.binds (ps := [(Str.ofString "script")]) (fun _ _ _ _ _ _ us hl => match us, hl with | [_], _ => rfl), fun _ _ _ h => (nomatch h)⟩⟩
  have hb : ∀ x, blt.contains x = true → mg x = none := fun x hx => by
    simp only [blt, List.contains_cons, List.contains_nil, Bool.or_false, Bool.or_eq_true, beq_iff_eq] at hx
    rcases hx with rfl | rfl | rfl | rfl | rfl | rfl | rfl | rfl | rfl | rfl | rfl | rfl
    · exact PySem.W.mg_none_of X G z1
    · exact PySem.W.mg_none_of X G z2
    · exact PySem.W.mg_none_of X G z3
    · exact PySem.W.mg_none_of X G z4
    · exact PySem.W.mg_none_of X G z5
    · exact PySem.W.mg_none_of X G z6
    · exact PySem.W.mg_none_of X G z7
    · exact PySem.W.mg_none_of X G z8
    · exact PySem.W.mg_none_of X G z9
    · exact PySem.W.mg_none_of X G z10
    · exact PySem.W.mg_none_of X G z11
    · exact PySem.W.mg_none_of X G z12
  have hcn : ∀ x d, cons.lookup x = some d → ∃ v u, mg x = some u ∧ RelV v u ∧ ∀ ρ H, Rep K mg ρ H d v := fun x d hx => by simp [cons] at hx
  have hT : ∀ d ∈ T, Fact K mg d ∧ Reads1 (fnsOf T) cons blt d := fun d hd => by
    simp only [T, List.mem_cons, List.not_mem_nil, or_false] at hd
    rcases hd with rfl | rfl | rfl | rfl | rfl | rfl | rfl | rfl | rfl | rfl | rfl | rfl | rfl | rfl | rfl
    · exact ⟨q1, r_orders_of⟩
    · exact ⟨q2, r_undue_within⟩
    · exact ⟨q3, r_undue⟩
    · exact ⟨q4, r_is_of⟩
    · exact ⟨q5, r__law_hand⟩
    · exact ⟨q6, r__law_take⟩
    · exact ⟨q7, r__law_of⟩
    · exact ⟨q8, r__law_drawn_order⟩
    · exact ⟨q9, r__law_drawn_lore⟩
    · exact ⟨q10, r__law_tree⟩
    · exact ⟨q11, r__law_drawn_head⟩
    · exact ⟨q12, r__law_due⟩
    · exact ⟨q13, r__law_bent⟩
    · exact ⟨q14, r__law_right⟩
    · exact ⟨q15, r_law⟩
  intro base _ _
  obtain ⟨f, fd, hG, hm, _, hB, _⟩ := tab_ok (P := P) (w := w) (base := base) hT hb hcn LV "law" d_law rfl
  cases hfa.symm.trans hm
  exact ⟨fd, hG, hB⟩

end L

open PySem PySem.W PyProof.Rows
set_option maxRecDepth 100000 in
set_option maxHeartbeats 0 in
theorem PySem.Challenge.cw_aheadofholes_k24_heads_of_a_lore_holds : PySem.Challenge.rw_aheadofholes_k24_heads_of_a_lore.Holds := by
  w_on; o_law; k_head; (case hw => w_witness2)
  k_fill
  refine G.walkG (l := PySem.Challenge.rw_aheadofholes_k24_heads_of_a_lore) (k := L.LV) (x := "script") (F := G.runT L.T L.LV "law") rfl (by decide) rfl ⟨rfl, by decide, by decide⟩ (fun w h Y => PySem.W.kIn_of Y) ?F L.law_runs
  case F =>
    intro w mg fa h KX G hmg
    refine' L.all_mk KX G hmg ?a1 ?l1 ?c1 ?k1 ?a2 ?l2 ?c2 ?k2 ?a3 ?l3 ?c3 ?k3 ?a4 ?l4 ?c4 ?k4 ?a5 ?l5 ?c5 ?k5 ?a6 ?l6 ?c6 ?k6 ?a7 ?l7 ?c7 ?k7 ?a8 ?l8 ?c8 ?k8 ?a9 ?l9 ?c9 ?k9 ?a10 ?l10 ?c10 ?k10 ?a11 ?l11 ?c11 ?k11 ?a12 ?l12 ?c12 ?k12 ?a13 ?l13 ?c13 ?k13 ?a14 ?l14 ?c14 ?k14 ?a15 ?l15 ?c15 ?k15 ?z1 ?z2 ?z3 ?z4 ?z5 ?z6 ?z7 ?z8 ?z9 ?z10 ?z11 ?z12
    (case a1 => k_is); (case l1 => k_is); (case c1 => k_is); (case k1 => k_is); (case a2 => k_is); (case l2 => k_is); (case c2 => k_is); (case k2 => k_is); (case a3 => k_is); (case l3 => k_is); (case c3 => k_is); (case k3 => k_is); (case a4 => k_is); (case l4 => k_is); (case c4 => k_is); (case k4 => k_is); (case a5 => k_is); (case l5 => k_is); (case c5 => k_is); (case k5 => k_is); (case a6 => k_is); (case l6 => k_is); (case c6 => k_is); (case k6 => k_is); (case a7 => k_is); (case l7 => k_is); (case c7 => k_is); (case k7 => k_is); (case a8 => k_is); (case l8 => k_is); (case c8 => k_is); (case k8 => k_is); (case a9 => k_is); (case l9 => k_is); (case c9 => k_is); (case k9 => k_is); (case a10 => k_is); (case l10 => k_is); (case c10 => k_is); (case k10 => k_is); (case a11 => k_is); (case l11 => k_is); (case c11 => k_is); (case k11 => k_is); (case a12 => k_is); (case l12 => k_is); (case c12 => k_is); (case k12 => k_is); (case a13 => k_is); (case l13 => k_is); (case c13 => k_is); (case k13 => k_is); (case a14 => k_is); (case l14 => k_is); (case c14 => k_is); (case k14 => k_is); (case a15 => k_is); (case l15 => k_is); (case c15 => k_is); (case k15 => k_is); (case z1 => k_is); (case z2 => k_is); (case z3 => k_is); (case z4 => k_is); (case z5 => k_is); (case z6 => k_is); (case z7 => k_is); (case z8 => k_is); (case z9 => k_is); (case z10 => k_is); (case z11 => k_is); (case z12 => k_is)

