import PyProof.Rows.All
import Wide.All
import OpenK.AllK
import Wide.FinOn
import HandS.ForMost
import HandS.Walk
import HandS.Flow
import HandS.IsInst
import HandS.TupAny
import HandS.TupLen
import HandS.Rev
import HandS.Deep
import HandS.Exc
import HandS.ExcInit
import HandS.TryOnly
import HandS.WordsExc
import PyProof.StrBlock2
import HandS.More
import HandS.Star
import KE.SortData
import HandS.WideBits
import PySem.Challenge.RW_samebytesanywhere_k07_hitting_sets_exact
set_option Elab.async false
set_option linter.all false
set_option maxRecDepth 100000
set_option maxHeartbeats 1000000
/-! Z: values as data, without a heap. A def's meaning is a plain function of data; the soundness of each construct is proved once over the hand layer. -/
namespace Z
open PySem L2

/-- data. The o-forms are owned by the frame that runs (they may change); all other forms stand still. -/
inductive D where
  | non | bl (b : Bool) | int (i : Int) | str (x : List Nat)
  | tup (xs : List D) | lst (xs : List D) | olst (xs : List D)
  /-- a dict: t says whether the keys are tuples; the keys, the values -/
  | dic (t : Bool) (ks vs : List D) | odic (t : Bool) (ks vs : List D)
  /-- a set -/
  | set (xs : List D) | oset (xs : List D)
  /-- an instance of class number c: the names of its attributes, their values -/
  | ob (c : Nat) (ns : List String) (vs : List D) | oob (c : Nat) (ns : List String) (vs : List D)
  /-- the law's own list -/
  | scr (ns : List Int)
  /-- what the caller lent: parameter number t -/
  | bor (t : Nat) (d : D)
  /-- a caught exception: its address, its class, its dict, the class's number, its fields -/
  | exn (a : Nat) (cls : Value) (dd : Nat) (c : Nat) (ns : List String) (vs : List D)

/-- outcome of an expression: a value, an exception raised, or nothing known -/
inductive Rs (α : Type) where
  | ok (a : α) | ex (x : D) | un
def Rs.bind {α β : Type} (r : Rs α) (f : α → Rs β) : Rs β := match r with
  | .ok a => f a
  | .ex x => .ex x
  | .un => .un
instance : Monad Rs where
  pure := .ok
  bind := Rs.bind
@[simp] theorem Rs.bind_ok {α β : Type} (a : α) (f : α → Rs β) : Rs.bind (.ok a) f = f a := id rfl
@[simp] theorem Rs.bind_ex {α β : Type} (x : D) (f : α → Rs β) : Rs.bind (.ex x) f = .ex x := id rfl
@[simp] theorem Rs.bind_un {α β : Type} (f : α → Rs β) : Rs.bind .un f = .un := id rfl

def isData : D → Bool
  | .olst _ => false
  | .odic _ _ _ => false
  | .oset _ => false
  | .oob _ _ _ => false
  | .bor _ _ => false
  | .exn _ _ _ _ _ _ => false
  | _ => true

abbrev En := List (Option D)
/-- a text that may stand in the heap -/
structure StrOk (x : List Nat) : Prop where
  len : x.length ≤ sizeLine
  cps : ∀ c ∈ x, c < 1114112

/-- the written part, and where the program's classes stand -/
structure Kx where
  k : PySem.W.Frag
  ca : Nat → Addr
  tg : Nat → Addr := fun _ => 0
variable (K : Kx)
/-- a key of a dict as data -/
def kD : Key → D
  | .inl i => .int i
  | .inr x => .str x.cps.toList
def nmS (ns : List String) (ws : List V) : List (Str × V) := (ns.map Str.ofString).zip ws
/-! ### what stands for what. F: the part of the heap that stands still; H: the heap; the last list: the addresses owned -/
mutual
inductive R (F H : Hp) : D → V → List Addr → Prop
  | non : R F H .non .non []
  | bl (b : Bool) : R F H (.bl b) (.bl b) []
  | int (i : Int) : R F H (.int i) (.int i) []
  | str {x : List Nat} : StrOk x → R F H (.str x) (.str ⟨x.toArray⟩) []
  | tup {a : Addr} {vs : List V} {ds : List D} : F a = some (.tup vs) → RL F H ds vs [] → ds.length ≤ 16777216 → R F H (.tup ds) (.ref a) []
  | lst {a : Addr} {vs : List V} {ds : List D} : F a = some (.lst vs) → RL F H ds vs [] → ds.length ≤ 16777216 → R F H (.lst ds) (.ref a) []
  | scr {a : Addr} {ns : List Int} : SqL K.k F a (ns.map V.int) → ns.length ≤ 16777216 → R F H (.scr ns) (.ref a) []
  | olst {a : Addr} {vs : List V} {ds : List D} {fp : List Addr} : H a = some (.lst vs) → RL F H ds vs fp → ds.length ≤ 16777216 → R F H (.olst ds) (.ref a) (a :: fp)
  | dicK {a : Addr} {ks : List Key} {vs : List V} {ds : List D} : F a = some (.dK (ks.zip vs)) → RL F H ds vs [] → ks.length = ds.length → R F H (.dic false (ks.map kD) ds) (.ref a) []
  | dicT {a : Addr} {ks : List (List Key)} {vs : List V} {ds : List D} : F a = some (.dT (ks.zip vs)) → RL F H ds vs [] → ks.length = ds.length → R F H (.dic true (ks.map fun k => .tup (k.map kD)) ds) (.ref a) []
  | odicK {a : Addr} {ks : List Key} {vs : List V} {ds : List D} {fp : List Addr} : H a = some (.dK (ks.zip vs)) → RL F H ds vs fp → ks.length = ds.length → R F H (.odic false (ks.map kD) ds) (.ref a) (a :: fp)
  | odicT {a : Addr} {ks : List (List Key)} {vs : List V} {ds : List D} {fp : List Addr} : H a = some (.dT (ks.zip vs)) → RL F H ds vs fp → ks.length = ds.length → R F H (.odic true (ks.map fun k => .tup (k.map kD)) ds) (.ref a) (a :: fp)
  | ob {a dx : Addr} {c : Nat} {ns : List String} {vs : List V} {ds : List D} : F a = some (.ins (K.ca c) dx (nmS ns vs)) → F dx = some (.own a) → RL F H ds vs [] → ns.length = ds.length → R F H (.ob c ns ds) (.ref a) []
  | oob {a dx : Addr} {c : Nat} {ns : List String} {vs : List V} {ds : List D} {fp : List Addr} : H a = some (.ins (K.ca c) dx (nmS ns vs)) → H dx = some (.own a) → RL F H ds vs fp → ns.length = ds.length → R F H (.oob c ns ds) (.ref a) (a :: dx :: fp)
  | bor {t : Nat} {d : D} {v : V} {fp : List Addr} : R F H d v fp → v = .ref (K.tg t) → fp ≠ [] → R F H (.bor t d) v fp
  | exn {a dd : Addr} {c : Nat} {ns : List String} {vs : List V} {ds : List D} {fs : List (Str × V)} : F dd = some (.xd fs) → RL F H ds vs [] → (∀ (i : Nat) (n : String) (v : V), ns[i]? = some n → vs[i]? = some v → fs.lookup (Str.ofString n) = some v) → R F H (.exn a (.ref (K.ca c)) dd c ns ds) (.ref a) []
inductive RL (F H : Hp) : List D → List V → List Addr → Prop
  | nil : RL F H [] [] []
  | cons {d : D} {ds : List D} {v : V} {vs : List V} {fp fq : List Addr} : R F H d v fp → RL F H ds vs fq → RL F H (d :: ds) (v :: vs) (fp ++ fq)
end
variable {K} {F F' F1 F2 H H' H1 H2 : Hp} {d : D} {ds : List D} {v : V} {vs : List V} {fp fq : List Addr}

theorem same_t {K : PySem.W.Frag} {a : Addr} {xs : List V} (e : Same F F') (h : SqT K F a xs) : SqT K F' a xs := by
  rcases h with (h | ⟨o, h⟩) | h
  · exact .inl (.inl (e _ _ h))
  · exact .inl (.inr ⟨o, e _ _ h⟩)
  · exact .inr h

mutual
theorem R.mono (e : Same F F') : ∀ (d : D) {v : V} {fp : List Addr}, (∀ a ∈ fp, H' a = H a) → R K F H d v fp → R K F' H' d v fp
  | .non, _, _, _, h => by cases h; exact .non
  | .bl _, _, _, _, h => by cases h; exact .bl _
  | .int _, _, _, _, h => by cases h; exact .int _
  | .str _, _, _, _, h => by
    cases h with
    | str k => exact .str k
  | .tup ds, _, _, _, h => by
    cases h with
    | tup hs hl hz => exact .tup (e _ _ hs) (RL.mono e ds (fun a z => nomatch z) hl) hz
  | .lst ds, _, _, _, h => by
    cases h with
    | lst hs hl hz => exact .lst (e _ _ hs) (RL.mono e ds (fun a z => nomatch z) hl) hz
  | .olst ds, _, _, k, h => by
    cases h with
    | olst hs hl hz => exact .olst (by rw [k _ List.mem_cons_self]; exact hs) (RL.mono e ds (fun a z => k a (List.mem_cons_of_mem _ z)) hl) hz
  | .scr ns, _, _, _, h => by
    cases h with
    | scr hs hz => exact .scr (e.seq hs) hz
  | .dic t ks ds, _, _, _, h => by
    cases h with
    | dicK hs hl hz => exact .dicK (e _ _ hs) (RL.mono e ds (fun a z => nomatch z) hl) hz
    | dicT hs hl hz => exact .dicT (e _ _ hs) (RL.mono e ds (fun a z => nomatch z) hl) hz
  | .odic t ks ds, _, _, k, h => by
    cases h with
    | odicK hs hl hz => exact .odicK (by rw [k _ List.mem_cons_self]; exact hs) (RL.mono e ds (fun a z => k a (List.mem_cons_of_mem _ z)) hl) hz
    | odicT hs hl hz => exact .odicT (by rw [k _ List.mem_cons_self]; exact hs) (RL.mono e ds (fun a z => k a (List.mem_cons_of_mem _ z)) hl) hz
  | .set _, _, _, _, h => nomatch h
  | .oset _, _, _, _, h => nomatch h
  | .ob c ns ds, _, _, _, h => by
    cases h with
    | ob hs hd hl hz => exact .ob (e _ _ hs) (e _ _ hd) (RL.mono e ds (fun a z => nomatch z) hl) hz
  | .oob c ns ds, _, _, k, h => by
    cases h with
    | oob hs hd hl hz => exact .oob (by rw [k _ List.mem_cons_self]; exact hs) (by rw [k _ (List.mem_cons_of_mem _ List.mem_cons_self)]; exact hd) (RL.mono e ds (fun a z => k a (List.mem_cons_of_mem _ (List.mem_cons_of_mem _ z))) hl) hz
  | .bor t d, _, _, k, h => by
    cases h with
    | bor h e1 hn => exact .bor (R.mono e d k h) e1 hn
  | .exn a cls dd c ns ds, _, _, _, h => by
    cases h with
    | exn hs hl hz => exact .exn (e _ _ hs) (RL.mono e ds (fun a z => nomatch z) hl) hz
theorem RL.mono (e : Same F F') : ∀ (ds : List D) {vs : List V} {fp : List Addr}, (∀ a ∈ fp, H' a = H a) → RL K F H ds vs fp → RL K F' H' ds vs fp
  | [], _, _, _, h => by cases h; exact .nil
  | d :: ds, _, _, k, h => by
    cases h with
    | cons h1 h2 => exact .cons (R.mono e d (fun a z => k a (List.mem_append_left _ z)) h1) (RL.mono e ds (fun a z => k a (List.mem_append_right _ z)) h2)
end
mutual
theorem R.fp_some : ∀ (d : D) {v : V} {fp : List Addr}, R K F H d v fp → ∀ a ∈ fp, ∃ o, H a = some o
  | .non, _, _, h, _, z => by cases h; cases z
  | .bl _, _, _, h, _, z => by cases h; cases z
  | .int _, _, _, h, _, z => by cases h; cases z
  | .str _, _, _, h, _, z => by cases h; cases z
  | .tup ds, _, _, h, _, z => by cases h; cases z
  | .lst ds, _, _, h, _, z => by cases h; cases z
  | .olst ds, _, _, h, a, z => by
    cases h with
    | olst hs hl =>
      rcases List.mem_cons.mp z with z | z
      · rw [z]; exact ⟨_, hs⟩
      · exact RL.fp_some ds hl a z
  | .scr _, _, _, h, _, z => by cases h; cases z
  | .dic _ _ _, _, _, h, _, z => by cases h <;> cases z
  | .odic t ks ds, _, _, h, a, z => by
    cases h with
    | odicK hs hl =>
      rcases List.mem_cons.mp z with z | z
      · rw [z]; exact ⟨_, hs⟩
      · exact RL.fp_some ds hl a z
    | odicT hs hl =>
      rcases List.mem_cons.mp z with z | z
      · rw [z]; exact ⟨_, hs⟩
      · exact RL.fp_some ds hl a z
  | .set _, _, _, h, _, _ => nomatch h
  | .oset _, _, _, h, _, _ => nomatch h
  | .ob _ _ _, _, _, h, _, z => by cases h; cases z
  | .oob c ns ds, _, _, h, a, z => by
    cases h with
    | oob hs hd hl =>
      rcases List.mem_cons.mp z with z | z
      · rw [z]; exact ⟨_, hs⟩
      · rcases List.mem_cons.mp z with z | z
        · rw [z]; exact ⟨_, hd⟩
        · exact RL.fp_some ds hl a z
  | .bor t d, _, _, h, a, z => by
    cases h with
    | bor h e1 => exact R.fp_some d h a z
  | .exn _ _ _ _ _ _, _, _, h, _, z => by cases h; cases z
theorem RL.fp_some : ∀ (ds : List D) {vs : List V} {fp : List Addr}, RL K F H ds vs fp → ∀ a ∈ fp, ∃ o, H a = some o
  | [], _, _, h, _, z => by cases h; cases z
  | d :: ds, _, _, h, a, z => by
    cases h with
    | cons h1 h2 =>
      rcases List.mem_append.mp z with z | z
      · exact R.fp_some d h1 a z
      · exact RL.fp_some ds h2 a z
end
theorem R.data (h : R K F H d v fp) (hd : isData d = true) : fp = [] := by
  cases h <;> first | rfl | cases hd
theorem R.toData (h : R K F H d v fp) (hd : isData d = true) : R K F H d v [] := by
  have e := h.data hd
  rw [e] at h
  exact h
theorem RL.toData : ∀ {ds : List D} {vs : List V} {fp : List Addr}, RL K F H ds vs fp → ds.all isData = true → RL K F H ds vs []
  | _, _, _, .nil, _ => .nil
  | _, _, _, .cons h t, hd => by
    rw [List.all_cons, Bool.and_eq_true] at hd
    exact RL.cons (fp := []) (fq := []) (h.toData hd.1) (RL.toData t hd.2)
theorem RL.len : ∀ {ds : List D} {vs : List V} {fp : List Addr}, RL K F H ds vs fp → vs.length = ds.length
  | _, _, _, .nil => rfl
  | _, _, _, .cons _ t => congrArg (· + 1) (RL.len t)
theorem RL.tail0 (h : RL K F H (d :: ds) (v :: vs) []) : R K F H d v [] ∧ RL K F H ds vs [] := by
  generalize e : ([] : List Addr) = fp at h
  cases h with
  | cons h1 h2 =>
    obtain ⟨e1, e2⟩ := List.append_eq_nil_iff.mp e.symm
    subst e1; subst e2
    exact ⟨h1, h2⟩
theorem RL.mk0 (h1 : R K F H d v []) (h2 : RL K F H ds vs []) : RL K F H (d :: ds) (v :: vs) [] := RL.cons (fp := []) (fq := []) h1 h2
theorem RL.inv_cons (h : RL K F H (d :: ds) vs []) : ∃ v vs', vs = v :: vs' ∧ R K F H d v [] ∧ RL K F H ds vs' [] := by
  cases vs with
  | nil => generalize e : ([] : List Addr) = fp at h; cases h
  | cons v vs' => exact ⟨v, vs', rfl, h.tail0⟩
theorem RL.get0 : ∀ {ds : List D} {vs : List V} {i : Nat} {d : D}, RL K F H ds vs [] → ds[i]? = some d → ∃ v, vs[i]? = some v ∧ R K F H d v []
  | [], _, _, _, _, e => by simp at e
  | d :: ds, vs, 0, d', h, e => by
    obtain ⟨v, vs', rfl, h1, h2⟩ := h.inv_cons
    simp at e; subst e
    exact ⟨v, rfl, h1⟩
  | d :: ds, vs, i + 1, d', h, e => by
    obtain ⟨v, vs', rfl, h1, h2⟩ := h.inv_cons
    obtain ⟨u, e1, e2⟩ := RL.get0 (i := i) h2 (by simpa using e)
    exact ⟨u, by simpa using e1, e2⟩
theorem RL.app0 : ∀ {ds es : List D} {vs us : List V}, RL K F H ds vs [] → RL K F H es us [] → RL K F H (ds ++ es) (vs ++ us) []
  | [], _, vs, _, h, k => by
    have : vs = [] := by cases vs with | nil => rfl | cons a b => exact absurd h.len (by simp)
    subst this
    exact k
  | d :: ds, es, vs, us, h, k => by
    obtain ⟨v, vs', rfl, h1, h2⟩ := h.inv_cons
    exact RL.mk0 h1 (RL.app0 h2 k)
theorem RL.drop0 : ∀ {ds : List D} {vs : List V} (n : Nat), RL K F H ds vs [] → RL K F H (ds.drop n) (vs.drop n) []
  | _, _, 0, h => h
  | [], vs, n + 1, h => by
    have : vs = [] := by cases vs with | nil => rfl | cons a b => exact absurd h.len (by simp)
    subst this
    exact h
  | d :: ds, vs, n + 1, h => by
    obtain ⟨v, vs', rfl, h1, h2⟩ := h.inv_cons
    exact RL.drop0 n h2
theorem RL.take0 : ∀ {ds : List D} {vs : List V} (n : Nat), RL K F H ds vs [] → RL K F H (ds.take n) (vs.take n) []
  | ds, vs, 0, h => by simp; exact .nil
  | [], vs, n + 1, h => by
    have : vs = [] := by cases vs with | nil => rfl | cons a b => exact absurd h.len (by simp)
    subst this
    exact h
  | d :: ds, vs, n + 1, h => by
    obtain ⟨v, vs', rfl, h1, h2⟩ := h.inv_cons
    exact RL.mk0 h1 (RL.take0 n h2)
theorem RL.rev0 : ∀ {ds : List D} {vs : List V}, RL K F H ds vs [] → RL K F H ds.reverse vs.reverse []
  | [], vs, h => by
    have : vs = [] := by cases vs with | nil => rfl | cons a b => exact absurd h.len (by simp)
    subst this
    exact h
  | d :: ds, vs, h => by
    obtain ⟨v, vs', rfl, h1, h2⟩ := h.inv_cons
    rw [List.reverse_cons, List.reverse_cons]
    exact RL.app0 (RL.rev0 h2) (RL.mk0 h1 .nil)
theorem RL.snoc : ∀ {ds : List D} {vs : List V} {fp fq : List Addr} {d : D} {v : V}, RL K F H ds vs fp → R K F H d v fq → RL K F H (ds ++ [d]) (vs ++ [v]) (fp ++ fq)
  | _, _, _, fq, _, _, .nil, k => by
    have q := RL.cons k (RL.nil (K := K) (F := F) (H := H))
    rw [List.append_nil] at q
    exact q
  | _, _, _, fq, _, _, .cons h t, k => by
    rw [List.append_assoc]
    exact RL.cons h (RL.snoc t k)
/-- the heap grows: what was known stays; what stood still, stands still; no elder object becomes still -/
structure Grow (F H F' H' : Hp) : Prop where
  f : Same F F'
  fh : Same F' H'
  h : Same H H'
  o : ∀ a o, H a = some o → F' a = F a
theorem Grow.refl (h : Same F H) : Grow F H F H := ⟨Same.refl _, h, Same.refl _, fun _ _ _ => rfl⟩
theorem Grow.trans (a : Grow F H F1 H1) (b : Grow F1 H1 F2 H2) : Grow F H F2 H2 :=
  ⟨a.f.trans b.f, b.fh, a.h.trans b.h, fun x o e => (b.o x o (a.h x o e)).trans (a.o x o e)⟩
theorem R.grow (g : Grow F H F' H') (h : R K F H d v fp) : R K F' H' d v fp := R.mono g.f d (fun a z => by
  obtain ⟨o, e⟩ := h.fp_some d a z
  rw [e, g.h a o e]) h
theorem RL.grow (g : Grow F H F' H') (h : RL K F H ds vs fp) : RL K F' H' ds vs fp := RL.mono g.f ds (fun a z => by
  obtain ⟨o, e⟩ := h.fp_some ds a z
  rw [e, g.h a o e]) h
/-- a new object that stands still from now on -/
theorem Grow.new {p : Addr} {o : HO} (hs : Same F H) (hp : H p = none) : Grow F H (upd F p o) (upd H p o) where
  f := fun b u e => by rw [upd_ne (ne_of_none (hs b u e) hp)]; exact e
  fh := fun b u e => by
    by_cases hb : b = p
    · subst hb; rw [upd_same] at e ⊢; exact e
    · rw [upd_ne hb] at e ⊢; exact hs b u e
  h := fun b u e => by rw [upd_ne (ne_of_none e hp)]; exact e
  o := fun b u e => by rw [upd_ne (ne_of_none e hp)]
/-- a new object that is not still -/
theorem Grow.own {p : Addr} {o : HO} (hs : Same F H) (hp : H p = none) : Grow F H F (upd H p o) where
  f := Same.refl _
  fh := fun b u e => by rw [upd_ne (ne_of_none (hs b u e) hp)]; exact hs b u e
  h := fun b u e => by rw [upd_ne (ne_of_none e hp)]; exact e
  o := fun _ _ _ => rfl

/-! ### the frame's state -/
structure Ent where
  K : Kx
  H0 : Hp
  F0 : Hp
  own : Nat → List Addr

inductive RS (K : Kx) (F H : Hp) : En → St → List (List Addr) → Prop
  | nil {σ : St} : RS K F H [] σ []
  | non {env : En} {σ : St} {fps : List (List Addr)} {x : Option V} : RS K F H env σ fps → RS K F H (none :: env) (x :: σ) ([] :: fps)
  | som {env : En} {σ : St} {fps : List (List Addr)} {d : D} {v : V} {fp : List Addr} : R K F H d v fp → RS K F H env σ fps → RS K F H (some d :: env) (some v :: σ) (fp :: fps)

structure Stt (E : Ent) (F : Hp) (env : En) (σ : St) (H : Hp) : Prop where
  le0 : Same E.F0 F
  fH : Same F H
  keep : ∀ a o, E.H0 a = some o → (∀ i, a ∉ E.own i) → H a = some o
  old : ∀ a o, E.H0 a = some o → (∀ i, a ∉ E.own i) → F a = E.F0 a
  ownS : ∀ i a, a ∈ E.own i → ∃ o, H a = some o
  rep : ∃ fps, RS E.K F H env σ fps ∧ fps.flatten.Nodup ∧ ∀ i fp, fps[i]? = some fp → ∀ a ∈ fp, F a = none ∧ (E.H0 a = none ∨ a ∈ E.own i)

variable {E : Ent} {env : En} {σ : St} {fps : List (List Addr)}
theorem RS.get : ∀ {env : En} {σ : St} {fps : List (List Addr)} {i : Nat} {d : D}, RS K F H env σ fps → env[i]? = some (some d) → ∃ v fp, σ[i]? = some (some v) ∧ fps[i]? = some fp ∧ R K F H d v fp
  | _, _, _, _, _, .nil, e => by simp at e
  | _, _, _, 0, _, .non _, e => by simp at e
  | _, _, _, 0, _, .som r _, e => by
    simp at e; subst e
    exact ⟨_, _, rfl, rfl, r⟩
  | _, _, _, i + 1, _, .non t, e => by
    obtain ⟨v, fp, h1, h2, h3⟩ := RS.get (i := i) t (by simpa using e)
    exact ⟨v, fp, by simpa using h1, by simpa using h2, h3⟩
  | _, _, _, i + 1, _, .som _ t, e => by
    obtain ⟨v, fp, h1, h2, h3⟩ := RS.get (i := i) t (by simpa using e)
    exact ⟨v, fp, by simpa using h1, by simpa using h2, h3⟩
theorem RS.set : ∀ {env : En} {σ : St} {fps : List (List Addr)} (i : Nat), RS K F H env σ fps → R K F H d v fp → RS K F H (env.set i (some d)) (σ.set i (some v)) (fps.set i fp)
  | _, _, _, _, .nil, _ => .nil
  | _, _, _, 0, .non t, r => .som r t
  | _, _, _, 0, .som _ t, r => .som r t
  | _, _, _, i + 1, .non t, r => .non (RS.set i t r)
  | _, _, _, i + 1, .som q t, r => .som q (RS.set i t r)
theorem RS.wipe : ∀ {env : En} {σ : St} {fps : List (List Addr)} (i : Nat), RS K F H env σ fps → RS K F H (env.set i none) σ (fps.set i [])
  | _, _, _, _, .nil => .nil
  | _, _, _, 0, .non t => .non t
  | _, _, _, 0, .som _ t => .non t
  | _, _, _, i + 1, .non t => .non (RS.wipe i t)
  | _, _, _, i + 1, .som q t => .som q (RS.wipe i t)
theorem RS.wipe2 : ∀ {env : En} {σ : St} {fps : List (List Addr)} (i : Nat), RS K F H env σ fps → RS K F H (env.set i none) (σ.set i none) (fps.set i [])
  | _, _, _, _, .nil => .nil
  | _, _, _, 0, .non t => .non t
  | _, _, _, 0, .som _ t => .non t
  | _, _, _, i + 1, .non t => .non (RS.wipe2 i t)
  | _, _, _, i + 1, .som q t => .som q (RS.wipe2 i t)
theorem RS.mono : ∀ {env : En} {σ : St} {fps : List (List Addr)}, Same F F' → (∀ fp ∈ fps, ∀ a ∈ fp, H' a = H a) → RS K F H env σ fps → RS K F' H' env σ fps
  | _, _, _, _, _, .nil => .nil
  | _, _, _, e, k, .non t => .non (RS.mono e (fun fp z => k fp (List.mem_cons_of_mem _ z)) t)
  | _, _, _, e, k, .som r t => .som (R.mono e _ (k _ List.mem_cons_self) r) (RS.mono e (fun fp z => k fp (List.mem_cons_of_mem _ z)) t)
theorem RS.fp_some : ∀ {env : En} {σ : St} {fps : List (List Addr)}, RS K F H env σ fps → ∀ fp ∈ fps, ∀ a ∈ fp, ∃ o, H a = some o
  | _, _, _, .nil, _, z, _, _ => nomatch z
  | _, _, _, .non t, fp, z, a, y => by
    rcases List.mem_cons.mp z with z | z
    · subst z; cases y
    · exact RS.fp_some t fp z a y
  | _, _, _, .som r t, fp, z, a, y => by
    rcases List.mem_cons.mp z with z | z
    · subst z; exact r.fp_some _ a y
    · exact RS.fp_some t fp z a y
theorem Stt.grow (S : Stt E F env σ H) (g : Grow F H F' H') : Stt E F' env σ H' := by
  obtain ⟨fps, r, nd, fr⟩ := S.rep
  have ks : ∀ fp ∈ fps, ∀ a ∈ fp, H' a = H a := fun fp hf a ha => by
    obtain ⟨o, e⟩ := r.fp_some fp hf a ha
    rw [e, g.h a o e]
  refine ⟨S.le0.trans g.f, g.fh, fun a o e n => g.h a o (S.keep a o e n), fun a o e n => (g.o a o (S.keep a o e n)).trans (S.old a o e n), fun i a ha => (S.ownS i a ha).imp fun o e => g.h a o e, fps, r.mono g.f ks, nd, fun i fp hi a ha => ?_⟩
  obtain ⟨h1, h2⟩ := fr i fp hi a ha
  obtain ⟨o, e⟩ := r.fp_some fp (List.mem_of_getElem? hi) a ha
  exact ⟨(g.o a o e).trans h1, h2⟩
theorem Stt.nilEnv (S : Stt E F env σ H) : Stt E F [] σ H := ⟨S.le0, S.fH, S.keep, S.old, S.ownS, [], .nil, List.nodup_nil, fun i fp h => by simp at h⟩
theorem flat_set_sub {α : Type} : ∀ {l : List (List α)} {i : Nat} {x : List α}, (l.set i x).flatten.Sublist (l.flatten) ∨ True := .inr trivial
theorem mem_set_of {α : Type} {l : List α} {i j : Nat} {x y : α} (h : (l.set i x)[j]? = some y) : (i = j ∧ y = x) ∨ l[j]? = some y := by
  by_cases e : i = j
  · subst e
    by_cases hl : i < l.length
    · rw [List.getElem?_set_self hl] at h
      exact .inl ⟨rfl, (Option.some.inj h).symm⟩
    · rw [List.getElem?_eq_none (by simpa using hl)] at h; cases h
  · rw [List.getElem?_set_ne e] at h
    exact .inr h
/-- the owned addresses stay apart where a slot's become fewer, or new ones come in -/
theorem nodup_set {α : Type} : ∀ {l : List (List α)} {i : Nat} {x : List α}, l.flatten.Nodup → x.Nodup → (∀ j y, j ≠ i → l[j]? = some y → ∀ a ∈ y, a ∉ x) → (l.set i x).flatten.Nodup
  | [], _, _, h, _, _ => h
  | y :: l, 0, x, h, hx, k => by
    rw [List.flatten_cons] at h
    obtain ⟨h1, h2, h3⟩ := List.nodup_append.mp h
    show (x :: l).flatten.Nodup
    rw [List.flatten_cons]
    refine List.nodup_append.mpr ⟨hx, h2, fun a ha b hb e => ?_⟩
    subst e
    obtain ⟨z, hz, haz⟩ := List.mem_flatten.mp hb
    obtain ⟨j, hj⟩ := List.mem_iff_getElem?.mp hz
    exact k (j + 1) z (by simp) (by simpa using hj) a haz ha
  | y :: l, i + 1, x, h, hx, k => by
    rw [List.flatten_cons] at h
    obtain ⟨h1, h2, h3⟩ := List.nodup_append.mp h
    show (y :: l.set i x).flatten.Nodup
    rw [List.flatten_cons]
    refine List.nodup_append.mpr ⟨h1, nodup_set h2 hx (fun j z hj hz a ha => k (j + 1) z (by omega) (by simpa using hz) a ha), fun a ha b hb e => ?_⟩
    subst e
    obtain ⟨z, hz, haz⟩ := List.mem_flatten.mp hb
    obtain ⟨j, hj⟩ := List.mem_iff_getElem?.mp hz
    rcases mem_set_of hj with ⟨e1, e2⟩ | hj
    · subst e2
      exact k 0 y (by omega) (by simp) a ha haz
    · exact h3 a ha a (List.mem_flatten.mpr ⟨z, List.mem_of_getElem? hj, haz⟩) rfl
theorem nodup_get {α : Type} : ∀ {l : List (List α)} {i : Nat} {x : List α}, l.flatten.Nodup → l[i]? = some x → x.Nodup
  | [], _, _, _, e => by simp at e
  | y :: l, 0, x, h, e => by
    simp at e; subst e
    rw [List.flatten_cons] at h
    exact (List.nodup_append.mp h).1
  | y :: l, i + 1, x, h, e => by
    rw [List.flatten_cons] at h
    exact nodup_get (i := i) (List.nodup_append.mp h).2.1 (by simpa using e)
theorem nodup_apart {α : Type} : ∀ {l : List (List α)} {i j : Nat} {x y : List α}, l.flatten.Nodup → i ≠ j → l[i]? = some x → l[j]? = some y → ∀ a ∈ x, a ∉ y
  | [], _, _, _, _, _, _, e, _ => by simp at e
  | z :: l, 0, 0, _, _, _, n, _, _ => absurd rfl n
  | z :: l, 0, j + 1, x, y, h, _, e1, e2 => fun a ha hy => by
    simp at e1; subst e1
    rw [List.flatten_cons] at h
    exact (List.nodup_append.mp h).2.2 a ha a (List.mem_flatten.mpr ⟨y, List.mem_of_getElem? (by simpa using e2), hy⟩) rfl
  | z :: l, i + 1, 0, x, y, h, _, e1, e2 => fun a ha hy => by
    simp at e2; subst e2
    rw [List.flatten_cons] at h
    exact (List.nodup_append.mp h).2.2 a hy a (List.mem_flatten.mpr ⟨x, List.mem_of_getElem? (by simpa using e1), ha⟩) rfl
  | z :: l, i + 1, j + 1, x, y, h, n, e1, e2 => by
    rw [List.flatten_cons] at h
    exact nodup_apart (i := i) (j := j) (List.nodup_append.mp h).2.1 (by omega) (by simpa using e1) (by simpa using e2)
/-- a slot takes data -/
theorem Stt.setData (S : Stt E F env σ H) (i : Nat) (r : R E.K F H d v []) : Stt E F (env.set i (some d)) (σ.set i (some v)) H := by
  obtain ⟨fps, q, nd, fr⟩ := S.rep
  refine ⟨S.le0, S.fH, S.keep, S.old, S.ownS, fps.set i [], q.set i r, nodup_set nd List.nodup_nil (fun _ _ _ _ _ _ z => nomatch z), fun j fp hj a ha => ?_⟩
  rcases mem_set_of hj with ⟨_, e⟩ | hj
  · subst e; cases ha
  · exact fr j fp hj a ha
theorem Stt.wipe (S : Stt E F env σ H) (i : Nat) : Stt E F (env.set i none) σ H := by
  obtain ⟨fps, q, nd, fr⟩ := S.rep
  refine ⟨S.le0, S.fH, S.keep, S.old, S.ownS, fps.set i [], q.wipe i, nodup_set nd List.nodup_nil (fun _ _ _ _ _ _ z => nomatch z), fun j fp hj a ha => ?_⟩
  rcases mem_set_of hj with ⟨_, e⟩ | hj
  · subst e; cases ha
  · exact fr j fp hj a ha
theorem Stt.wipe2 (S : Stt E F env σ H) (i : Nat) : Stt E F (env.set i none) (σ.set i none) H := by
  obtain ⟨fps, q, nd, fr⟩ := S.rep
  refine ⟨S.le0, S.fH, S.keep, S.old, S.ownS, fps.set i [], q.wipe2 i, nodup_set nd List.nodup_nil (fun _ _ _ _ _ _ z => nomatch z), fun j fp hj a ha => ?_⟩
  rcases mem_set_of hj with ⟨_, e⟩ | hj
  · subst e; cases ha
  · exact fr j fp hj a ha
/-- a slot takes what is owned and new -/
theorem Stt.setNew (S : Stt E F env σ H) (i : Nat) (r : R E.K F' H' d v fp) (g : Grow F H F' H') (hn : fp.Nodup) (hf : ∀ a ∈ fp, H a = none ∧ F' a = none ∧ E.H0 a = none) : Stt E F' (env.set i (some d)) (σ.set i (some v)) H' := by
  have S' := S.grow g
  obtain ⟨fps, q, nd, fr⟩ := S.rep
  have ks : ∀ fp ∈ fps, ∀ a ∈ fp, H' a = H a := fun fp hf a ha => by
    obtain ⟨o, e⟩ := q.fp_some fp hf a ha
    rw [e, g.h a o e]
  refine ⟨S'.le0, S'.fH, S'.keep, S'.old, S'.ownS, fps.set i fp, (q.mono g.f ks).set i r, nodup_set nd hn (fun j y hj hy a ha z => ?_), fun j fq hj a ha => ?_⟩
  · obtain ⟨o, e⟩ := q.fp_some y (List.mem_of_getElem? hy) a ha
    rw [(hf a z).1] at e; cases e
  · rcases mem_set_of hj with ⟨_, e⟩ | hj
    · subst e; exact ⟨(hf a ha).2.1, .inl (hf a ha).2.2⟩
    · obtain ⟨h1, h2⟩ := fr j fq hj a ha
      obtain ⟨o, e⟩ := q.fp_some fq (List.mem_of_getElem? hj) a ha
      exact ⟨(g.o a o e).trans h1, h2⟩
theorem Stt.fresh (S : Stt E F env σ H) {a : Addr} (h : H a = none) : E.H0 a = none := by
  cases e : E.H0 a with
  | none => rfl
  | some o =>
    refine absurd (S.keep a o e fun i hi => ?_) (by rw [h]; intro z; cases z)
    obtain ⟨o', e'⟩ := S.ownS i a hi
    rw [h] at e'; cases e'
end Z

set_option Elab.async false
set_option linter.all false
set_option maxRecDepth 100000
set_option maxHeartbeats 1000000
namespace Z
open PySem L2

/-! ### what a construct's reading must grant -/
/-- an exception: its class, its own dict -/
def Rx (K : Kx) (F H : Hp) (x : D) (cls : Value) (dd : Option Addr) : Prop := match x with
  | .ob c ns ds => cls = .ref (K.ca c) ∧ ns.length = ds.length ∧ ((ns = [] ∧ dd = none) ∨ ∃ a fs, dd = some a ∧ F a = some (.xd fs) ∧ ∀ (i : Nat) (n : String) (d : D), ns[i]? = some n → ds[i]? = some d → ∃ v, fs.lookup (Str.ofString n) = some v ∧ R K F H d v [])
  | _ => False

section
variable {E : Ent} {W : WX}
def PostE (E : Ent) (W : WX) (F H : Hp) (σ : St) (Q : VK) : Rs D → Prop
  | .ok d => ∀ v fp F' H', Grow F H F' H' → R E.K F' H' d v fp → Q v H'
  | .ex x => ∀ cls dd F' H', Grow F H F' H' → Rx E.K F' H' x cls dd → W cls dd σ H'
  | .un => False
def PostT (E : Ent) (W : WX) (F H : Hp) (σ : St) (Q : Bool → Hp → Prop) : Rs Bool → Prop
  | .ok b => ∀ F' H', Grow F H F' H' → Q b H'
  | .ex x => ∀ cls dd F' H', Grow F H F' H' → Rx E.K F' H' x cls dd → W cls dd σ H'
  | .un => False
def PostA (E : Ent) (W : WX) (F H : Hp) (σ : St) (Q : List V → Hp → Prop) : Rs (List D) → Prop
  | .ok ds => ∀ vs fp F' H', Grow F H F' H' → RL E.K F' H' ds vs fp → Q vs H'
  | .ex x => ∀ cls dd F' H', Grow F H F' H' → Rx E.K F' H' x cls dd → W cls dd σ H'
  | .un => False
/-- a list made anew -/
def PostL (E : Ent) (W : WX) (F H : Hp) (σ : St) (Q : VK) : Rs (List D) → Prop
  | .ok ds => ∀ p vs F' H', Grow F H F' H' → H p = none → F' p = none → H' p = some (.lst vs) → RL E.K F' H' ds vs [] → ds.length ≤ 16777216 → Q (.ref p) H'
  | .ex x => ∀ cls dd F' H', Grow F H F' H' → Rx E.K F' H' x cls dd → W cls dd σ H'
  | .un => False
def OkE (E : Ent) (W : WX) (t : TE) (f : En → Rs D) : Prop := ∀ F σ H env, Stt E F env σ H → ∀ Q, PostE E W F H σ Q (f env) → t σ H Q
def OkT (E : Ent) (W : WX) (t : TT) (f : En → Rs Bool) : Prop := ∀ F σ H env, Stt E F env σ H → ∀ Q, PostT E W F H σ Q (f env) → t σ H Q
def OkA (E : Ent) (W : WX) (t : TA) (f : En → Rs (List D)) : Prop := ∀ F σ H env, Stt E F env σ H → ∀ Q, PostA E W F H σ Q (f env) → t σ H Q
def OkL (E : Ent) (W : WX) (t : TE) (f : En → Rs (List D)) : Prop := ∀ F σ H env, Stt E F env σ H → ∀ Q, PostL E W F H σ Q (f env) → t σ H Q
/-- the expression e means f -/
structure SE (X : Cx) (E : Ent) (W : WX) (e : Expr) (f : En → Rs D) : Prop where
  hK : X.K = E.K.k
  ex : ∃ t, PE X e t ∧ OkE E W t f
structure ST (X : Cx) (E : Ent) (W : WX) (e : Expr) (f : En → Rs Bool) : Prop where
  hK : X.K = E.K.k
  ex : ∃ t, PT X e t ∧ OkT E W t f
structure SW (X : Cx) (E : Ent) (W : WX) (e : Expr) (f : En → Rs Bool) : Prop where
  hK : X.K = E.K.k
  ex : ∃ t, PW X e t ∧ OkT E W t f
structure SA (X : Cx) (E : Ent) (W : WX) (es : List Expr) (f : En → Rs (List D)) : Prop where
  hK : X.K = E.K.k
  ex : ∃ t, PA X es t ∧ OkA E W t f
structure SL (X : Cx) (E : Ent) (W : WX) (e : Expr) (f : En → Rs (List D)) : Prop where
  hK : X.K = E.K.k
  ex : ∃ t, PE X e t ∧ OkL E W t f
end

section
variable {X : Cx} {E : Ent} {W : WX} {e a b : Expr} {f g : En → Rs D} {pos : Pos}
theorem PostE.mono {F H F1 H1 : Hp} {σ : St} {Q : VK} {r : Rs D} (G : Grow F H F1 H1) (h : PostE E W F H σ Q r) : PostE E W F1 H1 σ Q r := by
  cases r with
  | ok d => exact fun v fp F' H' g k => h v fp F' H' (G.trans g) k
  | ex x => exact fun cls dd F' H' g k => h cls dd F' H' (G.trans g) k
  | un => exact h
theorem PostT.mono {F H F1 H1 : Hp} {σ : St} {Q : Bool → Hp → Prop} {r : Rs Bool} (G : Grow F H F1 H1) (h : PostT E W F H σ Q r) : PostT E W F1 H1 σ Q r := by
  cases r with
  | ok d => exact fun F' H' g => h F' H' (G.trans g)
  | ex x => exact fun cls dd F' H' g k => h cls dd F' H' (G.trans g) k
  | un => exact h
theorem PostA.mono {F H F1 H1 : Hp} {σ : St} {Q : List V → Hp → Prop} {r : Rs (List D)} (G : Grow F H F1 H1) (h : PostA E W F H σ Q r) : PostA E W F1 H1 σ Q r := by
  cases r with
  | ok d => exact fun v fp F' H' g k => h v fp F' H' (G.trans g) k
  | ex x => exact fun cls dd F' H' g k => h cls dd F' H' (G.trans g) k
  | un => exact h
theorem same_none {F H : Hp} {a : Addr} (h : Same F H) (e : H a = none) : F a = none := Same.free h e

/-! ### names and constants -/
/-- the thing itself -/
def peel : D → D
  | .bor _ d => d
  | d => d
theorem R.peel {K : Kx} {F H : Hp} {d : D} {v : V} {fp : List Addr} (r : R K F H d v fp) : R K F H (peel d) v fp := by
  cases r with
  | bor r _ _ => exact r
  | _ => first | exact .non | exact .bl _ | exact .int _ | (constructor <;> assumption)
def eVar (i : Nat) : En → Rs D := fun env => match env[i]? with
  | some (some d) => .ok (peel d)
  | _ => .un
theorem SE.var (i : Nat) {x : Str} (hK : X.K = E.K.k := by rfl) (hN : X.N[i]? = some x := by rfl) (hv : Vis X.env.scope x := by first | exact Or.inl rfl | exact Or.inr (Or.inl rfl) | exact Or.inr (Or.inr rfl))
    (hd : (x == ("__debug__" : Str)) = false := by decide) (hcd : (x == ("__classdict__" : Str)) = false := by decide) : SE X E W (.Name x pos) (eVar i) := by
  refine ⟨hK, _, pe_var hN hv hd hcd, fun F σ H env S Q h => ?_⟩
  unfold eVar at h
  cases e : env[i]? with
  | none => rw [e] at h; exact h.elim
  | some o =>
    cases o with
    | none => rw [e] at h; exact h.elim
    | some d =>
      rw [e] at h
      obtain ⟨fps, r, _⟩ := S.rep
      obtain ⟨v, fp, h1, _, h3⟩ := r.get e
      exact ⟨v, h1, h v fp F H (Grow.refl S.fH) h3.peel⟩
def eC (d : D) : En → Rs D := fun _ => .ok d
theorem SE.int {i : Int} {j} (hK : X.K = E.K.k := by rfl) : SE X E W (.Constant (.int i) j pos) (eC (.int i)) := ⟨hK, _, pe_int, fun F σ H env S Q h => h _ [] F H (Grow.refl S.fH) (.int i)⟩
theorem SE.bl {b : Bool} {j} (hK : X.K = E.K.k := by rfl) : SE X E W (.Constant (.bool b) j pos) (eC (.bl b)) := ⟨hK, _, pe_bl, fun F σ H env S Q h => h _ [] F H (Grow.refl S.fH) (.bl b)⟩
theorem SE.non {j} (hK : X.K = E.K.k := by rfl) : SE X E W (.Constant .none j pos) (eC .non) := ⟨hK, _, pe_non, fun F σ H env S Q h => h _ [] F H (Grow.refl S.fH) .non⟩
def strOkB (x : List Nat) : Bool := decide (x.length ≤ 1000000) && x.all fun c => decide (c < 1114112)
theorem strOk_of {x : List Nat} (h : strOkB x = true) : StrOk x := by
  unfold strOkB at h
  rw [Bool.and_eq_true] at h
  refine ⟨Nat.le_trans (of_decide_eq_true h.1) (by decide), fun c hc => ?_⟩
  exact of_decide_eq_true (List.all_eq_true.mp h.2 c hc)
theorem SE.str (cs : List Nat) {x : Str} {j} (hx : x = ⟨cs.toArray⟩ := by rfl) (hs : strOkB cs = true := by decide +kernel) (hK : X.K = E.K.k := by rfl) : SE X E W (.Constant (.str x) j pos) (eC (.str cs)) :=
  ⟨hK, _, pe_str, fun F σ H env S Q h => h _ [] F H (Grow.refl S.fH) (by rw [hx]; exact .str (strOk_of hs))⟩

/-! ### two operands -/
def ofO {α : Type} : Option α → Rs α
  | some a => .ok a
  | none => .un
@[simp] theorem ofO_some {α : Type} (a : α) : ofO (some a) = .ok a := id rfl
@[simp] theorem ofO_none {α : Type} : ofO (none : Option α) = .un := id rfl
/-- what a two-place operation does to data -/
def OpS (X : Cx) (E : Ent) (f : Value → Value → Sem Value) (g : D → D → Option D) : Prop :=
  ∃ r, OpR X f r ∧ ∀ F H x y d1 d2 fp1 fp2 d, Same F H → R E.K F H d1 x fp1 → R E.K F H d2 y fp2 → g d1 d2 = some d → ∀ Q : VK,
    (∀ v fp F' H', Grow F H F' H' → R E.K F' H' d v fp → Q v H') → r x y H Q
def eBin (op : D → D → Option D) (f g : En → Rs D) : En → Rs D := fun env => (f env).bind fun a => (g env).bind fun b => ofO (op a b)
theorem two_ok {ta tb : TE} {r : R2} {op : D → D → Option D} (ha : OkE E W ta f) (hb : OkE E W tb g)
    (hr : ∀ F H x y d1 d2 fp1 fp2 d, Same F H → R E.K F H d1 x fp1 → R E.K F H d2 y fp2 → op d1 d2 = some d → ∀ Q : VK, (∀ v fp F' H', Grow F H F' H' → R E.K F' H' d v fp → Q v H') → r x y H Q) :
    OkE E W (tOp r ta tb) (eBin op f g) := by
  intro F σ H env S Q h
  refine ha F σ H env S _ ?_
  unfold eBin at h
  cases e1 : f env with
  | un => rw [e1] at h; exact h
  | ex x => rw [e1] at h; exact h
  | ok d1 =>
    intro v1 fp1 F1 H1 G1 r1
    refine hb F1 σ H1 env (S.grow G1) _ ?_
    rw [e1, Rs.bind_ok] at h
    cases e2 : g env with
    | un => rw [e2] at h; exact h
    | ex x => rw [e2] at h; exact PostE.mono G1 h
    | ok d2 =>
      intro v2 fp2 F2 H2 G2 r2
      rw [e2, Rs.bind_ok] at h
      cases e3 : op d1 d2 with
      | none => rw [e3] at h; exact h.elim
      | some d =>
        rw [e3] at h
        exact hr F2 H2 v1 v2 d1 d2 fp1 fp2 d G2.fh (r1.grow G2) r2 e3 Q fun v fp F' H' G k => h v fp F' H' ((G1.trans G2).trans G) k
theorem SE.bin {o : Operator} {op : D → D → Option D} (ho : OpS X E (binaryOp o) op) (ha : SE X E W a f) (hb : SE X E W b g) : SE X E W (.BinOp a o b pos) (eBin op f g) := by
  obtain ⟨r, h1, h2⟩ := ho
  obtain ⟨ta, pa, ka⟩ := ha.ex
  obtain ⟨tb, pb, kb⟩ := hb.ex
  exact ⟨ha.hK, _, pe_op h1 pa pb, two_ok ka kb h2⟩
theorem SE.cmp {o : CmpOp} {op : D → D → Option D} (ho : OpS X E (compareOp o) op) (ha : SE X E W a f) (hb : SE X E W b g) (hm : behindInMarks o b = false := by first | exact nomark _ | rfl) : SE X E W (.Compare a [o] [b] pos) (eBin op f g) := by
  obtain ⟨r, h1, h2⟩ := ho
  obtain ⟨ta, pa, ka⟩ := ha.ex
  obtain ⟨tb, pb, kb⟩ := hb.ex
  exact ⟨ha.hK, _, pe_cmpR h1 pa pb hm, two_ok ka kb h2⟩
/-- a bool that was reckoned -/
def asB : Rs D → Rs Bool
  | .ok (.bl b) => .ok b
  | .ex x => .ex x
  | _ => .un
def eB (f : En → Rs D) : En → Rs Bool := fun env => asB (f env)
theorem test_ok {t : TE} (h : OkE E W t f) : OkT E W (tTest t) (eB f) := by
  intro F σ H env S Q q
  refine h F σ H env S _ ?_
  unfold eB at q
  cases e : f env with
  | un => rw [e] at q; exact q
  | ex x => rw [e] at q; exact q
  | ok d =>
    rw [e] at q
    intro v fp F' H' G r
    cases d <;> first | exact q.elim | skip
    cases r
    exact ⟨_, rfl, q F' H' G⟩
theorem ST.cmp {o : CmpOp} {op : D → D → Option D} (ho : OpS X E (compareOp o) op) (ha : SE X E W a f) (hb : SE X E W b g) (hm : behindInMarks o b = false := by first | exact nomark _ | rfl) : ST X E W (.Compare a [o] [b] pos) (eB (eBin op f g)) := by
  obtain ⟨r, h1, h2⟩ := ho
  obtain ⟨ta, pa, ka⟩ := ha.ex
  obtain ⟨tb, pb, kb⟩ := hb.ex
  exact ⟨ha.hK, _, pt_cmpR h1 pa pb hm, test_ok (two_ok ka kb h2)⟩

/-! ### truth -/
def truD : D → Rs Bool
  | .non => .ok false
  | .bl b => .ok b
  | .int i => .ok (i != 0)
  | .str x => .ok (!x.isEmpty)
  | .tup xs => .ok (!xs.isEmpty)
  | .lst xs => .ok (!xs.isEmpty)
  | .olst xs => .ok (!xs.isEmpty)
  | .scr xs => .ok (!xs.isEmpty)
  | _ => .un
def eTru (f : En → Rs D) : En → Rs Bool := fun env => (f env).bind truD
theorem RL.emp {K : Kx} {F H : Hp} {ds : List D} {vs : List V} {fp : List Addr} (h : RL K F H ds vs fp) : vs.isEmpty = ds.isEmpty := by cases h <;> rfl
theorem tru_at {K : Kx} {F H : Hp} {d : D} {v : V} {fp : List Addr} {b : Bool} (hs : Same F H) (r : R K F H d v fp) (e : truD d = .ok b) : TruV K.k v H b := by
  cases r <;> first | (cases e; rfl) | (cases e; done) | skip
  · rename_i x hx
    cases e
    refine ⟨hx.len, ?_⟩
    cases x with
    | nil => rfl
    | cons c cs =>
      show true = (((cs.length + 1 : Nat) : Int) != 0)
      exact (bne_iff_ne.mpr (by omega)).symm
  · rename_i a vs ds h1 h2 hz
    cases e
    exact .inr (.inl ⟨vs, SqT.of (hs _ _ h1), by rw [h2.emp]⟩)
  · rename_i a vs ds h1 h2 hz
    cases e
    exact .inl ⟨vs, SqL.of (hs _ _ h1), by rw [h2.emp]⟩
  · rename_i a ns h1 hz
    cases e
    exact .inl ⟨_, hs.seq h1, by cases ns <;> rfl⟩
  · rename_i a vs ds fp h1 h2 hz
    cases e
    exact .inl ⟨vs, SqL.of h1, by rw [h2.emp]⟩
theorem ST.tru (ha : SE X E W a f) (he : ∀ whole, isTrue a X.env whole = (do let v ← whole; standAt a.pos; holding [v] (truthy v)) := by intro _; rfl) : ST X E W a (eTru f) := by
  obtain ⟨t, p, k⟩ := ha.ex
  refine ⟨ha.hK, _, pt_truth p he, fun F σ H env S Q q => ?_⟩
  refine k F σ H env S _ ?_
  unfold eTru at q
  cases e : f env with
  | un => rw [e] at q; exact q
  | ex x => rw [e] at q; exact q
  | ok d =>
    rw [e, Rs.bind_ok] at q
    intro v fp F' H' G r
    cases e2 : truD d with
    | un => rw [e2] at q; exact q.elim
    | ex x =>
      exfalso
      cases d <;> cases e2
    | ok b =>
      rw [e2] at q
      exact ⟨b, by rw [ha.hK]; exact tru_at G.fh r e2, q F' H' G⟩
/-! ### and, or, not -/
variable {tf tg : En → Rs Bool} {rest : List Expr}
def eAnd (f g : En → Rs Bool) : En → Rs Bool := fun env => (f env).bind fun b => if b then g env else .ok false
def eOr (f g : En → Rs Bool) : En → Rs Bool := fun env => (f env).bind fun b => if b then .ok true else g env
def eNot (f : En → Rs Bool) : En → Rs Bool := fun env => (f env).bind fun b => .ok (!b)
theorem SW.and1 (ha : ST X E W a tf) : SW X E W (.BoolOp .And [a] pos) tf := by
  obtain ⟨t, p, k⟩ := ha.ex
  exact ⟨ha.hK, _, pw_and1 p, k⟩
theorem SW.or1 (ha : ST X E W a tf) : SW X E W (.BoolOp .Or [a] pos) tf := by
  obtain ⟨t, p, k⟩ := ha.ex
  exact ⟨ha.hK, _, pw_or1 p, k⟩
theorem and_ok {t u : TT} (h1 : OkT E W t tf) (h2 : OkT E W u tg) : OkT E W (tAnd t u) (eAnd tf tg) := by
  intro F σ H env S Q q
  refine h1 F σ H env S _ ?_
  unfold eAnd at q
  cases e : tf env with
  | un => rw [e] at q; exact q
  | ex x => rw [e] at q; exact q
  | ok b =>
    rw [e, Rs.bind_ok] at q
    intro F' H' G
    cases b with
    | true => exact h2 F' σ H' env (S.grow G) Q (PostT.mono G q)
    | false => exact q F' H' G
theorem or_ok {t u : TT} (h1 : OkT E W t tf) (h2 : OkT E W u tg) : OkT E W (tOr t u) (eOr tf tg) := by
  intro F σ H env S Q q
  refine h1 F σ H env S _ ?_
  unfold eOr at q
  cases e : tf env with
  | un => rw [e] at q; exact q
  | ex x => rw [e] at q; exact q
  | ok b =>
    rw [e, Rs.bind_ok] at q
    intro F' H' G
    cases b with
    | true => exact q F' H' G
    | false => exact h2 F' σ H' env (S.grow G) Q (PostT.mono G q)
theorem SW.and (ha : ST X E W a tf) (hb : SW X E W (.BoolOp .And (b :: rest) pos) tg) : SW X E W (.BoolOp .And (a :: b :: rest) pos) (eAnd tf tg) := by
  obtain ⟨t, p, k⟩ := ha.ex
  obtain ⟨u, p', k'⟩ := hb.ex
  exact ⟨ha.hK, _, pw_and p p', and_ok k k'⟩
theorem SW.or (ha : ST X E W a tf) (hb : SW X E W (.BoolOp .Or (b :: rest) pos) tg) : SW X E W (.BoolOp .Or (a :: b :: rest) pos) (eOr tf tg) := by
  obtain ⟨t, p, k⟩ := ha.ex
  obtain ⟨u, p', k'⟩ := hb.ex
  exact ⟨ha.hK, _, pw_or p p', or_ok k k'⟩
theorem ST.w (h : SW X E W a tf) : ST X E W a tf := by
  obtain ⟨t, p, k⟩ := h.ex
  exact ⟨h.hK, _, p.pt, k⟩
theorem ST.not (ha : ST X E W a tf) : ST X E W (.UnaryOp .Not a pos) (eNot tf) := by
  obtain ⟨t, p, k⟩ := ha.ex
  refine ⟨ha.hK, _, pt_not p, fun F σ H env S Q q => ?_⟩
  refine k F σ H env S _ ?_
  unfold eNot at q
  cases e : tf env with
  | un => rw [e] at q; exact q
  | ex x => rw [e] at q; exact q
  | ok b =>
    rw [e, Rs.bind_ok] at q
    exact fun F' H' G => q F' H' G
/-- and, or, not as values: bools but the last -/
def eAndV (f : En → Rs D) (g : En → Rs D) : En → Rs D := fun env => (asB (f env)).bind fun b => if b then g env else .ok (.bl false)
def eOrV (f : En → Rs D) (g : En → Rs D) : En → Rs D := fun env => (asB (f env)).bind fun b => if b then .ok (.bl true) else g env
def eNotV (f : En → Rs Bool) : En → Rs D := fun env => (f env).bind fun b => .ok (.bl (!b))
theorem SE.one {op : BoolOp} (ha : SE X E W a f) : SE X E W (.BoolOp op [a] pos) f := by
  obtain ⟨t, p, k⟩ := ha.ex
  exact ⟨ha.hK, _, pe_one p, k⟩
theorem SE.and (ha : SE X E W a f) (hb : SE X E W (.BoolOp .And (b :: rest) pos) g) : SE X E W (.BoolOp .And (a :: b :: rest) pos) (eAndV f g) := by
  obtain ⟨t, p, k⟩ := ha.ex
  obtain ⟨u, p', k'⟩ := hb.ex
  refine ⟨ha.hK, _, pe_and p p', fun F σ H env S Q q => ?_⟩
  refine k F σ H env S _ ?_
  unfold eAndV at q
  cases e : f env with
  | un => rw [e] at q; exact q
  | ex x => rw [e] at q; exact q
  | ok d =>
    rw [e] at q
    intro v fp F' H' G r
    cases d <;> first | exact q.elim | skip
    rename_i b
    cases r
    refine ⟨b, rfl, ?_⟩
    cases b with
    | true => exact k' F' σ H' env (S.grow G) Q (PostE.mono G q)
    | false => exact q _ [] F' H' G (.bl false)
theorem SE.or (ha : SE X E W a f) (hb : SE X E W (.BoolOp .Or (b :: rest) pos) g) : SE X E W (.BoolOp .Or (a :: b :: rest) pos) (eOrV f g) := by
  obtain ⟨t, p, k⟩ := ha.ex
  obtain ⟨u, p', k'⟩ := hb.ex
  refine ⟨ha.hK, _, pe_or p p', fun F σ H env S Q q => ?_⟩
  refine k F σ H env S _ ?_
  unfold eOrV at q
  cases e : f env with
  | un => rw [e] at q; exact q
  | ex x => rw [e] at q; exact q
  | ok d =>
    rw [e] at q
    intro v fp F' H' G r
    cases d <;> first | exact q.elim | skip
    rename_i b
    cases r
    refine ⟨b, rfl, ?_⟩
    cases b with
    | true => exact q _ [] F' H' G (.bl true)
    | false => exact k' F' σ H' env (S.grow G) Q (PostE.mono G q)
def eNotB (f : En → Rs D) : En → Rs D := fun env => (asB (f env)).bind fun b => .ok (.bl (!b))
theorem SE.not (ha : SE X E W a f) : SE X E W (.UnaryOp .Not a pos) (eNotB f) := by
  obtain ⟨t, p, k⟩ := ha.ex
  refine ⟨ha.hK, _, pe_not p, fun F σ H env S Q q => ?_⟩
  refine k F σ H env S _ ?_
  unfold eNotB at q
  cases e : f env with
  | un => rw [e] at q; exact q
  | ex x => rw [e] at q; exact q
  | ok d =>
    rw [e] at q
    intro v fp F' H' G r
    cases d <;> first | exact q.elim | skip
    rename_i b
    cases r
    exact ⟨b, rfl, q _ [] F' H' G (.bl _)⟩
def eIf (c : En → Rs Bool) (f g : En → Rs D) : En → Rs D := fun env => (c env).bind fun b => if b then f env else g env
theorem SE.ite {c : Expr} (hc : ST X E W c tf) (ha : SE X E W a f) (hb : SE X E W b g) : SE X E W (.IfExp c a b pos) (eIf tf f g) := by
  obtain ⟨t, p, k⟩ := hc.ex
  obtain ⟨u, p', k'⟩ := ha.ex
  obtain ⟨u2, p2, k2⟩ := hb.ex
  refine ⟨ha.hK, _, pe_ifExp p p' p2, fun F σ H env S Q q => ?_⟩
  refine k F σ H env S _ ?_
  unfold eIf at q
  cases e : tf env with
  | un => rw [e] at q; exact q
  | ex x => rw [e] at q; exact q
  | ok b =>
    rw [e, Rs.bind_ok] at q
    intro F' H' G
    cases b with
    | true => exact k' F' σ H' env (S.grow G) Q (PostE.mono G q)
    | false => exact k2 F' σ H' env (S.grow G) Q (PostE.mono G q)

/-! ### argument lists, displays -/
def aNil : En → Rs (List D) := fun _ => .ok []
def aCons (f : En → Rs D) (g : En → Rs (List D)) : En → Rs (List D) := fun env => (f env).bind fun d => (g env).bind fun ds => .ok (d :: ds)
theorem SA.nil (hK : X.K = E.K.k := by rfl) : SA X E W [] aNil := ⟨hK, _, pa_nil, fun F σ H env S Q q => q [] [] F H (Grow.refl S.fH) .nil⟩
theorem SA.cons {es : List Expr} {ga : En → Rs (List D)} (ha : SE X E W e f) (hr : SA X E W es ga) (hs : starEach (e :: es) X.env = (false, eval e X.env) :: starEach es X.env := by rfl) : SA X E W (e :: es) (aCons f ga) := by
  obtain ⟨t, p, k⟩ := ha.ex
  obtain ⟨u, p', k'⟩ := hr.ex
  refine ⟨ha.hK, _, pa_cons p p' hs, fun F σ H env S Q q => ?_⟩
  refine k F σ H env S _ ?_
  unfold aCons at q
  cases e : f env with
  | un => rw [e] at q; exact q
  | ex x => rw [e] at q; exact q
  | ok d =>
    rw [e, Rs.bind_ok] at q
    intro v fp F1 H1 G1 r1
    refine k' F1 σ H1 env (S.grow G1) _ ?_
    cases e2 : ga env with
    | un => rw [e2] at q; exact q
    | ex x => rw [e2] at q; exact fun cls dd F' H' g => q cls dd F' H' (G1.trans g)
    | ok ds =>
      rw [e2, Rs.bind_ok] at q
      intro vs fq F2 H2 G2 r2
      exact q _ _ F2 H2 (G1.trans G2) (.cons (r1.grow G2) r2)
/-- all are data -/
def allD (ds : List D) (r : Rs D) : Rs D := if ds.all isData then r else .un
def eTup (g : En → Rs (List D)) : En → Rs D := fun env => (g env).bind fun ds => if ds.all isData && decide (ds.length ≤ 16777216) then .ok (.tup ds) else .un
def eLst (g : En → Rs (List D)) : En → Rs (List D) := fun env => (g env).bind fun ds => if ds.all isData && decide (ds.length ≤ 16777216) then .ok ds else .un
theorem SE.tup {es : List Expr} {ga : En → Rs (List D)} {k1} (h : SA X E W es ga) : SE X E W (.Tuple es k1 pos) (eTup ga) := by
  obtain ⟨t, p, k⟩ := h.ex
  refine ⟨h.hK, _, pe_tup p, fun F σ H env S Q q => ?_⟩
  refine k F σ H env S _ ?_
  unfold eTup at q
  cases e : ga env with
  | un => rw [e] at q; exact q
  | ex x => rw [e] at q; exact q
  | ok ds =>
    rw [e, Rs.bind_ok] at q
    intro vs fp F1 H1 G1 r1
    split at q
    · rename_i hc
      rw [Bool.and_eq_true] at hc
      have r0 := r1.toData hc.1
      refine ⟨by rw [r1.len]; exact of_decide_eq_true hc.2, fun pp hp => ?_⟩
      refine q _ [] _ _ (G1.trans (Grow.new G1.fh hp)) (.tup upd_same (r0.grow (Grow.new G1.fh hp)) (of_decide_eq_true hc.2))
    · exact q.elim
theorem SL.lst {es : List Expr} {ga : En → Rs (List D)} (h : SA X E W es ga) : SL X E W (.List es pos) (eLst ga) := by
  obtain ⟨t, p, k⟩ := h.ex
  refine ⟨h.hK, _, pe_lst p, fun F σ H env S Q q => ?_⟩
  refine k F σ H env S _ ?_
  unfold eLst at q
  cases e : ga env with
  | un => rw [e] at q; exact q
  | ex x => rw [e] at q; exact q
  | ok ds =>
    rw [e, Rs.bind_ok] at q
    intro vs fp F1 H1 G1 r1
    split at q
    · rename_i hc
      rw [Bool.and_eq_true] at hc
      have r0 := r1.toData hc.1
      refine ⟨by rw [r1.len]; exact of_decide_eq_true hc.2, fun pp hp => ?_⟩
      have hp0 : H pp = none := by
        cases q0 : H pp with
        | none => rfl
        | some o => rw [G1.h _ _ q0] at hp; cases hp
      exact q pp vs F1 _ (G1.trans (Grow.own G1.fh hp)) hp0 (same_none G1.fh hp) upd_same (r0.grow (Grow.own G1.fh hp)) (of_decide_eq_true hc.2)
    · exact q.elim
/-- a new list stands still from now on -/
def eOfL (g : En → Rs (List D)) : En → Rs D := fun env => (g env).bind fun ds => .ok (.lst ds)
theorem SE.ofL {ga : En → Rs (List D)} (h : SL X E W e ga) : SE X E W e (eOfL ga) := by
  obtain ⟨t, p, k⟩ := h.ex
  refine ⟨h.hK, _, p, fun F σ H env S Q q => ?_⟩
  refine k F σ H env S _ ?_
  unfold eOfL at q
  cases e : ga env with
  | un => rw [e] at q; exact q
  | ex x => rw [e] at q; exact q
  | ok ds =>
    rw [e, Rs.bind_ok] at q
    intro pp vs F1 H1 G1 hp hF hH r hz
    have gs : Same F1 (upd F1 pp (.lst vs)) := fun b u eb => by rw [upd_ne (ne_of_none eb hF)]; exact eb
    refine q _ [] (upd F1 pp (.lst vs)) H1 ⟨G1.f.trans gs, fun b u eb => ?_, G1.h, fun b u eb => ?_⟩ (.lst upd_same (RL.mono gs ds (fun a z => nomatch z) r) hz)
    · by_cases hb : b = pp
      · subst hb; rw [upd_same] at eb; cases eb; exact hH
      · rw [upd_ne hb] at eb; exact G1.fh b u eb
    · rw [upd_ne (ne_of_none eb hp)]; exact G1.o b u eb
end
end Z

set_option Elab.async false
set_option linter.all false
set_option maxRecDepth 100000
set_option maxHeartbeats 1000000
namespace Z
open PySem L2

section
variable {X : Cx} {E : Ent} {W : WX} {e a b : Expr} {f g : En → Rs D} {pos : Pos}
theorem line_eq : (16777216 : Nat) = sizeLine := sizeLine_eq.symm
theorem StrOk.app {x y : List Nat} (hx : StrOk x) (hy : StrOk y) (h : x.length + y.length ≤ 16777216) : StrOk (x ++ y) :=
  ⟨by rw [List.length_append, ← line_eq]; exact h, fun c hc => (List.mem_append.mp hc).elim (hx.cps c) (hy.cps c)⟩
theorem StrOk.sub {x y : List Nat} (hx : StrOk x) (hl : y.length ≤ x.length) (h : ∀ c ∈ y, c ∈ x) : StrOk y := ⟨Nat.le_trans hl hx.len, fun c hc => hx.cps c (h c hc)⟩
/-- the items of a list that may be copied -/
def listOf : D → Option (List D)
  | .lst xs => some xs
  | .olst xs => if xs.all isData then some xs else none
  | _ => none
theorem listOf_at {K : Kx} {F H : Hp} {d : D} {v : V} {fp : List Addr} {ds : List D} (hs : Same F H) (r : R K F H d v fp) (e : listOf d = some ds) : ∃ a vs, v = .ref a ∧ H a = some (.lst vs) ∧ RL K F H ds vs [] ∧ ds.length ≤ 16777216 := by
  cases r <;> first | (cases e; done) | skip
  · rename_i a vs ds' h1 h2 hz
    cases e
    exact ⟨a, vs, rfl, hs _ _ h1, h2, hz⟩
  · rename_i a vs ds' fp h1 h2 hz
    unfold listOf at e
    dsimp only at e
    split at e
    · rename_i hc
      cases e
      exact ⟨a, vs, rfl, h1, h2.toData hc, hz⟩
    · cases e
/-- the items of what may be gone through -/
def seqOf : D → Option (List D)
  | .tup xs => some xs
  | .lst xs => some xs
  | .olst xs => if xs.all isData then some xs else none
  | .scr ns => some (ns.map .int)
  | _ => none
theorem RL.ints {K : Kx} {F H : Hp} : ∀ ns : List Int, RL K F H (ns.map D.int) (ns.map V.int) []
  | [] => .nil
  | n :: ns => RL.mk0 (.int n) (RL.ints ns)
theorem seqOf_at {K : Kx} {F H : Hp} {d : D} {v : V} {fp : List Addr} {ds : List D} (hs : Same F H) (r : R K F H d v fp) (e : seqOf d = some ds) : ∃ a vs, v = .ref a ∧ (SqL K.k H a vs ∨ SqT K.k H a vs) ∧ RL K F H ds vs [] ∧ ds.length ≤ 16777216 := by
  cases r <;> first | (cases e; done) | skip
  · rename_i a vs ds' h1 h2 hz
    cases e
    exact ⟨a, vs, rfl, .inr (SqT.of (hs _ _ h1)), h2, hz⟩
  · rename_i a vs ds' h1 h2 hz
    cases e
    exact ⟨a, vs, rfl, .inl (SqL.of (hs _ _ h1)), h2, hz⟩
  · rename_i a ns h1 hz
    cases e
    exact ⟨a, _, rfl, .inl (hs.seq h1), RL.ints ns, by rw [List.length_map]; exact hz⟩
  · rename_i a vs ds' fp h1 h2 hz
    unfold seqOf at e
    dsimp only at e
    split at e
    · rename_i hc
      cases e
      exact ⟨a, vs, rfl, .inl (SqL.of h1), h2.toData hc, hz⟩
    · cases e
theorem R.int_inv {K : Kx} {F H : Hp} {i : Int} {v : V} {fp : List Addr} (r : R K F H (.int i) v fp) : v = .int i := by cases r; rfl
theorem R.str_inv {K : Kx} {F H : Hp} {x : List Nat} {v : V} {fp : List Addr} (r : R K F H (.str x) v fp) : v = .str ⟨x.toArray⟩ ∧ StrOk x := by
  cases r with
  | str k => exact ⟨rfl, k⟩
theorem R.tup_inv {K : Kx} {F H : Hp} {ds : List D} {v : V} {fp : List Addr} (r : R K F H (.tup ds) v fp) : ∃ a vs, v = .ref a ∧ SqT K.k F a vs ∧ RL K F H ds vs [] ∧ ds.length ≤ 16777216 := by
  cases r with
  | tup h1 h2 hz => exact ⟨_, _, rfl, SqT.of h1, h2, hz⟩
theorem str_app (x y : List Nat) : (⟨x.toArray⟩ : Str) ++ (⟨y.toArray⟩ : Str) = ⟨(x ++ y).toArray⟩ := by
  show Str.mk (x.toArray ++ y.toArray) = _
  rw [List.append_toArray]

/-! ### + -/
def pAdd : D → D → Option D
  | .int i, .int j => some (.int (i + j))
  | .str x, .str y => if x.length + y.length ≤ 16777216 then some (.str (x ++ y)) else none
  | .tup x, .tup y => if x.length + y.length ≤ 16777216 then some (.tup (x ++ y)) else none
  | x, y => match listOf x, listOf y with
    | some xs, some ys => if xs.length + ys.length ≤ 16777216 then some (.lst (xs ++ ys)) else none
    | _, _ => none
theorem op_int {o : Value → Value → Sem Value} {gg : Int → Int → V} {r : R2} (ho : OpR X o r) : OpR X o r := ho
theorem cat_new {K : Kx} {F H : Hp} {a b : Addr} {vs us : List V} {ds es : List D} {Q : VK} (hz : ds.length + es.length ≤ 16777216) (hs : Same F H) (hl : RL K F H ds vs []) (hr : RL K F H es us [])
    (h : ∀ v fp F' H', Grow F H F' H' → R K F' H' (.lst (ds ++ es)) v fp → Q v H') : ∀ p, H p = none → Q (.ref p) (upd H p (.lst (vs ++ us))) := fun p hp =>
  h _ [] _ _ (Grow.new hs hp) (.lst upd_same ((hl.app0 hr).grow (Grow.new hs hp)) (by rw [List.length_append]; exact hz))
theorem OpS.add (hK : X.K = E.K.k) : OpS X E (binaryOp .Add) pAdd := by
  refine ⟨_, op_add.or (op_add_str.or (op_catA.or op_cat)), fun F H x y d1 d2 fp1 fp2 d hs r1 r2 h Q q => ?_⟩
  have lists : ∀ xs ys, listOf d1 = some xs → listOf d2 = some ys → xs.length + ys.length ≤ 16777216 → d = .lst (xs ++ ys) → rCat x y H Q := by
    intro xs ys e1 e2 hl ed
    obtain ⟨a, vs, rfl, ha, la, _⟩ := listOf_at hs r1 e1
    obtain ⟨b, us, rfl, hb, lb, _⟩ := listOf_at hs r2 e2
    subst ed
    exact ⟨a, b, vs, us, rfl, rfl, ha, hb, by rw [la.len, lb.len, ← line_eq]; exact hl, cat_new (a := a) (b := b) hl hs la lb q⟩
  unfold pAdd at h
  split at h
  · cases r1; cases r2; cases h
    exact .inl ⟨_, _, rfl, rfl, q _ [] F H (Grow.refl hs) (.int _)⟩
  · rename_i x' y'
    split at h
    · rename_i hl
      cases h
      obtain ⟨rfl, k1⟩ := r1.str_inv
      obtain ⟨rfl, k2⟩ := r2.str_inv
      refine .inr (.inl ⟨_, _, rfl, rfl, ?_, ?_⟩)
      · show x'.toArray.size + y'.toArray.size ≤ sizeLine
        rw [List.size_toArray, List.size_toArray, ← line_eq]; exact hl
      · rw [str_app]
        exact q _ [] F H (Grow.refl hs) (.str (k1.app k2 hl))
    · cases h
  · rename_i x' y'
    split at h
    · rename_i hl
      cases h
      obtain ⟨a, vs, rfl, ha, la, _⟩ := r1.tup_inv
      obtain ⟨b, us, rfl, hb, lb, _⟩ := r2.tup_inv
      refine .inr (.inr (.inl ⟨a, b, vs, us, rfl, rfl, ?_, ?_, ?_, fun e0 => ?_, fun _ e0 => ?_, fun _ _ p hp => ?_⟩))
      · rw [hK]; exact same_t hs ha
      · rw [hK]; exact same_t hs hb
      · rw [la.len, lb.len, ← line_eq]; exact hl
      · subst e0
        have : x' = [] := by cases x' with | nil => rfl | cons _ _ => exact absurd la.len (by simp)
        subst this
        exact q _ [] F H (Grow.refl hs) (r2.toData rfl)
      · subst e0
        have : y' = [] := by cases y' with | nil => rfl | cons _ _ => exact absurd lb.len (by simp)
        subst this
        rw [List.append_nil] at q
        exact q _ [] F H (Grow.refl hs) (r1.toData rfl)
      · exact q _ [] _ _ (Grow.new hs hp) (.tup upd_same ((la.app0 lb).grow (Grow.new hs hp)) (by rw [List.length_append]; exact hl))
    · cases h
  · split at h
    · rename_i xs ys e1 e2
      split at h
      · rename_i hl
        cases h
        exact .inr (.inr (.inr (lists xs ys e1 e2 hl rfl)))
      · cases h
    · cases h

/-! ### - * // % ** -/
def pSub : D → D → Option D
  | .int i, .int j => some (.int (i - j))
  | _, _ => none
theorem OpS.sub : OpS X E (binaryOp .Sub) pSub := by
  refine ⟨_, op_sub, fun F H x y d1 d2 fp1 fp2 d hs r1 r2 h Q q => ?_⟩
  unfold pSub at h
  split at h
  · cases r1; cases r2; cases h
    exact ⟨_, _, rfl, rfl, q _ [] F H (Grow.refl hs) (.int _)⟩
  · cases h
def smallI (i : Int) : Bool := decide (-18446744073709551616 < i) && decide (i < 18446744073709551616)
def repS (x : List Nat) (n : Int) : List Nat := (List.replicate n.toNat x).flatten
def pMul : D → D → Option D
  | .int i, .int j => if smallI i || smallI j then some (.int (i * j)) else none
  | .str x, .int n => if x.length * n.toNat ≤ 16777216 ∧ n < 16777216 ∧ -16777216 < n then some (.str (repS x n)) else none
  | _, _ => none
theorem op_mul_str : OpR X (binaryOp .Mult) (fun x y H Q => ∃ z n, x = .str z ∧ y = .int n ∧ MulOk z n ∧ Q (.str (Txt.mul z n)) H) := by
  intro pins s σ H x y v u Q I rx ry h
  obtain ⟨z, n, rfl, rfl, hz, q⟩ := h
  obtain ⟨t, rfl⟩ := rx
  obtain ⟨t', rfl⟩ := ry
  exact PySem.SB.mul hz fun t' tk => ⟨.str _, H, I.tok _, ⟨_, rfl⟩, q⟩
theorem fold_cps : ∀ (n : Nat) (x acc : List Nat), ((List.replicate n x.toArray).foldl (· ++ ·) acc.toArray) = (acc ++ (List.replicate n x).flatten).toArray
  | 0, x, acc => by simp
  | n + 1, x, acc => by
    rw [List.replicate_succ, List.foldl_cons, List.append_toArray, fold_cps n x (acc ++ x), List.replicate_succ, List.flatten_cons, List.append_assoc]
theorem txt_mul (x : List Nat) (n : Int) : Txt.mul ⟨x.toArray⟩ n = ⟨(repS x n).toArray⟩ := by
  unfold Txt.mul repS
  by_cases h : n < 1
  · rw [if_pos h]
    have e : n.toNat = 0 := by omega
    rw [e]
    rfl
  · rw [if_neg h]
    have hl : (⟨x.toArray⟩ : Str).length = x.length := by show x.toArray.size = _; exact List.size_toArray
    split
    · rename_i hc
      rw [Bool.or_eq_true, beq_iff_eq, beq_iff_eq, hl] at hc
      rcases hc with hc | hc
      · subst hc
        simp
      · have : x = [] := List.eq_nil_of_length_eq_zero hc
        subst this
        have : ∀ k : Nat, (List.replicate k ([] : List Nat)).flatten = [] := fun k => by simp
        rw [this]
    · have q := fold_cps n.toNat x []
      show Str.mk ((List.replicate n.toNat x.toArray).foldl (· ++ ·) #[]) = _
      rw [show (#[] : Array Nat) = ([] : List Nat).toArray from rfl, q, List.nil_append]
theorem mul_ok {x : List Nat} {n : Int} (h1 : x.length * n.toNat ≤ 16777216) (h2 : n < 16777216) (h3 : -16777216 < n) : MulOk ⟨x.toArray⟩ n := by
  have hl : (⟨x.toArray⟩ : Str).length = x.length := by show x.toArray.size = _; exact List.size_toArray
  refine ⟨?_, fun hn _ => ?_, fun hn _ => ?_⟩
  · rw [decide_eq_false (by omega), decide_eq_false (by omega)]; rfl
  · rw [hl]
    intro hc
    have hn1 : 0 < n := by omega
    have e : ((x.length : Nat) : Int) * n ≤ 16777216 := by
      have e1 : (n.toNat : Int) = n := by omega
      have e2 : (((x.length * n.toNat : Nat)) : Int) = (x.length : Int) * n := by rw [Int.natCast_mul, e1]
      omega
    have h4 : ((2 : Int) ^ 63 - 1) / n + 1 ≤ (x.length : Int) := by omega
    have h5 : (((2 : Int) ^ 63 - 1) / n + 1) * n ≤ (x.length : Int) * n := Int.mul_le_mul_of_nonneg_right h4 (by omega)
    have h6 := Int.lt_ediv_add_one_mul_self ((2 : Int) ^ 63 - 1) hn1
    omega
  · rw [hl]
    show PySem.Builtin.Str.tooLong _ = false
    unfold PySem.Builtin.Str.tooLong
    exact decide_eq_false (by have := line_eq; omega)
theorem repS_len (x : List Nat) (n : Int) : (repS x n).length = x.length * n.toNat := by
  unfold repS
  rw [List.length_flatten, List.map_replicate, List.sum_replicate_nat, Nat.mul_comm]
theorem StrOk.rep {x : List Nat} {n : Int} (hx : StrOk x) (h : x.length * n.toNat ≤ 16777216) : StrOk (repS x n) := by
  refine ⟨by rw [repS_len, ← line_eq]; exact h, fun c hc => ?_⟩
  unfold repS at hc
  obtain ⟨l, hl, hcl⟩ := List.mem_flatten.mp hc
  rw [List.eq_of_mem_replicate hl] at hcl
  exact hx.cps c hcl
theorem smallI_of {i : Int} (h : smallI i = true) : -(2 ^ 64) < i ∧ i < 2 ^ 64 := by
  unfold smallI at h
  rw [Bool.and_eq_true] at h
  have h1 := of_decide_eq_true h.1
  have h2 := of_decide_eq_true h.2
  omega
theorem OpS.mul : OpS X E (binaryOp .Mult) pMul := by
  refine ⟨_, op_mul.or op_mul_str, fun F H x y d1 d2 fp1 fp2 d hs r1 r2 h Q q => ?_⟩
  unfold pMul at h
  split at h
  · split at h
    · rename_i hc
      cases r1; cases r2; cases h
      rw [Bool.or_eq_true] at hc
      exact .inl ⟨_, _, rfl, rfl, hc.imp smallI_of smallI_of, q _ [] F H (Grow.refl hs) (.int _)⟩
    · cases h
  · split at h
    · rename_i hc
      cases h
      obtain ⟨rfl, k1⟩ := r1.str_inv
      obtain rfl := r2.int_inv
      refine .inr ⟨_, _, rfl, rfl, mul_ok hc.1 hc.2.1 hc.2.2, ?_⟩
      rw [txt_mul]
      exact q _ [] F H (Grow.refl hs) (.str (k1.rep hc.1))
    · cases h
  · cases h
def pDiv : D → D → Option D
  | .int i, .int j => if 0 < j ∧ j < 1073741824 then some (.int (i / j)) else none
  | _, _ => none
theorem OpS.div : OpS X E (binaryOp .FloorDiv) pDiv := by
  refine ⟨_, op_fdiv, fun F H x y d1 d2 fp1 fp2 d hs r1 r2 h Q q => ?_⟩
  unfold pDiv at h
  split at h
  · split at h
    · rename_i hc
      cases r1; cases r2; cases h
      exact ⟨_, _, rfl, rfl, hc, q _ [] F H (Grow.refl hs) (.int _)⟩
    · cases h
  · cases h
def pMod : D → D → Option D
  | .int i, .int j => if 0 < j then some (.int (i % j)) else none
  | _, _ => none
theorem OpS.mod : OpS X E (binaryOp .Mod) pMod := by
  refine ⟨_, op_mod, fun F H x y d1 d2 fp1 fp2 d hs r1 r2 h Q q => ?_⟩
  unfold pMod at h
  split at h
  · split at h
    · rename_i hc
      cases r1; cases r2; cases h
      exact ⟨_, _, rfl, rfl, hc, q _ [] F H (Grow.refl hs) (.int _)⟩
    · cases h
  · cases h
def pPow : D → D → Option D
  | .int i, .int j => if 0 ≤ j ∧ j ≤ 1000000 ∧ i.natAbs < 18446744073709551616 then some (.int (i ^ j.toNat)) else none
  | _, _ => none
theorem OpS.pow : OpS X E (binaryOp .Pow) pPow := by
  refine ⟨_, op_pow, fun F H x y d1 d2 fp1 fp2 d hs r1 r2 h Q q => ?_⟩
  unfold pPow at h
  split at h
  · split at h
    · rename_i hc
      cases r1; cases r2; cases h
      exact ⟨_, _, rfl, rfl, ⟨hc.1, hc.2.1, by have := hc.2.2; omega⟩, q _ [] F H (Grow.refl hs) (.int _)⟩
    · cases h
  · cases h

/-! ### comparisons -/
def ltL : List Nat → List Nat → Bool := fun x y => decide (x < y)
def pLt : D → D → Option D
  | .int i, .int j => some (.bl (decide (i < j)))
  | .str x, .str y => some (.bl (ltL x y))
  | _, _ => none
def pLe : D → D → Option D
  | .int i, .int j => some (.bl (decide (i ≤ j)))
  | .str x, .str y => some (.bl (!ltL y x))
  | _, _ => none
def pGt : D → D → Option D
  | .int i, .int j => some (.bl (decide (j < i)))
  | .str x, .str y => some (.bl (ltL y x))
  | _, _ => none
def pGe : D → D → Option D
  | .int i, .int j => some (.bl (decide (j ≤ i)))
  | .str x, .str y => some (.bl (!ltL x y))
  | _, _ => none
theorem OpS.lt : OpS X E (compareOp .Lt) pLt := by
  refine ⟨_, op_lt.or op_lt_str, fun F H x y d1 d2 fp1 fp2 d hs r1 r2 h Q q => ?_⟩
  unfold pLt at h
  split at h <;> cases h
  · cases r1; cases r2
    exact .inl ⟨_, _, rfl, rfl, q _ [] F H (Grow.refl hs) (.bl _)⟩
  · obtain ⟨rfl, k1⟩ := r1.str_inv
    obtain ⟨rfl, k2⟩ := r2.str_inv
    exact .inr ⟨_, _, rfl, rfl, q _ [] F H (Grow.refl hs) (.bl _)⟩
theorem OpS.le : OpS X E (compareOp .LtE) pLe := by
  refine ⟨_, op_le.or op_le_str, fun F H x y d1 d2 fp1 fp2 d hs r1 r2 h Q q => ?_⟩
  unfold pLe at h
  split at h <;> cases h
  · cases r1; cases r2
    exact .inl ⟨_, _, rfl, rfl, q _ [] F H (Grow.refl hs) (.bl _)⟩
  · obtain ⟨rfl, k1⟩ := r1.str_inv
    obtain ⟨rfl, k2⟩ := r2.str_inv
    exact .inr ⟨_, _, rfl, rfl, q _ [] F H (Grow.refl hs) (.bl _)⟩
theorem OpS.gt : OpS X E (compareOp .Gt) pGt := by
  refine ⟨_, op_gt.or op_gt_str, fun F H x y d1 d2 fp1 fp2 d hs r1 r2 h Q q => ?_⟩
  unfold pGt at h
  split at h <;> cases h
  · cases r1; cases r2
    exact .inl ⟨_, _, rfl, rfl, q _ [] F H (Grow.refl hs) (.bl _)⟩
  · obtain ⟨rfl, k1⟩ := r1.str_inv
    obtain ⟨rfl, k2⟩ := r2.str_inv
    exact .inr ⟨_, _, rfl, rfl, q _ [] F H (Grow.refl hs) (.bl _)⟩
theorem OpS.ge : OpS X E (compareOp .GtE) pGe := by
  refine ⟨_, op_ge.or op_ge_str, fun F H x y d1 d2 fp1 fp2 d hs r1 r2 h Q q => ?_⟩
  unfold pGe at h
  split at h <;> cases h
  · cases r1; cases r2
    exact .inl ⟨_, _, rfl, rfl, q _ [] F H (Grow.refl hs) (.bl _)⟩
  · obtain ⟨rfl, k1⟩ := r1.str_inv
    obtain ⟨rfl, k2⟩ := r2.str_inv
    exact .inr ⟨_, _, rfl, rfl, q _ [] F H (Grow.refl hs) (.bl _)⟩
/-! equality -/
mutual
def eqv : D → D → Bool
  | .non, .non => true
  | .bl a, .bl b => a == b
  | .bl a, .int j => (if a then 1 else 0) == j
  | .int i, .bl b => i == (if b then 1 else 0)
  | .int i, .int j => i == j
  | .str x, .str y => x == y
  | .tup xs, .tup ys => eqvL xs ys
  | .lst xs, .lst ys => eqvL xs ys
  | .lst xs, .olst ys => eqvL xs ys
  | .olst xs, .lst ys => eqvL xs ys
  | .olst xs, .olst ys => eqvL xs ys
  | _, _ => false
def eqvL : List D → List D → Bool
  | [], [] => true
  | x :: xs, y :: ys => eqv x y && eqvL xs ys
  | [], _ :: _ => false
  | _ :: _, [] => false
end
mutual
def toPy : D → PyData
  | .bl b => .bool b
  | .int i => .int i
  | .str x => .str ⟨x.toArray⟩
  | .tup xs => .tuple (toPyL xs)
  | .lst xs => .list (toPyL xs)
  | .olst xs => .list (toPyL xs)
  | _ => .none
def toPyL : List D → List PyData
  | [] => []
  | x :: xs => toPy x :: toPyL xs
end
mutual
/-- may be compared: data of at most n levels -/
def okPy : Nat → D → Bool
  | _, .non => true
  | _, .bl _ => true
  | _, .int _ => true
  | _, .str _ => true
  | n + 1, .tup xs => okPyL n xs
  | n + 1, .lst xs => okPyL n xs
  | n + 1, .olst xs => okPyL n xs
  | _, _ => false
def okPyL : Nat → List D → Bool
  | _, [] => true
  | n, x :: xs => okPy n x && okPyL n xs
end

theorem str_beq (x y : List Nat) : ((⟨x.toArray⟩ : Str) == (⟨y.toArray⟩ : Str)) = (x == y) := by
  by_cases h : x = y
  · subst h; simp
  · have h2 : ¬ ((⟨x.toArray⟩ : Str) = ⟨y.toArray⟩) := fun e => h (by
      have := congrArg Str.cps e
      simpa using this)
    rw [beq_eq_false_iff_ne.mpr h, beq_eq_false_iff_ne.mpr h2]
mutual
theorem eqv_py : ∀ (n : Nat) (a b : D) (m : Nat), okPy n a = true → okPy m b = true → PyData.eqv (toPy a) (toPy b) = eqv a b := by
  intro n a b m h1 h2
  cases a <;> (try (cases n <;> simp [okPy] at h1; done)) <;> cases b <;> (try (cases m <;> simp [okPy] at h2; done)) <;> (try (simp only [toPy, PyData.eqv, eqv]; done)) <;> (try (simp only [toPy, PyData.eqv, eqv, str_beq]; done))
  all_goals
    cases n with
    | zero => cases h1
    | succ n =>
      cases m with
      | zero => cases h2
      | succ m =>
        simp only [toPy, PyData.eqv, eqv]
        exact eqvL_py n _ _ m (by simpa only [okPy] using h1) (by simpa only [okPy] using h2)
theorem eqvL_py : ∀ (n : Nat) (a b : List D) (m : Nat), okPyL n a = true → okPyL m b = true → PyData.eqvAll (toPyL a) (toPyL b) = eqvL a b := by
  intro n a b m h1 h2
  cases a with
  | nil => cases b <;> simp only [toPyL, PyData.eqvAll, eqvL]
  | cons x xs =>
    cases b with
    | nil => simp only [toPyL, PyData.eqvAll, eqvL]
    | cons y ys =>
      simp only [okPyL, Bool.and_eq_true] at h1 h2
      simp only [toPyL, PyData.eqvAll, eqvL]
      rw [eqv_py n x y m h1.1 h2.1, eqvL_py n xs ys m h1.2 h2.2]
end

mutual
theorem R.dp {K : Kx} {F H : Hp} (hs : Same F H) : ∀ (n : Nat) (d : D) {v : V} {fp : List Addr}, okPy n d = true → R K F H d v fp → Dp K.k H v (toPy d) ∧ (toPy d).canLay0 = true ∧ (toPy d).depth ≤ n := by
  intro n d v fp ho r
  cases d <;> (try (cases n <;> simp [okPy] at ho; done))
  · cases r; exact ⟨.non, rfl, Nat.zero_le _⟩
  · cases r; exact ⟨.bl _, rfl, Nat.zero_le _⟩
  · cases r; exact ⟨.int _, rfl, Nat.zero_le _⟩
  · obtain ⟨rfl, k⟩ := r.str_inv
    rename_i x
    refine ⟨.str _, ?_, Nat.zero_le _⟩
    show PySem.PyData.strOk ⟨x.toArray⟩ = true
    unfold PySem.PyData.strOk
    rw [Array.all_eq_true_iff_forall_mem]
    intro c hc
    exact decide_eq_true (k.cps c (by simpa using hc))
  all_goals
    cases n with
    | zero => cases ho
    | succ n =>
      have ho' : okPyL n _ = true := ho
      cases r
      rename_i h1 h2 hz
      obtain ⟨q1, q2, q3⟩ := RL.dp hs n _ ho' h2
      refine ⟨?_, ?_, ?_⟩
      · first
          | exact .tup (SqT.of (hs _ _ h1)) q1
          | exact .lst (SqL.of (hs _ _ h1)) q1
          | exact .lst (SqL.of h1) q1
      · simp only [toPy, PyData.canLay0]; exact q2
      · simp only [toPy, PyData.depth]; omega
theorem RL.dp {K : Kx} {F H : Hp} (hs : Same F H) : ∀ (n : Nat) (ds : List D) {vs : List V} {fp : List Addr}, okPyL n ds = true → RL K F H ds vs fp → DpAll K.k H vs (toPyL ds) ∧ PyData.canLayAll0 (toPyL ds) = true ∧ PyData.depthAll (toPyL ds) ≤ n := by
  intro n ds vs fp ho r
  cases ds with
  | nil => cases r; exact ⟨.nil, rfl, Nat.zero_le _⟩
  | cons d ds =>
    simp only [okPyL, Bool.and_eq_true] at ho
    cases r with
    | cons h1 h2 =>
      obtain ⟨q1, q2, q3⟩ := R.dp hs n d ho.1 h1
      obtain ⟨p1, p2, p3⟩ := RL.dp hs n ds ho.2 h2
      refine ⟨.cons q1 p1, ?_, ?_⟩
      · simp only [toPyL, PyData.canLayAll0, q2, p2, Bool.and_self]
      · simp only [toPyL, PyData.depthAll]; omega
end
theorem shaped_of {d : PyData} {n : Nat} (h : d.canLay0 = true) (hd : d.depth ≤ n) (hn : n ≤ 64) : SeqAt.shaped d = true := by
  unfold SeqAt.shaped
  rw [h, decide_eq_true (Nat.le_trans hd hn)]
  rfl
def pEq (a b : D) : Option D := if okPy 60 a && okPy 60 b then some (.bl (eqv a b)) else none
def pNe (a b : D) : Option D := if okPy 60 a && okPy 60 b then some (.bl (!eqv a b)) else none
theorem OpS.eq (hK : X.K = E.K.k) (hu : X.A.units + 64 < cLine) : OpS X E (compareOp .Eq) pEq := by
  refine ⟨_, op_eqD hu, fun F H x y d1 d2 fp1 fp2 d hs r1 r2 h Q q => ?_⟩
  unfold pEq at h
  split at h
  · rename_i hc
    rw [Bool.and_eq_true] at hc
    cases h
    obtain ⟨q1, q2, q3⟩ := R.dp hs 60 d1 hc.1 r1
    obtain ⟨p1, p2, p3⟩ := R.dp hs 60 d2 hc.2 r2
    refine ⟨_, _, by rw [hK]; exact q1, by rw [hK]; exact p1, shaped_of q2 q3 (by decide), shaped_of p2 p3 (by decide), ?_⟩
    rw [eqv_py 60 d1 d2 60 hc.1 hc.2]
    exact q _ [] F H (Grow.refl hs) (.bl _)
  · cases h
theorem OpS.ne (hK : X.K = E.K.k) (hu : X.A.units + 64 < cLine) : OpS X E (compareOp .NotEq) pNe := by
  refine ⟨_, op_neD hu, fun F H x y d1 d2 fp1 fp2 d hs r1 r2 h Q q => ?_⟩
  unfold pNe at h
  split at h
  · rename_i hc
    rw [Bool.and_eq_true] at hc
    cases h
    obtain ⟨q1, q2, q3⟩ := R.dp hs 60 d1 hc.1 r1
    obtain ⟨p1, p2, p3⟩ := R.dp hs 60 d2 hc.2 r2
    refine ⟨_, _, by rw [hK]; exact q1, by rw [hK]; exact p1, shaped_of q2 q3 (by decide), shaped_of p2 p3 (by decide), ?_⟩
    rw [eqv_py 60 d1 d2 60 hc.1 hc.2]
    exact q _ [] F H (Grow.refl hs) (.bl _)
  · cases h
def isNon : D → Bool
  | .non => true
  | _ => false
def pIs (a b : D) : Option D := match b with
  | .non => some (.bl (isNon a))
  | _ => none
def pIsnt (a b : D) : Option D := match b with
  | .non => some (.bl (!isNon a))
  | _ => none
theorem isNon_at {K : Kx} {F H : Hp} {d : D} {v : V} {fp : List Addr} (r : R K F H d v fp) : decide (v = V.non) = isNon d := by
  cases r <;> first | rfl | skip
  rename_i h _ _
  subst h
  rfl
theorem OpS.is : OpS X E (compareOp .Is) pIs := by
  refine ⟨_, op_isN, fun F H x y d1 d2 fp1 fp2 d hs r1 r2 h Q q => ?_⟩
  unfold pIs at h
  split at h <;> cases h
  cases r2
  refine ⟨rfl, ?_⟩
  rw [isNon_at r1]
  exact q _ [] F H (Grow.refl hs) (.bl _)
theorem OpS.isnt : OpS X E (compareOp .IsNot) pIsnt := by
  refine ⟨_, op_notN, fun F H x y d1 d2 fp1 fp2 d hs r1 r2 h Q q => ?_⟩
  unfold pIsnt at h
  split at h <;> cases h
  cases r2
  refine ⟨rfl, ?_⟩
  rw [isNon_at r1]
  exact q _ [] F H (Grow.refl hs) (.bl _)
/-! in -/
def pIn (a b : D) : Option D := match b with
  | .str y => match a with
    | .str [c] => some (.bl (decide (c ∈ y)))
    | _ => none
  | .tup ys => if okPy 60 a && okPyL 60 ys then some (.bl (ys.any fun z => eqv z a)) else none
  | .lst ys => if okPy 60 a && okPyL 60 ys then some (.bl (ys.any fun z => eqv z a)) else none
  | .olst ys => if okPy 60 a && okPyL 60 ys then some (.bl (ys.any fun z => eqv z a)) else none
  | _ => none
def notO : Option D → Option D
  | some (.bl b) => some (.bl (!b))
  | _ => none
def pNotIn (a b : D) : Option D := notO (pIn a b)
theorem any_py : ∀ (ys : List D) (a : D) (n m : Nat), okPy n a = true → okPyL m ys = true → ((toPyL ys).any fun z => PyData.eqv z (toPy a)) = ys.any fun z => eqv z a
  | [], _, _, _, _, _ => rfl
  | y :: ys, a, n, m, h1, h2 => by
    simp only [okPyL, Bool.and_eq_true] at h2
    simp only [toPyL, List.any_cons]
    rw [eqv_py m y a n h2.1 h1, any_py ys a n m h1 h2.2]

def rInDT (K : PySem.W.Frag) : R2 := fun x y H Q => ∃ d ds, Dp K H x d ∧ Dp K H y (.tuple ds) ∧ SeqAt.shaped d = true ∧ SeqAt.shaped (.tuple ds) = true ∧ Q (.bl (ds.any fun z => PyData.eqv z d)) H
def rNotInDT (K : PySem.W.Frag) : R2 := fun x y H Q => ∃ d ds, Dp K H x d ∧ Dp K H y (.tuple ds) ∧ SeqAt.shaped d = true ∧ SeqAt.shaped (.tuple ds) = true ∧ Q (.bl (!ds.any fun z => PyData.eqv z d)) H
theorem op_inDT (hu : X.A.units + 65 < cLine) : OpR X (compareOp .In) (rInDT X.K) := by
  intro pins s σ H x y v u Q I rx ry h
  obtain ⟨d, ds, hd, he, sd, se, q⟩ := h
  obtain ⟨as, r1⟩ := Dp.reads I d x v hd rx
  obtain ⟨bs, r2⟩ := Dp.reads I (.tuple ds) y u he ry
  exact SeqAt.in_tuple_reads r2 r1 (SeqAt.canLay_of_shaped se) (SeqAt.canLay_of_shaped sd) (PyProof.Rows.room_in_shaped sd hu) ⟨.bl _, H, I, rfl, q⟩
theorem op_notInDT (hu : X.A.units + 65 < cLine) : OpR X (compareOp .NotIn) (rNotInDT X.K) := by
  intro pins s σ H x y v u Q I rx ry h
  obtain ⟨d, ds, hd, he, sd, se, q⟩ := h
  obtain ⟨as, r1⟩ := Dp.reads I d x v hd rx
  obtain ⟨bs, r2⟩ := Dp.reads I (.tuple ds) y u he ry
  exact SeqAt.notIn_tuple_reads r2 r1 (SeqAt.canLay_of_shaped se) (SeqAt.canLay_of_shaped sd) (PyProof.Rows.room_in_shaped sd hu) ⟨.bl _, H, I, rfl, q⟩
theorem dp_list {K : Kx} {F H : Hp} {ys : List D} {v : V} {fp : List Addr} {d : D} (hd : d = .lst ys ∨ d = .olst ys) (hs : Same F H) (ho : okPyL 60 ys = true) (r : R K F H d v fp) : Dp K.k H v (.list (toPyL ys)) ∧ SeqAt.shaped (.list (toPyL ys)) = true := by
  rcases hd with rfl | rfl
  · obtain ⟨q1, q2, q3⟩ := R.dp hs 61 (.lst ys) (by simpa only [okPy] using ho) r
    exact ⟨q1, shaped_of q2 q3 (by decide)⟩
  · obtain ⟨q1, q2, q3⟩ := R.dp hs 61 (.olst ys) (by simpa only [okPy] using ho) r
    exact ⟨q1, shaped_of q2 q3 (by decide)⟩
theorem dp_tup {K : Kx} {F H : Hp} {ys : List D} {v : V} {fp : List Addr} (hs : Same F H) (ho : okPyL 60 ys = true) (r : R K F H (.tup ys) v fp) : Dp K.k H v (.tuple (toPyL ys)) ∧ SeqAt.shaped (.tuple (toPyL ys)) = true := by
  obtain ⟨q1, q2, q3⟩ := R.dp hs 61 (.tup ys) (by simpa only [okPy] using ho) r
  exact ⟨q1, shaped_of q2 q3 (by decide)⟩
theorem OpS.isin (hK : X.K = E.K.k) (hu : X.A.units + 65 < cLine) : OpS X E (compareOp .In) pIn := by
  refine ⟨_, op_in_sign.or ((op_inD hu).or (op_inDT hu)), fun F H x y d1 d2 fp1 fp2 d hs r1 r2 h Q q => ?_⟩
  unfold pIn at h
  split at h
  · split at h <;> cases h
    obtain ⟨rfl, k1⟩ := r1.str_inv
    obtain ⟨rfl, k2⟩ := r2.str_inv
    refine .inl ⟨_, _, rfl, rfl, ?_⟩
    exact q _ [] F H (Grow.refl hs) (.bl _)
  all_goals (try (cases h; done))
  all_goals
    split at h
    · rename_i hc
      rw [Bool.and_eq_true] at hc
      cases h
      obtain ⟨q1, q2, q3⟩ := R.dp hs 60 d1 hc.1 r1
      rw [← any_py _ d1 60 60 hc.1 hc.2] at q
      first
        | (obtain ⟨p1, p2⟩ := dp_tup hs hc.2 r2
           refine .inr (.inr ⟨_, _, by rw [hK]; exact q1, by rw [hK]; exact p1, shaped_of q2 q3 (by decide), p2, ?_⟩)
           exact q _ [] F H (Grow.refl hs) (.bl _))
        | (obtain ⟨p1, p2⟩ := dp_list (.inl rfl) hs hc.2 r2
           refine .inr (.inl ⟨_, _, by rw [hK]; exact q1, by rw [hK]; exact p1, shaped_of q2 q3 (by decide), p2, ?_⟩)
           exact q _ [] F H (Grow.refl hs) (.bl _))
        | (obtain ⟨p1, p2⟩ := dp_list (.inr rfl) hs hc.2 r2
           refine .inr (.inl ⟨_, _, by rw [hK]; exact q1, by rw [hK]; exact p1, shaped_of q2 q3 (by decide), p2, ?_⟩)
           exact q _ [] F H (Grow.refl hs) (.bl _))
    · cases h
theorem OpS.notin (hK : X.K = E.K.k) (hu : X.A.units + 65 < cLine) : OpS X E (compareOp .NotIn) pNotIn := by
  refine ⟨_, op_notIn_sign.or ((op_notInD hu).or (op_notInDT hu)), fun F H x y d1 d2 fp1 fp2 d hs r1 r2 h Q q => ?_⟩
  unfold pNotIn pIn at h
  split at h
  · split at h <;> cases h
    obtain ⟨rfl, k1⟩ := r1.str_inv
    obtain ⟨rfl, k2⟩ := r2.str_inv
    refine .inl ⟨_, _, rfl, rfl, ?_⟩
    exact q _ [] F H (Grow.refl hs) (.bl _)
  all_goals (try (cases h; done))
  all_goals
    split at h
    · rename_i hc
      rw [Bool.and_eq_true] at hc
      cases h
      obtain ⟨q1, q2, q3⟩ := R.dp hs 60 d1 hc.1 r1
      rw [← any_py _ d1 60 60 hc.1 hc.2] at q
      first
        | (obtain ⟨p1, p2⟩ := dp_tup hs hc.2 r2
           refine .inr (.inr ⟨_, _, by rw [hK]; exact q1, by rw [hK]; exact p1, shaped_of q2 q3 (by decide), p2, ?_⟩)
           exact q _ [] F H (Grow.refl hs) (.bl _))
        | (obtain ⟨p1, p2⟩ := dp_list (.inl rfl) hs hc.2 r2
           refine .inr (.inl ⟨_, _, by rw [hK]; exact q1, by rw [hK]; exact p1, shaped_of q2 q3 (by decide), p2, ?_⟩)
           exact q _ [] F H (Grow.refl hs) (.bl _))
        | (obtain ⟨p1, p2⟩ := dp_list (.inr rfl) hs hc.2 r2
           refine .inr (.inl ⟨_, _, by rw [hK]; exact q1, by rw [hK]; exact p1, shaped_of q2 q3 (by decide), p2, ?_⟩)
           exact q _ [] F H (Grow.refl hs) (.bl _))
    · cases h

/-! ### x[i], x[a:b] -/
def pIx (a b : D) : Option D := match b with
  | .int i => match a with
    | .str x => (atI x i).map fun c => .str [c]
    | .tup xs => atI xs i
    | .lst xs => atI xs i
    | .olst xs => (atI xs i).bind fun d => if isData d then some d else none
    | .scr ns => (atI ns i).map D.int
    | _ => none
  | _ => none
theorem atI_ix {α : Type} {xs : List α} {i : Int} {x : α} (h : atI xs i = some x) : ∃ j, ixN xs.length i = some j ∧ xs[j]? = some x := by
  unfold atI at h
  cases e : ixN xs.length i with
  | none => rw [e] at h; cases h
  | some j => rw [e] at h; exact ⟨j, rfl, h⟩
theorem atI_rel {K : Kx} {F H : Hp} {ds : List D} {vs : List V} {i : Int} {d : D} (h : RL K F H ds vs []) (e : atI ds i = some d) : ∃ v, atI vs i = some v ∧ R K F H d v [] := by
  obtain ⟨j, e1, e2⟩ := atI_ix e
  obtain ⟨v, h1, h2⟩ := h.get0 e2
  refine ⟨v, ?_, h2⟩
  unfold atI
  rw [h.len, e1]
  exact h1
theorem RL.get : ∀ {K : Kx} {F H : Hp} {ds : List D} {vs : List V} {fp : List Addr} {i : Nat} {d : D}, RL K F H ds vs fp → ds[i]? = some d → ∃ v fq, vs[i]? = some v ∧ R K F H d v fq
  | _, _, _, _, _, _, _, _, .nil, e => by simp at e
  | _, _, _, _, _, _, 0, _, .cons r _, e => by simp at e; subst e; exact ⟨_, _, rfl, r⟩
  | _, _, _, _, _, _, i + 1, _, .cons _ t, e => by
    obtain ⟨v, fq, h1, h2⟩ := RL.get (i := i) t (by simpa using e)
    exact ⟨v, fq, by simpa using h1, h2⟩
theorem atI_rel2 {K : Kx} {F H : Hp} {ds : List D} {vs : List V} {fp : List Addr} {i : Int} {d : D} (h : RL K F H ds vs fp) (e : atI ds i = some d) : ∃ v fq, atI vs i = some v ∧ R K F H d v fq := by
  obtain ⟨j, e1, e2⟩ := atI_ix e
  obtain ⟨v, fq, h1, h2⟩ := h.get e2
  refine ⟨v, fq, ?_, h2⟩
  unfold atI
  rw [h.len, e1]
  exact h1
/-- what x[i] asks -/
def IxS (X : Cx) (E : Ent) (g : D → D → Option D) : Prop :=
  ∃ r, IxR X r ∧ ∀ F H x y d1 d2 fp1 fp2 d, Same F H → R E.K F H d1 x fp1 → R E.K F H d2 y fp2 → g d1 d2 = some d → ∀ Q : VK,
    (∀ v fp F' H', Grow F H F' H' → R E.K F' H' d v fp → Q v H') → r x y H Q
theorem ixS (hK : X.K = E.K.k) : IxS X E pIx := by
  refine ⟨_, ix_seq, fun F H x y d1 d2 fp1 fp2 d hs r1 r2 h Q q => ?_⟩
  unfold pIx at h
  split at h
  · rename_i dd i
    obtain rfl := r2.int_inv
    split at h
    · rename_i x'
      obtain ⟨rfl, k1⟩ := r1.str_inv
      cases ec : atI x' i with
      | none => rw [ec] at h; cases h
      | some c =>
        rw [ec] at h
        cases h
        refine .inr (.inr ⟨_, _, c, rfl, rfl, ?_, ec, ?_⟩)
        · show x'.toArray.size ≤ sizeLine
          rw [List.size_toArray]; exact k1.len
        · obtain ⟨j, _, e2⟩ := atI_ix ec
          exact q _ [] F H (Grow.refl hs) (.str ⟨by show 1 ≤ sizeLine; decide, fun c' hc => by rw [List.mem_singleton.mp hc]; exact k1.cps c (List.mem_of_getElem? e2)⟩)
    · obtain ⟨p, vs, rfl, hp', hl, _⟩ := r1.tup_inv
      obtain ⟨v, e1, e2⟩ := atI_rel hl h
      exact .inr (.inl ⟨p, vs, _, v, rfl, rfl, by rw [hK]; exact same_t hs hp', e1, q _ [] F H (Grow.refl hs) e2⟩)
    · cases r1 with
      | lst hp' hl =>
        obtain ⟨v, e1, e2⟩ := atI_rel hl h
        exact .inl ⟨_, _, _, v, rfl, rfl, SqL.of (hs _ _ hp'), e1, q _ [] F H (Grow.refl hs) e2⟩
    · cases r1 with
      | olst hp' hl =>
        rename_i xs _ _ _ _
        cases ec : atI xs i with
        | none => rw [ec] at h; cases h
        | some c =>
          rw [ec] at h
          simp only [Option.bind_some] at h
          split at h
          · rename_i hd
            cases h
            obtain ⟨v, fq, e1, e2⟩ := atI_rel2 hl ec
            exact .inl ⟨_, _, _, v, rfl, rfl, SqL.of hp', e1, q _ fq F H (Grow.refl hs) e2⟩
          · cases h
    · cases r1 with
      | scr hp' =>
        rename_i ns _ _
        cases ec : atI ns i with
        | none => rw [ec] at h; cases h
        | some c =>
          rw [ec] at h
          cases h
          have e0 : atI (ns.map D.int) i = some (.int c) := by
            obtain ⟨j, e1, e2⟩ := atI_ix ec
            unfold atI
            rw [List.length_map, e1]
            show (ns.map D.int)[j]? = _
            rw [List.getElem?_map, e2]; rfl
          obtain ⟨v, e1, e2⟩ := atI_rel (K := E.K) (F := F) (H := H) (RL.ints ns) e0
          exact .inl ⟨_, _, _, v, rfl, rfl, by rw [hK]; exact hs.seq hp', e1, q _ [] F H (Grow.refl hs) e2⟩
    · cases h
  · cases h
theorem SE.ix (ha : SE X E W a f) (hb : SE X E W b g) (hp : PlainIx b := by exact fun _ _ => rfl) : SE X E W (.Subscript a b pos) (eBin pIx f g) := by
  obtain ⟨ta, pa, ka⟩ := ha.ex
  obtain ⟨tb, pb, kb⟩ := hb.ex
  obtain ⟨r, h1, h2⟩ := ixS (E := E) ha.hK
  exact ⟨ha.hK, _, pe_ix h1 pa pb hp, two_ok ka kb h2⟩
end
end Z

set_option Elab.async false
set_option linter.all false
set_option maxRecDepth 100000
set_option maxHeartbeats 1000000
namespace Z
open PySem L2
section
variable {X : Cx} {E : Ent} {W : WX} {e a b : Expr} {f g : En → Rs D} {pos : Pos}
/-! ### slices -/
def PostO (E : Ent) (W : WX) (F H : Hp) (σ : St) (Q : Option Int → Hp → Prop) : Rs (Option Int) → Prop
  | .ok o => ∀ F' H', Grow F H F' H' → Q o H'
  | .ex x => ∀ cls dd F' H', Grow F H F' H' → Rx E.K F' H' x cls dd → W cls dd σ H'
  | .un => False
structure SO (X : Cx) (E : Ent) (W : WX) (e : Option Expr) (f : En → Rs (Option Int)) : Prop where
  ex : ∃ t, PO X e t ∧ ∀ F σ H env, Stt E F env σ H → ∀ Q, PostO E W F H σ Q (f env) → t σ H Q
def oNone : En → Rs (Option Int) := fun _ => .ok none
def asI : D → Rs (Option Int)
  | .int i => .ok (some i)
  | _ => .un
def oSome (f : En → Rs D) : En → Rs (Option Int) := fun env => (f env).bind asI
theorem SO.none : SO X E W none oNone := ⟨_, po_none, fun F σ H env S Q q => q F H (Grow.refl S.fH)⟩
theorem SO.some (h : SE X E W e f) : SO X E W (some e) (oSome f) := by
  obtain ⟨t, p, k⟩ := h.ex
  refine ⟨_, po_some p, fun F σ H env S Q q => ?_⟩
  refine k F σ H env S _ ?_
  unfold oSome at q
  cases e : f env with
  | un => rw [e] at q; exact q
  | ex x => rw [e] at q; exact q
  | ok d =>
    rw [e, Rs.bind_ok] at q
    intro v fp F' H' G r
    cases d <;> first | exact q.elim | skip
    cases r
    exact ⟨_, rfl, q F' H' G⟩
def cutL {α : Type} (xs : List α) (lo hi : Option Int) : List α := (xs.drop (HT.sIx xs.length 0 lo)).take (HT.sIx xs.length xs.length hi - HT.sIx xs.length 0 lo)
def pSl (d : D) (lo hi : Option Int) : Option D := match d with
  | .str x => some (.str (cutL x lo hi))
  | .tup xs => some (.tup (cutL xs lo hi))
  | d => (listOf d).map fun xs => .lst (cutL xs lo hi)
def eSl (f : En → Rs D) (lo hi : En → Rs (Option Int)) : En → Rs D := fun env => (f env).bind fun d => (lo env).bind fun l => (hi env).bind fun h => ofO (pSl d l h)
theorem cut_str (x : List Nat) (lo hi : Option Int) : cutS ⟨x.toArray⟩ lo hi = ⟨(cutL x lo hi).toArray⟩ := by
  unfold cutS cutL
  have hl : (⟨x.toArray⟩ : Str).length = x.length := by show x.toArray.size = _; exact List.size_toArray
  rw [hl]
theorem RL.cut {K : Kx} {F H : Hp} {ds : List D} {vs : List V} (h : RL K F H ds vs []) (lo hi : Option Int) : RL K F H (cutL ds lo hi) (cutV vs lo hi) [] := by
  unfold cutL cutV
  rw [h.len]
  exact (h.drop0 _).take0 _
theorem cutL_sub {α : Type} (x : List α) (lo hi : Option Int) : (cutL x lo hi).length ≤ x.length ∧ ∀ c ∈ cutL x lo hi, c ∈ x := by
  unfold cutL
  refine ⟨?_, fun c hc => List.mem_of_mem_drop (List.mem_of_mem_take hc)⟩
  rw [List.length_take, List.length_drop]; omega
theorem cutL_whole {α : Type} {xs : List α} {lo hi : Option Int} (h : HT.sIx xs.length 0 lo = 0 ∧ HT.sIx xs.length xs.length hi = xs.length) : cutL xs lo hi = xs := by
  unfold cutL
  rw [h.1, h.2]
  simp
theorem SlR.or {r r' : V → Option Int → Option Int → Hp → VK → Prop} (h : SlR X r) (h' : SlR X r') : SlR X (fun x l u H Q => r x l u H Q ∨ r' x l u H Q) := by
  intro pins s σ H x v vl vu lo hi sl Q I rx hs pl pu q
  rcases q with q | q
  · exact h pins s σ H x v vl vu lo hi sl Q I rx hs pl pu q
  · exact h' pins s σ H x v vl vu lo hi sl Q I rx hs pl pu q
theorem SE.sl {lo hi : Option Expr} {fl fh : En → Rs (Option Int)} {p2 : Pos} (ha : SE X E W a f) (hl : SO X E W lo fl) (hh : SO X E W hi fh) : SE X E W (.Subscript a (.Slice lo hi none p2) pos) (eSl f fl fh) := by
  obtain ⟨ta, pa, ka⟩ := ha.ex
  obtain ⟨tl, pl, kl⟩ := hl.ex
  obtain ⟨th, ph, kh⟩ := hh.ex
  refine ⟨ha.hK, _, pe_slice (SlR.or sl_str (SlR.or sl_tupA sl_list)) pa pl ph, fun F σ H env S Q q => ?_⟩
  refine ka F σ H env S _ ?_
  unfold eSl at q
  cases e1 : f env with
  | un => rw [e1] at q; exact q
  | ex x => rw [e1] at q; exact q
  | ok d =>
    rw [e1, Rs.bind_ok] at q
    intro v fp F1 H1 G1 r1
    refine kl F1 σ H1 env (S.grow G1) _ ?_
    cases e2 : fl env with
    | un => rw [e2] at q; exact q
    | ex x => rw [e2] at q; exact fun cls dd F' H' g => q cls dd F' H' (G1.trans g)
    | ok l =>
      rw [e2, Rs.bind_ok] at q
      intro F2 H2 G2
      refine kh F2 σ H2 env (S.grow (G1.trans G2)) _ ?_
      cases e3 : fh env with
      | un => rw [e3] at q; exact q
      | ex x => rw [e3] at q; exact fun cls dd F' H' g => q cls dd F' H' ((G1.trans G2).trans g)
      | ok u =>
        rw [e3, Rs.bind_ok] at q
        intro F3 H3 G3
        have G := (G1.trans G2).trans G3
        have r3 := r1.grow (G2.trans G3)
        cases e4 : pSl d l u with
        | none => rw [e4] at q; exact q.elim
        | some z =>
          rw [e4] at q
          unfold pSl at e4
          split at e4
          · cases e4
            obtain ⟨rfl, k⟩ := r3.str_inv
            refine .inl ⟨_, rfl, ?_, ?_⟩
            · show (List.toArray _).size ≤ sizeLine
              rw [List.size_toArray]; exact k.len
            · rw [cut_str]
              exact q _ [] F3 H3 G (.str (k.sub (cutL_sub _ l u).1 (cutL_sub _ l u).2))
          · cases e4
            obtain ⟨p, vs, rfl, hp, hl, hz⟩ := r3.tup_inv
            refine .inr (.inl ⟨p, vs, rfl, by rw [ha.hK]; exact same_t G.fh hp, fun hw => ?_, fun hw pp hpp => ?_⟩)
            · rw [hl.len] at hw
              rw [cutL_whole hw] at q
              exact q _ [] F3 H3 G (r3.toData rfl)
            · exact q _ [] _ _ (G.trans (Grow.new G.fh hpp)) (.tup upd_same ((hl.cut l u).grow (Grow.new G.fh hpp)) (Nat.le_trans (cutL_sub _ l u).1 hz))
          · cases e5 : listOf d with
            | none => rw [e5] at e4; cases e4
            | some xs =>
              rw [e5] at e4
              cases e4
              obtain ⟨p, vs, rfl, hp, hl, hz⟩ := listOf_at G.fh r3 e5
              refine .inr (.inr ⟨p, vs, rfl, SqL.of hp, fun pp hpp => ?_⟩)
              exact q _ [] _ _ (G.trans (Grow.new G.fh hpp)) (.lst upd_same ((hl.cut l u).grow (Grow.new G.fh hpp)) (Nat.le_trans (cutL_sub _ l u).1 hz))

/-! ### calls of built-ins: on a row of values -/
/-- what a built-in does to data -/
def BS (X : Cx) (E : Ent) (fv : Value) (g : List D → Option D) : Prop :=
  ∃ r, CallR X fv r ∧ ∀ F H vs ds fp d, Same F H → RL E.K F H ds vs fp → g ds = some d → ∀ Q : VK, (∀ v fp F' H', Grow F H F' H' → R E.K F' H' d v fp → Q v H') → r vs H Q
def eCall (g : List D → Option D) (fa : En → Rs (List D)) : En → Rs D := fun env => (fa env).bind fun ds => ofO (g ds)
theorem cb_ok {r : List V → Hp → VK → Prop} {t : TA} {fa : En → Rs (List D)} {g : List D → Option D} (ka : OkA E W t fa)
    (hr : ∀ F H vs ds fp d, Same F H → RL E.K F H ds vs fp → g ds = some d → ∀ Q : VK, (∀ v fp F' H', Grow F H F' H' → R E.K F' H' d v fp → Q v H') → r vs H Q) : OkE E W (tCB r t) (eCall g fa) := by
  intro F σ H env S Q q
  refine ka F σ H env S _ ?_
  unfold eCall at q
  cases e1 : fa env with
  | un => rw [e1] at q; exact q
  | ex x => rw [e1] at q; exact q
  | ok ds =>
    rw [e1, Rs.bind_ok] at q
    intro vs fp F1 H1 G1 r1
    cases e2 : g ds with
    | none => rw [e2] at q; exact q.elim
    | some d =>
      rw [e2] at q
      exact hr F1 H1 vs ds fp d G1.fh r1 e2 Q fun v fq F' H' G k => q v fq F' H' (G1.trans G) k
theorem SE.callB {x : Str} {id : String} {p : Pos} {es : List Expr} {fa : En → Rs (List D)} {g : List D → Option D} (hb : BS X E (.builtin id) g) (hm : X.mg x = none) (hv : bootBuiltins x = some (.builtin id)) (ha : SA X E W (e :: es) fa) (hg : Gl X x := by rfl)
    (hn : x ≠ "__name__" := by decide) (hdb : (x == ("__debug__" : Str)) = false := by decide)
    (he : starEach (e :: es) X.env = (false, eval e X.env) :: starEach es X.env := by rfl) (hpl : (backTo pos (starEach es X.env)).any (·.1) = false := by rfl) : SE X E W (.Call (.Name x p) (e :: es) [] pos) (eCall g fa) := by
  obtain ⟨t, pa, ka⟩ := ha.ex
  obtain ⟨r, h1, h2⟩ := hb
  exact ⟨ha.hK, _, pe_callB h1 hg hm hv pa hn hdb he hpl, cb_ok ka h2⟩
theorem SE.callT {x : Str} {T : String} {p : Pos} {es : List Expr} {fa : En → Rs (List D)} {g : List D → Option D} (hb : BS X E (.type T) g) (hm : X.mg x = none) (hv : bootBuiltins x = some (.type T)) (ha : SA X E W (e :: es) fa) (hg : Gl X x := by rfl)
    (hn : x ≠ "__name__" := by decide) (hdb : (x == ("__debug__" : Str)) = false := by decide)
    (he : starEach (e :: es) X.env = (false, eval e X.env) :: starEach es X.env := by rfl) (hpl : (backTo pos (starEach es X.env)).any (·.1) = false := by rfl) : SE X E W (.Call (.Name x p) (e :: es) [] pos) (eCall g fa) := by
  obtain ⟨t, pa, ka⟩ := ha.ex
  obtain ⟨r, h1, h2⟩ := hb
  exact ⟨ha.hK, _, pe_callTy h1 hg hm hv pa hn hdb he hpl, cb_ok ka h2⟩
theorem RL.one {K : Kx} {F H : Hp} {d : D} {vs : List V} {fp : List Addr} (h : RL K F H [d] vs fp) : ∃ v, vs = [v] ∧ R K F H d v fp := by
  cases h with
  | cons r t => cases t; rw [List.append_nil]; exact ⟨_, rfl, r⟩
theorem RL.two {K : Kx} {F H : Hp} {d d' : D} {vs : List V} {fp : List Addr} (h : RL K F H [d, d'] vs fp) : ∃ v v' fq fr, vs = [v, v'] ∧ R K F H d v fq ∧ R K F H d' v' fr := by
  cases h with
  | cons r t => obtain ⟨v', rfl, r'⟩ := t.one; exact ⟨_, v', _, _, rfl, r, r'⟩
/-! len -/
def bLen : List D → Option D
  | [.str x] => some (.int x.length)
  | [.tup x] => some (.int x.length)
  | [.lst x] => some (.int x.length)
  | [.olst x] => some (.int x.length)
  | [.scr x] => some (.int x.length)
  | _ => none
theorem BS.len (hK : X.K = E.K.k) : BS X E (.builtin "len") bLen := by
  refine ⟨_, call_len, fun F H vs ds fp d hs r0 h Q q => ?_⟩
  unfold bLen at h
  split at h <;> cases h <;> obtain ⟨v, rfl, r⟩ := r0.one
  · obtain ⟨rfl, k⟩ := r.str_inv
    refine ⟨_, _, rfl, ⟨?_, rfl⟩, ?_⟩
    · show (List.toArray _).size ≤ sizeLine
      rw [List.size_toArray]; exact k.len
    · rename_i x'
      have e : (⟨x'.toArray⟩ : Str).length = x'.length := by show x'.toArray.size = _; exact List.size_toArray
      rw [e]
      exact q _ [] F H (Grow.refl hs) (.int _)
  · obtain ⟨p, us, rfl, hp, hl, hz⟩ := r.tup_inv
    exact ⟨_, _, rfl, .inr ⟨us, by rw [hK]; exact same_t hs hp, rfl⟩, by rw [hl.len]; exact q _ [] F H (Grow.refl hs) (.int _)⟩
  · cases r with
    | lst hp hl => exact ⟨_, _, rfl, .inl ⟨_, SqL.of (hs _ _ hp), rfl⟩, by rw [hl.len]; exact q _ [] F H (Grow.refl hs) (.int _)⟩
  · cases r with
    | olst hp hl => exact ⟨_, _, rfl, .inl ⟨_, SqL.of hp, rfl⟩, by rw [hl.len]; exact q _ [] F H (Grow.refl hs) (.int _)⟩
  · cases r with
    | scr hp => exact ⟨_, _, rfl, .inl ⟨_, by rw [hK]; exact hs.seq hp, rfl⟩, by rw [List.length_map]; exact q _ [] F H (Grow.refl hs) (.int _)⟩
/-! abs, int, min, max of two -/
def bAbs : List D → Option D
  | [.int i] => some (.int (if i < 0 then -i else i))
  | _ => none
theorem BS.abs : BS X E (.builtin "abs") bAbs := by
  refine ⟨_, call_abs, fun F H vs ds fp d hs r0 h Q q => ?_⟩
  unfold bAbs at h
  split at h <;> cases h
  obtain ⟨v, rfl, r⟩ := r0.one
  cases r
  exact ⟨_, rfl, q _ [] F H (Grow.refl hs) (.int _)⟩
def bInt : List D → Option D
  | [.int i] => some (.int i)
  | [.bl b] => some (.int (if b then 1 else 0))
  | _ => none
theorem BS.int : BS X E (.type "int") bInt := by
  refine ⟨_, call_int1, fun F H vs ds fp d hs r0 h Q q => ?_⟩
  unfold bInt at h
  split at h <;> cases h <;> obtain ⟨v, rfl, r⟩ := r0.one <;> cases r
  · exact .inl ⟨_, rfl, q _ [] F H (Grow.refl hs) (.int _)⟩
  · exact .inr ⟨_, rfl, q _ [] F H (Grow.refl hs) (.int _)⟩
def bMin : List D → Option D
  | [.int i, .int j] => some (.int (if j < i then j else i))
  | _ => none
theorem BS.min (hc : X.calm = true) : BS X E (.builtin "min") bMin := by
  refine ⟨_, call_min2 hc, fun F H vs ds fp d hs r0 h Q q => ?_⟩
  unfold bMin at h
  split at h <;> cases h
  obtain ⟨v, v', _, _, rfl, r1, r2⟩ := r0.two
  cases r1; cases r2
  exact ⟨_, _, rfl, q _ [] F H (Grow.refl hs) (.int _)⟩
def bMax : List D → Option D
  | [.int i, .int j] => some (.int (if j > i then j else i))
  | _ => none
theorem BS.max (hc : X.calm = true) : BS X E (.builtin "max") bMax := by
  refine ⟨_, call_max2 hc, fun F H vs ds fp d hs r0 h Q q => ?_⟩
  unfold bMax at h
  split at h <;> cases h
  obtain ⟨v, v', _, _, rfl, r1, r2⟩ := r0.two
  cases r1; cases r2
  exact ⟨_, _, rfl, q _ [] F H (Grow.refl hs) (.int _)⟩
/-! all, any -/
def blsOf : List D → Option (List Bool)
  | [] => some []
  | .bl b :: ds => (blsOf ds).map (b :: ·)
  | _ => none
theorem blsOf_at {K : Kx} {F H : Hp} : ∀ {ds : List D} {vs : List V} {bs : List Bool}, RL K F H ds vs [] → blsOf ds = some bs → vs = bs.map V.bl
  | [], vs, bs, r, e => by
    cases e
    cases vs with
    | nil => rfl
    | cons _ _ => exact absurd r.len (by simp)
  | d :: ds, vs, bs, r, e => by
    obtain ⟨v, vs', rfl, h1, h2⟩ := r.inv_cons
    cases d <;> first | (cases e; done) | skip
    rename_i b
    have e' : (blsOf ds).map (b :: ·) = some bs := e
    cases q : blsOf ds with
    | none => rw [q] at e'; cases e'
    | some bs' =>
      rw [q] at e'
      cases e'
      cases h1
      rw [blsOf_at h2 q]
      rfl
def bAll : List D → Option D
  | [d] => (listOf d).bind fun xs => (blsOf xs).map fun bs => .bl (bs.all id)
  | _ => none
def bAny : List D → Option D
  | [d] => (listOf d).bind fun xs => (blsOf xs).map fun bs => .bl (bs.any id)
  | _ => none
theorem BS.all (hc : X.calm = true) : BS X E (.builtin "all") bAll := by
  refine ⟨_, cr_all hc, fun F H vs ds fp d hs r0 h Q q => ?_⟩
  unfold bAll at h
  split at h <;> first | (cases h; done) | skip
  rename_i d'
  obtain ⟨v, rfl, r⟩ := r0.one
  cases e1 : listOf d' with
  | none => rw [e1] at h; cases h
  | some xs =>
    rw [e1, Option.bind_some] at h
    cases e2 : blsOf xs with
    | none => rw [e2] at h; cases h
    | some bs =>
      rw [e2] at h
      cases h
      obtain ⟨p, us, rfl, hp, hl, hz⟩ := listOf_at hs r e1
      have e3 := blsOf_at hl e2
      subst e3
      exact ⟨p, bs, rfl, SqL.of hp, q _ [] F H (Grow.refl hs) (.bl _)⟩
theorem BS.any (hc : X.calm = true) : BS X E (.builtin "any") bAny := by
  refine ⟨_, cr_any hc, fun F H vs ds fp d hs r0 h Q q => ?_⟩
  unfold bAny at h
  split at h <;> first | (cases h; done) | skip
  rename_i d'
  obtain ⟨v, rfl, r⟩ := r0.one
  cases e1 : listOf d' with
  | none => rw [e1] at h; cases h
  | some xs =>
    rw [e1, Option.bind_some] at h
    cases e2 : blsOf xs with
    | none => rw [e2] at h; cases h
    | some bs =>
      rw [e2] at h
      cases h
      obtain ⟨p, us, rfl, hp, hl, hz⟩ := listOf_at hs r e1
      have e3 := blsOf_at hl e2
      subst e3
      exact ⟨p, bs, rfl, SqL.of hp, q _ [] F H (Grow.refl hs) (.bl _)⟩
/-! tuple(x) -/
def bTuple : List D → Option D
  | [d] => match d with
    | .tup xs => some (.tup xs)
    | .scr _ => none
    | d => (seqOf d).map D.tup
  | _ => none
theorem BS.tuple (hK : X.K = E.K.k) : BS X E (.type "tuple") bTuple := by
  refine ⟨_, call_tuple_of, fun F H vs ds fp d hs r0 h Q q => ?_⟩
  unfold bTuple at h
  split at h <;> first | (cases h; done) | skip
  rename_i dd
  obtain ⟨v, rfl, r⟩ := r0.one
  split at h
  · cases h
    obtain ⟨p, us, rfl, hp, hl, hz⟩ := r.tup_inv
    exact ⟨p, us, rfl, .inr ⟨by rw [hK]; exact same_t hs hp, q _ [] F H (Grow.refl hs) (r.toData rfl)⟩⟩
  · cases h
  · rename_i n1 n2
    generalize dd = d' at *
    cases e1 : seqOf d' with
    | none => rw [e1] at h; cases h
    | some xs =>
      rw [e1] at h
      cases h
      cases d' <;> first | (cases e1; done) | (exact absurd rfl (n1 _)) | (exact absurd rfl (n2 _)) | skip
      all_goals
        obtain ⟨p, us, rfl, hp, hl, hz⟩ := listOf_at (ds := xs) hs r e1
        exact ⟨p, us, rfl, .inl ⟨SqL.of hp, fun l hl' => q _ [] _ _ (Grow.new hs hl') (.tup upd_same (hl.grow (Grow.new hs hl')) hz)⟩⟩
end
end Z

set_option Elab.async false
set_option linter.all false
set_option maxRecDepth 100000
set_option maxHeartbeats 1000000
namespace Z
open PySem L2
/-! ### statements -/
/-- how a statement ends: on, break, continue, return, raise, nothing known -/
inductive Fl where
  | nx (e : En) | bk (e : En) | ct (e : En) | rt (d : D) (e : En) | xx (x : D) (e : En) | un
def PostS (E : Ent) (W : WX) (F : Hp) (D : Ends) : Fl → Prop
  | .nx e => ∀ F' σ' H', Same F F' → Stt E F' e σ' H' → D.nx σ' H'
  | .bk e => ∀ F' σ' H', Same F F' → Stt E F' e σ' H' → D.bk σ' H'
  | .ct e => ∀ F' σ' H', Same F F' → Stt E F' e σ' H' → D.ct σ' H'
  | .rt d e => ∀ v F' σ' H', Same F F' → Stt E F' e σ' H' → R E.K F' H' d v [] → D.rt v H'
  | .xx x e => ∀ cls dd F' σ' H', Same F F' → Stt E F' e σ' H' → Rx E.K F' H' x cls dd → W cls dd σ' H'
  | .un => False
theorem PostS.mono {E : Ent} {W : WX} {F F1 : Hp} {D : Ends} {r : Fl} (G : Same F F1) (h : PostS E W F D r) : PostS E W F1 D r := by
  cases r with
  | nx e => exact fun F' σ' H' k => h F' σ' H' (G.trans k)
  | bk e => exact fun F' σ' H' k => h F' σ' H' (G.trans k)
  | ct e => exact fun F' σ' H' k => h F' σ' H' (G.trans k)
  | rt d e => exact fun v F' σ' H' k => h v F' σ' H' (G.trans k)
  | xx x e => exact fun cls dd F' σ' H' k => h cls dd F' σ' H' (G.trans k)
  | un => exact h
def OkS (E : Ent) (W : WX) (t : TS) (g : En → Fl) : Prop := ∀ F σ H env, Stt E F env σ H → ∀ D, PostS E W F D (g env) → t D σ H
structure SS (X : Cx) (E : Ent) (W : WX) (s : Stmt) (g : En → Fl) : Prop where
  hK : X.K = E.K.k
  ex : ∃ t, PS X s t ∧ OkS E W t g
structure SB (X : Cx) (E : Ent) (W : WX) (s : List Stmt) (g : En → Fl) : Prop where
  hK : X.K = E.K.k
  ex : ∃ t, PSs X s t ∧ OkS E W t g
section
variable {X : Cx} {E : Ent} {W : WX} {e a b : Expr} {f g : En → Rs D} {pos : Pos} {s : Stmt} {ss : List Stmt} {gs gt : En → Fl}
def sSeq (g h : En → Fl) : En → Fl := fun env => match g env with
  | .nx e => h e
  | r => r
def sPass : En → Fl := fun env => .nx env
theorem SB.nil (hK : X.K = E.K.k := by rfl) : SB X E W [] sPass := ⟨hK, _, pss_nil, fun F σ H env S D q => q F σ H (Same.refl _) S⟩
theorem seq_ok {t u : TS} (h : OkS E W t gs) (k : OkS E W u gt) : OkS E W (tSeq t u) (sSeq gs gt) := by
  intro F σ H env S D q
  refine h F σ H env S _ ?_
  unfold sSeq at q
  cases e1 : gs env <;> rw [e1] at q <;> try exact q
  exact fun F' σ' H' G S' => k F' σ' H' _ S' D (q.mono G)
theorem SB.cons (h : SS X E W s gs) (k : SB X E W ss gt) : SB X E W (s :: ss) (sSeq gs gt) := by
  obtain ⟨t, p, o⟩ := h.ex
  obtain ⟨u, p', o'⟩ := k.ex
  exact ⟨h.hK, _, pss_cons p p', seq_ok o o'⟩
theorem SB.one (h : SS X E W s gs) : SB X E W [s] gs := by
  obtain ⟨t, p, o⟩ := h.ex
  exact ⟨h.hK, _, pss_one p, o⟩
theorem SS.pass (hK : X.K = E.K.k := by rfl) : SS X E W (.Pass pos) sPass := ⟨hK, _, ps_pass, fun F σ H env S D q => q F σ H (Same.refl _) S⟩
/-- slots forgotten ahead of a statement or a block -/
def wipeE (is : List Nat) (env : En) : En := is.foldl (fun e i => e.set i none) env
theorem Stt.wipes {F H : Hp} {σ : St} : ∀ (is : List Nat) {env : En}, Stt E F env σ H → Stt E F (wipeE is env) σ H
  | [], _, S => S
  | i :: is, _, S => Stt.wipes is (S.wipe i)
def sPre (is : List Nat) (g : En → Fl) : En → Fl := fun env => g (wipeE is env)
theorem SS.pre (is : List Nat) (h : SS X E W s gs) : SS X E W s (sPre is gs) := by
  obtain ⟨t, p, o⟩ := h.ex
  exact ⟨h.hK, t, p, fun F σ H env S D q => o F σ H _ (S.wipes is) D q⟩
theorem SB.pre (is : List Nat) (h : SB X E W ss gs) : SB X E W ss (sPre is gs) := by
  obtain ⟨t, p, o⟩ := h.ex
  exact ⟨h.hK, t, p, fun F σ H env S D q => o F σ H _ (S.wipes is) D q⟩

/-! a value is stored -/
def sSet (i : Nat) (f : En → Rs D) : En → Fl := fun env => match f env with
  | .ok d => if isData d then .nx (env.set i (some d)) else .un
  | .ex x => .xx x env
  | .un => .un
theorem set_ok {t : TE} {i : Nat} (k : OkE E W t f) : OkS E W (tAsg t (gName i)) (sSet i f) := by
  intro F σ H env S D q
  refine k F σ H env S _ ?_
  unfold sSet at q
  cases e1 : f env with
  | un => rw [e1] at q; exact q
  | ex x => rw [e1] at q; exact fun cls dd F' H' G r => q cls dd F' σ H' G.f (S.grow G) r
  | ok d =>
    rw [e1] at q
    intro v fp F' H' G r
    dsimp only at q
    split at q
    · rename_i hd
      exact q F' _ H' G.f ((S.grow G).setData i (r.toData hd))
    · exact q.elim
theorem SS.set (i : Nat) {y : Str} {py : Pos} (hf : SE X E W e f) (hN : X.N.Nodup) (hy : X.N[i]? = some y := by rfl) (hl : Loc X.env.scope y := by first | exact Or.inl rfl | exact Or.inr rfl)
    (hs : swapsWith e (some (.Name y py)) pos.line X.env = pure false := by rfl) (hfn : X.fn y = true ∨ X.env.scope.names.lookup y = some .local := by first | exact .inl rfl | exact .inr rfl) : SS X E W (.Assign [.Name y py] e pos) (sSet i f) := by
  obtain ⟨t, p, k⟩ := hf.ex
  exact ⟨hf.hK, _, ps_set hN hy hl p hs hfn, set_ok k⟩
/-- a new list, owned -/
def sSetL (i : Nat) (f : En → Rs (List D)) : En → Fl := fun env => match f env with
  | .ok ds => .nx (env.set i (some (.olst ds)))
  | .ex x => .xx x env
  | .un => .un
theorem setL_ok {t : TE} {i : Nat} {fl : En → Rs (List D)} (k : OkL E W t fl) : OkS E W (tAsg t (gName i)) (sSetL i fl) := by
  intro F σ H env S D q
  refine k F σ H env S _ ?_
  unfold sSetL at q
  cases e1 : fl env with
  | un => rw [e1] at q; exact q
  | ex x => rw [e1] at q; exact fun cls dd F' H' G r => q cls dd F' σ H' G.f (S.grow G) r
  | ok ds =>
    rw [e1] at q
    intro p vs F' H' G hp hF hH r hz
    refine q F' _ H' G.f (S.setNew i (fp := [p]) (.olst hH r hz) G (by simp) fun a ha => ?_)
    rw [List.mem_singleton.mp ha]
    exact ⟨hp, hF, S.fresh hp⟩
theorem SS.setL (i : Nat) {y : Str} {py : Pos} {fl : En → Rs (List D)} (hf : SL X E W e fl) (hN : X.N.Nodup) (hy : X.N[i]? = some y := by rfl) (hl : Loc X.env.scope y := by first | exact Or.inl rfl | exact Or.inr rfl)
    (hs : swapsWith e (some (.Name y py)) pos.line X.env = pure false := by rfl) (hfn : X.fn y = true ∨ X.env.scope.names.lookup y = some .local := by first | exact .inl rfl | exact .inr rfl) : SS X E W (.Assign [.Name y py] e pos) (sSetL i fl) := by
  obtain ⟨t, p, k⟩ := hf.ex
  exact ⟨hf.hK, _, ps_set hN hy hl p hs hfn, setL_ok k⟩

/-! return, a value dropped, if -/
def sRet (f : En → Rs D) : En → Fl := fun env => match f env with
  | .ok d => if isData d then .rt d [] else .un
  | .ex x => .xx x env
  | .un => .un
theorem SS.ret (hf : SE X E W e f) : SS X E W (.Return (some e) pos) (sRet f) := by
  obtain ⟨t, p, k⟩ := hf.ex
  refine ⟨hf.hK, _, ps_ret p, fun F σ H env S D q => ?_⟩
  refine k F σ H env S _ ?_
  unfold sRet at q
  cases e1 : f env with
  | un => rw [e1] at q; exact q
  | ex x => rw [e1] at q; exact fun cls dd F' H' G r => q cls dd F' σ H' G.f (S.grow G) r
  | ok d =>
    rw [e1] at q
    intro v fp F' H' G r
    dsimp only at q
    split at q
    · rename_i hd
      exact q v F' σ H' G.f (S.grow G).nilEnv (r.toData hd)
    · exact q.elim
def sRetN : En → Fl := fun _ => .rt .non []
theorem SS.retN (hK : X.K = E.K.k := by rfl) : SS X E W (.Return none pos) sRetN := ⟨hK, _, ps_retN, fun F σ H env S D q => q _ F σ H (Same.refl _) S.nilEnv .non⟩
def sDrop (f : En → Rs D) : En → Fl := fun env => match f env with
  | .ok _ => .nx env
  | .ex x => .xx x env
  | .un => .un
theorem SS.expr (hf : SE X E W e f) (hs : swapsWith e none pos.line X.env = pure false := by rfl) : SS X E W (.Expr e pos) (sDrop f) := by
  obtain ⟨t, p, k⟩ := hf.ex
  refine ⟨hf.hK, _, ps_expr p hs, fun F σ H env S D q => ?_⟩
  refine k F σ H env S _ ?_
  unfold sDrop at q
  cases e1 : f env with
  | un => rw [e1] at q; exact q
  | ex x => rw [e1] at q; exact fun cls dd F' H' G r => q cls dd F' σ H' G.f (S.grow G) r
  | ok d =>
    rw [e1] at q
    exact fun v fp F' H' G r => q F' σ H' G.f (S.grow G)
def sIf (c : En → Rs Bool) (g h : En → Fl) : En → Fl := fun env => match c env with
  | .ok true => g env
  | .ok false => h env
  | .ex x => .xx x env
  | .un => .un
theorem SS.ite {c : Expr} {tc : En → Rs Bool} {a b : List Stmt} (hc : ST X E W c tc) (ha : SB X E W a gs) (hb : SB X E W b gt) : SS X E W (.If c a b pos) (sIf tc gs gt) := by
  obtain ⟨t, p, k⟩ := hc.ex
  obtain ⟨u, p', k'⟩ := ha.ex
  obtain ⟨u2, p2, k2⟩ := hb.ex
  refine ⟨hc.hK, _, ps_if p p' p2, fun F σ H env S D q => ?_⟩
  refine k F σ H env S _ ?_
  unfold sIf at q
  cases e1 : tc env with
  | un => rw [e1] at q; exact q
  | ex x => rw [e1] at q; exact fun cls dd F' H' G r => q cls dd F' σ H' G.f (S.grow G) r
  | ok b =>
    rw [e1] at q
    intro F' H' G
    cases b with
    | true => exact k' F' σ H' env (S.grow G) D (q.mono G.f)
    | false => exact k2 F' σ H' env (S.grow G) D (q.mono G.f)
def sBreak : En → Fl := fun env => .bk env
def sCont : En → Fl := fun env => .ct env
theorem SS.brk (hK : X.K = E.K.k := by rfl) : SS X E W (.Break pos) sBreak := ⟨hK, _, ps_break, fun F σ H env S D q => q F σ H (Same.refl _) S⟩
theorem SS.cont (hK : X.K = E.K.k := by rfl) : SS X E W (.Continue pos) sCont := ⟨hK, _, ps_continue, fun F σ H env S D q => q F σ H (Same.refl _) S⟩

/-! x += e -/
def sAug (i : Nat) (op : D → D → Option D) (f : En → Rs D) : En → Fl := fun env => match env[i]? with
  | some (some x) => match f env with
    | .ok d => match op x d with
      | some z => if isData z then .nx (env.set i (some z)) else .un
      | none => .un
    | .ex x => .xx x env
    | .un => .un
  | _ => .un
def IpS (X : Cx) (E : Ent) (o : Operator) (g : D → D → Option D) : Prop :=
  ∃ r, PIp X o r ∧ ∀ F H x y d1 d2 fp1 fp2 d, Same F H → R E.K F H d1 x fp1 → R E.K F H d2 y fp2 → g d1 d2 = some d → ∀ Q : VK,
    (∀ v fp F' H', Grow F H F' H' → R E.K F' H' d v fp → Q v H') → r x y H Q
theorem SS.aug (i : Nat) {y : Str} {py : Pos} {o : Operator} {op : D → D → Option D} (ho : IpS X E o op) (hf : SE X E W e f) (hN : X.N.Nodup) (hy : X.N[i]? = some y := by rfl) (hl : Loc X.env.scope y := by first | exact Or.inl rfl | exact Or.inr rfl)
    (hfn : X.fn y = true ∨ X.env.scope.names.lookup y = some .local := by first | exact .inl rfl | exact .inr rfl) : SS X E W (.AugAssign (.Name y py) o e pos) (sAug i op f) := by
  obtain ⟨t, p, k⟩ := hf.ex
  obtain ⟨r, h1, h2⟩ := ho
  refine ⟨hf.hK, _, ps_aug hN hy hl p h1 hfn, fun F σ H env S D q => ?_⟩
  unfold sAug at q
  cases e0 : env[i]? with
  | none => rw [e0] at q; exact q.elim
  | some ox =>
    cases ox with
    | none => rw [e0] at q; exact q.elim
    | some x =>
      rw [e0] at q
      dsimp only at q
      obtain ⟨fps, rs, _⟩ := S.rep
      obtain ⟨v, fp, g1, _, g3⟩ := rs.get e0
      refine ⟨v, g1, k F σ H env S _ ?_⟩
      cases e1 : f env with
      | un => rw [e1] at q; exact q
      | ex x => rw [e1] at q; exact fun cls dd F' H' G r => q cls dd F' σ H' G.f (S.grow G) r
      | ok d =>
        rw [e1] at q
        dsimp only at q
        intro v1 fp1 F1 H1 G1 r1
        cases e2 : op x d with
        | none => rw [e2] at q; exact q.elim
        | some z =>
          rw [e2] at q
          dsimp only at q
          split at q
          · rename_i hz
            refine h2 F1 H1 v v1 x d fp fp1 z G1.fh (g3.grow G1) r1 e2 _ fun v2 fp2 F2 H2 G2 r2 => ?_
            exact q F2 _ H2 (G1.trans G2).f ((S.grow (G1.trans G2)).setData i (r2.toData hz))
          · exact q.elim
def pAddI : D → D → Option D
  | .int i, .int j => some (.int (i + j))
  | _, _ => none
theorem IpS.add : IpS X E .Add pAddI := by
  refine ⟨_, ip_add, fun F H x y d1 d2 fp1 fp2 d hs r1 r2 h Q q => ?_⟩
  unfold pAddI at h
  split at h <;> cases h
  cases r1; cases r2
  exact ⟨_, _, rfl, rfl, q _ [] F H (Grow.refl hs) (.int _)⟩
theorem IpS.sub : IpS X E .Sub pSub := by
  refine ⟨_, ip_sub, fun F H x y d1 d2 fp1 fp2 d hs r1 r2 h Q q => ?_⟩
  unfold pSub at h
  split at h <;> cases h
  cases r1; cases r2
  exact ⟨_, _, rfl, rfl, q _ [] F H (Grow.refl hs) (.int _)⟩

/-! targets -/
def OkG (E : Ent) (is : List Nat) (t : TG) (h : D → En → Option En) : Prop := ∀ F σ H env d v, Stt E F env σ H → R E.K F H d v [] → ∀ Q : St → Hp → Prop,
  (∃ e', h d env = some e' ∧ ∀ σ', Stt E F e' σ' H → (∀ j, j ∉ is → σ'[j]? = σ[j]?) → σ'.length = σ.length → Q σ' H) → t v σ H Q
structure SG (X : Cx) (E : Ent) (tg : Expr) (is : List Nat) (h : D → En → Option En) : Prop where
  ex : ∃ t, PG X tg t ∧ OkG E is t h
def gN (i : Nat) : D → En → Option En := fun d env => some (env.set i (some d))
theorem SG.name (i : Nat) {y : Str} (hN : X.N.Nodup) (hy : X.N[i]? = some y := by rfl) (hl : Loc X.env.scope y := by first | exact Or.inl rfl | exact Or.inr rfl)
    (hfn : X.fn y = true ∨ X.env.scope.names.lookup y = some .local := by first | exact .inl rfl | exact .inr rfl) : SG X E (.Name y pos) [i] (gN i) := by
  refine ⟨_, pg_name hN hy hl hfn, fun F σ H env d v S r Q q => ?_⟩
  obtain ⟨e', he, k⟩ := q
  cases he
  refine k _ (S.setData i r) (fun j hj => ?_) (List.length_set ..)
  have : i ≠ j := fun z => hj (by simp [z])
  rw [List.getElem?_set_ne this]
def OkGs (E : Ent) (is : List Nat) (t : TGs) (h : List D → En → Option En) : Prop := ∀ F σ H env ds vs, Stt E F env σ H → RL E.K F H ds vs [] → ∀ Q : St → Hp → Prop,
  (∃ e', h ds env = some e' ∧ ∀ σ', Stt E F e' σ' H → (∀ j, j ∉ is → σ'[j]? = σ[j]?) → σ'.length = σ.length → Q σ' H) → t vs σ H Q
structure SGs (X : Cx) (E : Ent) (ts : List Expr) (is : List Nat) (h : List D → En → Option En) : Prop where
  ex : ∃ t, PGs X ts t ∧ OkGs E is t h
def gsNil : List D → En → Option En
  | [], env => some env
  | _, _ => none
def gsCons (h : D → En → Option En) (k : List D → En → Option En) : List D → En → Option En
  | d :: ds, env => (h d env).bind fun e => k ds e
  | [], _ => none
theorem SGs.nil : SGs X E [] [] gsNil := by
  refine ⟨_, pgs_nil, fun F σ H env ds vs S r Q q => ?_⟩
  obtain ⟨e', he, k⟩ := q
  cases ds with
  | nil =>
    cases he
    refine ⟨?_, k σ S (fun _ _ => rfl) rfl⟩
    cases vs with
    | nil => rfl
    | cons _ _ => exact absurd r.len (by simp)
  | cons _ _ => cases he
theorem SGs.cons {ts : List Expr} {is js : List Nat} {h : D → En → Option En} {k : List D → En → Option En} (h1 : SG X E e is h) (h2 : SGs X E ts js k)
    (hs : (assignEach (e :: ts) X.env).map (·.2) = assign e X.env :: (assignEach ts X.env).map (·.2) := by rfl) : SGs X E (e :: ts) (is ++ js) (gsCons h k) := by
  obtain ⟨t, p, o⟩ := h1.ex
  obtain ⟨u, p', o'⟩ := h2.ex
  refine ⟨_, pgs_cons p p' hs, fun F σ H env ds vs S r Q q => ?_⟩
  obtain ⟨e', he, kk⟩ := q
  cases ds with
  | nil => cases he
  | cons d ds =>
    obtain ⟨v, vs', rfl, r1, r2⟩ := r.inv_cons
    have he : (h d env).bind (fun e => k ds e) = some e' := he
    cases e1 : h d env with
    | none => rw [e1] at he; cases he
    | some em =>
      rw [e1, Option.bind_some] at he
      refine ⟨v, vs', rfl, o F σ H env d v S r1 _ ⟨em, e1, fun σ1 S1 a1 l1 => ?_⟩⟩
      refine o' F σ1 H em ds vs' S1 r2 Q ⟨e', he, fun σ2 S2 a2 l2 => ?_⟩
      exact kk σ2 S2 (fun j hj => (a2 j fun z => hj (List.mem_append_right _ z)).trans (a1 j fun z => hj (List.mem_append_left _ z))) (l2.trans l1)
def gT (k : List D → En → Option En) : D → En → Option En := fun d env => match d with
  | .tup ds => k ds env
  | _ => none
theorem gs_len : ∀ {ts : List Expr} {is : List Nat} {k : List D → En → Option En}, SGs X E ts is k → True := fun _ => trivial
theorem SG.tup {ts : List Expr} {is : List Nat} {k1 : Nat} {k : List D → En → Option En} (n : Nat) (hc : X.calm = true) (h : SGs X E ts is k) (hn : (assignEach ts X.env).length = n := by rfl) (hst : (assignEach ts X.env).findIdx? (·.1) = none := by rfl) (hK : X.K = E.K.k := by rfl) :
    SG X E (.Tuple ts k1 pos) is (gT fun ds env => if ds.length = n then k ds env else none) := by
  obtain ⟨t, p, o⟩ := h.ex
  refine ⟨_, pg_tup hc p hn hst, fun F σ H env d v S r Q q => ?_⟩
  obtain ⟨e', he, kk⟩ := q
  cases d <;> first | (cases he; done) | skip
  rename_i ds
  obtain ⟨a, vs, rfl, hp, hl, _⟩ := r.tup_inv
  have he : (if ds.length = n then k ds env else none) = some e' := he
  split at he
  · rename_i hln
    exact ⟨a, vs, rfl, by rw [hK]; exact same_t S.fH hp, by rw [hl.len]; exact hln, o F σ H env ds vs S hl Q ⟨e', he, kk⟩⟩
  · cases he
end
end Z

set_option Elab.async false
set_option linter.all false
set_option maxRecDepth 100000
set_option maxHeartbeats 1000000
namespace Z
open PySem L2
/-! ### what is gone through -/
def PostI (E : Ent) (W : WX) (F H : Hp) (σ : St) (Rj : It → Hp → Prop) : Rs (List D) → Prop
  | .ok ds => ∀ (J : It) (G : Hp → Prop) (Y : Nat → Hp → V → Hp → Prop) F' H', Grow F H F' H' → ds.length ≤ 16777216 → Walk J ds.length G Y → (∀ Hc, Same F' Hc → G Hc) →
      (∀ i d, ds[i]? = some d → ∀ Fc Hc v Hn, Same F' Fc → Same Fc Hc → Y i Hc v Hn → ∃ Fn, Grow Fc Hc Fn Hn ∧ R E.K Fn Hn d v []) → Rj J H'
  | .ex x => ∀ cls dd F' H', Grow F H F' H' → Rx E.K F' H' x cls dd → W cls dd σ H'
  | .un => False
def OkI (E : Ent) (W : WX) (wi : TI) (f : En → Rs (List D)) : Prop := ∀ F σ H env, Stt E F env σ H → ∀ Rj, PostI E W F H σ Rj (f env) → wi σ H Rj
structure SI (X : Cx) (E : Ent) (W : WX) (tg iter : Expr) (f : En → Rs (List D)) : Prop where
  hK : X.K = E.K.k
  ex : ∃ wi, PI X tg iter wi ∧ OkI E W wi f
section
variable {X : Cx} {E : Ent} {W : WX} {e a b tg iter : Expr} {f g : En → Rs D} {pos : Pos} {s : Stmt} {ss : List Stmt} {gs gt : En → Fl}
theorem PI.or {w1 w2 : TI} (h1 : PI X tg iter w1) (h2 : PI X tg iter w2) : PI X tg iter (fun σ H Rj => w1 σ H Rj ∨ w2 σ H Rj) := by
  refine ⟨fun pins s σ H R I h => ?_⟩
  rcases h with h | h
  · exact h1.run pins s σ H R I h
  · exact h2.run pins s σ H R I h
/-- the items of a list, a tuple, a text -/
def itemsOf : D → Option (List D)
  | .str x => some (x.map fun c => .str [c])
  | .lst xs => some xs
  | .tup xs => some xs
  | .scr ns => some (ns.map .int)
  | _ => none
def iSeq (f : En → Rs D) : En → Rs (List D) := fun env => (f env).bind fun d => ofO (itemsOf d)
theorem at_map {α β : Type} {f : α → β} {xs : List α} {i : Nat} {y : β} (h : (xs.map f)[i]? = some y) : ∃ x, xs[i]? = some x ∧ f x = y := by
  rw [List.getElem?_map] at h
  cases e : xs[i]? with
  | none => rw [e] at h; cases h
  | some x => rw [e] at h; exact ⟨x, rfl, Option.some.inj h⟩
theorem yat_ok {F' : Hp} {K : Kx} {H' : Hp} {ds : List D} {vs : List V} (hl : RL K F' H' ds vs []) :
    ∀ i d, ds[i]? = some d → ∀ Fc Hc v Hn, Same F' Fc → Same Fc Hc → YAt vs i Hc v Hn → ∃ Fn, Grow Fc Hc Fn Hn ∧ R K Fn Hn d v [] := by
  intro i d hd Fc Hc v Hn h1 h2 y
  obtain ⟨e, ev⟩ := y
  subst e
  obtain ⟨v', e1, r⟩ := hl.get0 hd
  rw [ev] at e1
  cases e1
  exact ⟨Fc, Grow.refl h2, R.mono h1 d (fun a z => nomatch z) r⟩
theorem SI.seq (hf : SE X E W iter f) : SI X E W tg iter (iSeq f) := by
  obtain ⟨t, p, k⟩ := hf.ex
  refine ⟨hf.hK, _, PI.or (pi_list p) (PI.or (pi_tup p) (pi_str p)), fun F σ H env S Rj q => ?_⟩
  unfold iSeq at q
  have hk := hf.hK
  cases e1 : f env with
  | un => rw [e1] at q; exact q.elim
  | ex x =>
    rw [e1] at q
    refine .inl (k F σ H env S _ ?_)
    rw [e1]
    exact q
  | ok d =>
    rw [e1, Rs.bind_ok] at q
    cases e2 : itemsOf d with
    | none => rw [e2] at q; exact q.elim
    | some ds =>
      rw [e2] at q
      cases d <;> first | (cases e2; done) | skip
      · cases e2
        refine .inr (.inr (k F σ H env S _ ?_))
        rw [e1]
        intro v fp F' H' G r
        obtain ⟨rfl, ko⟩ := r.str_inv
        rename_i x
        refine ⟨_, rfl, q (Its ⟨x.toArray⟩) _ _ F' H' G (by rw [List.length_map, line_eq]; exact ko.len) (by rw [List.length_map]; have w := walk_str (z := ⟨x.toArray⟩); rw [show (⟨x.toArray⟩ : Str).cps.size = x.length from List.size_toArray] at w; exact w) (fun _ _ => trivial) ?_⟩
        intro i d hd Fc Hc v Hn h1 h2 y
        obtain ⟨rfl, c, hc, rfl⟩ := y
        obtain ⟨c', e3, rfl⟩ := at_map hd
        have e4 : x[i]? = some c := by simpa using hc
        rw [e4] at e3
        cases e3
        exact ⟨Fc, Grow.refl h2, .str ⟨by show 1 ≤ sizeLine; decide, fun c'' hc'' => by rw [List.mem_singleton.mp hc'']; exact ko.cps c (List.mem_of_getElem? e4)⟩⟩
      · cases e2
        refine .inr (.inl (k F σ H env S _ ?_))
        rw [e1]
        intro v fp F' H' G r
        obtain ⟨p, vs, rfl, hp, hl, hz⟩ := r.tup_inv
        refine ⟨p, rfl, ⟨vs, by rw [hk]; exact same_t G.fh hp⟩, q (Itt X.K p) _ _ F' H' G hz (by rw [← hl.len]; exact walk_tup) (fun Hc h => by rw [hk]; exact same_t h hp) (yat_ok hl)⟩
      · cases e2
        refine .inl (k F σ H env S _ ?_)
        rw [e1]
        intro v fp F' H' G r
        cases r with
        | lst hp hl hz => exact ⟨_, rfl, ⟨_, SqL.of (G.fh _ _ hp)⟩, q (Itl X.K _) _ _ F' H' G hz (by rw [← hl.len]; exact walk_list) (fun Hc h => SqL.of (h _ _ hp)) (yat_ok hl)⟩
      · cases e2
        refine .inl (k F σ H env S _ ?_)
        rw [e1]
        intro v fp F' H' G r
        cases r with
        | scr hp hz =>
          rename_i ns p
          exact ⟨_, rfl, ⟨_, by rw [hk]; exact G.fh.seq hp⟩, q (Itl X.K _) _ _ F' H' G (by rw [List.length_map]; exact hz) (by rw [List.length_map, ← List.length_map (f := V.int)]; exact walk_list) (fun Hc h => by rw [hk]; exact h.seq hp) (yat_ok (H' := H') (RL.ints ns))⟩
/-- range(a), range(a, b) -/
def rngL (lo : Int) (n : Nat) : List D := (List.range n).map fun (i : Nat) => D.int (lo + (i : Int))
def iRng1 : List D → Rs (List D)
  | [.int j] => if -16000000 ≤ j ∧ j ≤ 16000000 then .ok (rngL 0 j.toNat) else .un
  | _ => .un
def iRng2 : List D → Rs (List D)
  | [.int i, .int j] => if -16000000 ≤ i ∧ i ≤ 16000000 ∧ -16000000 ≤ j ∧ j ≤ 16000000 ∧ j - i ≤ 16000000 then .ok (rngL i (j - i).toNat) else .un
  | _ => .un
theorem rng_ok {K : Kx} {F' : Hp} {lo : Int} {n : Nat} : ∀ i d, (rngL lo n)[i]? = some d → ∀ Fc Hc v Hn, Same F' Fc → Same Fc Hc → YFn (fun i => .int (lo + (i : Nat))) i Hc v Hn → ∃ Fn, Grow Fc Hc Fn Hn ∧ R K Fn Hn d v [] := by
  intro i d hd Fc Hc v Hn h1 h2 y
  obtain ⟨rfl, rfl⟩ := y
  obtain ⟨j, e1, rfl⟩ := at_map hd
  obtain ⟨hj, e2⟩ := List.getElem?_eq_some_iff.mp e1
  rw [List.getElem_range] at e2
  subst e2
  exact ⟨Fc, Grow.refl h2, .int _⟩
theorem rngL_len (lo : Int) (n : Nat) : (rngL lo n).length = n := by unfold rngL; rw [List.length_map, List.length_range]
theorem SI.range1 {p : Pos} {fa : En → Rs (List D)} (ha : SA X E W [a] fa) (hm : X.mg "range" = none) (hg : Gl X "range" := by rfl) (hs : starEach [a] X.env = [(false, eval a X.env)] := by rfl) : SI X E W tg (.Call (.Name "range" p) [a] [] pos) (fun env => (fa env).bind iRng1) := by
  obtain ⟨t, pa, ka⟩ := ha.ex
  refine ⟨ha.hK, _, pi_range1 hg hm pa hs, fun F σ H env S Rj q => ?_⟩
  refine ka F σ H env S _ ?_
  dsimp only at q
  cases e1 : fa env with
  | un => rw [e1] at q; exact q
  | ex x => rw [e1] at q; exact q
  | ok ds =>
    rw [e1, Rs.bind_ok] at q
    intro vs fp F' H' G r0
    unfold iRng1 at q
    split at q
    · split at q
      · rename_i hb
        obtain ⟨v, rfl, r⟩ := r0.one
        cases r
        exact ⟨_, rfl, by omega, by omega, q (Itr 0 _) _ _ F' H' G (by rw [rngL_len]; omega) (by rw [rngL_len]; exact walk_range) (fun _ _ => trivial) rng_ok⟩
      · exact q.elim
    · exact q.elim
theorem SI.range2 {p : Pos} {fa : En → Rs (List D)} (ha : SA X E W [a, b] fa) (hm : X.mg "range" = none) (hg : Gl X "range" := by rfl) (hs : starEach [a, b] X.env = [(false, eval a X.env), (false, eval b X.env)] := by rfl) (hs2 : starEach [b] X.env = [(false, eval b X.env)] := by rfl) : SI X E W tg (.Call (.Name "range" p) [a, b] [] pos) (fun env => (fa env).bind iRng2) := by
  obtain ⟨t, pa, ka⟩ := ha.ex
  refine ⟨ha.hK, _, pi_range2 hg hm pa hs hs2, fun F σ H env S Rj q => ?_⟩
  refine ka F σ H env S _ ?_
  dsimp only at q
  cases e1 : fa env with
  | un => rw [e1] at q; exact q
  | ex x => rw [e1] at q; exact q
  | ok ds =>
    rw [e1, Rs.bind_ok] at q
    intro vs fp F' H' G r0
    unfold iRng2 at q
    split at q
    · split at q
      · rename_i hb
        obtain ⟨v, v', _, _, rfl, r1, r2⟩ := r0.two
        cases r1; cases r2
        exact ⟨_, _, rfl, ⟨by omega, by omega, by omega, by omega⟩, q (Itr _ _) _ _ F' H' G (by rw [rngL_len]; omega) (by rw [rngL_len]; exact walk_range) (fun _ _ => trivial) rng_ok⟩
      · exact q.elim
    · exact q.elim
/-! ### for -/
def forL (h : D → En → Option En) (body : En → Fl) (w : List Nat) : List D → En → Fl
  | [], env => .nx env
  | d :: ds, env => match h d env with
    | none => .un
    | some e1 => match body e1 with
      | .nx e2 => forL h body w ds (wipeE w e2)
      | .ct e2 => forL h body w ds (wipeE w e2)
      | .bk e2 => .nx (wipeE w e2)
      | r => r
def sFor (fi : En → Rs (List D)) (h : D → En → Option En) (body : En → Fl) (w : List Nat) : En → Fl := fun env => match fi env with
  | .ok ds => forL h body w ds (wipeE w env)
  | .ex x => .xx x env
  | .un => .un
theorem drop_cons {α : Type} {xs : List α} {i : Nat} (h : i < xs.length) : xs.drop i = xs[i] :: xs.drop (i + 1) := List.drop_eq_getElem_cons h
theorem for_ok {wi : TI} {fi : En → Rs (List D)} {g : TG} {is : List Nat} {h : D → En → Option En} {tb : TS} {body : En → Fl} (w : List Nat) (ki : OkI E W wi fi) (kg : OkG E is g h) (kb : OkS E W tb body) : OkS E W (tFor wi g tb) (sFor fi h body w) := by
  intro F σ H env S D q
  refine ki F σ H env S _ ?_
  unfold sFor at q
  cases e1 : fi env with
  | un => rw [e1] at q; exact q
  | ex x => rw [e1] at q; exact fun cls dd F' H' G r => q cls dd F' σ H' G.f (S.grow G) r
  | ok ds =>
    rw [e1] at q
    dsimp only at q
    intro J G Y F' H' Gr _ wk hG hY
    refine for_it wk (fun i σ1 H1 => ∃ F1 en, Stt E F1 en σ1 H1 ∧ Same F' F1 ∧ PostS E W F1 D (forL h body w (ds.drop i) en)) ?_ ?_ ?_ ?_
    · exact ⟨F', wipeE w env, (S.grow Gr).wipes w, Same.refl _, q.mono Gr.f⟩
    · rintro i σ1 H1 _ ⟨F1, en, S1, le, _⟩
      exact hG H1 (le.trans S1.fH)
    · rintro i v σ1 H1 Hn hi ⟨F1, en, S1, le, q1⟩ hy
      obtain ⟨Fn, Gn, rn⟩ := hY i ds[i] (by simp [hi]) F1 H1 v Hn le S1.fH hy
      rw [drop_cons hi] at q1
      unfold forL at q1
      have Sn := S1.grow Gn
      have len : Same F' Fn := le.trans Gn.f
      cases e2 : h ds[i] en with
      | none => rw [e2] at q1; exact q1.elim
      | some en1 =>
        rw [e2] at q1
        dsimp only at q1
        refine kg Fn σ1 Hn en ds[i] v Sn rn _ ⟨en1, e2, fun σ2 S2 _ _ => ?_⟩
        refine kb Fn σ2 Hn en1 S2 _ ?_
        cases e3 : body en1 with
        | nx e => rw [e3] at q1; exact fun F3 σ3 H3 G3 S3 => ⟨F3, _, S3.wipes w, len.trans G3, q1.mono (Gn.f.trans G3)⟩
        | ct e => rw [e3] at q1; exact fun F3 σ3 H3 G3 S3 => ⟨F3, _, S3.wipes w, len.trans G3, q1.mono (Gn.f.trans G3)⟩
        | bk e => rw [e3] at q1; exact fun F3 σ3 H3 G3 S3 => q1 F3 σ3 H3 (Gn.f.trans G3) (S3.wipes w)
        | rt d e => rw [e3] at q1; exact PostS.mono (r := .rt d e) Gn.f q1
        | xx x e => rw [e3] at q1; exact PostS.mono (r := .xx x e) Gn.f q1
        | un => rw [e3] at q1; exact q1
    · rintro σ1 H1 ⟨F1, en, S1, le, q1⟩
      rw [List.drop_length] at q1
      exact q1 F1 σ1 H1 (Same.refl _) S1
end
/-! what is gone through while only new things come: an owned list too -/
def PostJ (E : Ent) (W : WX) (F H : Hp) (σ : St) (Rj : It → Hp → Prop) : Rs (List D) → Prop
  | .ok ds => ∀ (J : It) (G : Hp → Prop) (Y : Nat → Hp → V → Hp → Prop) F' H', Grow F H F' H' → ds.length ≤ 16777216 → Walk J ds.length G Y → (∀ Hc, Same F' Hc → Same H' Hc → G Hc) →
      (∀ i d, ds[i]? = some d → ∀ Fc Hc v Hn, Same F' Fc → Same Fc Hc → Y i Hc v Hn → ∃ Fn, Grow Fc Hc Fn Hn ∧ R E.K Fn Hn d v []) → Rj J H'
  | .ex x => ∀ cls dd F' H', Grow F H F' H' → Rx E.K F' H' x cls dd → W cls dd σ H'
  | .un => False
def OkJ (E : Ent) (W : WX) (wi : TI) (f : En → Rs (List D)) : Prop := ∀ F σ H env, Stt E F env σ H → ∀ Rj, PostJ E W F H σ Rj (f env) → wi σ H Rj
structure SJ (X : Cx) (E : Ent) (W : WX) (tg iter : Expr) (f : En → Rs (List D)) : Prop where
  hK : X.K = E.K.k
  ex : ∃ wi, PI X tg iter wi ∧ OkJ E W wi f
section
variable {X : Cx} {E : Ent} {W : WX} {tg iter : Expr} {f : En → Rs D}
theorem SJ.of {f : En → Rs (List D)} (h : SI X E W tg iter f) : SJ X E W tg iter f := by
  obtain ⟨wi, p, k⟩ := h.ex
  refine ⟨h.hK, wi, p, fun F σ H env S Rj q => k F σ H env S Rj ?_⟩
  cases e : f env with
  | un => rw [e] at q; exact q
  | ex x => rw [e] at q; exact q
  | ok ds => rw [e] at q; exact fun J G Y F' H' Gr hl wk hG hY => q J G Y F' H' Gr hl wk (fun Hc h _ => hG Hc h) hY
def itemsOfO : D → Option (List D)
  | .olst xs => if xs.all isData then some xs else none
  | d => itemsOf d
def iSeqO (f : En → Rs D) : En → Rs (List D) := fun env => (f env).bind fun d => ofO (itemsOfO d)
theorem SJ.seq (hf : SE X E W iter f) : SJ X E W tg iter (iSeqO f) := by
  obtain ⟨wi, p1, k1⟩ := (SI.seq (tg := tg) hf).ex
  obtain ⟨t, p, k⟩ := hf.ex
  refine ⟨hf.hK, _, PI.or p1 (pi_list p), fun F σ H env S Rj q => ?_⟩
  have hk := hf.hK
  by_cases ho : ∃ xs, f env = .ok (.olst xs)
  · obtain ⟨xs, e⟩ := ho
    refine .inr (k F σ H env S _ ?_)
    unfold iSeqO itemsOfO at q
    rw [e, Rs.bind_ok] at q
    rw [e]
    dsimp only at q
    split at q
    · rename_i hd
      intro v fp F' H' G r
      cases r with
      | olst hp hl hz =>
        rename_i a vs fp0
        exact ⟨_, rfl, ⟨_, SqL.of hp⟩, q (Itl X.K _) _ _ F' H' G hz (by rw [← hl.len]; exact walk_list) (fun Hc _ h => SqL.of (h _ _ hp)) (yat_ok (hl.toData hd))⟩
    · exact q.elim
  · refine .inl (k1 F σ H env S Rj ?_)
    have e : iSeqO f env = iSeq f env := by
      unfold iSeqO iSeq
      cases e1 : f env with
      | un => rfl
      | ex x => rfl
      | ok d =>
        rw [Rs.bind_ok, Rs.bind_ok]
        cases d <;> first | rfl | exact absurd ⟨_, e1⟩ ho
    rw [e] at q
    cases e2 : iSeq f env with
    | un => rw [e2] at q; exact q
    | ex x => rw [e2] at q; exact q
    | ok ds => rw [e2] at q; exact fun J G Y F' H' Gr hl wk hG hY => q J G Y F' H' Gr hl wk (fun Hc h _ => hG Hc h) hY
end
end Z

set_option Elab.async false
set_option linter.all false
set_option maxRecDepth 100000
set_option maxHeartbeats 1000000
namespace Z
open PySem L2
section
variable {X : Cx} {E : Ent} {W : WX} {e a b tg iter : Expr} {f g : En → Rs D} {pos : Pos} {s : Stmt} {ss : List Stmt} {gs gt : En → Fl}
theorem SS.for (w : List Nat) {fi : En → Rs (List D)} {is : List Nat} {h : D → En → Option En} {body : List Stmt} (hp : PassesOwn (model X.prog X.w) X.A X.env X.xe) (hc : X.calm = true) (hi : SI X E W tg iter fi) (hg : SG X E tg is h) (hb : SB X E W body gs)
    (hs : ∀ x, foldedSetIterable iter X.env x = pure x := by intro _; rfl) : SS X E W (.For tg iter body [] pos) (sFor fi h gs w) := by
  obtain ⟨wi, p1, k1⟩ := hi.ex
  obtain ⟨tg', p2, k2⟩ := hg.ex
  obtain ⟨tb, p3, k3⟩ := hb.ex
  exact ⟨hi.hK, _, ps_for hp hc p1 p2 p3 hs, for_ok w k1 k2 k3⟩

/-! ### while -/
def whileL (c : En → Rs Bool) (body : En → Fl) (w : List Nat) : Nat → En → Fl
  | 0, _ => .un
  | n + 1, env => match c env with
    | .ok true => match body env with
      | .nx e => whileL c body w n (wipeE w e)
      | .ct e => whileL c body w n (wipeE w e)
      | .bk e => .nx (wipeE w e)
      | r => r
    | .ok false => .nx env
    | .ex x => .xx x env
    | .un => .un
def sWhile (n : Nat) (c : En → Rs Bool) (body : En → Fl) (w : List Nat) : En → Fl := fun env => whileL c body w n (wipeE w env)
theorem while_ok {tc : TT} {c : En → Rs Bool} {tb : TS} {body : En → Fl} (n : Nat) (w : List Nat) (kc : OkT E W tc c) (kb : OkS E W tb body) : OkS E W (tWhile tc tb) (sWhile n c body w) := by
  intro F σ H env S D q
  refine ⟨fun m σ1 H1 => ∃ F1 en, Stt E F1 en σ1 H1 ∧ PostS E W F1 D (whileL c body w m en), ⟨n, F, wipeE w env, S.wipes w, q⟩, ?_⟩
  rintro m σ1 H1 ⟨F1, en, S1, q1⟩
  refine kc F1 σ1 H1 en S1 _ ?_
  cases m with
  | zero => exact q1.elim
  | succ m =>
    unfold whileL at q1
    cases e1 : c en with
    | un => rw [e1] at q1; exact q1
    | ex x => rw [e1] at q1; exact fun cls dd F' H' G r => q1 cls dd F' σ1 H' G.f (S1.grow G) r
    | ok b =>
      rw [e1] at q1
      intro F' H' G
      cases b with
      | false => exact q1 F' σ1 H' G.f (S1.grow G)
      | true =>
        dsimp only at q1
        refine ⟨fun σ2 H2 => ∃ F2 en2, Stt E F2 en2 σ2 H2 ∧ PostS E W F2 D (whileL c body w m en2), fun σ2 H2 h2 => ⟨m, Nat.lt_succ_self m, h2⟩, ?_⟩
        refine kb F' σ1 H' en (S1.grow G) _ ?_
        cases e2 : body en with
        | nx e => rw [e2] at q1; exact fun F3 σ3 H3 G3 S3 => ⟨F3, _, S3.wipes w, q1.mono (G.f.trans G3)⟩
        | ct e => rw [e2] at q1; exact fun F3 σ3 H3 G3 S3 => ⟨F3, _, S3.wipes w, q1.mono (G.f.trans G3)⟩
        | bk e => rw [e2] at q1; exact fun F3 σ3 H3 G3 S3 => q1 F3 σ3 H3 (G.f.trans G3) (S3.wipes w)
        | rt d e => rw [e2] at q1; exact PostS.mono (r := .rt d e) G.f q1
        | xx x e => rw [e2] at q1; exact PostS.mono (r := .xx x e) G.f q1
        | un => rw [e2] at q1; exact q1
theorem SS.while (n : Nat) (w : List Nat) {c : Expr} {tc : En → Rs Bool} {body : List Stmt} (hp : PassesOwn (model X.prog X.w) X.A X.env X.xe) (hc : ST X E W c tc) (hb : SB X E W body gs) : SS X E W (.While c body [] pos) (sWhile n tc gs w) := by
  obtain ⟨t, p1, k1⟩ := hc.ex
  obtain ⟨tb, p3, k3⟩ := hb.ex
  exact ⟨hc.hK, _, ps_while hp p1 p3, while_ok n w k1 k3⟩

/-! ### x.append(e), x an owned list of the frame -/
def sApp (i : Nat) (f : En → Rs D) : En → Fl := fun env => match env[i]? with
  | some (some (.olst ds)) => match f env with
    | .ok d => if isData d && decide (ds.length < 16777216) then .nx (env.set i (some (.olst (ds ++ [d])))) else .un
    | .ex x => .xx x env
    | .un => .un
  | _ => .un
theorem R.olst_inv {K : Kx} {F H : Hp} {ds : List D} {v : V} {fp : List Addr} (r : R K F H (.olst ds) v fp) : ∃ a vs fp0, v = .ref a ∧ H a = some (.lst vs) ∧ RL K F H ds vs fp0 := by
  cases r with
  | olst h1 h2 hz => exact ⟨_, _, _, rfl, h1, h2⟩
/-- an owned list's items are changed -/
theorem Stt.setOwn {F H : Hp} {env : En} {σ : St} {i : Nat} {ds ds' : List D} {a : Addr} {vs vs' : List V} (S : Stt E F env σ H) (hz : ds'.length ≤ 16777216) (he : env[i]? = some (some (.olst ds))) (hσ : σ[i]? = some (some (.ref a))) (hH : H a = some (.lst vs))
    (hr : ∀ fp, RL E.K F H ds vs fp → RL E.K F H ds' vs' fp) : Stt E F (env.set i (some (.olst ds'))) σ (upd H a (.lst vs')) := by
  obtain ⟨fps, rs, nd, fr⟩ := S.rep
  obtain ⟨v, fp, g1, g2, g3⟩ := rs.get he
  rw [hσ] at g1
  cases g1
  cases g3 with
  | olst h1 h2 =>
    rename_i vs0 fp0 hz0
    rw [hH] at h1
    cases h1
    have hFa : F a = none := (fr i _ g2 a List.mem_cons_self).1
    have hown := (fr i _ g2 a List.mem_cons_self).2
    have hnd : (a :: fp0).Nodup := nodup_get nd g2
    have keepF : ∀ b, F b ≠ none → b ≠ a := fun b hb z => hb (by rw [z]; exact hFa)
    have r2 := hr fp0 h2
    have off : ∀ j fq, j ≠ i → fps[j]? = some fq → ∀ b ∈ fq, upd H a (.lst vs') b = H b := fun j fq hj hq b hb => by
      refine upd_ne fun z => ?_
      subst z
      exact nodup_apart nd hj hq g2 b hb List.mem_cons_self
    have hset : fps.set i (a :: fp0) = fps := by
      apply List.ext_getElem?
      intro j
      by_cases hj : i = j
      · subst hj
        have hl : i < fps.length := (List.getElem?_eq_some_iff.mp g2).1
        rw [List.getElem?_set_self hl, g2]
      · rw [List.getElem?_set_ne hj]
    refine ⟨S.le0, fun b o eb => ?_, fun b o eb n => ?_, S.old, fun j b hb => ?_, fps, ?_, nd, fr⟩
    · rw [upd_ne (keepF b (by rw [eb]; simp))]; exact S.fH b o eb
    · rw [upd_ne fun z => ?_]
      · exact S.keep b o eb n
      · subst z
        rcases hown with h | h
        · rw [h] at eb; cases eb
        · exact n i h
    · by_cases hb' : b = a
      · exact ⟨_, by rw [hb']; exact upd_same⟩
      · obtain ⟨o, ho⟩ := S.ownS j b hb
        exact ⟨o, by rw [upd_ne hb']; exact ho⟩
    · -- the slots
      have key : ∀ (env : En) (σ : St) (fps : List (List Addr)) (i : Nat), RS E.K F H env σ fps → fps[i]? = some (a :: fp0) → σ[i]? = some (some (.ref a)) → (∀ j fq, j ≠ i → fps[j]? = some fq → ∀ b ∈ fq, upd H a (.lst vs') b = H b) → env[i]? = some (some (.olst ds)) →
          RS E.K F (upd H a (.lst vs')) (env.set i (some (.olst ds'))) σ fps := by
        intro env σ fps i rs
        induction rs generalizing i with
        | nil => intro h; simp at h
        | non t ih =>
          intro h1 h2 h3 h4
          cases i with
          | zero => simp at h4
          | succ i => exact .non (ih i (by simpa using h1) (by simpa using h2) (fun j fq hj hq => h3 (j + 1) fq (by omega) (by simpa using hq)) (by simpa using h4))
        | som r t ih =>
          intro h1 h2 h3 h4
          cases i with
          | zero =>
            simp at h1 h2
            subst h2; subst h1
            refine .som (.olst upd_same (RL.mono (Same.refl _) ds' (fun b hb => upd_ne fun z => ?_) r2) hz) (RS.mono (Same.refl _) (fun fq hq b hb => ?_) t)
            · subst z; exact (List.nodup_cons.mp hnd).1 hb
            · obtain ⟨j, hj⟩ := List.mem_iff_getElem?.mp hq
              exact h3 (j + 1) fq (by omega) (by simpa using hj) b hb
          | succ i =>
            refine .som (R.mono (Same.refl _) _ (fun b hb => h3 0 _ (by omega) rfl b hb) r) (ih i (by simpa using h1) (by simpa using h2) (fun j fq hj hq => h3 (j + 1) fq (by omega) (by simpa using hq)) (by simpa using h4))
      exact key env σ fps i rs g2 hσ off he
theorem SS.app (i : Nat) {y : Str} {py apos cpos : Pos} (hf : SE X E W e f) (hN : X.N[i]? = some y := by rfl) (hv : Vis X.env.scope y := by first | exact Or.inl rfl | exact Or.inr (Or.inl rfl) | exact Or.inr (Or.inr rfl))
    (hd : (y == ("__debug__" : Str)) = false := by decide) (hcd : (y == ("__classdict__" : Str)) = false := by decide)
    (hbase : attributeBase (.Name y py) "append" X.env (eval (.Name y py) X.env) = eval (.Name y py) X.env := by rfl)
    (hfew : ((backTo cpos (starEach [e] X.env)).all (fun x => !x.1) && (backToKw cpos (keywordEach [] X.env)).all (fun x => x.1.isSome)
      && decide ([e].length + ([] : List Keyword).length + (if ([] : List Keyword).isEmpty then 0 else 1) < 30)) = true := by rfl)
    (hline : (apos.endLine == cpos.line) = true := by rfl) (hs : starEach [e] X.env = (false, eval e X.env) :: starEach [] X.env := by rfl) (hplain : (backTo cpos (starEach [] X.env)).any (·.1) = false := by rfl)
    (hsw : swapsWith (.Call (.Attribute (.Name y py) "append" apos) [e] [] cpos) none pos.line X.env = pure false := by rfl) :
    SS X E W (.Expr (.Call (.Attribute (.Name y py) "append" apos) [e] [] cpos) pos) (sApp i f) := by
  obtain ⟨t, p, k⟩ := hf.ex
  refine ⟨hf.hK, _, ps_expr (pe_bm PySem.F.plainAttrs_list PySem.F.slot_list_append PySem.F.type_list_append mt_append (pe_var hN hv hd hcd) (pa_cons p pa_nil hs) hbase hfew hline hs hplain) hsw, fun F σ H env S D q => ?_⟩
  unfold sApp at q
  split at q
  · rename_i ds he
    obtain ⟨fps, rs, _⟩ := S.rep
    obtain ⟨v, fp, g1, _, g3⟩ := rs.get he
    · obtain ⟨a, vs, fp0, rfl, h1, h2⟩ := g3.olst_inv
      refine ⟨.ref a, g1, Or.inl ⟨rfl, vs, SqL.of h1⟩, k F σ H env S _ ?_⟩
      cases e1 : f env with
      | un => rw [e1] at q; exact q
      | ex x => rw [e1] at q; exact fun cls dd F' H' G r => q cls dd F' σ H' G.f (S.grow G) r
      | ok d =>
        rw [e1] at q
        dsimp only at q
        split at q
        · rename_i hc
          rw [Bool.and_eq_true] at hc
          intro v1 fp1 F1 H1 G1 r1
          have ha1 : H1 a = some (.lst vs) := G1.h a _ h1
          refine ⟨a, vs, v1, rfl, rfl, ha1, by rw [h2.len, ← line_eq]; exact of_decide_eq_true hc.2, ?_⟩
          have r1' := r1.toData hc.1
          refine q F1 σ _ G1.f ((S.grow G1).setOwn (by rw [List.length_append]; have := of_decide_eq_true hc.2; simp; omega) he g1 ha1 fun fq hq => ?_)
          have := hq.snoc r1'
          rw [List.append_nil] at this
          exact this
        · exact q.elim
  · exact q.elim

/-! ### calls of the program's own defs -/
/-- a def's promise, by its meaning m -/
def PostP (K : Kx) (F H : Hp) (Q : VK) (Ex : XK) : Rs D → Prop
  | .ok d => ∀ v F' H', Grow F H F' H' → R K F' H' d v [] → Q v H'
  | .ex x => ∀ cls dd F' H', Grow F H F' H' → Rx K F' H' x cls dd → Ex cls dd H'
  | .un => False
def spP (K : Kx) (n : Nat) (m : List D → Rs D) : Sp := fun vs H Q Ex => ∃ ds F, Same F H ∧ RL K F H ds vs [] ∧ ds.length = n ∧ PostP K F H Q Ex (m ds)
/-- no exception leaves it -/
def noX : Rs D → Rs D
  | .ok d => .ok d
  | _ => .un
@[simp] theorem noX_ok (d : D) : noX (.ok d) = .ok d := id rfl
def eApp (n : Nat) (m : List D → Rs D) (fa : En → Rs (List D)) : En → Rs D := fun env => (fa env).bind fun ds => if ds.all isData && decide (ds.length = n) then m ds else .un
/-- m raises nothing -/
def NoX (m : List D → Rs D) : Prop := ∀ ds x, m ds ≠ .ex x
theorem SE.call0 {x : Str} {p : Pos} {k n : Nat} {fa_ : Addr} {fd : FuncData} {ps : List Str} {es : List Expr} {m : List D → Rs D} {fa : En → Rs (List D)}
    (F : FnOk X.prog X.w X.K X.mg X.base CX0 k fa_ fd ps (spP E.K n m)) (hx : NoX m) (hr : Room k X.A) (hm : X.mg x = some (.ref fa_)) (hk : PySem.W.keepIn X.K (.ref fa_) = true) (hb : Binds X.K fd ps []) (ha : SA X E W (e :: es) fa) (hg : Gl X x := by rfl)
    (hdb : (x == ("__debug__" : Str)) = false := by decide) (he : starEach (e :: es) X.env = (false, eval e X.env) :: starEach es X.env := by rfl) (hpl : (backTo pos (starEach es X.env)).any (·.1) = false := by rfl) :
    SE X E W (.Call (.Name x p) (e :: es) [] pos) (eApp n m fa) := by
  obtain ⟨t, pa, ka⟩ := ha.ex
  refine ⟨ha.hK, _, pe_call F hr hg hm hk hb .nil pass0 pa hdb he hpl, fun Fz σ H env S Q q => ?_⟩
  refine ka Fz σ H env S _ ?_
  unfold eApp at q
  cases e1 : fa env with
  | un => rw [e1] at q; exact q
  | ex x => rw [e1] at q; exact q
  | ok ds =>
    rw [e1, Rs.bind_ok] at q
    intro vs fp F1 H1 G1 r1
    split at q
    · rename_i hc
      rw [Bool.and_eq_true] at hc
      rw [List.append_nil]
      refine ⟨ds, F1, G1.fh, r1.toData hc.1, of_decide_eq_true hc.2, ?_⟩
      cases e2 : m ds with
      | un => rw [e2] at q; exact q
      | ex x => exact absurd e2 (hx ds x)
      | ok d => rw [e2] at q; exact fun v F' H' G r => q v [] F' H' (G1.trans G) r
    · exact q.elim
theorem SE.call00 {x : Str} {p : Pos} {k : Nat} {fa_ : Addr} {fd : FuncData} {ps : List Str} {m : List D → Rs D}
    (F : FnOk X.prog X.w X.K X.mg X.base CX0 k fa_ fd ps (spP E.K 0 m)) (hx : NoX m) (hr : Room k X.A) (hm : X.mg x = some (.ref fa_)) (hk : PySem.W.keepIn X.K (.ref fa_) = true) (hb : Binds X.K fd ps []) (hg : Gl X x := by rfl)
    (hdb : (x == ("__debug__" : Str)) = false := by decide) (hK : X.K = E.K.k := by rfl) :
    SE X E W (.Call (.Name x p) [] [] pos) (eApp 0 m aNil) := by
  refine ⟨hK, _, pe_call0 F hr hg hm hk hb .nil pass0 hdb, fun Fz σ H env S Q q => ?_⟩
  refine ⟨[], Fz, S.fH, .nil, rfl, ?_⟩
  have q : PostE E W Fz H σ Q (m []) := q
  cases e2 : m [] with
  | un => rw [e2] at q; exact q
  | ex x => exact absurd e2 (hx [] x)
  | ok d => rw [e2] at q; exact fun v F' H' G r => q v [] F' H' G r

/-! ### a def by its body -/
def start0 (n : Nat) (ds : List D) : En := ds.map some ++ List.replicate (n - ds.length) none
def outB : Fl → Rs D
  | .rt d _ => .ok d
  | .nx _ => .ok .non
  | .xx x _ => .ex x
  | _ => .un
/-- the meaning of a def with n names whose body means g -/
def runB (g : En → Fl) (n : Nat) (ds : List D) : Rs D := outB (g (start0 n ds))
def runB0 (g : En → Fl) (n : Nat) (ds : List D) : Rs D := noX (runB g n ds)
theorem runB0_nox {g : En → Fl} {n : Nat} : NoX (runB0 g n) := fun ds x e => by
  unfold runB0 at e
  cases q : runB g n ds <;> rw [q] at e <;> cases e
end
theorem rs_none {K : Kx} {F H : Hp} : ∀ (n : Nat), RS K F H (List.replicate n none) (List.replicate n none) (List.replicate n [])
  | 0 => .nil
  | n + 1 => .non (rs_none n)
theorem rs_start {K : Kx} {F H : Hp} : ∀ {ds : List D} {vs : List V} (n : Nat), RL K F H ds vs [] → RS K F H (ds.map some ++ List.replicate n none) (vs.map some ++ List.replicate n none) (List.replicate (ds.length + n) [])
  | [], vs, n, h => by
    have : vs = [] := by cases vs with | nil => rfl | cons a b => exact absurd h.len (by simp)
    subst this
    rw [List.length_nil, Nat.zero_add]
    exact rs_none n
  | d :: ds, vs, n, h => by
    obtain ⟨v, vs', rfl, h1, h2⟩ := h.inv_cons
    have e : (d :: ds).length + n = (ds.length + n) + 1 := by rw [List.length_cons]; omega
    rw [e]
    exact .som h1 (rs_start n h2)
theorem flat_nil {α : Type} : ∀ n : Nat, (List.replicate n ([] : List α)).flatten = []
  | 0 => rfl
  | n + 1 => by rw [List.replicate_succ, List.flatten_cons, flat_nil n]; rfl
theorem stt_start {K : Kx} {F H : Hp} {ds : List D} {vs : List V} {N : List Str} (hs : Same F H) (h : RL K F H ds vs []) : Stt ⟨K, H, F, fun _ => []⟩ F (start0 N.length ds) (L2.start N vs) H := by
  refine ⟨Same.refl _, hs, fun a o e _ => e, fun a o e _ => rfl, (fun i a ha => nomatch ha), List.replicate (ds.length + (N.length - ds.length)) [], ?_, ?_, ?_⟩
  · unfold start0 L2.start
    rw [h.len]
    exact rs_start _ h
  · rw [flat_nil]; exact List.nodup_nil
  · intro i fp hi a ha
    rw [List.getElem?_replicate] at hi
    split at hi
    · cases hi; cases ha
    · cases hi
theorem stt_end {K : Kx} {F H F' H' : Hp} {env : En} {σ : St} (S : Stt ⟨K, H, F, fun _ => []⟩ F' env σ H') : Grow F H F' H' :=
  ⟨S.le0, S.fH, fun a o e => S.keep a o e (fun _ z => nomatch z), fun a o e => S.old a o e (fun _ z => nomatch z)⟩
section
variable {P : Program} {w : World} {K : Kx} {mg : Str → Option Value} {base : Heap}
abbrev W0 : WX := fun _ _ _ _ => False
/-- a def that raises nothing -/
theorem fn0 {x qual : Str} {st : Stmt} {f : Addr} {fd : FuncData} {N ps : List Str} {k : Nat} {g : En → Fl} (Fn : Fun K.k x qual st f fd) (S : FnScope N ps (defScope st))
    (hb : ∀ (cdv : Value) (A : Around) (outer : List Env) (s : Shared) (H : Hp) (Ex : XK) (F0 : Hp), Room k (A.deeper (PyProof.Rows.envOfC qual (defScope st) s.heap.objs.size f cdv)) →
      SB (cxOf CX0 P w K.k mg base N qual (defScope st) f cdv A outer s H Ex).nox ⟨K, H, F0, fun _ => []⟩ W0 (defBody st) g) : FnOk P w K.k mg base CX0 (k + 1) f fd ps (spP K ps.length (runB0 g N.length)) := by
  refine Fn.ok S (fun vs H Q E h => ?_) (fun cdv A outer s H vs Q Ex hr h => ?_)
  · obtain ⟨ds, F, _, hl, hn, _⟩ := h
    rw [hl.len, hn]
  · obtain ⟨ds, F, hs, hl, hn, q⟩ := h
    obtain ⟨t, p, k⟩ := (hb cdv A outer s H Ex F hr).ex
    refine ⟨t, p, k F _ H _ (stt_start hs hl) _ ?_⟩
    unfold runB0 runB at q
    cases e : g (start0 N.length ds) with
    | nx en => rw [e] at q; exact fun F' σ' H' G S' => q _ F' H' (stt_end S') .non
    | bk en => rw [e] at q; exact q.elim
    | ct en => rw [e] at q; exact q.elim
    | rt d en => rw [e] at q; exact fun v F' σ' H' G S' r => q v F' H' (stt_end S') r
    | xx x en => rw [e] at q; exact q.elim
    | un => rw [e] at q; exact q
end
end Z

set_option Elab.async false
set_option linter.all false
set_option maxRecDepth 100000
set_option maxHeartbeats 1000000
namespace Z
open PySem L2
section
variable {X : Cx} {E : Ent} {W : WX} {e a b tg iter : Expr} {f g : En → Rs D} {pos : Pos} {s : Stmt} {ss : List Stmt} {gs gt : En → Fl}
/-! ### [e for x in xs if c] -/
def wipeR (env : En) : List Nat → En
  | [] => env
  | v :: vs => (wipeR env vs).set v none
def compL (h : D → En → Option En) (c : En → Rs Bool) (f : En → Rs D) (env : En) : List D → Rs (List D)
  | [] => .ok []
  | d :: ds => match h d env with
    | none => .un
    | some e1 => match c e1 with
      | .ok true => match f e1 with
        | .ok y => if isData y then (compL h c f env ds).bind fun ys => .ok (y :: ys) else .un
        | _ => .un
      | .ok false => compL h c f env ds
      | _ => .un
def eComp (fi : En → Rs (List D)) (h : D → En → Option En) (c : En → Rs Bool) (f : En → Rs D) (own : List Nat) : En → Rs (List D) := fun env => (fi env).bind fun ds => match compL h c f (wipeR env own) ds with
  | .ok ys => .ok ys
  | _ => .un
def cYes : En → Rs Bool := fun _ => .ok true
theorem Stt.wipeR {F H : Hp} {env : En} {σ : St} (S : Stt E F env σ H) : ∀ vs : List Nat, Stt E F (Z.wipeR env vs) (L2.wipe σ vs) H
  | [] => S
  | v :: vs => (Stt.wipeR S vs).wipe2 v
theorem wipe_off {σ σ' : St} : ∀ {is vs : List Nat}, (∀ j, j ∉ is → σ'[j]? = σ[j]?) → σ'.length = σ.length → (∀ i ∈ is, i ∈ vs) → wipe σ' vs = wipe σ vs := fun {is vs} h hl hs => by
  apply List.ext_getElem?
  intro j
  by_cases hj : j ∈ vs
  · have key : ∀ (τ : St) (ws : List Nat), j ∈ ws → (wipe τ ws)[j]? = if j < τ.length then some none else none := by
      intro τ ws
      induction ws with
      | nil => intro h; cases h
      | cons w ws ih =>
        intro h
        unfold wipe
        by_cases e : w = j
        · subst e
          by_cases hl : w < τ.length
          · rw [if_pos hl, List.getElem?_set_self (by rw [wipe_length]; exact hl)]
          · rw [if_neg hl, List.getElem?_eq_none (by rw [List.length_set, wipe_length]; omega)]
        · rw [List.getElem?_set_ne e]
          exact ih (by rcases List.mem_cons.mp h with z | z; exact absurd z.symm e; exact z)
    rw [key σ' vs hj, key σ vs hj, hl]
  · rw [wipe_out hj, wipe_out hj]
    exact h j fun z => hj (hs j z)
theorem Grow.updNew {F H F1 H1 : Hp} {p : Addr} {o : HO} (g : Grow F H F1 H1) (hp : H p = none) (hF : F1 p = none) : Grow F H F1 (upd H1 p o) where
  f := g.f
  fh := fun b u eb => by rw [upd_ne (ne_of_none eb hF)]; exact g.fh b u eb
  h := fun b u eb => by rw [upd_ne (ne_of_none eb hp)]; exact g.h b u eb
  o := g.o
/-- the element, the tests, the target in the comprehension's own block -/
structure Blk (X : Cx) (E : Ent) (scope : Scope) (tg : Expr) (ifs : List Expr) (elt : Expr) (is : List Nat) (h : D → En → Option En) (c : En → Rs Bool) (f : En → Rs D) : Prop where
  g : ∃ t, (∀ (s : Shared) (H : Hp) (C : Addr) (cl : List (Str × Addr)) (fp : List Addr), PG (X.blk s H scope (compEnvC scope cl C X.env) fp) tg t) ∧ OkG E is t h
  c : ∃ t, (∀ (s : Shared) (H : Hp) (C : Addr) (cl : List (Str × Addr)) (fp : List Addr), PTs (X.blk s H scope (compEnvC scope cl C X.env) fp) ifs t) ∧ OkT E (fun _ _ _ _ => False) t c
  f : ∃ t, (∀ (s : Shared) (H : Hp) (C : Addr) (cl : List (Str × Addr)) (fp : List Addr), PE (X.blk s H scope (compEnvC scope cl C X.env) fp) elt t) ∧ OkE E (fun _ _ _ _ => False) t f
structure SC (X : Cx) (E : Ent) (ifs : List Expr) (c : En → Rs Bool) : Prop where
  ex : ∃ t, PTs X ifs t ∧ OkT E (fun _ _ _ _ => False) t c
theorem SC.nil : SC X E [] cYes := ⟨_, pts_nil, fun F σ H env S Q q => q F H (Grow.refl S.fH)⟩
theorem SC.one {c : Expr} {tc : En → Rs Bool} (h : ST X E (fun _ _ _ _ => False) c tc) : SC X E [c] tc := by
  obtain ⟨t, p, k⟩ := h.ex
  exact ⟨_, pts_one p, k⟩
theorem Blk.mk' {scope : Scope} {ifs : List Expr} {elt : Expr} {is : List Nat} {h : D → En → Option En} {c : En → Rs Bool}
    (hg : ∀ (s : Shared) (H : Hp) (C : Addr) (cl : List (Str × Addr)) (fp : List Addr), SG (X.blk s H scope (compEnvC scope cl C X.env) fp) E tg is h)
    (hc : ∀ (s : Shared) (H : Hp) (C : Addr) (cl : List (Str × Addr)) (fp : List Addr), SC (X.blk s H scope (compEnvC scope cl C X.env) fp) E ifs c)
    (hf : ∀ (s : Shared) (H : Hp) (C : Addr) (cl : List (Str × Addr)) (fp : List Addr), SE (X.blk s H scope (compEnvC scope cl C X.env) fp) E (fun _ _ _ _ => False) elt f) : Blk X E scope tg ifs elt is h c f := by
  refine ⟨⟨fun v σ H Q => ∀ s H0 C cl fp, (hg s H0 C cl fp).ex.choose v σ H Q, fun s H0 C cl fp => ⟨fun pins s1 σ H v u Q I r q => (hg s H0 C cl fp).ex.choose_spec.1.run pins s1 σ H v u Q I r (q s H0 C cl fp)⟩, fun F σ H env d v S r Q q s H0 C cl fp => (hg s H0 C cl fp).ex.choose_spec.2 F σ H env d v S r Q q⟩,
    ⟨fun σ H Q => ∀ s H0 C cl fp, (hc s H0 C cl fp).ex.choose σ H Q, fun s H0 C cl fp => ⟨fun pins s1 σ H Q I q => (hc s H0 C cl fp).ex.choose_spec.1.run pins s1 σ H Q I (q s H0 C cl fp)⟩, fun F σ H env S Q q s H0 C cl fp => (hc s H0 C cl fp).ex.choose_spec.2 F σ H env S Q q⟩,
    ⟨fun σ H Q => ∀ s H0 C cl fp, (hf s H0 C cl fp).ex.choose σ H Q, fun s H0 C cl fp => ⟨fun pins s1 σ H Q I q => (hf s H0 C cl fp).ex.choose_spec.1.run pins s1 σ H Q I (q s H0 C cl fp)⟩, fun F σ H env S Q q s H0 C cl fp => (hf s H0 C cl fp).ex.choose_spec.2 F σ H env S Q q⟩⟩
theorem comp_ok {wi : TI} {fi : En → Rs (List D)} {tgg : TG} {tt : TT} {te : TE} {is own : List Nat} {h : D → En → Option En} {c : En → Rs Bool} (ki : OkJ E W wi fi) (kg : OkG E is tgg h) (kc : OkT E (fun _ _ _ _ => False) tt c) (kf : OkE E (fun _ _ _ _ => False) te f)
    (hs : ∀ i ∈ is, i ∈ own) : OkL E W (tLc wi tgg tt te own) (eComp fi h c f own) := by
  intro F σ H env S Q q
  refine ki F σ H env S _ ?_
  unfold eComp at q
  cases e1 : fi env with
  | un => rw [e1] at q; exact q
  | ex x => rw [e1] at q; exact q
  | ok ds =>
    rw [e1, Rs.bind_ok] at q
    cases e2 : compL h c f (wipeR env own) ds with
    | un => rw [e2] at q; exact q.elim
    | ex x => rw [e2] at q; exact q.elim
    | ok zs =>
      rw [e2] at q
      intro J G Y F' H1 Gr hlen wk hG hY Dl hD
      have S' : Stt E F' (wipeR env own) (wipe σ own) H1 := (S.grow Gr).wipeR own
      have hDF : F' Dl = none := same_none Gr.fh hD
      refine lc_it wk (fun i Hc => ∃ F1 acc vs ys, Grow F' H1 F1 Hc ∧ F1 Dl = none ∧ Hc Dl = some (.lst vs) ∧ RL E.K F1 Hc acc vs [] ∧ compL h c f (wipeR env own) (ds.drop i) = .ok ys ∧ acc ++ ys = zs ∧ acc.length ≤ i) ?_ ?_ ?_ ?_
      · exact ⟨F', [], [], zs, Grow.own Gr.fh hD, hDF, upd_same, .nil, e2, rfl, Nat.le_refl _⟩
      · rintro i Hc _ ⟨F1, acc, vs, ys, g1, _⟩
        exact hG Hc (g1.f.trans g1.fh) g1.h
      · rintro i v Hc Hn hi ⟨F1, acc, vs, ys, g1, hF1, hDc, hr, hc, hz, hai⟩ hy
        obtain ⟨Fn, Gn, rn⟩ := hY i ds[i] (by simp [hi]) F1 Hc v Hn g1.f g1.fh hy
        rw [drop_cons hi] at hc
        unfold compL at hc
        have g2 := g1.trans Gn
        have Sn : Stt E Fn (wipeR env own) (wipe σ own) Hn := S'.grow g2
        have hFn : Fn Dl = none := (Gn.o Dl _ hDc).trans hF1
        have hDn : Hn Dl = some (.lst vs) := Gn.h _ _ hDc
        have hrn := hr.grow Gn
        cases e3 : h ds[i] (wipeR env own) with
        | none => rw [e3] at hc; cases hc
        | some en1 =>
          rw [e3] at hc
          dsimp only at hc
          refine kg Fn (wipe σ own) Hn _ ds[i] v Sn rn _ ⟨en1, e3, fun σ2 S2 hoff hl2 => ⟨?_, ?_⟩⟩
          · have hw := wipe_off (is := is) (vs := own) hoff hl2 hs
            have hww : ∀ (τ : St) (ws : List Nat), wipe (wipe τ ws) ws = wipe τ ws := by
              intro τ ws
              apply List.ext_getElem?
              intro j
              by_cases hj : j ∈ ws
              · have key : ∀ (τ : St) (vs : List Nat), j ∈ vs → (wipe τ vs)[j]? = if j < τ.length then some none else none := by
                  intro τ vs
                  induction vs with
                  | nil => intro h; cases h
                  | cons w vs ih =>
                    intro h
                    unfold wipe
                    by_cases e : w = j
                    · subst e
                      by_cases hl : w < τ.length
                      · rw [if_pos hl, List.getElem?_set_self (by rw [wipe_length]; exact hl)]
                      · rw [if_neg hl, List.getElem?_eq_none (by rw [List.length_set, wipe_length]; omega)]
                    · rw [List.getElem?_set_ne e]
                      exact ih (by rcases List.mem_cons.mp h with z | z; exact absurd z.symm e; exact z)
                rw [key _ ws hj, key _ ws hj, wipe_length]
              · rw [wipe_out hj]
            rw [hw, hww]
          · refine kc Fn σ2 Hn en1 S2 _ ?_
            cases e4 : c en1 with
            | un => rw [e4] at hc; cases hc
            | ex x => rw [e4] at hc; cases hc
            | ok bb =>
              rw [e4] at hc
              intro F3 H3 G3
              cases bb with
              | false =>
                have g3 := g2.trans G3
                exact ⟨F3, acc, vs, ys, g3, (G3.o Dl _ hDn).trans hFn, G3.h _ _ hDn, hrn.grow G3, hc, hz, by omega⟩
              | true =>
                show te σ2 H3 _
                dsimp only at hc
                refine kf F3 σ2 H3 en1 (S2.grow G3) _ ?_
                cases e5 : f en1 with
                | un => rw [e5] at hc; cases hc
                | ex x => rw [e5] at hc; cases hc
                | ok y =>
                  rw [e5] at hc
                  dsimp only at hc
                  split at hc
                  · rename_i hy
                    cases e6 : compL h c f (wipeR env own) (ds.drop (i + 1)) with
                    | un => rw [e6] at hc; cases hc
                    | ex x => rw [e6] at hc; cases hc
                    | ok ys' =>
                      rw [e6] at hc
                      cases hc
                      intro v5 fp5 F5 H5 G5 r5
                      have g5 := (g2.trans G3).trans G5
                      have hD5 : H5 Dl = some (.lst vs) := G5.h _ _ (G3.h _ _ hDn)
                      have hF5 : F5 Dl = none := (G5.o Dl _ (G3.h _ _ hDn)).trans ((G3.o Dl _ hDn).trans hFn)
                      have hr5 := (hrn.grow G3).grow G5
                      have hal : acc.length < ds.length := by omega
                      refine ⟨vs, hD5, by rw [hr5.len, ← line_eq]; omega, F5, acc ++ [y], vs ++ [v5], ys', g5.updNew hD hF5, hF5, upd_same, ?_, rfl, by rw [List.append_assoc]; exact hz, by rw [List.length_append]; simp; omega⟩
                      have hsn := hr5.snoc (r5.toData hy)
                      rw [List.append_nil] at hsn
                      exact RL.mono (Same.refl _) _ (fun a z => nomatch z) hsn
                  · cases hc
      · rintro Hc ⟨F1, acc, vs, ys, g1, hF1, hDc, hr, hc, hz, hai⟩
        rw [List.drop_length] at hc
        cases hc
        rw [List.append_nil] at hz
        subst hz
        have hD0 : H Dl = none := by
          cases q0 : H Dl with
          | none => rfl
          | some o => rw [Gr.h _ _ q0] at hD; cases hD
        exact q Dl vs F1 Hc (Gr.trans g1) hD0 hF1 hDc hr (by omega)
theorem SL.comp {elt : Expr} {ifs : List Expr} {scope : Scope} {own : List (Str × Nat)} {is : List Nat} {fi : En → Rs (List D)} {h : D → En → Option En} {c : En → Rs Bool} (hc : X.calm = true) (hN : X.N.Nodup) (hi : SJ X E W tg iter fi) (ok : BlkOk X.N X.env.scope scope own)
    (hb : Blk X E scope tg ifs elt is h c f) (hs : ∀ i ∈ is, i ∈ own.map (·.2) := by decide) (hfs : ∀ x, foldedSetIterable iter X.env x = pure x := by intro _; rfl) : SL X E W (.ListComp elt [⟨tg, iter, ifs, 0⟩] scope pos) (eComp fi h c f (own.map (·.2))) := by
  obtain ⟨wi, p1, k1⟩ := hi.ex
  obtain ⟨tg', p2, k2⟩ := hb.g
  obtain ⟨tc', p3, k3⟩ := hb.c
  obtain ⟨te', p4, k4⟩ := hb.f
  exact ⟨hi.hK, _, pe_lc hc hN p1 ok p2 p3 p4 hfs, comp_ok k1 k2 k3 k4 hs⟩
/-- y = [..]: the list is data, or owned -/
theorem ps_ofTE {t : TE} {st : Stmt} {i : Nat} {fl : En → Rs (List D)} (hK : X.K = E.K.k) (p : PS X st (tAsg t (gName i))) (k : OkL E W t fl) : SS X E W st (sSetL i fl) ∧ SS X E W st (sSet i (eOfL fl)) := by
  refine ⟨⟨hK, _, p, setL_ok k⟩, ⟨hK, _, p, set_ok ?_⟩⟩
  intro F σ H env S Q q
  refine k F σ H env S _ ?_
  unfold eOfL at q
  cases e : fl env with
  | un => rw [e] at q; exact q
  | ex x => rw [e] at q; exact q
  | ok ds =>
    rw [e, Rs.bind_ok] at q
    intro pp vs F1 H1 G1 hp hF hH r hz
    have gs : Same F1 (upd F1 pp (.lst vs)) := fun b u eb => by rw [upd_ne (ne_of_none eb hF)]; exact eb
    refine q _ [] (upd F1 pp (.lst vs)) H1 ⟨G1.f.trans gs, fun b u eb => ?_, G1.h, fun b u eb => ?_⟩ (.lst upd_same (RL.mono gs ds (fun a z => nomatch z) r) hz)
    · by_cases hb : b = pp
      · subst hb; rw [upd_same] at eb; cases eb; exact hH
      · rw [upd_ne hb] at eb; exact G1.fh b u eb
    · rw [upd_ne (ne_of_none eb hp)]; exact G1.o b u eb
theorem SS.setC2 (i : Nat) {y : Str} {py spos : Pos} {elt : Expr} {ifs : List Expr} {scope : Scope} {own : List (Str × Nat)} {is : List Nat} {fi : En → Rs (List D)} {h : D → En → Option En} {c : En → Rs Bool} (hc : X.calm = true) (hN : X.N.Nodup) (hi : SJ X E W tg iter fi) (ok : BlkOk X.N X.env.scope scope own)
    (hb : Blk X E scope tg ifs elt is h c f) (hy : X.N[i]? = some y) (hyl : X.env.scope.names.lookup y = some .local) (hsw : swapsWith (.ListComp elt [⟨tg, iter, ifs, 0⟩] scope pos) (some (.Name y py)) spos.line X.env = pure true) (hs : ∀ i ∈ is, i ∈ own.map (·.2)) (hfs : ∀ x, foldedSetIterable iter X.env x = pure x) :
    SS X E W (.Assign [.Name y py] (.ListComp elt [⟨tg, iter, ifs, 0⟩] scope pos) spos) (sSetL i (eComp fi h c f (own.map (·.2)))) ∧ SS X E W (.Assign [.Name y py] (.ListComp elt [⟨tg, iter, ifs, 0⟩] scope pos) spos) (sSet i (eOfL (eComp fi h c f (own.map (·.2))))) := by
  obtain ⟨wi, p1, k1⟩ := hi.ex
  obtain ⟨tg', p2, k2⟩ := hb.g
  obtain ⟨tc', p3, k3⟩ := hb.c
  obtain ⟨te', p4, k4⟩ := hb.f
  exact ps_ofTE hi.hK (ps_setLc hc hN hy hyl hsw p1 ok p2 p3 p4 hfs) (comp_ok k1 k2 k3 k4 hs)
theorem SS.setC (i : Nat) {y : Str} {py spos : Pos} {elt : Expr} {ifs : List Expr} {scope : Scope} {own : List (Str × Nat)} {is : List Nat} {fi : En → Rs (List D)} {h : D → En → Option En} {c : En → Rs Bool} (hc : X.calm = true) (hN : X.N.Nodup) (hi : SJ X E W tg iter fi) (ok : BlkOk X.N X.env.scope scope own)
    (hb : Blk X E scope tg ifs elt is h c f) (hy : X.N[i]? = some y := by rfl) (hyl : X.env.scope.names.lookup y = some .local := by rfl) (hsw : swapsWith (.ListComp elt [⟨tg, iter, ifs, 0⟩] scope pos) (some (.Name y py)) spos.line X.env = pure true := by exact sw_true rfl rfl rfl (by decide +kernel)) (hs : ∀ i ∈ is, i ∈ own.map (·.2) := by decide) (hfs : ∀ x, foldedSetIterable iter X.env x = pure x := by intro _; rfl) :
    SS X E W (.Assign [.Name y py] (.ListComp elt [⟨tg, iter, ifs, 0⟩] scope pos) spos) (sSet i (eOfL (eComp fi h c f (own.map (·.2))))) := (SS.setC2 i hc hN hi ok hb hy hyl hsw hs hfs).2
theorem SS.setCL (i : Nat) {y : Str} {py spos : Pos} {elt : Expr} {ifs : List Expr} {scope : Scope} {own : List (Str × Nat)} {is : List Nat} {fi : En → Rs (List D)} {h : D → En → Option En} {c : En → Rs Bool} (hc : X.calm = true) (hN : X.N.Nodup) (hi : SJ X E W tg iter fi) (ok : BlkOk X.N X.env.scope scope own)
    (hb : Blk X E scope tg ifs elt is h c f) (hy : X.N[i]? = some y := by rfl) (hyl : X.env.scope.names.lookup y = some .local := by rfl) (hsw : swapsWith (.ListComp elt [⟨tg, iter, ifs, 0⟩] scope pos) (some (.Name y py)) spos.line X.env = pure true := by exact sw_true rfl rfl rfl (by decide +kernel)) (hs : ∀ i ∈ is, i ∈ own.map (·.2) := by decide) (hfs : ∀ x, foldedSetIterable iter X.env x = pure x := by intro _; rfl) :
    SS X E W (.Assign [.Name y py] (.ListComp elt [⟨tg, iter, ifs, 0⟩] scope pos) spos) (sSetL i (eComp fi h c f (own.map (·.2)))) := (SS.setC2 i hc hN hi ok hb hy hyl hsw hs hfs).1
end
end Z

set_option Elab.async false
set_option linter.all false
set_option maxRecDepth 100000
set_option maxHeartbeats 2000000
namespace PySem
namespace ZRev
open PySem.W PySem.Calls PyProof.Rows PyProof.V PySem.Spec L2 RT
section
variable {prog : Program} {w : World} {A : Around} {E : Value → Shared → Prop} {s : Shared} {it l : Addr} {items : Array Value}
abbrev revP (items : Array Value) : Nat → Value → Prop := fun i v => items[items.size - 1 - i]? = some v
theorem hint_rev {Q : Bool → Shared → Prop} (hT : s.TypeIs (.ref it) "list_reverseiterator") (h : Q false s) : wpAny (model prog w) A (Builtin.List.listLengthHint (.ref it)) Q E s := by
  unfold Builtin.List.listLengthHint
  refine wpAny_bind (wpAny_specialOf hT nolen_lri ?_)
  show wpAny _ A (specialOf (Value.ref it) (Str.ofString "__length_hint__") >>= _) _ _ _
  refine wpAny_bind (wpAny_specialOf hT hint_lri ?_)
  generalize hid : ("list_reverseiterator.__length_hint__" : String) = id0
  wp_delta
  rw [show splitId id0 = some ("list_reverseiterator", "__length_hint__") from by subst hid; decide +kernel]
  subst hid
  refine wpAny_bind (wpAny_isInstance (b := true) hT (by rw [isSubtype_type]; kernel_rfl) ?_)
  refine wpAny_pure ?_
  exact h
theorem rev_extend {R : Result → Shared → Prop} (hh : A.handled = none) (hit : s.heap.IsRevIter it l ((items.size : Int) - 1)) (hl : s.heap.IsList l items) (hne : l ≠ it) (hn : items.size ≤ sizeLine) (S : Addr) (hSi : S ≠ it) (hSl : S ≠ l) (res : Value) (c0 : Nat)
    (hS : s.heap.get? S = some { cls := .type "list", data := .seq #[] c0 })
    (hR : ∀ h' tk acc' c', (∀ b o, b ≠ S → b ≠ it → s.heap.get? b = some o → h'.get? b = some o) → h'.get? S = some { cls := .type "list", dict := none, data := .seq acc' c', slots := #[] } → ItemsOf (revP items) acc' items.size → R (.ok (.ret res)) { s with heap := h', toks := tk }) :
    wpAny (model prog w) A.in1 (Builtin.List.listExtendWith (.ref S) (.ref it) res)
      (fun fin s' => match fin with | .done f => R (.ok f) s' | .again c' => c'.quiet = true ∧ codeAny (model prog w) A c' R s') (fun e s' => R (.error e) s') s := by
  have W := (Walks.listRev (prog := prog) (w := w) (A := A.in1) hh it l hne items).toS
  have hSf : S ∉ [it, l] := by simp only [List.mem_cons, List.not_mem_nil, or_false, not_or]; exact ⟨hSi, hSl⟩
  have hT : s.TypeIs (.ref it) "list_reverseiterator" := hit.typeIs
  have h1 : Builtin.List.listSameRef (.ref S) (.ref it) = false := by simp [Builtin.List.listSameRef, hSi]
  have e0 : ((items.size : Nat) : Int) - 1 - ((0 : Nat) : Int) = (items.size : Int) - 1 := by omega
  unfold Builtin.List.listExtendWith
  refine wpAny_bind (wpAny_typeOf hT ?_)
  rw [if_neg (by rw [h1]; decide)]
  refine wpAny_bind (wpAny_pyIter_revIter hit ?_)
  refine wpAny_bind (wpAny_holding (hint_rev hT ?_))
  rw [if_neg (by decide)]
  refine wpAny_pure ⟨plainId_quiet F.plain_extend_loop _, codeAny_extend_loopS W hn S hSf res items.size 0 _ _ _ rfl (Nat.zero_le _) ⟨Nat.zero_le _, by rw [e0]; exact hit, hl⟩ hS (ItemsOf.nil _) fun s' acc' c' hm hS' hacc => ?_⟩
  rw [Moved.eq_with hm]
  refine hR s'.heap s'.toks acc' c' (fun b o hb hbi e => hm.heap b o (fun hmem => ?_) e) hS' hacc
  rcases List.mem_cons.mp hmem with e' | hmem
  · exact hb e'
  · exact hbi (List.mem_singleton.mp hmem)
theorem rev_init {R : Result → Shared → Prop} (hh : A.handled = none) (hit : s.heap.IsRevIter it l ((items.size : Int) - 1)) (hl : s.heap.IsList l items) (hne : l ≠ it) (hn : items.size ≤ sizeLine) (S : Addr) (hSi : S ≠ it) (hSl : S ≠ l)
    (hS : s.heap.get? S = some { cls := .type "list", data := .seq #[] })
    (hR : ∀ h' tk acc' c', (∀ b o, b ≠ S → b ≠ it → s.heap.get? b = some o → h'.get? b = some o) → h'.get? S = some { cls := .type "list", dict := none, data := .seq acc' c', slots := #[] } → ItemsOf (revP items) acc' items.size → R (.ok (.ret .none)) { s with heap := h', toks := tk }) :
    wpAny (model prog w) A.in1 (Builtin.«list.__init__» ⟨[.ref S, .ref it], []⟩)
      (fun fin s' => match fin with | .done f => R (.ok f) s' | .again c' => c'.quiet = true ∧ codeAny (model prog w) A c' R s') (fun e s' => R (.error e) s') s := by
  show wpAny _ _ (do let old ← Builtin.List.listItems (.ref S); Builtin.List.listUpdate (.ref S) (fun _ => #[]); letGo old.toList.reverse; Builtin.List.listExtendWith (.ref S) (.ref it) .none) _ _ s
  refine wpAny_bind ?_
  unfold Builtin.List.listItems
  refine wpAny_bind (wpAny_seqItems hS rfl (wpAny_pure ?_))
  show wpAny _ _ (updateSeq S (fun _ => #[]) >>= fun _ => letGo (#[] : Array Value).toList.reverse >>= fun _ => Builtin.List.listExtendWith (.ref S) (.ref it) .none) _ _ s
  refine wpAny_bind (wpAny_updateSeq hS rfl ?_)
  have hS2 := Heap.get?_update_self (Obj.mapSeq (fun _ => (#[] : Array Value))) hS rfl
  have oth : ∀ b o, b ≠ S → s.heap.get? b = some o → (s.heap.update S (Obj.mapSeq (fun _ => (#[] : Array Value)))).get? b = some o := fun b o hb e => (Heap.get?_update_other _ _ (Ne.symm hb)).trans e
  refine wpAny_bind (wpAny_letGo ?_)
  refine rev_extend hh (hit.at fun o e => oth it o hSi.symm e) (hl.at fun o e => oth l o hSl.symm e) hne hn S hSi hSl .none _ hS2 fun h' tk acc' c' hk hS' hacc => ?_
  exact hR h' tk acc' c' (fun b o hb hbi e => hk b o hb hbi (oth b o hb e)) hS' hacc
theorem call_list_rev {Q : Value → Shared → Prop} (hh : A.handled = none) (hit : s.heap.IsRevIter it l ((items.size : Int) - 1)) (hl : s.heap.IsList l items) (hne : l ≠ it) (hn : items.size ≤ sizeLine)
    (hQ : ∀ h' tk acc' c', (∀ b o, b ≠ it → s.heap.get? b = some o → h'.get? b = some o) → h'.get? s.heap.objs.size = some { cls := .type "list", dict := none, data := .seq acc' c', slots := #[] } → ItemsOf (revP items) acc' items.size → Q (.ref s.heap.objs.size) { s with heap := h', toks := tk }) :
    wpAny (model prog w) A (call (.type "list") [.ref it]) Q E s := by
  refine callType_codes (Q₁ := fun obj s₁ => obj = .ref s.heap.objs.size ∧ s₁ = { s with heap := s.heap.push { cls := .type "list", data := .seq #[] } }) PySem.F.called_list (PySem.F.typeCall_list_1 _) PySem.F.entry_list_init
    (code_list_new _ ⟨rfl, rfl⟩) fun obj s1 h1 => ?_
  obtain ⟨rfl, rfl⟩ := h1
  have hS : (s.heap.push { cls := .type "list", data := .seq #[] }).get? s.heap.objs.size = some { cls := .type "list", data := .seq #[] } := Heap.get?_push_size _ rfl
  obtain ⟨oi, hoi, _⟩ := id hit
  obtain ⟨ol, hol, _⟩ := id hl
  refine ⟨⟨_, hS, rfl⟩, PySem.F.args_list_init_2 _ _, rev_init (A := A.in1) hh (hit.at fun o e => Heap.get?_push_of_some _ e) (hl.push _) hne hn _ (Nat.ne_of_gt (Heap.lt_size hoi)) (Nat.ne_of_gt (Heap.lt_size hol)) hS fun h' tk acc' c' hk hS' hacc => ?_⟩
  exact ⟨rfl, hQ h' tk acc' c' (fun b o hb e => hk b o (Nat.ne_of_lt (Heap.lt_size e)) hb (Heap.get?_push_of_some _ e)) hS' hacc⟩
end
end ZRev
end PySem
namespace Z
open PySem L2
section
variable {X : Cx} {E : Ent} {W : WX} {e a b tg iter : Expr} {f g : En → Rs D} {pos : Pos} {s : Stmt} {ss : List Stmt} {gs gt : En → Fl}
/-! ### list(x), list(reversed(x)) -/
def eList (f : En → Rs D) : En → Rs (List D) := fun env => (f env).bind fun d => ofO (seqOf d)
theorem newL_ok {t : TE} {h : D → Option (List D)} (k : OkE E W t f) (hr : ∀ F H v d fp ds, Same F H → R E.K F H d v fp → h d = some ds → ∃ a vs, v = .ref a ∧ (SqL E.K.k H a vs ∨ SqT E.K.k H a vs) ∧ RL E.K F H ds vs [] ∧ ds.length ≤ 16777216)
    {r : V → Hp → VK → Prop} (hq : ∀ v H Q a vs, v = .ref a → (SqL E.K.k H a vs ∨ SqT E.K.k H a vs) → (∀ p, H p = none → Q (.ref p) (upd H p (.lst vs))) → r v H Q) :
    OkL E W (fun σ H Q => t σ H fun v H1 => r v H1 Q) (fun env => (f env).bind fun d => ofO (h d)) := by
  intro F σ H env S Q q
  refine k F σ H env S _ ?_
  dsimp only at q
  cases e1 : f env with
  | un => rw [e1] at q; exact q
  | ex x => rw [e1] at q; exact q
  | ok d =>
    rw [e1, Rs.bind_ok] at q
    intro v fp F1 H1 G1 r1
    cases e2 : h d with
    | none => rw [e2] at q; exact q.elim
    | some ds =>
      rw [e2] at q
      obtain ⟨a, vs, rfl, hs, hl, hz⟩ := hr F1 H1 v d fp ds G1.fh r1 e2
      refine hq _ H1 Q a vs rfl hs fun p hp => ?_
      have hp0 : H p = none := by
        cases q0 : H p with
        | none => rfl
        | some o => rw [G1.h _ _ q0] at hp; cases hp
      exact q p vs F1 _ (G1.trans (Grow.own G1.fh hp)) hp0 (same_none G1.fh hp) upd_same (hl.grow (Grow.own G1.fh hp)) hz
theorem SL.list {p : Pos} (ha : SE X E W a f) (hm : X.mg "list" = none) (hg : Gl X "list" := by rfl) (hs : starEach [a] X.env = (false, eval a X.env) :: starEach [] X.env := by rfl) (hpl : (backTo pos (starEach [] X.env)).any (·.1) = false := by rfl) : SL X E W (.Call (.Name "list" p) [a] [] pos) (eList f) := by
  obtain ⟨t, pa, ka⟩ := ha.ex
  refine ⟨ha.hK, _, pe_callTy call_list_of hg hm (by decide +kernel) (pa_cons pa pa_nil hs) (by decide) (by decide) hs hpl, ?_⟩
  refine newL_ok (r := fun v H Q => ∃ p ys, [v] = [V.ref p] ∧ (SqL X.K H p ys ∨ SqT X.K H p ys) ∧ ∀ l, H l = none → Q (.ref l) (upd H l (.lst ys))) ka (fun F H v d fp ds hs r e => seqOf_at hs r e) ?_
  intro v H Q a vs hv hs q
  exact ⟨a, vs, by rw [hv], by rw [ha.hK]; exact hs, q⟩
end
end Z
namespace L2
open PySem PySem.Spec PyProof.Rows
theorem pe_listRev {X : Cx} {e : Expr} {pos : Pos} {te : TE} {p p2 pos2 : Pos} (hc : X.calm = true) (hg : Gl X "list") (hm : X.mg "list" = none) (hg2 : Gl X "reversed") (hm2 : X.mg "reversed" = none) (he : PE X e te)
    (hs : starEach [e] X.env = (false, eval e X.env) :: starEach [] X.env := by rfl)
    (hs2 : starEach [.Call (.Name "reversed" p2) [e] [] pos2] X.env = (false, eval (.Call (.Name "reversed" p2) [e] [] pos2) X.env) :: starEach [] X.env := by rfl) :
    PE X (.Call (.Name "list" p) [.Call (.Name "reversed" p2) [e] [] pos2] [] pos) (fun σ H Q => te σ H fun v H1 => ∃ (a : Addr) (xs : List V), v = .ref a ∧ SqL X.K H1 a xs ∧ ∀ q, H1 q = none → Q (.ref q) (upd H1 q (.lst xs.reverse))) := by
  refine ⟨fun pins s σ H Q I h => ?_⟩
  have hbl : bootBuiltins "list" = some (.type "list") := by decide +kernel
  refine Call_ (ld_blt I hg hm hbl (PyProof.Rows.callWith_type1 (args_cons (Call_ (ld_blt I hg2 hm2 PyProof.Rows.boot_reversed (PyProof.Rows.callWith_type1 (args_cons (thn (he.run pins s σ H _ I h) fun u s1 ⟨v, H1, I1, r1, q1⟩ => args_nil ?_) hs) hs rfl))) hs2) hs2 rfl))
  obtain ⟨a, xs, ev, hq, q⟩ := q1
  subst ev
  obtain rfl : u = Value.ref a := r1
  obtain ⟨its, rv, p', hz⟩ := I1.list hq
  refine call_reversed_list p'.isList (args_nil ?_)
  have hl := p'.isList
  obtain ⟨ol, hol, _⟩ := id hl
  have hne : a ≠ s1.heap.objs.size := Nat.ne_of_lt (Heap.lt_size hol)
  have hn : its.toArray.size ≤ sizeLine := by rw [List.size_toArray, ← rv.length]; exact hz
  refine PySem.ZRev.call_list_rev (s := { s1 with heap := s1.heap.push (revObj a ((its.toArray.size : Int) - 1)) }) (I1.ok.hd hc) ⟨_, Heap.get?_push_size _ rfl, rfl, rfl⟩ (hl.push _) hne hn fun h' tk acc c' hk hS hi => ?_
  have szp : (s1.heap.push (revObj a ((its.toArray.size : Int) - 1))).objs.size = s1.heap.objs.size + 1 := by simp
  have hfr : H1 (s1.heap.push (revObj a ((its.toArray.size : Int) - 1))).objs.size = none := I1.hok.fresh (by rw [szp]; exact Nat.le_succ _)
  refine ⟨.ref _, upd H1 _ (.lst xs.reverse), I1.laid (t' := tk) (a := (s1.heap.push (revObj a ((its.toArray.size : Int) - 1))).objs.size) (fun b o eb => hk b o (Nat.ne_of_lt (Heap.lt_size eb)) (Heap.get?_push_of_some _ eb)) (by rw [szp]; exact Nat.le_succ _) ?_, rfl, q _ hfr⟩
  exact ⟨by rw [List.length_reverse]; exact hz, acc.toList, c', RT.vals_rev rv hi, by rw [Array.toArray_toList]; exact hS⟩
end L2
namespace Z
open PySem L2
section
variable {X : Cx} {E : Ent} {W : WX} {e a b tg iter : Expr} {f g : En → Rs D} {pos : Pos} {s : Stmt} {ss : List Stmt} {gs gt : En → Fl}
def revOf (d : D) : Option (List D) := (listOf d).map List.reverse
theorem SL.lrev {p p2 pos2 : Pos} (ha : SE X E W a f) (hc : X.calm = true) (hm : X.mg "list" = none) (hm2 : X.mg "reversed" = none) (hg : Gl X "list" := by rfl) (hg2 : Gl X "reversed" := by rfl) (hs : starEach [a] X.env = (false, eval a X.env) :: starEach [] X.env := by rfl)
    (hs2 : starEach [.Call (.Name "reversed" p2) [a] [] pos2] X.env = (false, eval (.Call (.Name "reversed" p2) [a] [] pos2) X.env) :: starEach [] X.env := by rfl) :
    SL X E W (.Call (.Name "list" p) [.Call (.Name "reversed" p2) [a] [] pos2] [] pos) (fun env => (f env).bind fun d => ofO (revOf d)) := by
  obtain ⟨t, pa, ka⟩ := ha.ex
  refine ⟨ha.hK, _, pe_listRev hc hg hm hg2 hm2 pa hs hs2, ?_⟩
  intro F σ H env S Q q
  refine ka F σ H env S _ ?_
  dsimp only at q
  cases e1 : f env with
  | un => rw [e1] at q; exact q
  | ex x => rw [e1] at q; exact q
  | ok d =>
    rw [e1, Rs.bind_ok] at q
    intro v fp F1 H1 G1 r1
    unfold revOf at q
    cases e2 : listOf d with
    | none => rw [e2] at q; exact q.elim
    | some ds =>
      rw [e2] at q
      obtain ⟨a', vs, rfl, hs', hl, hz⟩ := listOf_at G1.fh r1 e2
      refine ⟨a', vs, rfl, SqL.of hs', fun p hp => ?_⟩
      have hp0 : H p = none := by
        cases q0 : H p with
        | none => rfl
        | some o => rw [G1.h _ _ q0] at hp; cases hp
      exact q p _ F1 _ (G1.trans (Grow.own G1.fh hp)) hp0 (same_none G1.fh hp) upd_same (hl.rev0.grow (Grow.own G1.fh hp)) (by rw [List.length_reverse]; exact hz)

/-! ### sep.join(texts) -/
def strsOf : List D → Option (List (List Nat))
  | [] => some []
  | .str x :: ds => (strsOf ds).map (x :: ·)
  | _ => none
theorem strsOf_at {K : Kx} {F H : Hp} : ∀ {ds : List D} {vs : List V} {xs : List (List Nat)}, RL K F H ds vs [] → strsOf ds = some xs → vs = (xs.map fun x => (⟨x.toArray⟩ : Str)).map V.str ∧ ∀ x ∈ xs, StrOk x
  | [], vs, xs, r, e => by
    cases e
    cases vs with
    | nil => exact ⟨rfl, fun _ z => nomatch z⟩
    | cons _ _ => exact absurd r.len (by simp)
  | d :: ds, vs, xs, r, e => by
    obtain ⟨v, vs', rfl, h1, h2⟩ := r.inv_cons
    cases d <;> first | (cases e; done) | skip
    rename_i x
    have e' : (strsOf ds).map (x :: ·) = some xs := e
    cases q : strsOf ds with
    | none => rw [q] at e'; cases e'
    | some xs' =>
      rw [q] at e'
      cases e'
      obtain ⟨rfl, k⟩ := h1.str_inv
      obtain ⟨e1, e2⟩ := strsOf_at h2 q
      refine ⟨by rw [e1]; rfl, fun y hy => ?_⟩
      rcases List.mem_cons.mp hy with z | z
      · rw [z]; exact k
      · exact e2 y z
def joinN (sep : List Nat) : List (List Nat) → List Nat
  | [] => []
  | [x] => x
  | x :: y :: r => x ++ sep ++ joinN sep (y :: r)
theorem join_str (sep : List Nat) : ∀ xs : List (List Nat), Str.join ⟨sep.toArray⟩ (xs.map fun x => (⟨x.toArray⟩ : Str)) = ⟨(joinN sep xs).toArray⟩
  | [] => rfl
  | [x] => rfl
  | x :: y :: r => by
    have ih := join_str sep (y :: r)
    show ((⟨x.toArray⟩ : Str) ++ ⟨sep.toArray⟩) ++ Str.join ⟨sep.toArray⟩ ((y :: r).map fun x => (⟨x.toArray⟩ : Str)) = _
    rw [ih, str_app, str_app]
    rfl
theorem joinN_mem (sep : List Nat) : ∀ (xs : List (List Nat)) (c : Nat), c ∈ joinN sep xs → c ∈ sep ∨ ∃ x ∈ xs, c ∈ x
  | [], c, h => nomatch h
  | [x], c, h => .inr ⟨x, by simp, h⟩
  | x :: y :: r, c, h => by
    have h : c ∈ x ++ sep ++ joinN sep (y :: r) := h
    rcases List.mem_append.mp h with h | h
    · rcases List.mem_append.mp h with h | h
      · exact .inr ⟨x, by simp, h⟩
      · exact .inl h
    · rcases joinN_mem sep (y :: r) c h with h | ⟨z, hz, hc⟩
      · exact .inl h
      · exact .inr ⟨z, List.mem_cons_of_mem _ hz, hc⟩
theorem joinN_len (sep : List Nat) : ∀ xs : List (List Nat), (joinN sep xs).length ≤ (xs.map List.length).sum + xs.length * sep.length
  | [] => by simp [joinN]
  | [x] => by simp [joinN]
  | x :: y :: r => by
    have ih := joinN_len sep (y :: r)
    show (x ++ sep ++ joinN sep (y :: r)).length ≤ _
    rw [List.length_append, List.length_append]
    have e1 : ((x :: y :: r).map List.length).sum = x.length + ((y :: r).map List.length).sum := by simp
    have e2 : (x :: y :: r).length * sep.length = sep.length + (y :: r).length * sep.length := by
      rw [List.length_cons (a := x), Nat.add_mul]; omega
    omega
def pJoin (a b : D) : Option D := match a with
  | .str sep => (seqOf b).bind fun ds => (strsOf ds).bind fun xs => if (xs.map List.length).sum + xs.length * sep.length ≤ 16777216 then some (.str (joinN sep xs)) else none
  | _ => none
theorem m1_ok {t u : TE} {r : V → List V → Hp → VK → Prop} {op : D → D → Option D} (ha : OkE E W t f) (hb : OkE E W u g)
    (hstr : ∀ d1 d2 d, op d1 d2 = some d → ∃ x, d1 = .str x) (hex : ∀ env d1 x, f env = .ok d1 → g env = .ex x → ∃ y, d1 = .str y)
    (hr : ∀ F H x y d1 d2 fp1 fp2 d, Same F H → R E.K F H d1 x fp1 → R E.K F H d2 y fp2 → op d1 d2 = some d → ∀ Q : VK, (∀ v fp F' H', Grow F H F' H' → R E.K F' H' d v fp → Q v H') → r x [y] H Q) :
    OkE E W (tM1 r t u) (eBin op f g) := by
  intro F σ H env S Q h
  refine ha F σ H env S _ ?_
  unfold eBin at h
  cases e1 : f env with
  | un => rw [e1] at h; exact h
  | ex x => rw [e1] at h; exact h
  | ok d1 =>
    intro v1 fp1 F1 H1 G1 r1
    rw [e1, Rs.bind_ok] at h
    cases e2 : g env with
    | un => rw [e2] at h; exact h.elim
    | ex x =>
      rw [e2] at h
      obtain ⟨y, rfl⟩ := hex env d1 x e1 e2
      obtain ⟨rfl, _⟩ := r1.str_inv
      refine ⟨⟨_, rfl⟩, hb F1 σ H1 env (S.grow G1) _ ?_⟩
      rw [e2]; exact PostE.mono G1 h
    | ok d2 =>
      rw [e2, Rs.bind_ok] at h
      cases e3 : op d1 d2 with
      | none => rw [e3] at h; exact h.elim
      | some d =>
        rw [e3] at h
        obtain ⟨y, rfl⟩ := hstr d1 d2 d e3
        have rv := r1.str_inv
        refine ⟨⟨_, rv.1⟩, hb F1 σ H1 env (S.grow G1) _ ?_⟩
        rw [e2]
        intro v2 fp2 F2 H2 G2 r2
        exact hr F2 H2 v1 v2 _ d2 fp1 fp2 d G2.fh (r1.grow G2) r2 e3 Q fun v fp F' H' G k => h v fp F' H' ((G1.trans G2).trans G) k
/-- a written separator -/
theorem SE.join {sep : List Nat} {x : Str} {j : Nat} {p apos : Pos} (hb : SE X E W b g) (hx : x = ⟨sep.toArray⟩ := by rfl) (hso : strOkB sep = true := by decide +kernel) (hs : starEach [b] X.env = [(false, eval b X.env)] := by rfl) (hbase : attributeBase (.Constant (.str x) j p) "join" X.env (eval (.Constant (.str x) j p) X.env) = eval (.Constant (.str x) j p) X.env := by rfl) (hline : (apos.endLine == pos.line) = true := by rfl) :
    SE X E W (.Call (.Attribute (.Constant (.str x) j p) "join" apos) [b] [] pos) (eBin pJoin (eC (.str sep)) g) := by
  obtain ⟨t, pb, kb⟩ := hb.ex
  obtain ⟨u, pa, ka⟩ := (SE.str (W := W) (pos := p) (j := j) sep hx hso hb.hK).ex
  refine ⟨hb.hK, _, pe_join pa pb hs hbase hline, m1_ok ka kb ?_ ?_ ?_⟩
  · intro d1 d2 d h
    unfold pJoin at h
    split at h
    · exact ⟨_, rfl⟩
    · cases h
  · intro env d1 x h _
    cases h
    exact ⟨_, rfl⟩
  · intro F H x y d1 d2 fp1 fp2 d hs r1 r2 h Q q
    unfold pJoin at h
    split at h
    · rename_i sep'
      obtain ⟨rfl, k1⟩ := r1.str_inv
      cases e1 : seqOf d2 with
      | none => rw [e1] at h; cases h
      | some ds =>
        rw [e1, Option.bind_some] at h
        cases e2 : strsOf ds with
        | none => rw [e2] at h; cases h
        | some xs =>
          rw [e2, Option.bind_some] at h
          split at h
          · rename_i hz
            cases h
            obtain ⟨a', vs, rfl, hq, hl, _⟩ := seqOf_at hs r2 e1
            obtain ⟨e3, hok⟩ := strsOf_at hl e2
            subst e3
            refine ⟨_, a', _, rfl, rfl, by rw [hb.hK]; exact hq, ?_, ?_⟩
            · rw [List.map_map, List.length_map]
              have e4 : xs.map ((fun x : Str => x.length) ∘ fun x => (⟨x.toArray⟩ : Str)) = xs.map List.length := List.map_congr_left fun x _ => List.size_toArray
              have e5 : (⟨sep'.toArray⟩ : Str).length = sep'.length := List.size_toArray
              rw [e5]
              have e6 : (xs.map ((·.length) ∘ fun x => (⟨x.toArray⟩ : Str))).sum = (xs.map List.length).sum := congrArg List.sum e4
              rw [e6]
              exact hz
            · have e7 : Txt.join ⟨sep'.toArray⟩ (xs.map fun x => (⟨x.toArray⟩ : Str)) = ⟨(joinN sep' xs).toArray⟩ := by
                unfold Txt.join
                rw [PySem.StrLaws.glued_eq_join]
                exact join_str sep' xs
              rw [e7]
              refine q _ [] F H (Grow.refl hs) (.str ⟨?_, fun c hc => ?_⟩)
              · rw [← line_eq]; exact Nat.le_trans (joinN_len sep' xs) hz
              · rcases joinN_mem sep' xs c hc with h | ⟨z, hz', hc'⟩
                · exact k1.cps c h
                · exact (hok z hz').cps c hc'
          · cases h
    · cases h

/-! ### isinstance(x, T), T a built-in type -/
def tyOf : D → Option String
  | .non => some "NoneType"
  | .bl _ => some "bool"
  | .int _ => some "int"
  | .str _ => some "str"
  | .tup _ => some "tuple"
  | .lst _ => some "list"
  | .olst _ => some "list"
  | _ => none
def isT (t T : String) : Bool := t == T || (t == "bool" && T == "int")
def pIsi (T : String) (d : D) : Option D := (tyOf d).map fun t => .bl (isT t T)
def tyNames : List String := ["NoneType", "bool", "int", "str", "tuple", "list", "dict"]
theorem kit_all : (tyNames.all fun t => ["bool", "int", "str", "tuple", "list", "dict"].all fun T => decide (kitB t T = some (isT t T))) = true := by decide +kernel
theorem kit_of' {t T : String} (h1 : t ∈ tyNames) (h2 : T ∈ (["bool", "int", "str", "tuple", "list", "dict"] : List String)) : kitB t T = some (isT t T) :=
  of_decide_eq_true (List.all_eq_true.mp (List.all_eq_true.mp kit_all t h1) T h2)
theorem tyx_of {K : Kx} {F H : Hp} {d : D} {v : V} {fp : List Addr} {t : String} (hs : Same F H) (r : R K F H d v fp) (e : tyOf d = some t) : TyX K.k H v (.type t) ∧ t ∈ tyNames := by
  cases r <;> first | (cases e; done) | skip
  · cases e; exact ⟨.base .non, by decide⟩
  · cases e; exact ⟨.base (.bl _), by decide⟩
  · cases e; exact ⟨.base (.int _), by decide⟩
  · cases e; exact ⟨.base (.str _), by decide⟩
  · rename_i a vs ds h1 h2 hz
    cases e
    exact ⟨.base (.tup (hs _ _ h1)), by decide⟩
  · rename_i a vs ds h1 h2 hz
    cases e
    exact ⟨.base (.lst (hs _ _ h1)), by decide⟩
  · rename_i a vs ds fp h1 h2 hz
    cases e
    exact ⟨.base (.lst h1), by decide⟩
def eIsi (T : String) (f : En → Rs D) : En → Rs D := fun env => (f env).bind fun d => ofO (pIsi T d)
theorem SE.isi (T : String) {x : Str} {p p2 : Pos} (ha : SE X E W a f) (hm : X.mg "isinstance" = none) (hmT : X.mg x = none) (hv : bootBuiltins x = some (.type T)) (hT : T ∈ (["bool", "int", "str", "tuple", "list", "dict"] : List String) := by decide) (hg : Gl X "isinstance" := by rfl) (hgT : Gl X x := by rfl)
    (hn : x ≠ "__name__" := by decide) (hd : (x == ("__debug__" : Str)) = false := by decide)
    (hs : starEach [a, .Name x p2] X.env = (false, eval a X.env) :: starEach [.Name x p2] X.env := by rfl) (hs2 : starEach [.Name x p2] X.env = (false, eval (.Name x p2) X.env) :: starEach [] X.env := by rfl)
    (hpl : (backTo pos (starEach [.Name x p2] X.env)).any (·.1) = false := by rfl) :
    SE X E W (.Call (.Name "isinstance" p) [a, .Name x p2] [] pos) (eIsi T f) := by
  obtain ⟨t, pa, ka⟩ := ha.ex
  refine ⟨ha.hK, _, pe_callB call_isi hg hm (by decide +kernel) (pa_cons pa (pa_cons (pe_bltn hgT hmT hv (v := .ty T) rfl hn hd) pa_nil hs2) hs) (by decide) (by decide) hs hpl, ?_⟩
  intro F σ H env S Q q
  refine ka F σ H env S _ ?_
  unfold eIsi at q
  cases e1 : f env with
  | un => rw [e1] at q; exact q
  | ex x => rw [e1] at q; exact q
  | ok d =>
    rw [e1, Rs.bind_ok] at q
    intro v fp F1 H1 G1 r1
    unfold pIsi at q
    cases e2 : tyOf d with
    | none => rw [e2] at q; exact q.elim
    | some t =>
      rw [e2] at q
      obtain ⟨h1, h2⟩ := tyx_of G1.fh r1 e2
      refine ⟨v, .ty T, .type t, .type T, isT t T, rfl, .ty T, by rw [ha.hK]; exact h1, kit_ty (kit_of' h2 hT), ?_⟩
      exact q _ [] F1 H1 G1 (.bl _)
end
end Z

set_option Elab.async false
set_option linter.all false
set_option maxRecDepth 100000
set_option maxHeartbeats 2000000
namespace Z
open PySem L2
theorem bo_len : bootBuiltins "len" = some (.builtin "len") := by decide +kernel
theorem bo_abs : bootBuiltins "abs" = some (.builtin "abs") := by decide +kernel
theorem bo_min : bootBuiltins "min" = some (.builtin "min") := by decide +kernel
theorem bo_max : bootBuiltins "max" = some (.builtin "max") := by decide +kernel
theorem bo_all : bootBuiltins "all" = some (.builtin "all") := by decide +kernel
theorem bo_any : bootBuiltins "any" = some (.builtin "any") := by decide +kernel
theorem bo_sorted : bootBuiltins "sorted" = some (.builtin "sorted") := by decide +kernel
theorem bo_isinstance : bootBuiltins "isinstance" = some (.builtin "isinstance") := by decide +kernel
theorem bo_sum : bootBuiltins "sum" = some (.builtin "sum") := by decide +kernel
theorem bo_int : bootBuiltins "int" = some (.type "int") := by decide +kernel
theorem bo_tuple : bootBuiltins "tuple" = some (.type "tuple") := by decide +kernel
theorem bo_list : bootBuiltins "list" = some (.type "list") := by decide +kernel
theorem bo_str : bootBuiltins "str" = some (.type "str") := by decide +kernel
theorem bo_bool : bootBuiltins "bool" = some (.type "bool") := by decide +kernel
theorem bo_dict : bootBuiltins "dict" = some (.type "dict") := by decide +kernel
theorem bo_set : bootBuiltins "set" = some (.type "set") := by decide +kernel
theorem bo_range : bootBuiltins "range" = some (.type "range") := by decide +kernel
theorem bo_enumerate : bootBuiltins "enumerate" = some (.type "enumerate") := by decide +kernel
theorem bo_zip : bootBuiltins "zip" = some (.type "zip") := by decide +kernel
theorem bo_reversed : bootBuiltins "reversed" = some (.type "reversed") := by decide +kernel
section
variable {X : Cx} {E : Ent} {W : WX} {e a b tg iter : Expr} {f g : En → Rs D} {pos : Pos} {s : Stmt} {ss : List Stmt} {gs gt : En → Fl}
theorem u64 {k : Nat} {A : Around} (r : Room k A) : A.units + 64 < cLine := r.units
theorem u65 {k : Nat} {A : Around} (r : Room k A) : A.units + 65 < cLine := by have := r.un; omega
def pNeg : D → Option D
  | .int i => some (.int (-i))
  | _ => none
def eNeg (f : En → Rs D) : En → Rs D := fun env => (f env).bind fun d => ofO (pNeg d)
theorem SE.neg (ha : SE X E W a f) : SE X E W (.UnaryOp .USub a pos) (eNeg f) := by
  obtain ⟨t, p, k⟩ := ha.ex
  refine ⟨ha.hK, _, pe_un un_neg p, fun F σ H env S Q q => ?_⟩
  refine k F σ H env S _ ?_
  unfold eNeg at q
  cases e1 : f env with
  | un => rw [e1] at q; exact q
  | ex x => rw [e1] at q; exact q
  | ok d =>
    rw [e1, Rs.bind_ok] at q
    intro v fp F1 H1 G1 r1
    cases d <;> first | exact q.elim | skip
    cases r1
    exact ⟨_, rfl, q _ [] F1 H1 G1 (.int _)⟩
theorem SE.gstr (cs : List Nat) {x : Str} {t : Tok} (hm : X.mg x = some (.str ⟨cs.toArray⟩ t)) (hg : Gl X x := by rfl) (hs : strOkB cs = true := by decide +kernel) (hd : (x == ("__debug__" : Str)) = false := by decide) (hK : X.K = E.K.k := by rfl) : SE X E W (.Name x pos) (eC (.str cs)) :=
  ⟨hK, _, pe_glob hg hm (v := .str ⟨cs.toArray⟩) ⟨t, rfl⟩ hd, fun F σ H env S Q h => h _ [] F H (Grow.refl S.fH) (.str (strOk_of hs))⟩
theorem SE.gint (i : Int) {x : Str} {t : Tok} (hm : X.mg x = some (.int i t)) (hg : Gl X x := by rfl) (hd : (x == ("__debug__" : Str)) = false := by decide) (hK : X.K = E.K.k := by rfl) : SE X E W (.Name x pos) (eC (.int i)) :=
  ⟨hK, _, pe_glob hg hm (v := .int i) ⟨t, rfl⟩ hd, fun F σ H env S Q h => h _ [] F H (Grow.refl S.fH) (.int i)⟩
/-! a, b = e -/
def sUnp (h : D → En → Option En) (f : En → Rs D) : En → Fl := fun env => match f env with
  | .ok d => if isData d then match h d env with
      | some e => .nx e
      | none => .un
    else .un
  | .ex x => .xx x env
  | .un => .un
theorem SS.unp {is : List Nat} {h : D → En → Option En} (hg : SG X E tg is h) (hf : SE X E W e f) (hs : swapsWithSole [tg] e pos.line X.env = pure false := by rfl) (hw : swappedStores [tg] e X.env = pure none := by rfl)
    (h1 : (assignEach [tg] X.env).map (·.2) = [assign tg X.env] := by rfl) : SS X E W (.Assign [tg] e pos) (sUnp h f) := by
  obtain ⟨t, p, k⟩ := hf.ex
  obtain ⟨u, p', k'⟩ := hg.ex
  refine ⟨hf.hK, _, ps_asg p p' hs hw h1, fun F σ H env S D q => ?_⟩
  refine k F σ H env S _ ?_
  unfold sUnp at q
  cases e1 : f env with
  | un => rw [e1] at q; exact q
  | ex x => rw [e1] at q; exact fun cls dd F' H' G r => q cls dd F' σ H' G.f (S.grow G) r
  | ok d =>
    rw [e1] at q
    dsimp only at q
    intro v fp F1 H1 G1 r1
    split at q
    · rename_i hd
      cases e2 : h d env with
      | none => rw [e2] at q; exact q.elim
      | some en =>
        rw [e2] at q
        exact k' F1 σ H1 env d v (S.grow G1) (r1.toData hd) _ ⟨en, e2, fun σ' S' _ _ => q F1 σ' H1 G1.f S'⟩
    · exact q.elim
/-! an owned list stands still from now on -/
def sFrz (i : Nat) (g : En → Fl) : En → Fl := fun env => match env[i]? with
  | some (some (.olst ds)) => if ds.all isData then g (env.set i (some (.lst ds))) else .un
  | _ => g env
theorem R.olst_inv2 {K : Kx} {F H : Hp} {ds : List D} {v : V} {fp : List Addr} (r : R K F H (.olst ds) v fp) : ∃ a vs fp0, v = .ref a ∧ fp = a :: fp0 ∧ H a = some (.lst vs) ∧ RL K F H ds vs fp0 ∧ ds.length ≤ 16777216 := by
  cases r with
  | olst h1 h2 hz => exact ⟨_, _, _, rfl, rfl, h1, h2, hz⟩
theorem Stt.frz {F H : Hp} {env : En} {σ : St} {i : Nat} {ds : List D} (S : Stt E F env σ H) (ho : E.own i = []) (he : env[i]? = some (some (.olst ds))) (hd : ds.all isData = true) : ∃ F', Same F F' ∧ Stt E F' (env.set i (some (.lst ds))) σ H := by
  obtain ⟨fps, rs, nd, fr⟩ := S.rep
  obtain ⟨v, fp, g1, g2, g3⟩ := rs.get he
  obtain ⟨a, vs, fp0, rfl, rfl, h1, h2, hz⟩ := g3.olst_inv2
  · have h0 := h2.toData hd
    have hFa : F a = none := (fr i _ g2 a List.mem_cons_self).1
    have hH0 : E.H0 a = none := by
      rcases (fr i _ g2 a List.mem_cons_self).2 with h | h
      · exact h
      · rw [ho] at h; cases h
    have le : Same F (upd F a (.lst vs)) := fun b u eb => by rw [upd_ne (ne_of_none eb hFa)]; exact eb
    refine ⟨upd F a (.lst vs), le, S.le0.trans le, fun b u eb => ?_, S.keep, fun b o eb n => ?_, S.ownS, fps.set i [], ?_, nodup_set nd List.nodup_nil (fun _ _ _ _ _ _ z => nomatch z), fun j fq hj b hb => ?_⟩
    · by_cases hb : b = a
      · subst hb; rw [upd_same] at eb; cases eb; exact h1
      · rw [upd_ne hb] at eb; exact S.fH b u eb
    · rw [upd_ne (ne_of_none eb hH0)]; exact S.old b o eb n
    · have rs' : RS E.K (upd F a (.lst vs)) H env σ fps := rs.mono le fun _ _ _ _ => rfl
      have q := rs'.set i (R.lst (F := upd F a (.lst vs)) (H := H) upd_same (RL.mono le ds (fun a z => nomatch z) h0) hz)
      have e1 : σ.set i (some (V.ref a)) = σ := by
        apply List.ext_getElem?
        intro j
        by_cases hj : i = j
        · subst hj
          have hl : i < σ.length := (List.getElem?_eq_some_iff.mp g1).1
          rw [List.getElem?_set_self hl, g1]
        · rw [List.getElem?_set_ne hj]
      rw [e1] at q
      exact q
    · rcases mem_set_of hj with ⟨_, e⟩ | hj'
      · subst e; cases hb
      · obtain ⟨k1, k2⟩ := fr j fq hj' b hb
        refine ⟨?_, k2⟩
        rw [upd_ne fun z => ?_]
        · exact k1
        · subst z
          have hji : j ≠ i := by
            intro z
            subst z
            have hl : j < fps.length := (List.getElem?_eq_some_iff.mp g2).1
            rw [List.getElem?_set_self hl] at hj
            cases hj; cases hb
          exact nodup_apart nd hji hj' g2 b hb List.mem_cons_self
theorem SS.frz (i : Nat) (h : SS X E W s gs) (ho : E.own i = [] := by rfl) : SS X E W s (sFrz i gs) := by
  obtain ⟨t, p, k⟩ := h.ex
  refine ⟨h.hK, t, p, fun F σ H env S D q => ?_⟩
  unfold sFrz at q
  split at q
  · rename_i ds he
    split at q
    · rename_i hd
      obtain ⟨F', le, S'⟩ := S.frz ho he hd
      exact k F' σ H _ S' D (q.mono le)
    · exact q.elim
  · exact k F σ H env S D q
end
/-- a def that raises nothing, its meaning by name -/
theorem fn1 {P : Program} {w : World} {K : Kx} {mg : Str → Option Value} {base : Heap} {x qual : Str} {st : Stmt} {f : Addr} {fd : FuncData} {N ps : List Str} {k np n : Nat} {g : En → Fl} {m : List D → Rs D} (Fn : Fun K.k x qual st f fd) (S : FnScope N ps (defScope st))
    (hm : m = runB0 g n) (hn : N.length = n) (hp : ps.length = np)
    (hb : ∀ (cdv : Value) (A : Around) (outer : List Env) (s : Shared) (H : Hp) (Ex : XK) (F0 : Hp), Room k (A.deeper (PyProof.Rows.envOfC qual (defScope st) s.heap.objs.size f cdv)) →
      SB (cxOf CX0 P w K.k mg base N qual (defScope st) f cdv A outer s H Ex).nox ⟨K, H, F0, fun _ => []⟩ W0 (defBody st) g) : FnOk P w K.k mg base CX0 (k + 1) f fd ps (spP K np m) := by
  subst hm hn hp
  exact fn0 Fn S hb
/-! ### the law -/
def spLaw (K : PySem.W.Frag) : Sp := fun vs H Q _ => ∃ (a : Addr) (ns : List Int), vs = [.ref a] ∧ Only H ∧ SqL K H a (ns.map V.int) ∧ ns.length ≤ 63 ∧ ∀ H', Q (.bl true) H'
theorem law_of {P : Program} {w : World} {K : PySem.W.Frag} {mg : Str → Option Value} {base : Heap} {k : Nat} {f : Addr} {fd : FuncData} {m : List D → Rs D} (F : FnOk P w K mg base CX0 k f fd ["script"] (spP ⟨K, fun _ => 0, fun _ => 0⟩ 1 m))
    (h : ∀ ns : List Int, ns.length ≤ 63 → m [.scr ns] = .ok (.bl true)) : FnOk P w K mg base CX0 k f fd ["script"] (spLaw K) := by
  refine F.imp fun vs H Q E q => ?_
  obtain ⟨a, ns, rfl, _, hs, hl, k⟩ := q
  refine ⟨[.scr ns], H, Same.refl _, RL.mk0 (.scr hs (by omega)) .nil, rfl, ?_⟩
  rw [h ns hl]
  intro v F' H' G r
  cases r
  exact k H'
theorem walk {k : Nat} {l : PySem.W.OpenLaw} {q : Program} {loose : List Str} {XP : (Str → Option Value) → Heap → Prop} {YP : World → Heap → Prop} {d : DefRec} {K : Params → PySem.W.Frag} (hn : l.most = some 63) (hdf : d.params.defaults = []) (hr : Room k callerA)
    (hY : ∀ (w : World) (h : Heap), YP w h → (K w.params).In h)
    (F : ∀ (w : World) (mg : Str → Option Value) (fa : Addr) (h : Heap), (K w.params).In h → h.Ns mainGlobals mg → mg d.name = some (.ref fa) →
      ∃ fd : FuncData, (∀ (s : Shared) (u : Value), BindsTo s fd ⟨[u], []⟩ [("script", u)]) ∧ ∀ base : Heap, (K w.params).In base → base.Ns mainGlobals mg → FnOk l.prog w (K w.params) mg base CX0 k fa fd ["script"] (spLaw (K w.params))) :
    PySem.W.WalkO q loose XP YP l.row.toRowW d [] (fun f vs => PySem.call f vs) :=
  L2.walk_of (n := 63) (k := k) (x := "script") (CX := fun _ => CX0) (sp := fun w => spLaw (K w.params)) hn (by decide) hdf hr hY F (fun _ _ a ns hl ho hS => ⟨a, ns, rfl, ho, hS, hl, fun _ => rfl⟩) fun _ _ _ _ _ z => z
end Z

set_option Elab.async false
set_option linter.all false
set_option maxRecDepth 100000
/-! ZP: plain reckoning with the meanings: how each combinator answers, and rules for loops. No program in sight. -/
namespace Z
open PySem L2
section
variable {env : En} {f g : En → Rs D} {fa : En → Rs (List D)} {c d' : En → Rs Bool} {d e : D} {b : Bool} {i j : Int} {n : Nat}
@[simp] theorem eVar_z {d : D} {en : En} : eVar 0 (some d :: en) = .ok (peel d) := id rfl
@[simp] theorem peel_data {d : D} (h : isData d = true) : peel d = d := by
  cases d <;> first | rfl | cases h
@[simp] theorem peel_olst {x : List D} : peel (.olst x) = .olst x := id rfl
@[simp] theorem peel_odic {t : Bool} {x y : List D} : peel (.odic t x y) = .odic t x y := id rfl
@[simp] theorem peel_oob {c : Nat} {x : List String} {y : List D} : peel (.oob c x y) = .oob c x y := id rfl
@[simp] theorem peel_bor {t : Nat} {d : D} : peel (.bor t d) = d := id rfl
@[simp] theorem isData_dic {t : Bool} {x y : List D} : isData (.dic t x y) = true := id rfl
@[simp] theorem isData_ob {c : Nat} {x : List String} {y : List D} : isData (.ob c x y) = true := id rfl
@[simp] theorem eVar_s {o : Option D} {en : En} {k : Nat} : eVar (k + 1) (o :: en) = eVar k en := id rfl
@[simp] theorem eC_e : eC d env = .ok d := id rfl
@[simp] theorem eBin_e {op : D → D → Option D} : eBin op f g env = (f env).bind fun a => (g env).bind fun b => ofO (op a b) := id rfl
@[simp] theorem asB_bl : asB (.ok (.bl b)) = .ok b := id rfl
@[simp] theorem eB_e : eB f env = asB (f env) := id rfl
@[simp] theorem eTru_e : eTru f env = (f env).bind truD := id rfl
@[simp] theorem truD_bl : truD (.bl b) = .ok b := id rfl
@[simp] theorem eAnd_e : eAnd c d' env = (c env).bind fun b => if b then d' env else .ok false := id rfl
@[simp] theorem eOr_e : eOr c d' env = (c env).bind fun b => if b then .ok true else d' env := id rfl
@[simp] theorem eNot_e : eNot c env = (c env).bind fun b => .ok (!b) := id rfl
@[simp] theorem eAndV_e : eAndV f g env = (asB (f env)).bind fun b => if b then g env else .ok (.bl false) := id rfl
@[simp] theorem eOrV_e : eOrV f g env = (asB (f env)).bind fun b => if b then .ok (.bl true) else g env := id rfl
@[simp] theorem eNotB_e : eNotB f env = (asB (f env)).bind fun b => .ok (.bl (!b)) := id rfl
@[simp] theorem eNotV_e : eNotV c env = (c env).bind fun b => .ok (.bl (!b)) := id rfl
@[simp] theorem eIf_e : eIf c f g env = (c env).bind fun b => if b then f env else g env := id rfl
@[simp] theorem aNil_e : aNil env = .ok [] := id rfl
@[simp] theorem aCons_e : aCons f fa env = (f env).bind fun d => (fa env).bind fun ds => .ok (d :: ds) := id rfl
theorem small16 {n : Nat} (h : n ≤ 16777216) : decide (n ≤ 16777216) = true := decide_eq_true h
@[simp] theorem eTup_e : eTup fa env = (fa env).bind fun ds => if ds.all isData && decide (ds.length ≤ 16777216) then .ok (.tup ds) else .un := id rfl
@[simp] theorem eLst_e : eLst fa env = (fa env).bind fun ds => if ds.all isData && decide (ds.length ≤ 16777216) then .ok ds else .un := id rfl
@[simp] theorem eOfL_e : eOfL fa env = (fa env).bind fun ds => .ok (.lst ds) := id rfl
@[simp] theorem eCall_e {h : List D → Option D} : eCall h fa env = (fa env).bind fun ds => ofO (h ds) := id rfl
@[simp] theorem eApp_e {m : List D → Rs D} {k : Nat} : eApp k m fa env = (fa env).bind fun ds => if ds.all isData && decide (ds.length = k) then m ds else .un := id rfl
@[simp] theorem eNeg_e : eNeg f env = (f env).bind fun d => ofO (pNeg d) := id rfl
@[simp] theorem eIsi_e {T : String} : eIsi T f env = (f env).bind fun d => ofO (pIsi T d) := id rfl
@[simp] theorem pNeg_int : pNeg (.int i) = some (.int (-i)) := id rfl
@[simp] theorem eSl_e {lo hi : En → Rs (Option Int)} : eSl f lo hi env = (f env).bind fun d => (lo env).bind fun l => (hi env).bind fun h => ofO (pSl d l h) := id rfl
@[simp] theorem oNone_e : oNone env = .ok none := id rfl
@[simp] theorem oSome_e : oSome f env = (f env).bind asI := id rfl
@[simp] theorem asI_int : asI (.int i) = .ok (some i) := id rfl
@[simp] theorem isData_non : isData .non = true := id rfl
@[simp] theorem isData_bl : isData (.bl b) = true := id rfl
@[simp] theorem isData_int : isData (.int i) = true := id rfl
@[simp] theorem isData_str {x : List Nat} : isData (.str x) = true := id rfl
@[simp] theorem isData_tup {x : List D} : isData (.tup x) = true := id rfl
@[simp] theorem isData_lst {x : List D} : isData (.lst x) = true := id rfl
@[simp] theorem isData_scr {x : List Int} : isData (.scr x) = true := id rfl
/-! operations -/
@[simp] theorem pAdd_int : pAdd (.int i) (.int j) = some (.int (i + j)) := id rfl
@[simp] theorem pAddI_int : pAddI (.int i) (.int j) = some (.int (i + j)) := id rfl
@[simp] theorem pSub_int : pSub (.int i) (.int j) = some (.int (i - j)) := id rfl
@[simp] theorem pMul_int (h : (smallI i || smallI j) = true) : pMul (.int i) (.int j) = some (.int (i * j)) := by
  show (if _ then _ else _) = _
  rw [if_pos h]
@[simp] theorem pDiv_int (h : 0 < j ∧ j < 1073741824) : pDiv (.int i) (.int j) = some (.int (i / j)) := by
  show (if _ then _ else _) = _
  rw [if_pos h]
@[simp] theorem pMod_int (h : 0 < j) : pMod (.int i) (.int j) = some (.int (i % j)) := by
  show (if _ then _ else _) = _
  rw [if_pos h]
@[simp] theorem pPow_int (h : 0 ≤ j ∧ j ≤ 1000000 ∧ i.natAbs < 18446744073709551616) : pPow (.int i) (.int j) = some (.int (i ^ j.toNat)) := by
  show (if _ then _ else _) = _
  rw [if_pos h]
@[simp] theorem pAdd_str {x y : List Nat} (h : x.length + y.length ≤ 16777216) : pAdd (.str x) (.str y) = some (.str (x ++ y)) := by
  show (if _ then _ else _) = _
  rw [if_pos h]
@[simp] theorem pAdd_lst {x y : List D} (h : x.length + y.length ≤ 16777216) : pAdd (.lst x) (.lst y) = some (.lst (x ++ y)) := by
  show (if _ then _ else _) = _
  rw [if_pos h]
@[simp] theorem pAdd_tup {x y : List D} (h : x.length + y.length ≤ 16777216) : pAdd (.tup x) (.tup y) = some (.tup (x ++ y)) := by
  show (if _ then _ else _) = _
  rw [if_pos h]
@[simp] theorem pLt_int : pLt (.int i) (.int j) = some (.bl (decide (i < j))) := id rfl
@[simp] theorem pLe_int : pLe (.int i) (.int j) = some (.bl (decide (i ≤ j))) := id rfl
@[simp] theorem pGt_int : pGt (.int i) (.int j) = some (.bl (decide (j < i))) := id rfl
@[simp] theorem pGe_int : pGe (.int i) (.int j) = some (.bl (decide (j ≤ i))) := id rfl
theorem beq_dec {α : Type} [BEq α] [LawfulBEq α] [DecidableEq α] (a b : α) : (a == b) = decide (a = b) := by
  by_cases h : a = b
  · subst h; simp
  · rw [decide_eq_false h]; exact beq_eq_false_iff_ne.mpr h
@[simp] theorem pEq_int : pEq (.int i) (.int j) = some (.bl (decide (i = j))) := by rw [← beq_dec]; rfl
@[simp] theorem pNe_int : pNe (.int i) (.int j) = some (.bl (!decide (i = j))) := by rw [← beq_dec]; rfl
@[simp] theorem pEq_str {x y : List Nat} : pEq (.str x) (.str y) = some (.bl (decide (x = y))) := by rw [← beq_dec]; rfl
@[simp] theorem pNe_str {x y : List Nat} : pNe (.str x) (.str y) = some (.bl (!decide (x = y))) := by rw [← beq_dec]; rfl
@[simp] theorem pIs_non : pIs d .non = some (.bl (isNon d)) := id rfl
@[simp] theorem pIsnt_non : pIsnt d .non = some (.bl (!isNon d)) := id rfl
@[simp] theorem isNon_non : isNon .non = true := id rfl
@[simp] theorem isNon_tup {x : List D} : isNon (.tup x) = false := id rfl
@[simp] theorem isNon_str {x : List Nat} : isNon (.str x) = false := id rfl
@[simp] theorem isNon_int : isNon (.int i) = false := id rfl
@[simp] theorem isNon_lst {x : List D} : isNon (.lst x) = false := id rfl
@[simp] theorem isNon_bl : isNon (.bl b) = false := id rfl
@[simp] theorem bLen_str {x : List Nat} : bLen [.str x] = some (.int x.length) := id rfl
@[simp] theorem bLen_tup {x : List D} : bLen [.tup x] = some (.int x.length) := id rfl
@[simp] theorem bLen_lst {x : List D} : bLen [.lst x] = some (.int x.length) := id rfl
@[simp] theorem bLen_olst {x : List D} : bLen [.olst x] = some (.int x.length) := id rfl
@[simp] theorem bLen_scr {x : List Int} : bLen [.scr x] = some (.int x.length) := id rfl
@[simp] theorem bInt_int : bInt [.int i] = some (.int i) := id rfl
@[simp] theorem bInt_bl : bInt [.bl b] = some (.int (if b then 1 else 0)) := id rfl
@[simp] theorem bAbs_int : bAbs [.int i] = some (.int (if i < 0 then -i else i)) := id rfl
@[simp] theorem bMin_int : bMin [.int i, .int j] = some (.int (if j < i then j else i)) := id rfl
@[simp] theorem bMax_int : bMax [.int i, .int j] = some (.int (if j > i then j else i)) := id rfl
/-! statements -/
variable {gs gt : En → Fl} {E1 : En}
@[simp] theorem sSet_e {k : Nat} : sSet k f env = match f env with
  | .ok d => if isData d then .nx (env.set k (some d)) else .un
  | .ex x => .xx x env
  | .un => .un := id rfl
@[simp] theorem sSetL_e {k : Nat} {fl : En → Rs (List D)} : sSetL k fl env = match fl env with
  | .ok ds => .nx (env.set k (some (.olst ds)))
  | .ex x => .xx x env
  | .un => .un := id rfl
@[simp] theorem sRet_e : sRet f env = match f env with
  | .ok d => if isData d then .rt d [] else .un
  | .ex x => .xx x env
  | .un => .un := id rfl
@[simp] theorem sRetN_e : sRetN env = .rt .non [] := id rfl
@[simp] theorem sPass_e : sPass env = .nx env := id rfl
@[simp] theorem sBreak_e : sBreak env = .bk env := id rfl
@[simp] theorem sCont_e : sCont env = .ct env := id rfl
@[simp] theorem sPre_e {is : List Nat} : sPre is gs env = gs (wipeE is env) := id rfl
def seqR (r : Fl) (h : En → Fl) : Fl := match r with
  | .nx e => h e
  | r => r
@[simp] theorem sSeq_e : sSeq gs gt env = seqR (gs env) gt := id rfl
@[simp] theorem seqR_nx {en : En} : seqR (.nx en) gt = gt en := id rfl
@[simp] theorem seqR_bk {en : En} : seqR (.bk en) gt = .bk en := id rfl
@[simp] theorem seqR_ct {en : En} : seqR (.ct en) gt = .ct en := id rfl
@[simp] theorem seqR_rt {en : En} : seqR (.rt d en) gt = .rt d en := id rfl
@[simp] theorem seqR_xx {en : En} : seqR (.xx d en) gt = .xx d en := id rfl
def ifR (r : Rs Bool) (env : En) (x y : Unit → Fl) : Fl := match r with
  | .ok true => x ()
  | .ok false => y ()
  | .ex d => .xx d env
  | .un => .un
@[simp] theorem sIf_e : sIf c gs gt env = ifR (c env) env (fun _ => gs env) (fun _ => gt env) := id rfl
@[simp] theorem ifR_t {x y : Unit → Fl} : ifR (.ok true) env x y = x () := id rfl
@[simp] theorem ifR_f {x y : Unit → Fl} : ifR (.ok false) env x y = y () := id rfl
@[simp] theorem outB_rt {en : En} : outB (.rt d en) = .ok d := id rfl
@[simp] theorem outB_nx {en : En} : outB (.nx en) = .ok .non := id rfl
@[simp] theorem outB_xx {en : En} : outB (.xx d en) = .ex d := id rfl
@[simp] theorem wipeE_nil : wipeE [] env = env := id rfl
@[simp] theorem wipeE_cons {k : Nat} {ks : List Nat} : wipeE (k :: ks) env = wipeE ks (env.set k none) := id rfl
@[simp] theorem wipeR_nil : wipeR env [] = env := id rfl
@[simp] theorem wipeR_cons {k : Nat} {ks : List Nat} : wipeR env (k :: ks) = (wipeR env ks).set k none := id rfl
@[simp] theorem gN_e {k : Nat} : gN k d env = some (env.set k (some d)) := id rfl
@[simp] theorem gsNil_e : gsNil [] env = some env := id rfl
@[simp] theorem gsCons_e {h : D → En → Option En} {k : List D → En → Option En} {ds : List D} : gsCons h k (d :: ds) env = (h d env).bind fun e => k ds e := id rfl
@[simp] theorem gT_e {k : List D → En → Option En} {ds : List D} : gT k (.tup ds) env = k ds env := id rfl
@[simp] theorem sUnp_e {h : D → En → Option En} : sUnp h f env = match f env with
  | .ok d => if isData d then match h d env with
      | some e => .nx e
      | none => .un
    else .un
  | .ex x => .xx x env
  | .un => .un := id rfl
@[simp] theorem sAug_e {k : Nat} {op : D → D → Option D} : sAug k op f env = match env[k]? with
  | some (some x) => match f env with
    | .ok d => match op x d with
      | some z => if isData z then .nx (env.set k (some z)) else .un
      | none => .un
    | .ex x => .xx x env
    | .un => .un
  | _ => .un := id rfl
@[simp] theorem sApp_e {k : Nat} : sApp k f env = match env[k]? with
  | some (some (.olst ds)) => match f env with
    | .ok d => if isData d && decide (ds.length < 16777216) then .nx (env.set k (some (.olst (ds ++ [d])))) else .un
    | .ex x => .xx x env
    | .un => .un
  | _ => .un := id rfl
@[simp] theorem sFrz_e {k : Nat} : sFrz k gs env = match env[k]? with
  | some (some (.olst ds)) => if ds.all isData then gs (env.set k (some (.lst ds))) else .un
  | _ => gs env := id rfl
theorem all_ints (xs : List Int) : (xs.map D.int).all isData = true := by simp
theorem sFor_ok {fi : En → Rs (List D)} {h : D → En → Option En} {w : List Nat} {ds : List D} (e : fi env = .ok ds) : sFor fi h gs w env = forL h gs w ds (wipeE w env) := by
  unfold sFor; rw [e]
@[simp] theorem iSeq_e : iSeq f env = (f env).bind fun d => ofO (itemsOf d) := id rfl
@[simp] theorem itemsOf_lst {x : List D} : itemsOf (.lst x) = some x := id rfl
@[simp] theorem itemsOf_tup {x : List D} : itemsOf (.tup x) = some x := id rfl
@[simp] theorem itemsOf_str {x : List Nat} : itemsOf (.str x) = some (x.map fun c => .str [c]) := id rfl
@[simp] theorem iRng1_nat {n : Nat} (h : n ≤ 16000000) : iRng1 [.int n] = .ok (rngL 0 n) := by
  show (if _ then _ else _) = _
  rw [if_pos (by omega)]
  rfl
theorem rng_at {lo : Int} {n k : Nat} {d : D} (h : (rngL lo n)[k]? = some d) : k < n ∧ d = .int (lo + k) := by
  unfold rngL at h
  rw [List.getElem?_map] at h
  cases e : (List.range n)[k]? with
  | none => rw [e] at h; cases h
  | some x =>
    rw [e] at h
    obtain ⟨hk, e2⟩ := List.getElem?_eq_some_iff.mp e
    rw [List.getElem_range] at e2
    subst e2
    exact ⟨by simpa using hk, (Option.some.inj h).symm⟩
/-! loops -/
def SoP (o : Option En) (p : En → Prop) : Prop := match o with
  | some e => p e
  | none => False
@[simp] theorem SoP_some {en : En} {p : En → Prop} : SoP (some en) p = p en := id rfl
/-- what a loop's body leaves: p if the loop goes on, q if it ends here -/
def LpP (w : List Nat) (r : Fl) (p : En → Prop) (q : Fl → Prop) : Prop := match r with
  | .nx e => p (wipeE w e)
  | .ct e => p (wipeE w e)
  | .bk e => q (.nx (wipeE w e))
  | r => q r
@[simp] theorem LpP_nx {w : List Nat} {en : En} {p : En → Prop} {q : Fl → Prop} : LpP w (.nx en) p q = p (wipeE w en) := id rfl
@[simp] theorem LpP_ct {w : List Nat} {en : En} {p : En → Prop} {q : Fl → Prop} : LpP w (.ct en) p q = p (wipeE w en) := id rfl
@[simp] theorem LpP_bk {w : List Nat} {en : En} {p : En → Prop} {q : Fl → Prop} : LpP w (.bk en) p q = q (.nx (wipeE w en)) := id rfl
@[simp] theorem LpP_rt {w : List Nat} {d : D} {en : En} {p : En → Prop} {q : Fl → Prop} : LpP w (.rt d en) p q = q (.rt d en) := id rfl
@[simp] theorem LpP_xx {w : List Nat} {d : D} {en : En} {p : En → Prop} {q : Fl → Prop} : LpP w (.xx d en) p q = q (.xx d en) := id rfl
theorem forL_gen {h : D → En → Option En} {body : En → Fl} {w : List Nat} (P : Nat → En → Prop) (Q : Fl → Prop) : ∀ (ds : List D) (k : Nat) (env : En), P k env →
    (∀ i d e, ds[i]? = some d → P (k + i) e → SoP (h d e) fun e1 => LpP w (body e1) (P (k + i + 1)) Q) → (∀ e, P (k + ds.length) e → Q (.nx e)) → Q (forL h body w ds env)
  | [], k, env, h0, hs, he => he env h0
  | d :: ds, k, env, h0, hs, he => by
    have h1 := hs 0 d env rfl h0
    have ih := fun en (p : P (k + 1) en) => forL_gen P Q ds (k + 1) en p (fun i d e a b => by
      have := hs (i + 1) d e a (by rw [show k + (i + 1) = k + 1 + i from by omega]; exact b)
      rw [show k + (i + 1) = k + 1 + i from by omega] at this
      exact this) (fun e p => he e (by rw [List.length_cons, show k + (ds.length + 1) = k + 1 + ds.length from by omega]; exact p))
    unfold forL
    generalize h d env = o at h1
    cases o with
    | none => exact h1.elim
    | some e1 =>
      rw [SoP_some] at h1
      dsimp only
      generalize body e1 = r at h1
      cases r with
      | nx e2 => exact ih _ h1
      | ct e2 => exact ih _ h1
      | bk e2 => exact h1
      | rt _ _ => exact h1
      | xx _ _ => exact h1
      | un => exact h1
/-- a loop without break, return or exception -/
theorem forL_inv {h : D → En → Option En} {body : En → Fl} {w : List Nat} {ds : List D} {env : En} (P : Nat → En → Prop) (h0 : P 0 env)
    (hs : ∀ i d e, ds[i]? = some d → P i e → SoP (h d e) fun e1 => LpP w (body e1) (P (i + 1)) fun _ => False) : ∃ e, forL h body w ds env = .nx e ∧ P ds.length e := by
  refine forL_gen P (fun r => ∃ e, r = .nx e ∧ P ds.length e) ds 0 env h0 (fun i d e a b => ?_) (fun e p => ⟨e, rfl, by rw [Nat.zero_add] at p; exact p⟩)
  rw [Nat.zero_add] at b ⊢
  have h1 := hs i d e a b
  generalize h d e = o at h1
  cases o with
  | none => exact h1
  | some e1 =>
    rw [SoP_some] at h1 ⊢
    generalize body e1 = r at h1
    cases r <;> first | exact h1 | exact h1.elim
/-- a test, then what follows -/
def TsP (r : Rs Bool) (p q : Prop) : Prop := match r with
  | .ok true => p
  | .ok false => q
  | _ => False
@[simp] theorem TsP_t {p q : Prop} : TsP (.ok true) p q = p := id rfl
@[simp] theorem TsP_f {p q : Prop} : TsP (.ok false) p q = q := id rfl
theorem TsP_b {b : Bool} {p q : Prop} (h1 : b = true → p) (h2 : b = false → q) : TsP (.ok b) p q := by
  cases b with
  | true => exact h1 rfl
  | false => exact h2 rfl
theorem whileL_gen {c : En → Rs Bool} {body : En → Fl} {w : List Nat} (P : Nat → En → Prop) (Q : Fl → Prop) : ∀ (n : Nat) (env : En) (m : Nat), P m env → m < n →
    (∀ k e, P k e → TsP (c e) (LpP w (body e) (fun e2 => ∃ k', k' < k ∧ P k' e2) Q) (Q (.nx e))) → Q (whileL c body w n env)
  | 0, _, _, _, h, _ => absurd h (Nat.not_lt_zero _)
  | n + 1, env, m, h0, hm, hs => by
    have h1 := hs m env h0
    unfold whileL
    generalize c env = r at h1
    cases r with
    | un => exact h1.elim
    | ex x => exact h1.elim
    | ok b =>
      cases b with
      | false => exact h1
      | true =>
        rw [TsP_t] at h1
        dsimp only
        generalize body env = r at h1
        cases r with
        | nx e2 => obtain ⟨k', h2, h3⟩ := h1; exact whileL_gen P Q n _ k' h3 (by omega) hs
        | ct e2 => obtain ⟨k', h2, h3⟩ := h1; exact whileL_gen P Q n _ k' h3 (by omega) hs
        | bk e2 => exact h1
        | rt _ _ => exact h1
        | xx _ _ => exact h1
        | un => exact h1
theorem compL_map {h : D → En → Option En} {c : En → Rs Bool} {f : En → Rs D} {env : En} (φ : D → D) : ∀ ds : List D, (∀ d ∈ ds, ∃ e1, h d env = some e1 ∧ c e1 = .ok true ∧ f e1 = .ok (φ d) ∧ isData (φ d) = true) → compL h c f env ds = .ok (ds.map φ)
  | [], _ => rfl
  | d :: ds, k => by
    obtain ⟨e1, h1, h2, h3, h4⟩ := k d List.mem_cons_self
    unfold compL
    rw [h1]
    dsimp only
    rw [h2]
    dsimp only
    rw [h3]
    dsimp only
    rw [if_pos h4, compL_map φ ds fun d m => k d (List.mem_cons_of_mem _ m)]
    rfl
theorem compL_filter {h : D → En → Option En} {c : En → Rs Bool} {f : En → Rs D} {env : En} (φ : D → D) (χ : D → Bool) : ∀ ds : List D, (∀ d ∈ ds, ∃ e1, h d env = some e1 ∧ c e1 = .ok (χ d) ∧ (χ d = true → f e1 = .ok (φ d) ∧ isData (φ d) = true)) → compL h c f env ds = .ok ((ds.filter χ).map φ)
  | [], _ => rfl
  | d :: ds, k => by
    obtain ⟨e1, h1, h2, h3⟩ := k d List.mem_cons_self
    unfold compL
    rw [h1]
    dsimp only
    rw [h2]
    have ih := compL_filter φ χ ds fun d m => k d (List.mem_cons_of_mem _ m)
    cases e : χ d with
    | false => rw [List.filter_cons_of_neg (by rw [e]; decide)]; exact ih
    | true =>
      obtain ⟨h4, h5⟩ := h3 e
      dsimp only
      rw [h4]
      dsimp only
      rw [if_pos h5, ih, List.filter_cons_of_pos e]
      rfl
end
/-! reading at a place, cutting -/
theorem ix_nat {n k : Nat} (h : k < n) : ixN n (k : Int) = some k := by
  unfold ixN
  rw [if_pos (by omega), if_pos (by omega)]
  rfl
theorem atI_nat0 {α : Type} {xs : List α} {k : Nat} : atI xs (k : Int) = xs[k]? := by
  cases e : xs[k]? with
  | some x => exact L2.atI_nat e
  | none =>
    unfold atI ixN
    have : xs.length ≤ k := List.getElem?_eq_none_iff.mp e
    rw [if_pos (by omega), if_neg (by omega)]
    rfl
theorem pIx_str {x : List Nat} {k : Nat} : pIx (.str x) (.int k) = (x[k]?).map fun c => .str [c] := by
  show (atI x _).map _ = _
  rw [atI_nat0]
theorem pIx_tup {x : List D} {k : Nat} : pIx (.tup x) (.int k) = x[k]? := atI_nat0
theorem pIx_lst {x : List D} {k : Nat} : pIx (.lst x) (.int k) = x[k]? := atI_nat0
theorem pIx_scr {x : List Int} {k : Nat} : pIx (.scr x) (.int k) = (x[k]?).map .int := by
  show (atI x _).map _ = _
  rw [atI_nat0]
/-! the places that are given by a numeral -/
@[simp] theorem pIx_tup0 {d : D} {x : List D} : pIx (.tup (d :: x)) (.int 0) = some d := pIx_tup (k := 0)
@[simp] theorem pIx_tup1 {d e : D} {x : List D} : pIx (.tup (d :: e :: x)) (.int 1) = some e := pIx_tup (k := 1)
@[simp] theorem pIx_tup2 {d e f : D} {x : List D} : pIx (.tup (d :: e :: f :: x)) (.int 2) = some f := pIx_tup (k := 2)
theorem pSl_from {x : List Nat} {k : Nat} : pSl (.str x) (some (k : Int)) none = some (.str (x.drop k)) := by
  show some (D.str (cutL x _ _)) = _
  unfold cutL
  rw [HT.sIx_none, HT.sIx_nat, List.take_of_length_le (by rw [List.length_drop]; omega)]
  rcases Nat.le_total k x.length with h | h
  · rw [Nat.min_eq_left h]
  · rw [Nat.min_eq_right h, List.drop_of_length_le (Nat.le_refl _), List.drop_of_length_le h]
theorem pSl_to {x : List Nat} {k : Nat} : pSl (.str x) none (some (k : Int)) = some (.str (x.take k)) := by
  show some (D.str (cutL x _ _)) = _
  unfold cutL
  rw [HT.sIx_none, HT.sIx_nat, List.drop_zero, Nat.sub_zero]
  rcases Nat.le_total k x.length with h | h
  · rw [Nat.min_eq_left h]
  · rw [Nat.min_eq_right h, List.take_of_length_le (Nat.le_refl _), List.take_of_length_le h]
theorem strsOf_map {α : Type} (g : α → List Nat) : ∀ xs : List α, strsOf (xs.map fun x => .str (g x)) = some (xs.map g)
  | [] => rfl
  | x :: xs => by
    show (strsOf (xs.map fun x => .str (g x))).map (g x :: ·) = _
    rw [strsOf_map g xs]
    rfl
theorem joinN_nil : ∀ xs : List (List Nat), joinN [] xs = xs.flatten
  | [] => rfl
  | [x] => by simp [joinN]
  | x :: y :: r => by
    show x ++ [] ++ joinN [] (y :: r) = _
    rw [joinN_nil (y :: r)]
    simp
theorem flat_single {α : Type} (g : α → Nat) : ∀ xs : List α, (xs.map fun x => [g x]).flatten = xs.map g
  | [] => rfl
  | x :: xs => by simp [flat_single g xs]
theorem sum_single {α : Type} (g : α → Nat) : ∀ xs : List α, ((xs.map fun x => [g x]).map List.length).sum = xs.length
  | [] => rfl
  | x :: xs => by
    have := sum_single g xs
    rw [List.map_cons, List.map_cons, List.sum_cons, this]
    simp [Nat.add_comm]
/-- a text joined of single signs -/
theorem pJoin_single {α : Type} (g : α → Nat) (xs : List α) (h : xs.length ≤ 16777216) : pJoin (.str []) (.lst (xs.map fun x => .str [g x])) = some (.str (xs.map g)) := by
  show (strsOf (xs.map fun x => D.str [g x])).bind _ = _
  rw [strsOf_map (fun x => [g x]) xs, Option.bind_some, if_pos (by rw [sum_single]; simpa using h), joinN_nil, flat_single]
theorem eComp_e {fi : En → Rs (List D)} {h : D → En → Option En} {c : En → Rs Bool} {f : En → Rs D} {own : List Nat} {env : En} {ds ys : List D} (h1 : fi env = .ok ds) (h2 : compL h c f (wipeR env own) ds = .ok ys) : eComp fi h c f own env = .ok ys := by
  unfold eComp
  rw [h1, Rs.bind_ok, h2]
/-! the longest common beginning -/
def lcp : List Nat → List Nat → Nat
  | a :: x, b :: y => if a = b then lcp x y + 1 else 0
  | _, _ => 0
theorem lcp_of : ∀ (x y : List Nat) (k : Nat), (∀ j, j < k → x[j]? = y[j]? ∧ j < x.length ∧ j < y.length) → (k = x.length ∨ k = y.length ∨ (k < x.length ∧ k < y.length ∧ x[k]? ≠ y[k]?)) → k ≤ x.length → k ≤ y.length → lcp x y = k
  | [], y, k, _, _, hx, _ => by
    have : k = 0 := by simpa using hx
    subst this
    cases y <;> rfl
  | a :: x, [], k, _, _, _, hy => by
    have : k = 0 := by simpa using hy
    subst this
    rfl
  | a :: x, b :: y, 0, _, h, _, _ => by
    rcases h with h | h | ⟨_, _, h⟩
    · simp at h
    · simp at h
    · have : a ≠ b := fun e => h (by rw [e]; rfl)
      unfold lcp
      rw [if_neg this]
  | a :: x, b :: y, k + 1, hk, h, hx, hy => by
    have e := (hk 0 (by omega)).1
    have e : a = b := by simpa using e
    unfold lcp
    rw [if_pos e, lcp_of x y k (fun j hj => by
      have := hk (j + 1) (by omega)
      simpa using this) (by simpa using h) (by simpa using hx) (by simpa using hy)]
theorem lcp_le : ∀ x y : List Nat, lcp x y ≤ x.length ∧ lcp x y ≤ y.length
  | [], y => ⟨Nat.zero_le _, Nat.zero_le _⟩
  | a :: x, [] => ⟨Nat.zero_le _, Nat.zero_le _⟩
  | a :: x, b :: y => by
    unfold lcp
    have := lcp_le x y
    split
    · simp; omega
    · exact ⟨Nat.zero_le _, Nat.zero_le _⟩
/-- what one side has ahead of the other, none if both have -/
def gapD (x y : List Nat) : D := if lcp x y < x.length ∧ lcp x y < y.length then .non else .tup [.str (x.drop (lcp x y)), .str (y.drop (lcp x y))]
theorem lcp_app : ∀ (x y a b : List Nat), (lcp x y < x.length ∧ lcp x y < y.length → lcp (x ++ a) (y ++ b) = lcp x y) ∧
    (¬ (lcp x y < x.length ∧ lcp x y < y.length) → lcp (x ++ a) (y ++ b) = lcp x y + lcp (x.drop (lcp x y) ++ a) (y.drop (lcp x y) ++ b))
  | [], y, a, b => by
    refine ⟨fun h => absurd h.1 (Nat.not_lt_zero _), fun _ => ?_⟩
    show _ = 0 + _
    rw [Nat.zero_add]
    rfl
  | c :: x, [], a, b => by
    refine ⟨fun h => absurd h.2 (Nat.not_lt_zero _), fun _ => ?_⟩
    show _ = 0 + _
    rw [Nat.zero_add]
    rfl
  | c :: x, d :: y, a, b => by
    have ih := lcp_app x y a b
    by_cases e : c = d
    · have e1 : ∀ u v, lcp (c :: u) (d :: v) = lcp u v + 1 := fun u v => by
        show (if c = d then _ else _) = _
        rw [if_pos e]
      rw [List.cons_append, List.cons_append, e1, e1]
      refine ⟨fun h => ?_, fun h => ?_⟩
      · rw [ih.1 (by simpa using h)]
      · rw [ih.2 (by simpa using h), List.drop_succ_cons, List.drop_succ_cons]; omega
    · have e1 : ∀ u v, lcp (c :: u) (d :: v) = 0 := fun u v => by
        show (if c = d then _ else _) = _
        rw [if_neg e]
      rw [List.cons_append, List.cons_append, e1, e1]
      exact ⟨fun _ => rfl, fun h => absurd ⟨by simp, by simp⟩ h⟩
end Z

set_option Elab.async false
set_option linter.all false
set_option maxRecDepth 100000
set_option maxHeartbeats 1000000
/-! ZB: defs with *v; calls by a positional promise -/
namespace Z
open PySem L2
section
variable {X : Cx} {CX : CXT} {k : Nat} {f : Addr} {sp : Sp} {E : XK} {x : Str} {e : Expr} {es : List Expr} {t : TA} {p pos : Pos}
/-- x(e, ..) by a positional promise -/
theorem pe_callR (F : FnR X.prog X.w X.K X.mg X.base CX k f sp) (hr : Room k X.A) (hk : PySem.W.keepIn X.K (.ref f) = true) (hg : Gl X x) (hm : X.mg x = some (.ref f)) (hx : Passes CX X E) (ha : PA X (e :: es) t) (hd : (x == ("__debug__" : Str)) = false := by decide)
    (he : starEach (e :: es) X.env = (false, eval e X.env) :: starEach es X.env := by rfl) (hpl : (backTo pos (starEach es X.env)).any (·.1) = false := by rfl) :
    PE X (.Call (.Name x p) (e :: es) [] pos) (fun σ H Q => t σ H fun vs H1 => sp vs H1 Q E) := by
  refine ⟨fun pins s σ H Q I h => ?_⟩
  refine wpAny_Call_Name_kw (ld_glob I hg hm ?_ hd)
  refine PySem.W.callWith_K (h₀ := X.base) I.ok.mod.kin hk (thn (ha.run pos pins s σ H _ I h) fun us s1 ⟨vs, H1, I1, r, q⟩ => ⟨I1.kIn, ?_⟩) he hpl
  exact wpAny_call (run_fnR F hr hx I1 r q)
theorem pe_callR0 (F : FnR X.prog X.w X.K X.mg X.base CX k f sp) (hr : Room k X.A) (hk : PySem.W.keepIn X.K (.ref f) = true) (hg : Gl X x) (hm : X.mg x = some (.ref f)) (hx : Passes CX X E) (hd : (x == ("__debug__" : Str)) = false := by decide) :
    PE X (.Call (.Name x p) [] [] pos) (fun σ H Q => sp [] H Q E) := by
  refine ⟨fun pins s σ H Q I h => ?_⟩
  refine wpAny_Call_Name_kw (ld_glob I hg hm ?_ hd)
  exact PySem.W.callWith_K0 I.kIn hk (wpAny_call (run_fnR (us := []) F hr hx I .nil h))
end
/-- the promise of def f( *v) -/
def spS (K : Kx) (m : List D → Rs D) : Sp := fun vs H Q Ex => ∃ ds F, Same F H ∧ RL K F H ds vs [] ∧ ds.length ≤ 16777216 ∧ PostP K F H Q Ex (m [.tup ds])
def eAppS (m : List D → Rs D) (fa : En → Rs (List D)) : En → Rs D := fun env => (fa env).bind fun ds => if ds.all isData && decide (ds.length ≤ 16777216) then m [.tup ds] else .un
@[simp] theorem eAppS_e {m : List D → Rs D} {fa : En → Rs (List D)} {env : En} : eAppS m fa env = (fa env).bind fun ds => if ds.all isData && decide (ds.length ≤ 16777216) then m [.tup ds] else .un := id rfl
section
variable {X : Cx} {E : Ent} {W : WX} {e a b : Expr} {pos : Pos}
theorem SE.callS {x : Str} {p : Pos} {k : Nat} {fa_ : Addr} {es : List Expr} {m : List D → Rs D} {fa : En → Rs (List D)}
    (F : FnR X.prog X.w X.K X.mg X.base CX0 k fa_ (spS E.K m)) (hx : NoX m) (hr : Room k X.A) (hm : X.mg x = some (.ref fa_)) (hk : PySem.W.keepIn X.K (.ref fa_) = true) (ha : SA X E W (e :: es) fa) (hg : Gl X x := by rfl)
    (hdb : (x == ("__debug__" : Str)) = false := by decide) (he : starEach (e :: es) X.env = (false, eval e X.env) :: starEach es X.env := by rfl) (hpl : (backTo pos (starEach es X.env)).any (·.1) = false := by rfl) :
    SE X E W (.Call (.Name x p) (e :: es) [] pos) (eAppS m fa) := by
  obtain ⟨t, pa, ka⟩ := ha.ex
  refine ⟨ha.hK, _, pe_callR F hr hk hg hm pass0 pa hdb he hpl, fun Fz σ H env S Q q => ?_⟩
  refine ka Fz σ H env S _ ?_
  unfold eAppS at q
  cases e1 : fa env with
  | un => rw [e1] at q; exact q
  | ex x => rw [e1] at q; exact q
  | ok ds =>
    rw [e1, Rs.bind_ok] at q
    intro vs fp F1 H1 G1 r1
    split at q
    · rename_i hc
      rw [Bool.and_eq_true] at hc
      refine ⟨ds, F1, G1.fh, r1.toData hc.1, of_decide_eq_true hc.2, ?_⟩
      cases e2 : m [.tup ds] with
      | un => rw [e2] at q; exact q
      | ex x => exact absurd e2 (hx [.tup ds] x)
      | ok d => rw [e2] at q; exact fun v F' H' G r => q v [] F' H' (G1.trans G) r
    · exact q.elim
theorem SE.callS0 {x : Str} {p : Pos} {k : Nat} {fa_ : Addr} {m : List D → Rs D}
    (F : FnR X.prog X.w X.K X.mg X.base CX0 k fa_ (spS E.K m)) (hx : NoX m) (hr : Room k X.A) (hm : X.mg x = some (.ref fa_)) (hk : PySem.W.keepIn X.K (.ref fa_) = true) (hg : Gl X x := by rfl)
    (hdb : (x == ("__debug__" : Str)) = false := by decide) (hK : X.K = E.K.k := by rfl) :
    SE X E W (.Call (.Name x p) [] [] pos) (eAppS m aNil) := by
  refine ⟨hK, _, pe_callR0 F hr hk hg hm pass0 hdb, fun Fz σ H env S Q q => ?_⟩
  refine ⟨[], Fz, S.fH, .nil, Nat.zero_le _, ?_⟩
  have q : PostE E W Fz H σ Q (m [.tup []]) := q
  cases e2 : m [.tup []] with
  | un => rw [e2] at q; exact q
  | ex x => exact absurd e2 (hx [.tup []] x)
  | ok d => rw [e2] at q; exact fun v F' H' G r => q v [] F' H' G r
end
theorem PostP.grow {K : Kx} {F H F' H' : Hp} {Q : VK} {Ex : XK} {r : Rs D} (G : Grow F H F' H') (h : PostP K F H Q Ex r) : PostP K F' H' Q Ex r := by
  cases r with
  | ok d => exact fun v F1 H1 G1 k => h v F1 H1 (G.trans G1) k
  | ex x => exact fun cls dd F1 H1 G1 k => h cls dd F1 H1 (G.trans G1) k
  | un => exact h
/-- def f( *v) that raises nothing -/
theorem fnS {P : Program} {w : World} {K : Kx} {mg : Str → Option Value} {base : Heap} {x qual pv : Str} {st : Stmt} {f : Addr} {fd : FuncData} {N : List Str} {k n : Nat} {g : En → Fl} {m : List D → Rs D} (Fn : Fun K.k x qual st f fd) (S : FnScope N [pv] (defScope st))
    (hbi : ∀ (kV doc pm cdv ct : Value) (an : Option Addr) (rest : List Value), bindArgs (PySem.W.fnOf x qual (defArgs st) (defBody st) (defScope st) .none kV doc pm an cdv ct) ⟨rest, []⟩ = (newTuple rest >>= fun t => pure [(pv, t)]))
    (hm : m = runB0 g n) (hn : N.length = n)
    (hb : ∀ (cdv : Value) (A : Around) (outer : List Env) (s : Shared) (H : Hp) (Ex : XK) (F0 : Hp), Room k (A.deeper (PyProof.Rows.envOfC qual (defScope st) s.heap.objs.size f cdv)) →
      SB (cxOf CX0 P w K.k mg base N qual (defScope st) f cdv A outer s H Ex).nox ⟨K, H, F0, fun _ => []⟩ W0 (defBody st) g) : FnR P w K.k mg base CX0 (k + 1) f (spS K m) := by
  subst hm hn
  obtain ⟨oc, od, kV, doc, pm, an, cdv, ct, osl, rfl, lk, hcd⟩ := Fn.ex
  refine FnR.imp (StX.fn_star (ps := []) (pv := pv) (sp := spP K 1 (runB0 g N.length)) lk hcd S StX.cxUp_none (fun us rest hl => ?_) fun A outer s H vs Q Ex hr h => ?_) fun vs H Q Ex h => ?_
  · obtain rfl : us = [] := List.eq_nil_of_length_eq_zero hl
    exact hbi kV doc pm cdv ct an rest
  · obtain ⟨ds, F, hs, hl, hn, q⟩ := h
    obtain ⟨t, p, k⟩ := (hb cdv A outer s H Ex F hr).ex
    refine ⟨t, p.nox, k F _ H _ (stt_start hs hl) _ ?_⟩
    unfold runB0 runB at q
    cases e : g (start0 N.length ds) with
    | nx en => rw [e] at q; exact fun F' σ' H' G S' => q _ F' H' (stt_end S') .non
    | bk en => rw [e] at q; exact q.elim
    | ct en => rw [e] at q; exact q.elim
    | rt d en => rw [e] at q; exact fun v F' σ' H' G S' r => q v F' H' (stt_end S') r
    | xx x en => rw [e] at q; exact q.elim
    | un => rw [e] at q; exact q
  · obtain ⟨ds, F, hs, hl, hn, q⟩ := h
    refine ⟨[], vs, rfl, rfl, by rw [hl.len, ← line_eq]; exact hn, fun p hp => ?_⟩
    have G := Grow.new (o := .tup vs) hs hp
    exact ⟨[.tup ds], _, G.fh, RL.mk0 (.tup upd_same (hl.grow G) hn) .nil, rfl, q.grow G⟩
/-! more plain rules -/
theorem rngL_mem {lo : Int} {n : Nat} {d : D} (h : d ∈ rngL lo n) : ∃ k : Nat, k < n ∧ d = .int (lo + k) := by
  unfold rngL at h
  obtain ⟨k, hk, rfl⟩ := List.mem_map.mp h
  exact ⟨k, List.mem_range.mp hk, rfl⟩
theorem iRng2_nat {a b : Nat} (h : b ≤ 16000000) (ha : a ≤ 16000000) : iRng2 [.int a, .int b] = .ok (rngL a (b - a)) := by
  show (if _ then _ else _) = _
  rw [if_pos (by omega)]
  congr 2
  omega
theorem pMul_str {x : List Nat} {k : Nat} (h : x.length * k ≤ 16777216) (hk : k < 16777216) : pMul (.str x) (.int k) = some (.str (List.replicate k x).flatten) := by
  show (if _ then _ else _) = _
  rw [if_pos ⟨by rw [Int.toNat_natCast]; exact h, by omega, by omega⟩]
  rfl
@[simp] theorem pEq_bl {a b : Bool} : pEq (.bl a) (.bl b) = some (.bl (decide (a = b))) := by rw [← beq_dec]; rfl
@[simp] theorem pNe_bl {a b : Bool} : pNe (.bl a) (.bl b) = some (.bl (!decide (a = b))) := by rw [← beq_dec]; rfl
theorem blsOf_map {α : Type} (g : α → Bool) : ∀ xs : List α, blsOf (xs.map fun x => .bl (g x)) = some (xs.map g)
  | [] => rfl
  | x :: xs => by
    show (blsOf (xs.map fun x => .bl (g x))).map (g x :: ·) = _
    rw [blsOf_map g xs]
    rfl
theorem bAll_map {α : Type} (g : α → Bool) (xs : List α) : bAll [.lst (xs.map fun x => .bl (g x))] = some (.bl (xs.all g)) := by
  show (blsOf _).map _ = _
  rw [blsOf_map]
  simp [List.all_map]
theorem bAny_map {α : Type} (g : α → Bool) (xs : List α) : bAny [.lst (xs.map fun x => .bl (g x))] = some (.bl (xs.any g)) := by
  show (blsOf _).map _ = _
  rw [blsOf_map]
  simp [List.any_map]
section
variable {a b c d e f : D} {x : List D}
@[simp] theorem pIx_l0 : pIx (.lst (a :: x)) (.int 0) = some a := pIx_lst (k := 0)
@[simp] theorem pIx_l1 : pIx (.lst (a :: b :: x)) (.int 1) = some b := pIx_lst (k := 1)
@[simp] theorem pIx_l2 : pIx (.lst (a :: b :: c :: x)) (.int 2) = some c := pIx_lst (k := 2)
@[simp] theorem pIx_l3 : pIx (.lst (a :: b :: c :: d :: x)) (.int 3) = some d := pIx_lst (k := 3)
@[simp] theorem pIx_l4 : pIx (.lst (a :: b :: c :: d :: e :: x)) (.int 4) = some e := pIx_lst (k := 4)
@[simp] theorem pIx_l5 : pIx (.lst (a :: b :: c :: d :: e :: f :: x)) (.int 5) = some f := pIx_lst (k := 5)
end
@[simp] theorem itemsOf_scr {x : List Int} : itemsOf (.scr x) = some (x.map .int) := id rfl
theorem all_strs (xs : List (List Nat)) : (xs.map D.str).all isData = true := by simp
@[simp] theorem eList_e {f : En → Rs D} {env : En} : eList f env = (f env).bind fun d => ofO (seqOf d) := id rfl
@[simp] theorem revOf_lst {x : List D} : revOf (.lst x) = some x.reverse := id rfl
end Z

set_option Elab.async false
set_option linter.all false
set_option maxRecDepth 100000
set_option maxHeartbeats 1000000
/-! ZC: owned things within owned things: freezing, and changing one through a path -/
namespace Z
open PySem L2
mutual
def frzD : D → D
  | .olst xs => .lst (frzL xs)
  | .odic t ks vs => .dic t ks (frzL vs)
  | .oob c ns vs => .ob c ns (frzL vs)
  | .bor _ d => frzD d
  | d => d
def frzL : List D → List D
  | [] => []
  | x :: xs => frzD x :: frzL xs
end
theorem frzL_len : ∀ xs : List D, (frzL xs).length = xs.length
  | [] => rfl
  | x :: xs => congrArg (· + 1) (frzL_len xs)
section
variable {K : Kx} {F G F' H H' : Hp} {d e : D} {ds : List D} {v : V} {vs : List V} {fp : List Addr}
mutual
theorem R.frz (e : Same F G) : ∀ (d : D) {v : V} {fp : List Addr}, (∀ a ∈ fp, G a = H a) → R K F H d v fp → R K G H (frzD d) v []
  | .non, _, _, _, h => by cases h; exact .non
  | .bl _, _, _, _, h => by cases h; exact .bl _
  | .int _, _, _, _, h => by cases h; exact .int _
  | .str _, _, _, _, h => by
    cases h with
    | str k => exact .str k
  | .tup ds, _, _, _, h => R.mono e _ (fun a z => by cases h; cases z) (by cases h with | tup a b c => exact .tup a b c)
  | .lst ds, _, _, _, h => R.mono e _ (fun a z => by cases h; cases z) (by cases h with | lst a b c => exact .lst a b c)
  | .olst ds, _, _, k, h => by
    cases h with
    | olst hs hl hz => exact .lst (by rw [k _ List.mem_cons_self]; exact hs) (RL.frz e ds (fun a z => k a (List.mem_cons_of_mem _ z)) hl) (by rw [frzL_len]; exact hz)
  | .dic t ks ds, _, _, _, h => R.mono e _ (fun a z => by cases h <;> cases z) (by
      cases h with
      | dicK a b c => exact .dicK a b c
      | dicT a b c => exact .dicT a b c)
  | .odic t ks ds, _, _, k, h => by
    cases h with
    | odicK hs hl hz => exact .dicK (by rw [k _ List.mem_cons_self]; exact hs) (RL.frz e ds (fun a z => k a (List.mem_cons_of_mem _ z)) hl) (by rw [frzL_len]; exact hz)
    | odicT hs hl hz => exact .dicT (by rw [k _ List.mem_cons_self]; exact hs) (RL.frz e ds (fun a z => k a (List.mem_cons_of_mem _ z)) hl) (by rw [frzL_len]; exact hz)
  | .set _, _, _, _, h => nomatch h
  | .oset _, _, _, _, h => nomatch h
  | .ob c ns ds, _, _, _, h => R.mono e _ (fun a z => by cases h; cases z) (by cases h with | ob a b c d => exact .ob a b c d)
  | .oob c ns ds, _, _, k, h => by
    cases h with
    | oob hs hd hl hz => exact .ob (by rw [k _ List.mem_cons_self]; exact hs) (by rw [k _ (List.mem_cons_of_mem _ List.mem_cons_self)]; exact hd) (RL.frz e ds (fun a z => k a (List.mem_cons_of_mem _ (List.mem_cons_of_mem _ z))) hl) (by rw [frzL_len]; exact hz)
  | .scr _, _, _, _, h => by
    cases h with
    | scr a b => exact .scr (e.seq a) b
  | .bor t d, _, _, k, h => by
    cases h with
    | bor h e1 hn => exact R.frz e d k h
  | .exn _ _ _ _ _ _, _, _, _, h => R.mono e _ (fun a z => by cases h; cases z) (by cases h with | exn a b c => exact .exn a b c)
theorem RL.frz (e : Same F G) : ∀ (ds : List D) {vs : List V} {fp : List Addr}, (∀ a ∈ fp, G a = H a) → RL K F H ds vs fp → RL K G H (frzL ds) vs []
  | [], _, _, _, h => by cases h; exact .nil
  | d :: ds, _, _, k, h => by
    cases h with
    | cons h1 h2 => exact RL.cons (fp := []) (fq := []) (R.frz e d (fun a z => k a (List.mem_append_left _ z)) h1) (RL.frz e ds (fun a z => k a (List.mem_append_right _ z)) h2)
end
end
/-! ### a part of an owned thing -/
def kid : D → Nat → Option D
  | .olst xs, i => xs[i]?
  | .odic _ _ vs, i => vs[i]?
  | .oob _ _ vs, i => vs[i]?
  | .bor _ d, i => kid d i
  | _, _ => none
def putKid : D → Nat → D → D
  | .olst xs, i, e => .olst (xs.set i e)
  | .odic t ks vs, i, e => .odic t ks (vs.set i e)
  | .oob c ns vs, i, e => .oob c ns (vs.set i e)
  | .bor t d, i, e => .bor t (putKid d i e)
  | d, _, _ => d
def subD (d : D) : List Nat → Option D
  | [] => some (peel d)
  | i :: p => (kid d i).bind fun k => subD k p
def putRoot : D → D → D
  | .bor t _, e => .bor t e
  | _, e => e
def putD (d : D) : List Nat → D → D
  | [], e => putRoot d e
  | i :: p, e => match kid d i with
    | some k => putKid d i (putD k p e)
    | none => d
section
variable {K : Kx} {F G F' H H' : Hp} {d e : D} {ds : List D} {v : V} {vs : List V} {fp : List Addr}
theorem RL.lens : ∀ {ds : List D} {vs : List V} {fp : List Addr} {i : Nat} {e : D}, RL K F H ds vs fp → ds[i]? = some e → ∃ u pre fq post, fp = pre ++ (fq ++ post) ∧ R K F H e u fq ∧
    ∀ (F' H' : Hp) (e' : D) (fq' : List Addr), Same F F' → (∀ a ∈ pre ++ post, H' a = H a) → R K F' H' e' u fq' → RL K F' H' (ds.set i e') vs (pre ++ (fq' ++ post))
  | _, _, _, _, _, .nil, h => by simp at h
  | _, _, _, 0, _, .cons (fq := fq) h t, z => by
    simp at z; subst z
    refine ⟨_, [], _, fq, rfl, h, fun F' H' e' fq' s k r => ?_⟩
    exact RL.cons (fp := fq') (fq := fq) r (RL.mono s _ (fun a z => k a (by simpa using z)) t)
  | _, _, _, i + 1, _, .cons (fp := f0) h t, z => by
    obtain ⟨u, pre, fq, post, e1, r, k⟩ := RL.lens (i := i) t (by simpa using z)
    refine ⟨u, f0 ++ pre, fq, post, by rw [e1, List.append_assoc], r, fun F' H' e' fq' s kk r' => ?_⟩
    rw [List.append_assoc]
    refine .cons (R.mono s _ (fun a z => kk a (by simp [z])) h) (k F' H' e' fq' s (fun a z => kk a ?_) r')
    rcases List.mem_append.mp z with z | z
    · simp [z]
    · simp [z]
theorem R.kid {i : Nat} : ∀ {d : D} {v : V} {fp : List Addr}, R K F H d v fp → kid d i = some e → ∃ u pre fq post, fp = pre ++ (fq ++ post) ∧ pre ≠ [] ∧ R K F H e u fq ∧
    ∀ (F' H' : Hp) (e' : D) (fq' : List Addr), Same F F' → (∀ a ∈ pre ++ post, H' a = H a) → R K F' H' e' u fq' → R K F' H' (putKid d i e') v (pre ++ (fq' ++ post)) := by
  intro d
  induction d using D.rec (motive_2 := fun _ => True) with
  | olst xs _ =>
    intro v fp r h
    cases r with
    | olst hs hl hz =>
      rename_i a ws f0
      obtain ⟨u, pre, fq, post, e1, r, k⟩ := hl.lens h
      refine ⟨u, a :: pre, fq, post, by rw [e1]; rfl, List.cons_ne_nil _ _, r, fun F' H' e' fq' s kk r' => ?_⟩
      exact .olst (by rw [kk a (by simp)]; exact hs) (k F' H' e' fq' s (fun a z => kk a (List.mem_cons_of_mem _ z)) r') (by rw [List.length_set]; exact hz)
  | odic t ks ws _ _ =>
    intro v fp r h
    cases r with
    | odicK hs hl hz =>
      rename_i a ks0 ws f0
      obtain ⟨u, pre, fq, post, e1, r, k⟩ := hl.lens h
      refine ⟨u, a :: pre, fq, post, by rw [e1]; rfl, List.cons_ne_nil _ _, r, fun F' H' e' fq' s kk r' => ?_⟩
      exact .odicK (by rw [kk a (by simp)]; exact hs) (k F' H' e' fq' s (fun a z => kk a (List.mem_cons_of_mem _ z)) r') (by rw [List.length_set]; exact hz)
    | odicT hs hl hz =>
      rename_i a ks0 ws f0
      obtain ⟨u, pre, fq, post, e1, r, k⟩ := hl.lens h
      refine ⟨u, a :: pre, fq, post, by rw [e1]; rfl, List.cons_ne_nil _ _, r, fun F' H' e' fq' s kk r' => ?_⟩
      exact .odicT (by rw [kk a (by simp)]; exact hs) (k F' H' e' fq' s (fun a z => kk a (List.mem_cons_of_mem _ z)) r') (by rw [List.length_set]; exact hz)
  | oob c ns ws _ =>
    intro v fp r h
    cases r with
    | oob hs hd hl hz =>
      rename_i a dx us f0
      obtain ⟨u, pre, fq, post, e1, r, k⟩ := hl.lens h
      refine ⟨u, a :: dx :: pre, fq, post, by rw [e1]; rfl, List.cons_ne_nil _ _, r, fun F' H' e' fq' s kk r' => ?_⟩
      exact .oob (by rw [kk a (by simp)]; exact hs) (by rw [kk dx (by simp)]; exact hd) (k F' H' e' fq' s (fun a z => kk a (List.mem_cons_of_mem _ (List.mem_cons_of_mem _ z))) r') (by rw [List.length_set]; exact hz)
  | bor t d ih =>
    intro v fp r h
    cases r with
    | bor r e1 hn =>
      obtain ⟨u, pre, fq, post, e2, np, r', k⟩ := ih r h
      exact ⟨u, pre, fq, post, e2, np, r', fun F' H' e' fq' s kk r'' => .bor (k F' H' e' fq' s kk r'') e1 (by simp [np])⟩
  | nil => trivial
  | cons => trivial
  | _ => intro v fp r h; cases h
theorem R.lens : ∀ (p : List Nat) {d : D} {v : V} {fp : List Addr}, R K F H d v fp → subD d p = some e → ∃ u pre fq post, fp = pre ++ (fq ++ post) ∧ R K F H e u fq ∧ (p = [] → u = v) ∧
    ∀ (F' H' : Hp) (e' : D) (fq' : List Addr), Same F F' → (∀ a ∈ pre ++ post, H' a = H a) → fq' ≠ [] → R K F' H' e' u fq' → R K F' H' (putD d p e') v (pre ++ (fq' ++ post))
  | [], d, v, fp, r, h => by
    cases h
    refine ⟨v, [], fp, [], by simp, r.peel, fun _ => rfl, fun F' H' e' fq' s kk hn r' => ?_⟩
    rw [List.append_nil, List.nil_append]
    cases r with
    | bor r e1 _ => exact .bor r' e1 hn
    | _ => exact r'
  | i :: p, d, v, fp, r, h => by
    unfold subD at h
    cases e1 : Z.kid d i with
    | none => rw [e1] at h; cases h
    | some k =>
      rw [e1, Option.bind_some] at h
      obtain ⟨u, pre, fq, post, e2, np, r1, k1⟩ := r.kid e1
      obtain ⟨u2, pre2, fq2, post2, e3, r2, _, k2⟩ := R.lens p r1 h
      refine ⟨u2, pre ++ pre2, fq2, post2 ++ post, by rw [e2, e3]; simp, r2, (fun z => nomatch z), fun F' H' e' fq' s kk hn r' => ?_⟩
      have q := k1 F' H' (putD k p e') (pre2 ++ (fq' ++ post2)) s (fun a z => kk a (by
        rcases List.mem_append.mp z with z | z <;> simp [z])) (k2 F' H' e' fq' s (fun a z => kk a (by
        rcases List.mem_append.mp z with z | z <;> simp [z])) hn r')
      have e4 : putD d (i :: p) e' = putKid d i (putD k p e') := by
        show (match Z.kid d i with | some k => putKid d i (putD k p e') | none => d) = _
        rw [e1]
      rw [e4]
      have e5 : pre ++ pre2 ++ (fq' ++ (post2 ++ post)) = pre ++ (pre2 ++ (fq' ++ post2) ++ post) := by simp
      rw [e5]
      exact q
end
/-- a change of the owned addresses fq to fq' -/
structure Chg (F H F' H' : Hp) (fq fq' : List Addr) : Prop where
  f : Same F F'
  fh : Same F' H'
  keep : ∀ a o, H a = some o → a ∉ fq → H' a = some o
  old : ∀ a o, H a = some o → a ∉ fq → F' a = F a
  live : ∀ a ∈ fq, ∃ o, H' a = some o
  new : ∀ a ∈ fq', F' a = none ∧ (a ∈ fq ∨ H a = none)
  nd : fq'.Nodup
theorem Stt.chg {E : Ent} {F H : Hp} {env : En} {σ : St} {i : Nat} {d e : D} {p : List Nat} (S : Stt E F env σ H) (he : env[i]? = some (some d)) (hp : subD d p = some e) :
    ∃ v u fq, σ[i]? = some (some v) ∧ R E.K F H e u fq ∧ fq.Nodup ∧ (∀ a ∈ fq, F a = none) ∧ (p = [] → u = v) ∧ ∀ (F' H' : Hp) (e' : D) (fq' : List Addr), Chg F H F' H' fq fq' → fq' ≠ [] → R E.K F' H' e' u fq' → Stt E F' (env.set i (some (putD d p e'))) σ H' := by
  obtain ⟨fps, rs, nd, fr⟩ := S.rep
  obtain ⟨v, fp, g1, g2, g3⟩ := rs.get he
  obtain ⟨u, pre, fq, post, e1, r, hroot, k⟩ := R.lens p g3 hp
  have hnd : (pre ++ (fq ++ post)).Nodup := by rw [← e1]; exact nodup_get nd g2
  obtain ⟨n1, n2, n3⟩ := List.nodup_append.mp hnd
  obtain ⟨n4, n5, n6⟩ := List.nodup_append.mp n2
  have hin : ∀ a ∈ fq, a ∈ fp := fun a z => by rw [e1]; simp [z]
  refine ⟨v, u, fq, g1, r, n4, fun a z => (fr i fp g2 a (hin a z)).1, hroot, fun F' H' e' fq' C hn r' => ?_⟩
  · have some_of : ∀ j f, fps[j]? = some f → ∀ a ∈ f, ∃ o, H a = some o := fun j f hj a ha => rs.fp_some f (List.mem_of_getElem? hj) a ha
    have kp : ∀ a, (∃ o, H a = some o) → a ∉ fq → H' a = H a := fun a ⟨o, ho⟩ hna => by rw [ho]; exact C.keep a o ho hna
    refine ⟨S.le0.trans C.f, C.fh, fun a o eo hno => ?_, fun a o eo hno => ?_, fun j a ha => ?_, fps.set i (pre ++ (fq' ++ post)), ?_, ?_, ?_⟩
    · have h1 := S.keep a o eo hno
      refine C.keep a o h1 fun hq => ?_
      rcases (fr i fp g2 a (hin a hq)).2 with h | h
      · rw [h] at eo; cases eo
      · exact hno i h
    · refine (C.old a o (S.keep a o eo hno) fun hq => ?_).trans (S.old a o eo hno)
      rcases (fr i fp g2 a (hin a hq)).2 with h | h
      · rw [h] at eo; cases eo
      · exact hno i h
    · obtain ⟨o, ho⟩ := S.ownS j a ha
      by_cases hq : a ∈ fq
      · exact C.live a hq
      · exact ⟨o, C.keep a o ho hq⟩
    · have rw1 := (rs.wipe i)
      have rm : RS E.K F' H' (env.set i none) σ (fps.set i []) := rw1.mono C.f fun f hf a ha => by
        obtain ⟨j, hj⟩ := List.mem_iff_getElem?.mp hf
        rcases mem_set_of hj with ⟨_, e⟩ | hj'
        · subst e; cases ha
        · refine kp a (some_of j f hj' a ha) fun hq => ?_
          by_cases hji : j = i
          · subst hji
            have hl : j < fps.length := (List.getElem?_eq_some_iff.mp g2).1
            rw [List.getElem?_set_self hl] at hj
            cases hj; cases ha
          · exact nodup_apart nd hji hj' g2 a ha (hin a hq)
      have q := rm.set i (k F' H' e' fq' C.f (fun a z => kp a (some_of i fp g2 a (by
        rw [e1]
        rcases List.mem_append.mp z with z | z <;> simp [z])) fun hq => by
        rcases List.mem_append.mp z with z | z
        · exact n3 a z a (by simp [hq]) rfl
        · exact n6 a hq a z rfl) hn r')
      have e1 : σ.set i (some v) = σ := by
        apply List.ext_getElem?
        intro j
        by_cases hj : i = j
        · subst hj
          have hl : i < σ.length := (List.getElem?_eq_some_iff.mp g1).1
          rw [List.getElem?_set_self hl, g1]
        · rw [List.getElem?_set_ne hj]
      rw [e1, List.set_set, List.set_set] at q
      exact q
    · have off : ∀ a ∈ pre ++ post, a ∉ fq' := fun a z hq => by
        rcases (C.new a hq).2 with h | h
        · rcases List.mem_append.mp z with z | z
          · exact n3 a z a (by simp [h]) rfl
          · exact n6 a h a z rfl
        · obtain ⟨o, ho⟩ := some_of i fp g2 a (by rw [e1]; rcases List.mem_append.mp z with z | z <;> simp [z])
          rw [ho] at h; cases h
      refine nodup_set nd ?_ fun j y hj hy a ha hq => ?_
      · refine List.nodup_append.mpr ⟨n1, List.nodup_append.mpr ⟨C.nd, n5, fun a ha b hb e => ?_⟩, fun a ha b hb e => ?_⟩
        · subst e; exact off a (by simp [hb]) ha
        · subst e
          rcases List.mem_append.mp hb with hb | hb
          · exact off a (by simp [ha]) hb
          · exact n3 a ha a (by simp [hb]) rfl
      · have na := nodup_apart nd hj hy g2 a ha
        rw [e1] at na
        rcases List.mem_append.mp hq with hq | hq
        · exact na (by simp [hq])
        · rcases List.mem_append.mp hq with hq | hq
          · rcases (C.new a hq).2 with h | h
            · exact na (by simp [h])
            · obtain ⟨o, ho⟩ := some_of j y hy a ha
              rw [ho] at h; cases h
          · exact na (by simp [hq])
    · intro j f hj a ha
      by_cases hji : j = i
      · subst hji
        have hl : j < fps.length := (List.getElem?_eq_some_iff.mp g2).1
        rw [List.getElem?_set_self hl] at hj
        cases hj
        have inpp : a ∈ pre ++ post → F' a = none ∧ (E.H0 a = none ∨ a ∈ E.own j) := fun z => by
          have hm : a ∈ fp := by rw [e1]; rcases List.mem_append.mp z with z | z <;> simp [z]
          obtain ⟨h1, h2⟩ := fr j fp g2 a hm
          obtain ⟨o, ho⟩ := some_of j fp g2 a hm
          refine ⟨(C.old a o ho fun hq => ?_).trans h1, h2⟩
          rcases List.mem_append.mp z with z | z
          · exact n3 a z a (by simp [hq]) rfl
          · exact n6 a hq a z rfl
        rcases List.mem_append.mp ha with z | z
        · exact inpp (by simp [z])
        · rcases List.mem_append.mp z with z | z
          · refine ⟨(C.new a z).1, ?_⟩
            rcases (C.new a z).2 with h | h
            · exact (fr j fp g2 a (hin a h)).2
            · refine .inl ?_
              cases q : E.H0 a with
              | none => rfl
              | some o =>
                exfalso
                by_cases hno : ∀ i, a ∉ E.own i
                · have := S.keep a o q hno
                  rw [h] at this; cases this
                · have : ∃ i, a ∈ E.own i := Classical.byContradiction fun z => hno fun i hi => z ⟨i, hi⟩
                  obtain ⟨j, hj⟩ := this
                  obtain ⟨o', ho'⟩ := S.ownS j a hj
                  rw [h] at ho'; cases ho'
          · exact inpp (by simp [z])
      · have hj' : fps[j]? = some f := by
          rcases mem_set_of hj with ⟨e, _⟩ | h
          · exact absurd e.symm hji
          · exact h
        obtain ⟨h1, h2⟩ := fr j f hj' a ha
        obtain ⟨o, ho⟩ := some_of j f hj' a ha
        exact ⟨(C.old a o ho fun hq => nodup_apart nd hji hj' g2 a ha (hin a hq)).trans h1, h2⟩
end Z

set_option Elab.async false
set_option linter.all false
set_option maxRecDepth 100000
set_option maxHeartbeats 1000000
/-! ZD: instances: attributes read and set, freezing of any owned thing -/
namespace Z
open PySem L2
theorem toNat_inj : ∀ {a b : List Char}, a.map Char.toNat = b.map Char.toNat → a = b
  | [], [], _ => rfl
  | [], _ :: _, h => by simp at h
  | _ :: _, [], h => by simp at h
  | x :: a, y :: b, h => by
    simp only [List.map_cons, List.cons.injEq] at h
    rw [toNat_inj h.2]
    have : x = y := Char.ext (UInt32.toNat_inj.mp h.1)
    rw [this]
theorem ofString_inj {a b : String} (h : Str.ofString a = Str.ofString b) : a = b := by
  rw [Str.ofString_eq_toList, Str.ofString_eq_toList] at h
  have := congrArg (fun s => s.cps.toList) h
  exact String.toList_inj.mp (toNat_inj (by simpa using this))
/-! ### what a slot owns stands still from now on -/
theorem Stt.frzAny {E : Ent} {F H : Hp} {env : En} {σ : St} {i : Nat} {d : D} (S : Stt E F env σ H) (ho : E.own i = []) (he : env[i]? = some (some d)) : ∃ F', Same F F' ∧ Stt E F' (env.set i (some (frzD d))) σ H := by
  obtain ⟨fps, rs, nd, fr⟩ := S.rep
  obtain ⟨v, fp, g1, g2, g3⟩ := rs.get he
  let F' : Hp := fun a => if a ∈ fp then H a else F a
  have hin : ∀ a ∈ fp, F' a = H a := fun a z => if_pos z
  have hout : ∀ a, a ∉ fp → F' a = F a := fun a z => if_neg z
  have hF : ∀ a ∈ fp, F a = none := fun a z => (fr i fp g2 a z).1
  have hH0 : ∀ a ∈ fp, E.H0 a = none := fun a z => by
    rcases (fr i fp g2 a z).2 with h | h
    · exact h
    · rw [ho] at h; cases h
  have le : Same F F' := fun b u eb => by
    rw [hout b fun z => ?_]
    · exact eb
    · rw [hF b z] at eb; cases eb
  refine ⟨F', le, S.le0.trans le, fun b u eb => ?_, S.keep, fun b o eb n => ?_, S.ownS, fps.set i [], ?_, nodup_set nd List.nodup_nil (fun _ _ _ _ _ _ z => nomatch z), fun j fq hj b hb => ?_⟩
  · by_cases hb : b ∈ fp
    · rw [hin b hb] at eb; exact eb
    · rw [hout b hb] at eb; exact S.fH b u eb
  · rw [hout b fun z => ?_]
    · exact S.old b o eb n
    · rw [hH0 b z] at eb; cases eb
  · have rs' : RS E.K F' H env σ fps := rs.mono le fun _ _ _ _ => rfl
    have q := rs'.set i (R.frz le d hin g3)
    have e1 : σ.set i (some v) = σ := by
      apply List.ext_getElem?
      intro j
      by_cases hj : i = j
      · subst hj
        have hl : i < σ.length := (List.getElem?_eq_some_iff.mp g1).1
        rw [List.getElem?_set_self hl, g1]
      · rw [List.getElem?_set_ne hj]
    rw [e1] at q
    exact q
  · have hji : j ≠ i := by
      intro z
      subst z
      have hl : j < fps.length := (List.getElem?_eq_some_iff.mp g2).1
      rw [List.getElem?_set_self hl] at hj
      cases hj; cases hb
    rcases mem_set_of hj with ⟨e, _⟩ | hj'
    · exact absurd e.symm hji
    · obtain ⟨k1, k2⟩ := fr j fq hj' b hb
      exact ⟨by rw [hout b (nodup_apart nd hji hj' g2 b hb)]; exact k1, k2⟩
section
variable {X : Cx} {E : Ent} {W : WX} {e a b : Expr} {f g : En → Rs D} {pos : Pos} {s : Stmt} {ss : List Stmt} {gs gt : En → Fl}
def sFz (i : Nat) (g : En → Fl) : En → Fl := fun env => match env[i]? with
  | some (some d) => g (env.set i (some (frzD d)))
  | _ => g env
theorem SS.fz (i : Nat) (h : SS X E W s gs) (ho : E.own i = [] := by rfl) : SS X E W s (sFz i gs) := by
  obtain ⟨t, p, k⟩ := h.ex
  refine ⟨h.hK, t, p, fun F σ H env S D q => ?_⟩
  unfold sFz at q
  split at q
  · rename_i d he
    obtain ⟨F', le, S'⟩ := S.frzAny ho he
    exact k F' σ H _ S' D (q.mono le)
  · exact k F σ H env S D q
/-! ### an attribute read -/
def posOf (f : String) : List String → Option Nat
  | [] => none
  | n :: ns => if n = f then some 0 else (posOf f ns).map (· + 1)
/-- the attribute f of an instance of one of the classes cs -/
def pFld (cs : List Nat) (f : String) : D → Option D
  | .ob c ns vs => if c ∈ cs then (posOf f ns).bind fun i => vs[i]? else none
  | .oob c ns vs => if c ∈ cs then (posOf f ns).bind fun i => vs[i]? else none
  | _ => none
def eFld (cs : List Nat) (f : String) (fe : En → Rs D) : En → Rs D := fun env => (fe env).bind fun d => ofO (pFld cs f d)
theorem posOf_lookup (f : String) : ∀ (ns : List String) (ws : List V) (i : Nat) (v : V), posOf f ns = some i → ws[i]? = some v → (nmS ns ws).lookup (Str.ofString f) = some v
  | [], _, _, _, h, _ => by cases h
  | n :: ns, [], i, v, _, h => by simp at h
  | n :: ns, w :: ws, i, v, h, hv => by
    unfold posOf at h
    show List.lookup (Str.ofString f) ((Str.ofString n, w) :: nmS ns ws) = some v
    by_cases hn : n = f
    · rw [if_pos hn] at h
      cases h
      subst hn
      simp at hv
      rw [List.lookup_cons, beq_self_eq_true, hv]
    · rw [if_neg hn] at h
      have hne : (Str.ofString f == Str.ofString n) = false := beq_eq_false_iff_ne.mpr fun z => hn (ofString_inj z).symm
      cases hp : posOf f ns with
      | none => rw [hp] at h; cases h
      | some j =>
        rw [hp] at h
        cases h
        rw [List.lookup_cons, hne]
        exact posOf_lookup f ns ws j v hp (by simpa using hv)
/-- what is known of the classes cs and the attribute f -/
def FldOk (K : Kx) (cs : List Nat) (f : String) : Prop := ∀ c ∈ cs, Cls K.k (K.ca c) ∧ NoAttr K.k (K.ca c) (Str.ofString f)
theorem SE.fld (cs : List Nat) (f : String) (hf : FldOk E.K cs f) (ha : SE X E W a g) (hb : attributeBase a (Str.ofString f) X.env (eval a X.env) = eval a X.env := by rfl) : SE X E W (.Attribute a (Str.ofString f) pos) (eFld cs f g) := by
  obtain ⟨t, p, k⟩ := ha.ex
  refine ⟨ha.hK, _, pe_fld p hb, fun F σ H env S Q q => ?_⟩
  refine k F σ H env S _ ?_
  unfold eFld at q
  cases e1 : g env with
  | un => rw [e1] at q; exact q
  | ex x => rw [e1] at q; exact q
  | ok d =>
    rw [e1, Rs.bind_ok] at q
    intro v fp F1 H1 G1 r1
    cases e2 : pFld cs f d with
    | none => rw [e2] at q; exact q.elim
    | some z =>
      rw [e2] at q
      cases d <;> first | (cases e2; done) | skip
      · rename_i c ns vs
        unfold pFld at e2
        dsimp only at e2
        split at e2
        · rename_i hc
          cases hp : posOf f ns with
          | none => rw [hp] at e2; cases e2
          | some i =>
            rw [hp, Option.bind_some] at e2
            cases r1 with
            | ob h1 h2 h3 h4 =>
              rename_i a0 dx ws
              obtain ⟨u, hu, ru⟩ := h3.get0 e2
              obtain ⟨c1, c2⟩ := hf c hc
              exact ⟨a0, E.K.ca c, dx, nmS ns ws, u, rfl, G1.fh _ _ h1, by rw [ha.hK]; exact c1, by rw [ha.hK]; exact c2, posOf_lookup f ns ws i u hp hu, q u [] F1 H1 G1 ru⟩
        · cases e2
      · rename_i c ns vs
        unfold pFld at e2
        dsimp only at e2
        split at e2
        · rename_i hc
          cases hp : posOf f ns with
          | none => rw [hp] at e2; cases e2
          | some i =>
            rw [hp, Option.bind_some] at e2
            cases r1 with
            | oob h1 h2 h3 h4 =>
              rename_i a0 dx ws f0
              obtain ⟨u, fq, hu, ru⟩ := h3.get e2
              obtain ⟨c1, c2⟩ := hf c hc
              exact ⟨a0, E.K.ca c, dx, nmS ns ws, u, rfl, h1, by rw [ha.hK]; exact c1, by rw [ha.hK]; exact c2, posOf_lookup f ns ws i u hp hu, q u fq F1 H1 G1 ru⟩
        · cases e2
theorem nodup1 (p : Addr) : [p].Nodup := by simp
/-! ### a thing that is data, or owned and new -/
def PostN (E : Ent) (W : WX) (F H : Hp) (σ : St) (Q : VK) : Rs D → Prop
  | .ok d => ∀ v fp F' H', Grow F H F' H' → R E.K F' H' d v fp → fp.Nodup → (∀ a ∈ fp, H a = none ∧ F' a = none) → Q v H'
  | .ex x => ∀ cls dd F' H', Grow F H F' H' → Rx E.K F' H' x cls dd → W cls dd σ H'
  | .un => False
def OkN (E : Ent) (W : WX) (t : TE) (f : En → Rs D) : Prop := ∀ F σ H env, Stt E F env σ H → ∀ Q, PostN E W F H σ Q (f env) → t σ H Q
structure SN (X : Cx) (E : Ent) (W : WX) (e : Expr) (f : En → Rs D) : Prop where
  hK : X.K = E.K.k
  ex : ∃ t, PE X e t ∧ OkN E W t f
def eDat (f : En → Rs D) : En → Rs D := fun env => (f env).bind fun d => if isData d then .ok d else .un
theorem SN.dat (h : SE X E W e f) : SN X E W e (eDat f) := by
  obtain ⟨t, p, k⟩ := h.ex
  refine ⟨h.hK, t, p, fun F σ H env S Q q => k F σ H env S Q ?_⟩
  unfold eDat at q
  cases e1 : f env with
  | un => rw [e1] at q; exact q
  | ex x => rw [e1] at q; exact q
  | ok d =>
    rw [e1, Rs.bind_ok] at q
    split at q
    · rename_i hd
      exact fun v fp F' H' G r => q v [] F' H' G (r.toData hd) List.nodup_nil fun a z => nomatch z
    · exact q.elim
def eNewL (f : En → Rs (List D)) : En → Rs D := fun env => (f env).bind fun ds => .ok (.olst ds)
theorem SN.lst {fl : En → Rs (List D)} (h : SL X E W e fl) : SN X E W e (eNewL fl) := by
  obtain ⟨t, p, k⟩ := h.ex
  refine ⟨h.hK, t, p, fun F σ H env S Q q => k F σ H env S Q ?_⟩
  unfold eNewL at q
  cases e1 : fl env with
  | un => rw [e1] at q; exact q
  | ex x => rw [e1] at q; exact q
  | ok ds =>
    rw [e1, Rs.bind_ok] at q
    exact fun p vs F' H' G hp hF hH r hz => q _ [p] F' H' G (.olst hH r hz) (nodup1 p) fun a z => by
      rw [List.mem_singleton.mp z]; exact ⟨hp, hF⟩
/-- an empty dict; t: its keys will be tuples -/
def eNewD (t : Bool) : En → Rs D := fun _ => .ok (.odic t [] [])
theorem SN.dicK (hK : X.K = E.K.k := by rfl) : SN X E W (.Dict [] [] pos) (eNewD false) := ⟨hK, _, pe_dnewK, fun F σ H env S Q q p hp =>
  q _ [p] F (upd H p (.dK [])) (Grow.own S.fH hp) (.odicK (ks := []) (vs := []) (ds := []) upd_same .nil rfl) (nodup1 p) fun a z => by
    rw [List.mem_singleton.mp z]
    exact ⟨hp, S.fH.free hp⟩⟩
theorem SN.dicT (hK : X.K = E.K.k := by rfl) : SN X E W (.Dict [] [] pos) (eNewD true) := ⟨hK, _, pe_dnewT, fun F σ H env S Q q p hp =>
  q _ [p] F (upd H p (.dT [])) (Grow.own S.fH hp) (.odicT (ks := []) (vs := []) (ds := []) upd_same .nil rfl) (nodup1 p) fun a z => by
    rw [List.mem_singleton.mp z]
    exact ⟨hp, S.fH.free hp⟩⟩
/-- x = a new thing -/
def sSetN (i : Nat) (f : En → Rs D) : En → Fl := fun env => match f env with
  | .ok d => .nx (env.set i (some d))
  | .ex x => .xx x env
  | .un => .un
theorem Stt.h0_none {F H : Hp} {env : En} {σ : St} (S : Stt E F env σ H) {a : Addr} (h : H a = none) : E.H0 a = none := by
  cases q : E.H0 a with
  | none => rfl
  | some o =>
    exfalso
    by_cases hno : ∀ i, a ∉ E.own i
    · have := S.keep a o q hno
      rw [h] at this; cases this
    · have : ∃ i, a ∈ E.own i := Classical.byContradiction fun z => hno fun i hi => z ⟨i, hi⟩
      obtain ⟨j, hj⟩ := this
      obtain ⟨o', ho'⟩ := S.ownS j a hj
      rw [h] at ho'; cases ho'
theorem SS.setN (i : Nat) {y : Str} {py : Pos} (hf : SN X E W e f) (hN : X.N.Nodup) (hy : X.N[i]? = some y := by rfl) (hl : Loc X.env.scope y := by first | exact Or.inl rfl | exact Or.inr rfl)
    (hs : swapsWith e (some (.Name y py)) pos.line X.env = pure false := by rfl) (hfn : X.fn y = true ∨ X.env.scope.names.lookup y = some .local := by first | exact .inl rfl | exact .inr rfl) : SS X E W (.Assign [.Name y py] e pos) (sSetN i f) := by
  obtain ⟨t, p, k⟩ := hf.ex
  refine ⟨hf.hK, _, ps_set hN hy hl p hs hfn, ?_⟩
  intro F σ H env S D q
  refine k F σ H env S _ ?_
  unfold sSetN at q
  cases e1 : f env with
  | un => rw [e1] at q; exact q
  | ex x => rw [e1] at q; exact fun cls dd F' H' G r => q cls dd F' σ H' G.f (S.grow G) r
  | ok d =>
    rw [e1] at q
    exact fun v fp F' H' G r hn hf => q F' _ H' G.f (S.setNew i r G hn fun a ha => ⟨(hf a ha).1, (hf a ha).2, S.h0_none (hf a ha).1⟩)
/-! ### an attribute set: self.f = e, self the variable i -/
def putN (f : String) (d : D) (ns : List String) (vs : List D) : List String × List D := match posOf f ns with
  | some i => (ns, vs.set i d)
  | none => (ns ++ [f], vs ++ [d])
theorem putF_set (f : String) (y : V) : ∀ (ns : List String) (ws : List V) (i : Nat), posOf f ns = some i → ns.length = ws.length → putF (Str.ofString f) y (nmS ns ws) = nmS ns (ws.set i y)
  | [], _, _, h, _ => by cases h
  | n :: ns, [], _, _, h => by simp at h
  | n :: ns, w :: ws, i, h, hl => by
    unfold posOf at h
    show putF (Str.ofString f) y ((Str.ofString n, w) :: nmS ns ws) = _
    unfold putF
    by_cases hn : n = f
    · rw [if_pos hn] at h
      cases h
      subst hn
      rw [if_pos rfl]
      rfl
    · rw [if_neg hn] at h
      rw [if_neg fun z => hn (ofString_inj z)]
      cases hp : posOf f ns with
      | none => rw [hp] at h; cases h
      | some j =>
        rw [hp] at h
        cases h
        rw [putF_set f y ns ws j hp (by simpa using hl)]
        rfl
theorem putF_new (f : String) (y : V) : ∀ (ns : List String) (ws : List V), posOf f ns = none → ns.length = ws.length → putF (Str.ofString f) y (nmS ns ws) = nmS (ns ++ [f]) (ws ++ [y])
  | [], [], _, _ => rfl
  | [], _ :: _, _, h => by simp at h
  | n :: ns, [], _, h => by simp at h
  | n :: ns, w :: ws, h, hl => by
    unfold posOf at h
    show putF (Str.ofString f) y ((Str.ofString n, w) :: nmS ns ws) = _
    unfold putF
    by_cases hn : n = f
    · rw [if_pos hn] at h; cases h
    · rw [if_neg hn] at h
      rw [if_neg fun z => hn (ofString_inj z)]
      cases hp : posOf f ns with
      | some j => rw [hp] at h; cases h
      | none =>
        rw [putF_new f y ns ws hp (by simpa using hl)]
        rfl
def sSetF (cs : List Nat) (i : Nat) (f : String) (fe : En → Rs D) : En → Fl := fun env => match fe env with
  | .ok d => match env[i]? with
    | some (some d0) => match peel d0 with
      | .oob c ns vs => if c ∈ cs ∧ ns.length < 900 then .nx (env.set i (some (putRoot d0 (.oob c (putN f d ns vs).1 (putN f d ns vs).2)))) else .un
      | _ => .un
    | _ => .un
  | .ex x => .xx x env
  | .un => .un
theorem RL.put : ∀ {K : Kx} {F H : Hp} {ds : List D} {ws : List V} {fp : List Addr} {i : Nat}, RL K F H ds ws fp → i < ds.length → ∃ pre fq post, fp = pre ++ (fq ++ post) ∧
    ∀ (F' H' : Hp) (d : D) (v : V) (fq' : List Addr), Same F F' → (∀ a ∈ pre ++ post, H' a = H a) → R K F' H' d v fq' → RL K F' H' (ds.set i d) (ws.set i v) (pre ++ (fq' ++ post))
  | _, _, _, _, _, _, _, .nil, h => by simp at h
  | _, _, _, _, _, _, 0, .cons (fp := f0) (fq := fq) h t, _ =>
    ⟨[], f0, fq, rfl, fun F' H' d v fq' s k r => RL.cons (fp := fq') (fq := fq) r (RL.mono s _ (fun a z => k a (by simpa using z)) t)⟩
  | _, _, _, _, _, _, i + 1, .cons (fp := f0) h t, z => by
    obtain ⟨pre, fq, post, e1, k⟩ := RL.put (i := i) t (by simpa using z)
    refine ⟨f0 ++ pre, fq, post, by rw [e1, List.append_assoc], fun F' H' d v fq' s kk r' => ?_⟩
    rw [List.append_assoc]
    refine .cons (R.mono s _ (fun a z => kk a (by simp [z])) h) (k F' H' d v fq' s (fun a z => kk a ?_) r')
    rcases List.mem_append.mp z with z | z
    · simp [z]
    · simp [z]
theorem posOf_lt (f : String) : ∀ (ns : List String) (i : Nat), posOf f ns = some i → i < ns.length
  | [], _, h => by cases h
  | n :: ns, i, h => by
    unfold posOf at h
    split at h
    · cases h; simp
    · cases hp : posOf f ns with
      | none => rw [hp] at h; cases h
      | some j =>
        rw [hp] at h; cases h
        have := posOf_lt f ns j hp
        simp; omega
theorem nmS_len (ns : List String) (ws : List V) : (nmS ns ws).length ≤ ns.length := by
  unfold nmS
  rw [List.length_zip, List.length_map]
  omega
/-- the instance with an attribute put: its children -/
theorem RL.putN {K : Kx} {F H : Hp} {ns : List String} {vs : List D} {ws : List V} {f0 : List Addr} (f : String) (h : RL K F H vs ws f0) (hl : ns.length = vs.length) :
    ∃ keepA : List Addr, (∀ a ∈ keepA, a ∈ f0) ∧ keepA.Sublist f0 ∧ ∀ (F' H' : Hp) (d : D) (v : V) (fq : List Addr), Same F F' → (∀ a ∈ f0, H' a = H a) → fq.Nodup → f0.Nodup → (∀ a ∈ fq, a ∉ f0) → R K F' H' d v fq →
      ∃ fr, RL K F' H' (Z.putN f d ns vs).2 (match posOf f ns with | some i => ws.set i v | none => ws ++ [v]) fr ∧ fr.Nodup ∧ (∀ a ∈ fr, a ∈ f0 ∨ a ∈ fq) ∧ (Z.putN f d ns vs).1.length = (Z.putN f d ns vs).2.length ∧
        putF (Str.ofString f) v (nmS ns ws) = nmS (Z.putN f d ns vs).1 (match posOf f ns with | some i => ws.set i v | none => ws ++ [v]) := by
  refine ⟨f0, fun _ z => z, List.Sublist.refl _, fun F' H' d v fq s kk hn hn0 hx r => ?_⟩
  have hw : ns.length = ws.length := hl.trans h.len.symm
  unfold Z.putN
  cases hp : posOf f ns with
  | some i =>
    obtain ⟨pre, fm, post, e1, k⟩ := h.put (i := i) (by rw [← hl]; exact posOf_lt f ns i hp)
    have hin : ∀ a, a ∈ pre ++ post → a ∈ f0 := fun a z => by rw [e1]; rcases List.mem_append.mp z with z | z <;> simp [z]
    refine ⟨_, k F' H' d v fq s (fun a z => kk a (hin a z)) r, ?_, fun a z => ?_, by dsimp only; rw [List.length_set, hl], putF_set f v ns ws i hp hw⟩
    · rw [e1] at hn0
      obtain ⟨n1, n2, n3⟩ := List.nodup_append.mp hn0
      obtain ⟨n4, n5, n6⟩ := List.nodup_append.mp n2
      refine List.nodup_append.mpr ⟨n1, List.nodup_append.mpr ⟨hn, n5, fun a ha b hb e => ?_⟩, fun a ha b hb e => ?_⟩
      · subst e; exact hx a ha (hin a (by simp [hb]))
      · subst e
        rcases List.mem_append.mp hb with hb | hb
        · exact hx a hb (hin a (by simp [ha]))
        · exact n3 a ha a (by simp [hb]) rfl
    · rcases List.mem_append.mp z with z | z
      · exact .inl (hin a (by simp [z]))
      · rcases List.mem_append.mp z with z | z
        · exact .inr z
        · exact .inl (hin a (by simp [z]))
  | none =>
    refine ⟨f0 ++ fq, (RL.mono s _ kk h).snoc r, ?_, fun a z => List.mem_append.mp z, by simp [hl], putF_new f v ns ws hp hw⟩
    refine List.nodup_append.mpr ⟨hn0, hn, fun a ha b hb e => ?_⟩
    subst e
    exact hx a hb ha
theorem SS.setF (cs : List Nat) (i : Nat) (f : String) {y : Str} {py p' : Pos} (hc : FldOk E.K cs f) (hf : SN X E W e g) (hN : X.N[i]? = some y := by rfl) (hv : Vis X.env.scope y := by first | exact Or.inl rfl | exact Or.inr (Or.inl rfl) | exact Or.inr (Or.inr rfl))
    (hd : (y == ("__debug__" : Str)) = false := by decide) (hcd : (y == ("__classdict__" : Str)) = false := by decide) (hs : swapsWith e (some (.Attribute (.Name y py) (Str.ofString f) p')) pos.line X.env = pure false := by rfl) :
    SS X E W (.Assign [.Attribute (.Name y py) (Str.ofString f) p'] e pos) (sSetF cs i f g) := by
  obtain ⟨t, p, k⟩ := hf.ex
  refine ⟨hf.hK, _, ps_fld (pe_var hN hv hd hcd) p hs, fun F σ H env S D q => ?_⟩
  refine k F σ H env S _ ?_
  unfold sSetF at q
  cases e1 : g env with
  | un => rw [e1] at q; exact q
  | ex x => rw [e1] at q; exact fun cls dd F' H' G r => q cls dd F' σ H' G.f (S.grow G) r
  | ok d =>
    rw [e1] at q
    dsimp only at q
    intro v fp F1 H1 G1 r1 hn hfr
    split at q
    · rename_i d0 he
      split at q
      · rename_i c ns vs hpe
        split at q
        · rename_i hcl
          obtain ⟨v0, u, fq, g1, r2, n2, f2, hr, kk⟩ := S.chg (p := []) he (show subD d0 [] = some (.oob c ns vs) by rw [← hpe]; rfl)
          obtain rfl := hr rfl
          obtain ⟨c1, c2⟩ := hc c hcl.1
          cases r2 with
          | oob h1 h2 h3 h4 =>
            rename_i a dx ws f0
            refine ⟨.ref a, g1, a, E.K.ca c, dx, nmS ns ws, rfl, G1.h _ _ h1, by rw [hf.hK]; exact c1, by rw [hf.hK]; exact c2, ?_, ?_⟩
            · have := nmS_len ns ws; omega
            · obtain ⟨m1, m2⟩ := List.nodup_cons.mp n2
              obtain ⟨m3, m4⟩ := List.nodup_cons.mp m2
              have hda : dx ≠ a := fun z => m1 (by rw [z]; exact List.mem_cons_self)
              have hf0a : ∀ b ∈ f0, b ≠ a := fun b hb z => m1 (by rw [← z]; exact List.mem_cons_of_mem _ hb)
              have hH : ∀ b ∈ f0, ∃ o, H b = some o := fun b hb => h3.fp_some _ b hb
              have hx : ∀ b ∈ fp, b ∉ a :: dx :: f0 := fun b hb z => by
                have hnone := (hfr b hb).1
                rcases List.mem_cons.mp z with z | z
                · rw [z, h1] at hnone; cases hnone
                · rcases List.mem_cons.mp z with z | z
                  · rw [z, h2] at hnone; cases hnone
                  · obtain ⟨o, ho⟩ := hH b z
                    rw [ho] at hnone; cases hnone
              have hfpa : ∀ b ∈ fp, b ≠ a := fun b hb z => hx b hb (by rw [z]; exact List.mem_cons_self)
              obtain ⟨_, _, _, kp⟩ := RL.putN f h3 h4
              obtain ⟨fr, q1, q2, q3, q4, q5⟩ := kp F1 (upd H1 a (.ins (E.K.ca c) dx (putF (Str.ofString f) v (nmS ns ws)))) d v fp G1.f (fun b hb => by
                obtain ⟨o, ho⟩ := hH b hb
                rw [upd_ne (hf0a b hb), ho, G1.h b o ho]) hn m4 (fun b hb z => hx b hb (by simp [z])) (R.mono (Same.refl _) _ (fun b hb => upd_ne (hfpa b hb)) r1)
              have hF1 : ∀ b ∈ a :: dx :: f0, F1 b = none := fun b hb => by
                have hs : ∃ o, H b = some o := by
                  rcases List.mem_cons.mp hb with z | z
                  · rw [z]; exact ⟨_, h1⟩
                  · rcases List.mem_cons.mp z with z | z
                    · rw [z]; exact ⟨_, h2⟩
                    · exact hH b z
                obtain ⟨o, ho⟩ := hs
                rw [G1.o b o ho]
                exact f2 b hb
              refine q F1 σ _ G1.f (kk F1 _ _ (a :: dx :: fr) ⟨G1.f, fun b o hb => ?_, fun b o hb hnb => ?_, fun b o hb _ => G1.o b o hb, fun b hb => ?_, fun b hb => ?_, ?_⟩ (List.cons_ne_nil _ _) (.oob (by rw [upd_same, q5]) ?_ q1 q4))
              · rw [upd_ne fun z => ?_]
                · exact G1.fh b o hb
                · rw [z, hF1 a List.mem_cons_self] at hb; cases hb
              · rw [upd_ne fun z => hnb (by rw [z]; exact List.mem_cons_self)]
                exact G1.h b o hb
              · by_cases hba : b = a
                · exact ⟨_, by rw [hba]; exact upd_same⟩
                · rw [upd_ne hba]
                  rcases List.mem_cons.mp hb with z | z
                  · exact absurd z hba
                  · rcases List.mem_cons.mp z with z | z
                    · rw [z]; exact ⟨_, G1.h _ _ h2⟩
                    · obtain ⟨o, ho⟩ := hH b z
                      exact ⟨o, G1.h b o ho⟩
              · rcases List.mem_cons.mp hb with z | z
                · rw [z]; exact ⟨hF1 a List.mem_cons_self, .inl List.mem_cons_self⟩
                · rcases List.mem_cons.mp z with z | z
                  · rw [z]; exact ⟨hF1 dx (by simp), .inl (by simp)⟩
                  · rcases q3 b z with z | z
                    · exact ⟨hF1 b (by simp [z]), .inl (by simp [z])⟩
                    · exact ⟨(hfr b z).2, .inr (hfr b z).1⟩
              · have inn : ∀ b ∈ fr, b ∈ f0 ∨ b ∈ fp := q3
                refine List.nodup_cons.mpr ⟨fun z => ?_, List.nodup_cons.mpr ⟨fun z => ?_, q2⟩⟩
                · rcases List.mem_cons.mp z with z | z
                  · exact hda z.symm
                  · rcases inn a z with z | z
                    · exact hf0a a z rfl
                    · exact hfpa a z rfl
                · rcases inn dx z with z | z
                  · exact m3 z
                  · exact hx dx z (by simp)
              · rw [upd_ne hda]
                exact G1.h _ _ h2
        · exact q.elim
      · exact q.elim
    · exact q.elim
end
end Z

set_option Elab.async false
set_option linter.all false
set_option maxRecDepth 100000
set_option maxHeartbeats 1000000
/-! ZE: calls by positional promises whose exceptions are taken by the slots as they stand; instances made -/
namespace Z
open PySem L2
/-- what a callee may let out is taken, the slots as they are at the call -/
def PassW (CX : CXT) (X : Cx) (W : WX) : Prop := ∀ (pins : List (Addr × Obj)) (σ : St) (H : Hp) (s : Shared) (e : Value) (s' : Shared), Inv X pins σ H s → CX X.stack H s (fun c d H' => W c d σ H') e s' → X.xe e s'
section
variable {X : Cx} {CX : CXT} {k : Nat} {f C : Addr} {sp : Sp} {W : WX} {x : Str} {e o : Expr} {es : List Expr} {t : TA} {ta : TE} {p pos apos : Pos}
theorem run_fnW {pins : List (Addr × Obj)} {σ : L2.St} {H : Hp} {s : Shared} {Q : VK} {us : List Value} {vs : List V} (F : FnR X.prog X.w X.K X.mg X.base CX k f sp) (hr : Room k X.A) (hx : PassW CX X W) (I : Inv X pins σ H s) (r : Vals vs us) (h : sp vs H Q (fun c d H' => W c d σ H')) :
    codeAny (model X.prog X.w) X.A (.call (.ref f) ⟨us, []⟩) (fun r s' => match r with | .ok (.ret v) => EP X pins σ Q v s' | .ok _ => False | .error e => X.xe e s') s := by
  refine codeAny_mono (F X.A X.stack s H us vs Q _ hr I.env0 r h) fun r s' hq => ?_
  cases r with
  | error e => exact hx pins σ H s e s' I hq
  | ok fl =>
    cases fl with
    | ret u => exact I.after hq
    | next => exact False.elim hq
    | brk => exact False.elim hq
    | cont => exact False.elim hq
theorem pe_callW (F : FnR X.prog X.w X.K X.mg X.base CX k f sp) (hr : Room k X.A) (hk : PySem.W.keepIn X.K (.ref f) = true) (hg : Gl X x) (hm : X.mg x = some (.ref f)) (hx : PassW CX X W) (ha : PA X (e :: es) t) (hd : (x == ("__debug__" : Str)) = false := by decide)
    (he : starEach (e :: es) X.env = (false, eval e X.env) :: starEach es X.env := by rfl) (hpl : (backTo pos (starEach es X.env)).any (·.1) = false := by rfl) :
    PE X (.Call (.Name x p) (e :: es) [] pos) (fun σ H Q => t σ H fun vs H1 => sp vs H1 Q (fun c d H' => W c d σ H')) := by
  refine ⟨fun pins s σ H Q I h => ?_⟩
  refine wpAny_Call_Name_kw (ld_glob I hg hm ?_ hd)
  refine PySem.W.callWith_K (h₀ := X.base) I.ok.mod.kin hk (thn (ha.run pos pins s σ H _ I h) fun us s1 ⟨vs, H1, I1, r, q⟩ => ⟨I1.kIn, ?_⟩) he hpl
  exact wpAny_call (run_fnW F hr hx I1 r q)
theorem pe_callW0 (F : FnR X.prog X.w X.K X.mg X.base CX k f sp) (hr : Room k X.A) (hk : PySem.W.keepIn X.K (.ref f) = true) (hg : Gl X x) (hm : X.mg x = some (.ref f)) (hx : PassW CX X W) (hd : (x == ("__debug__" : Str)) = false := by decide) :
    PE X (.Call (.Name x p) [] [] pos) (fun σ H Q => sp [] H Q (fun c d H' => W c d σ H')) := by
  refine ⟨fun pins s σ H Q I h => ?_⟩
  refine wpAny_Call_Name_kw (ld_glob I hg hm ?_ hd)
  exact PySem.W.callWith_K0 I.kIn hk (wpAny_call (run_fnW (us := []) F hr hx I .nil h))
/-- C(e, ..): a new instance, then __init__ -/
theorem run_makeW {pins : List (Addr × Obj)} {σ : L2.St} {H : Hp} {s : Shared} {Q : VK} {us : List Value} {vs : List V} (M : Mk X.K C f) (F : FnR X.prog X.w X.K X.mg X.base CX k f sp) (hr : Room (k + 1) X.A) (hx : PassW CX X W) (I : Inv X pins σ H s) (r : Vals vs us)
    (h : ∀ x dx, H x = Option.none → H dx = Option.none → dx ≠ x → sp (V.ref x :: vs) (upd (upd H dx (.own x)) x (.ins C dx [])) (fun v H2 => v = .non ∧ Q (.ref x) H2) (fun c d H' => W c d σ H')) :
    wpAny (model X.prog X.w) X.A (call (.ref C) us) (EP X pins σ Q) X.xe s := by
  have hq := h (s.heap.objs.size + 1) s.heap.objs.size (I.hok.fresh (Nat.le_succ _)) (I.hok.fresh (Nat.le_refl _)) (Nat.ne_of_lt (Nat.lt_succ_self _))
  have I2 := Inv.made (C := C) I
  have r2 : Vals (V.ref (s.heap.objs.size + 1) :: vs) (Value.ref (s.heap.objs.size + 1) :: us) := .cons rfl r
  refine wpAny_call (make_map (f := f) I.kIn M.makes M.init (beq_iff_eq.mp M.fn) (codeAny_mono (F _ X.stack _ _ (Value.ref (s.heap.objs.size + 1) :: us) _ _ _ (hr.make C us []) (I2.env0.make C us []) r2 hq) fun r s' hq' => ?_))
  cases r with
  | error e => exact hx pins σ _ _ e s' I2 hq'
  | ok fl =>
    cases fl with
    | ret u =>
      obtain ⟨v, H', I3, rv, ev, q3⟩ := I2.after hq'
      subst ev
      exact ⟨rv, ⟨V.ref (s.heap.objs.size + 1), H', I3, rfl, q3⟩⟩
    | next => exact False.elim hq'
    | brk => exact False.elim hq'
    | cont => exact False.elim hq'
theorem pe_makeW (M : Mk X.K C f) (F : FnR X.prog X.w X.K X.mg X.base CX k f sp) (hr : Room (k + 1) X.A) (hg : Gl X x) (hm : X.mg x = some (.ref C)) (hx : PassW CX X W) (ha : PA X (e :: es) t) (hdb : (x == ("__debug__" : Str)) = false := by decide)
    (he : starEach (e :: es) X.env = (false, eval e X.env) :: starEach es X.env := by rfl) (hpl : (backTo pos (starEach es X.env)).any (·.1) = false := by rfl) :
    PE X (.Call (.Name x p) (e :: es) [] pos) (fun σ H Q => t σ H fun vs H1 => ∀ x dx, H1 x = Option.none → H1 dx = Option.none → dx ≠ x →
      sp (V.ref x :: vs) (upd (upd H1 dx (.own x)) x (.ins C dx [])) (fun v H2 => v = .non ∧ Q (.ref x) H2) (fun c d H' => W c d σ H')) := by
  refine ⟨fun pins s σ H Q I h => ?_⟩
  refine wpAny_Call_Name_kw (ld_glob I hg hm ?_ hdb)
  refine PySem.W.callWith_K (h₀ := X.base) I.ok.mod.kin M.kp (thn (ha.run pos pins s σ H _ I h) fun us s1 ⟨vs, H1, I1, r, q⟩ => ⟨I1.kIn, ?_⟩) he hpl
  exact run_makeW M F hr hx I1 r q
end
/-- by HandS.Exc: what a wish W takes -/
theorem passW_of {X : Cx} {W : WX} (tk : Takes X W) : PassW (L2.CX X.prog X.w) X W := fun _ σ _ _ _ _ I c => tk _ _ (XE.of_call I (fun _ _ _ h => h) c)
theorem passW0 {X : Cx} {W : WX} : PassW CX0 X W := fun _ _ _ _ _ _ _ h => h.elim
/-! ### data does not ask what was lent -/
mutual
theorem R.reK {K K' : Kx} {F H : Hp} (hk : K'.k = K.k) (hc : K'.ca = K.ca) : ∀ (d : D) {v : V} {fp : List Addr}, fp = [] → R K F H d v fp → R K' F H d v []
  | .non, _, _, _, h => by cases h; exact .non
  | .bl _, _, _, _, h => by cases h; exact .bl _
  | .int _, _, _, _, h => by cases h; exact .int _
  | .str _, _, _, _, h => by
    cases h with
    | str k => exact .str k
  | .tup ds, _, _, _, h => by
    cases h with
    | tup hs hl hz => exact .tup hs (RL.reK hk hc ds rfl hl) hz
  | .lst ds, _, _, _, h => by
    cases h with
    | lst hs hl hz => exact .lst hs (RL.reK hk hc ds rfl hl) hz
  | .olst ds, _, _, z, h => by cases h; cases z
  | .dic t ks ds, _, _, _, h => by
    cases h with
    | dicK hs hl hz => exact .dicK hs (RL.reK hk hc ds rfl hl) hz
    | dicT hs hl hz => exact .dicT hs (RL.reK hk hc ds rfl hl) hz
  | .odic _ _ _, _, _, z, h => by cases h <;> cases z
  | .set _, _, _, _, h => nomatch h
  | .oset _, _, _, _, h => nomatch h
  | .ob c ns ds, _, _, _, h => by
    cases h with
    | ob hs hd hl hz => exact .ob (by rw [hc]; exact hs) hd (RL.reK hk hc ds rfl hl) hz
  | .oob _ _ _, _, _, z, h => by cases h; cases z
  | .scr _, _, _, _, h => by
    cases h with
    | scr a b => exact .scr (by rw [hk]; exact a) b
  | .bor _ _, _, _, z, h => by
    cases h with
    | bor _ _ n => exact absurd z n
  | .exn _ _ _ _ _ _, _, _, _, h => by
    cases h with
    | exn a b c => rw [← hc]; exact .exn a (RL.reK hk hc _ rfl b) c
theorem RL.reK {K K' : Kx} {F H : Hp} (hk : K'.k = K.k) (hc : K'.ca = K.ca) : ∀ (ds : List D) {vs : List V} {fp : List Addr}, fp = [] → RL K F H ds vs fp → RL K' F H ds vs []
  | [], _, _, _, h => by cases h; exact .nil
  | d :: ds, _, _, z, h => by
    cases h with
    | cons h1 h2 =>
      obtain ⟨e1, e2⟩ := List.append_eq_nil_iff.mp z
      exact RL.mk0 (R.reK hk hc d e1 h1) (RL.reK hk hc ds e2 h2)
end
end Z

set_option Elab.async false
set_option linter.all false
set_option maxRecDepth 100000
set_option maxHeartbeats 1000000
/-! ZF: defs that may raise; __init__ -/
namespace Z
open PySem L2
section
variable {P : Program} {w : World} {K : Kx} {mg : Str → Option Value} {base : Heap}
/-- a def that may raise: its meaning is runB g n -/
theorem fnX {x qual : Str} {st : Stmt} {f : Addr} {fd : FuncData} {N ps : List Str} {k np n : Nat} {g : En → Fl} {m : List D → Rs D} (Fn : Fun K.k x qual st f fd) (S : FnScope N ps (defScope st))
    (hm : m = runB g n) (hn : N.length = n) (hp : ps.length = np)
    (hb : ∀ (cdv : Value) (A : Around) (outer : List Env) (s : Shared) (H : Hp) (Ex : XK) (F0 : Hp), Room k (A.deeper (PyProof.Rows.envOfC qual (defScope st) s.heap.objs.size f cdv)) →
      SB (cxOf (L2.CX P w) P w K.k mg base N qual (defScope st) f cdv A outer s H Ex) ⟨K, H, F0, fun _ => []⟩ (fun c d _ H' => Ex c d H') (defBody st) g) : FnOk P w K.k mg base (L2.CX P w) (k + 1) f fd ps (spP K np m) := by
  subst hm hn hp
  refine Fn.okX S (fun vs H Q E h => ?_) (fun cdv A outer s H vs Q Ex hr h => ?_)
  · obtain ⟨ds, F, _, hl, hn, _⟩ := h
    rw [hl.len, hn]
  · obtain ⟨ds, F, hs, hl, hn, q⟩ := h
    obtain ⟨t, p, k⟩ := (hb cdv A outer s H Ex F hr).ex
    refine ⟨t, p, k F _ H _ (stt_start hs hl) _ ?_⟩
    unfold runB at q
    cases e : g (start0 N.length ds) with
    | nx en => rw [e] at q; exact fun F' σ' H' G S' => q _ F' H' (stt_end S') .non
    | bk en => rw [e] at q; exact q.elim
    | ct en => rw [e] at q; exact q.elim
    | rt d en => rw [e] at q; exact fun v F' σ' H' G S' r => q v F' H' (stt_end S') r
    | xx x en => rw [e] at q; exact fun cls dd F' σ' H' G S' r => q cls dd F' H' (stt_end S') r
    | un => rw [e] at q; exact q
/-- the promise of __init__: m from the arguments to the instance, which stands still behind it -/
def PostIn (K : Kx) (F H : Hp) (a dx : Addr) (Q : VK) (Ex : XK) : Rs D → Prop
  | .ok d => ∀ F' H', Same F F' → Same F' H' → (∀ b o, H b = some o → b ≠ a → b ≠ dx → H' b = some o ∧ F' b = F b) → R K F' H' d (.ref a) [] → Q .non H'
  | .ex x => ∀ cls dd F' H', Same F F' → Same F' H' → (∀ b o, H b = some o → b ≠ a → b ≠ dx → H' b = some o ∧ F' b = F b) → Rx K F' H' x cls dd → Ex cls dd H'
  | .un => False
def spI (K : Kx) (c n : Nat) (m : List D → Rs D) : Sp := fun vs H Q Ex => ∃ ds F a dx ws, vs = .ref a :: ws ∧ Same F H ∧ H a = some (.ins (K.ca c) dx []) ∧ H dx = some (.own a) ∧ a ≠ dx ∧ F a = none ∧ F dx = none ∧ RL K F H ds ws [] ∧ ds.length + 1 = n ∧ PostIn K F H a dx Q Ex (m ds)
/-- what the body leaves in the slot 0 -/
def outI : Fl → Rs D
  | .nx e => match e[0]? with
    | some (some (D.bor 0 d)) => .ok (frzD d)
    | _ => .un
  | .xx x _ => .ex x
  | _ => .un
def runI (c : Nat) (g : En → Fl) (n : Nat) (ds : List D) : Rs D := outI (g (start0 n (.bor 0 (.oob c [] []) :: ds)))
theorem Rx.reK {K K' : Kx} {F H : Hp} {x : D} {cls : Value} {dd : Option Addr} (hk : K'.k = K.k) (hc : K'.ca = K.ca) (h : Rx K F H x cls dd) : Rx K' F H x cls dd := by
  cases x <;> first | exact h | exact h.elim | skip
  obtain ⟨h1, h2, h3⟩ := h
  refine ⟨by rw [hc]; exact h1, h2, ?_⟩
  rcases h3 with h3 | ⟨a, fs, e1, e2, k⟩
  · exact .inl h3
  · exact .inr ⟨a, fs, e1, e2, fun i n d q1 q2 => by
      obtain ⟨v, l, r⟩ := k i n d q1 q2
      exact ⟨v, l, R.reK hk hc d rfl r⟩⟩
theorem fnI {x qual : Str} {st : Stmt} {f : Addr} {fd : FuncData} {N ps : List Str} {k np n c : Nat} {g : En → Fl} {m : List D → Rs D} (Fn : Fun K.k x qual st f fd) (S : FnScope N ps (defScope st))
    (hm : m = runI c g n) (hn : N.length = n) (hp : ps.length = np)
    (hb : ∀ (cdv : Value) (A : Around) (outer : List Env) (s : Shared) (H : Hp) (Ex : XK) (F0 : Hp) (a dx : Addr), Room k (A.deeper (PyProof.Rows.envOfC qual (defScope st) s.heap.objs.size f cdv)) →
      SB (cxOf (L2.CX P w) P w K.k mg base N qual (defScope st) f cdv A outer s H Ex) ⟨⟨K.k, K.ca, fun _ => a⟩, H, F0, fun i => if i = 0 then [a, dx] else []⟩ (fun c d _ H' => Ex c d H') (defBody st) g) : FnOk P w K.k mg base (L2.CX P w) (k + 1) f fd ps (spI K c np m) := by
  subst hm hn hp
  refine Fn.okX S (fun vs H Q E h => ?_) (fun cdv A outer s H vs Q Ex hr h => ?_)
  · obtain ⟨ds, F, a, dx, ws, rfl, _, _, _, _, _, _, hl, hn, _⟩ := h
    rw [List.length_cons, hl.len, hn]
  · obtain ⟨ds, F, a, dx, ws, rfl, hs, ha, hdx, hne, hFa, hFd, hl, hn, q⟩ := h
    obtain ⟨t, p, k⟩ := (hb cdv A outer s H Ex F a dx hr).ex
    have hl' : RL ⟨K.k, K.ca, fun _ => a⟩ F H ds ws [] := RL.reK (K := K) (K' := ⟨K.k, K.ca, fun _ => a⟩) rfl rfl ds rfl hl
    have r0 : R ⟨K.k, K.ca, fun _ => a⟩ F H (.bor 0 (.oob c [] [])) (.ref a) [a, dx] := .bor (.oob (vs := []) ha hdx .nil rfl) rfl (List.cons_ne_nil _ _)
    have st0 : Stt ⟨⟨K.k, K.ca, fun _ => a⟩, H, F, fun i => if i = 0 then [a, dx] else []⟩ F (start0 N.length (.bor 0 (.oob c [] []) :: ds)) (L2.start N (.ref a :: ws)) H := by
      refine ⟨Same.refl _, hs, fun b o e _ => e, fun b o e _ => rfl, fun i b hb => ?_, [a, dx] :: List.replicate (ds.length + (N.length - (ds.length + 1))) [], ?_, ?_, ?_⟩
      · have hb : b ∈ (if i = 0 then [a, dx] else ([] : List Addr)) := hb
        split at hb
        · rcases List.mem_cons.mp hb with z | z
          · rw [z]; exact ⟨_, ha⟩
          · rw [List.mem_singleton.mp z]; exact ⟨_, hdx⟩
        · cases hb
      · unfold start0 L2.start
        rw [List.length_cons, List.length_cons, hl.len]
        exact .som r0 (rs_start _ hl')
      · rw [List.flatten_cons, flat_nil, List.append_nil]
        exact List.nodup_cons.mpr ⟨fun z => hne (List.mem_singleton.mp z), nodup1 _⟩
      · intro i fp hi b hb
        cases i with
        | zero =>
          simp at hi
          subst hi
          rcases List.mem_cons.mp hb with z | z
          · rw [z]; exact ⟨hFa, .inr (by simp)⟩
          · rw [List.mem_singleton.mp z]; exact ⟨hFd, .inr (by simp)⟩
        | succ i =>
          rw [List.getElem?_cons_succ, List.getElem?_replicate] at hi
          split at hi
          · cases hi; cases hb
          · cases hi
    refine ⟨t, p, k F _ H _ st0 _ ?_⟩
    have keep : ∀ {F' H' : Hp} {e : En} {σ' : L2.St}, Stt ⟨⟨K.k, K.ca, fun _ => a⟩, H, F, fun i => if i = 0 then [a, dx] else []⟩ F' e σ' H' → ∀ b o, H b = some o → b ≠ a → b ≠ dx → H' b = some o ∧ F' b = F b := fun {F' H' e σ'} S' b o hb h1 h2 => by
      have hno : ∀ i, b ∉ (fun i => if i = 0 then [a, dx] else ([] : List Addr)) i := fun i z => by
        dsimp only at z
        split at z
        · rcases List.mem_cons.mp z with z | z
          · exact h1 z
          · exact h2 (List.mem_singleton.mp z)
        · cases z
      exact ⟨S'.keep b o hb hno, S'.old b o hb hno⟩
    unfold runI at q
    cases e : g (start0 N.length (.bor 0 (.oob c [] []) :: ds)) with
    | nx en =>
      rw [e] at q
      intro F' σ' H' G S'
      unfold outI at q
      dsimp only at q
      split at q
      · rename_i d he
        obtain ⟨fps, rs, nd, fr⟩ := S'.rep
        obtain ⟨v, fp, g1, g2, g3⟩ := rs.get he
        cases g3 with
        | bor r ev hnn =>
          let F2 : Hp := fun b => if b ∈ fp then H' b else F' b
          have hF : ∀ b ∈ fp, F' b = none := fun b z => (fr 0 fp g2 b z).1
          have le : Same F' F2 := fun b u eb => by
            show (if b ∈ fp then H' b else F' b) = some u
            rw [if_neg fun z => by rw [hF b z] at eb; cases eb]
            exact eb
          have fh : Same F2 H' := fun b u eb => by
            have eb : (if b ∈ fp then H' b else F' b) = some u := eb
            by_cases hb : b ∈ fp
            · rw [if_pos hb] at eb; exact eb
            · rw [if_neg hb] at eb; exact S'.fH b u eb
          have r2 := R.frz le d (fun b z => if_pos z) r
          rw [ev] at r2
          refine q F2 H' (S'.le0.trans le) fh (fun b o hb h1 h2 => ?_) (R.reK (K := ⟨K.k, K.ca, fun _ => a⟩) (K' := K) rfl rfl _ rfl r2)
          obtain ⟨k1, k2⟩ := keep S' b o hb h1 h2
          refine ⟨k1, ?_⟩
          rw [← k2]
          show (if b ∈ fp then H' b else F' b) = F' b
          refine if_neg fun z => ?_
          rcases (fr 0 fp g2 b z).2 with h | h
          · rw [show H b = none from h] at hb; cases hb
          · have h : b ∈ [a, dx] := h
            rcases List.mem_cons.mp h with h | h
            · exact h1 h
            · exact h2 (List.mem_singleton.mp h)
      · exact q.elim
    | bk en => rw [e] at q; exact q.elim
    | ct en => rw [e] at q; exact q.elim
    | rt d en => rw [e] at q; exact q.elim
    | xx x en =>
      rw [e] at q
      exact fun cls dd F' σ' H' G S' r => q cls dd F' H' S'.le0 S'.fH (keep S') (Rx.reK (K := ⟨K.k, K.ca, fun _ => a⟩) (K' := K) rfl rfl r)
    | un => rw [e] at q; exact q
end
section
variable {X : Cx} {E : Ent} {W : WX} {e : Expr} {es : List Expr} {pos p : Pos} {fa : En → Rs (List D)}
/-- x(e, ..) that may raise -/
theorem SE.callX {x : Str} {k n : Nat} {fa_ : Addr} {fd : FuncData} {ps : List Str} {m : List D → Rs D} (tk : Takes X W)
    (F : FnOk X.prog X.w X.K X.mg X.base (L2.CX X.prog X.w) k fa_ fd ps (spP E.K n m)) (hr : Room k X.A) (hm : X.mg x = some (.ref fa_)) (hk : PySem.W.keepIn X.K (.ref fa_) = true) (hb : Binds X.K fd ps []) (ha : SA X E W (e :: es) fa) (hg : Gl X x := by rfl)
    (hdb : (x == ("__debug__" : Str)) = false := by decide) (he : starEach (e :: es) X.env = (false, eval e X.env) :: starEach es X.env := by rfl) (hpl : (backTo pos (starEach es X.env)).any (·.1) = false := by rfl) :
    SE X E W (.Call (.Name x p) (e :: es) [] pos) (eApp n m fa) := by
  obtain ⟨t, pa, ka⟩ := ha.ex
  refine ⟨ha.hK, _, pe_callW (W := W) (F.raw hb .nil) hr hk hg hm (passW_of tk) pa hdb he hpl, fun Fz σ H env S Q q => ?_⟩
  refine ka Fz σ H env S _ ?_
  unfold eApp at q
  cases e1 : fa env with
  | un => rw [e1] at q; exact q
  | ex x => rw [e1] at q; exact q
  | ok ds =>
    rw [e1, Rs.bind_ok] at q
    intro vs fp F1 H1 G1 r1
    split at q
    · rename_i hc
      rw [Bool.and_eq_true] at hc
      rw [List.append_nil]
      refine ⟨ds, F1, G1.fh, r1.toData hc.1, of_decide_eq_true hc.2, ?_⟩
      cases e2 : m ds with
      | un => rw [e2] at q; exact q
      | ex x => rw [e2] at q; exact fun cls dd F' H' G r => q cls dd F' H' (G1.trans G) r
      | ok d => rw [e2] at q; exact fun v F' H' G r => q v [] F' H' (G1.trans G) r
    · exact q.elim
/-- C(e, ..): the instance, standing still -/
theorem SE.make {x : Str} {k n c : Nat} {fI : Addr} {fd : FuncData} {ps : List Str} {m : List D → Rs D} (tk : Takes X W) (M : Mk X.K (E.K.ca c) fI)
    (F : FnOk X.prog X.w X.K X.mg X.base (L2.CX X.prog X.w) k fI fd ps (spI E.K c (n + 1) m)) (hr : Room (k + 1) X.A) (hm : X.mg x = some (.ref (E.K.ca c))) (hb : Binds X.K fd ps []) (ha : SA X E W (e :: es) fa) (hg : Gl X x := by rfl)
    (hdb : (x == ("__debug__" : Str)) = false := by decide) (he : starEach (e :: es) X.env = (false, eval e X.env) :: starEach es X.env := by rfl) (hpl : (backTo pos (starEach es X.env)).any (·.1) = false := by rfl) :
    SE X E W (.Call (.Name x p) (e :: es) [] pos) (eApp n m fa) := by
  obtain ⟨t, pa, ka⟩ := ha.ex
  refine ⟨ha.hK, _, pe_makeW (W := W) M (F.raw hb .nil) hr hg hm (passW_of tk) pa hdb he hpl, fun Fz σ H env S Q q => ?_⟩
  refine ka Fz σ H env S _ ?_
  unfold eApp at q
  cases e1 : fa env with
  | un => rw [e1] at q; exact q
  | ex x => rw [e1] at q; exact q
  | ok ds =>
    rw [e1, Rs.bind_ok] at q
    intro vs fp F1 H1 G1 r1 a dx hna hnd hne
    split at q
    · rename_i hc
      rw [Bool.and_eq_true] at hc
      rw [List.append_nil]
      have off : ∀ b o, H1 b = some o → b ≠ a ∧ b ≠ dx := fun b o hb => ⟨(fun z => by rw [z, hna] at hb; exact nomatch hb), (fun z => by rw [z, hnd] at hb; exact nomatch hb)⟩
      have at0 : ∀ b o, H1 b = some o → upd (upd H1 dx (.own a)) a (.ins (E.K.ca c) dx []) b = some o := fun b o hb => by
        rw [upd_ne (off b o hb).1, upd_ne (off b o hb).2]; exact hb
      have grow : ∀ {F' H' : Hp}, Same F1 F' → Same F' H' → (∀ b o, upd (upd H1 dx (.own a)) a (.ins (E.K.ca c) dx []) b = some o → b ≠ a → b ≠ dx → H' b = some o ∧ F' b = F1 b) → Grow F1 H1 F' H' := fun s1 s2 kp =>
        ⟨s1, s2, fun b o hb => (kp b o (at0 b o hb) (off b o hb).1 (off b o hb).2).1, fun b o hb => (kp b o (at0 b o hb) (off b o hb).1 (off b o hb).2).2⟩
      have f0 : ∀ b, H1 b = none → F1 b = none := fun b hb => G1.fh.free hb
      refine ⟨ds, F1, a, dx, vs, rfl, fun b o hb => at0 b o (G1.fh b o hb), upd_same, by rw [upd_ne hne, upd_same], fun z => hne z.symm, f0 a hna, f0 dx hnd, RL.mono (Same.refl _) ds (fun _ z => nomatch z) (r1.toData hc.1), by rw [of_decide_eq_true hc.2], ?_⟩
      cases e2 : m ds with
      | un => rw [e2] at q; exact q
      | ex x => rw [e2] at q; exact fun cls dd F' H' s1 s2 kp r => q cls dd F' H' (G1.trans (grow s1 s2 kp)) r
      | ok d => rw [e2] at q; exact fun F' H' s1 s2 kp r => ⟨rfl, q _ [] F' H' (G1.trans (grow s1 s2 kp)) r⟩
    · exact q.elim
end
end Z

set_option Elab.async false
set_option linter.all false
set_option maxRecDepth 100000
set_option maxHeartbeats 1000000
/-! ZG: methods of instances that stand still -/
namespace Z
open PySem L2
theorem posOf_none (f : String) : ∀ (ns : List String) (ws : List V), posOf f ns = none → (nmS ns ws).lookup (Str.ofString f) = none
  | [], _, _ => rfl
  | n :: ns, [], _ => rfl
  | n :: ns, w :: ws, h => by
    unfold posOf at h
    show List.lookup (Str.ofString f) ((Str.ofString n, w) :: nmS ns ws) = none
    by_cases hn : n = f
    · rw [if_pos hn] at h; cases h
    · rw [if_neg hn] at h
      have hne : (Str.ofString f == Str.ofString n) = false := beq_eq_false_iff_ne.mpr fun z => hn (ofString_inj z).symm
      rw [List.lookup_cons, hne]
      cases hp : posOf f ns with
      | some j => rw [hp] at h; cases h
      | none => exact posOf_none f ns ws hp
/-- the instance o of class c has no attribute named m, so that the method is meant -/
def isOb (c : Nat) (m : String) : D → Bool
  | .ob c' ns _ => decide (c' = c) && (posOf m ns).isNone
  | _ => false
def eMeth (c : Nat) (mn : String) (n : Nat) (m : List D → Rs D) (fo : En → Rs D) (fa : En → Rs (List D)) : En → Rs D := fun env => (fo env).bind fun d => if isOb c mn d then (fa env).bind fun ds => if ds.all isData && decide (ds.length = n) then m (d :: ds) else .un else .un
section
variable {X : Cx} {E : Ent} {W : WX} {o e : Expr} {es : List Expr} {pos apos : Pos} {fo : En → Rs D} {fa : En → Rs (List D)}
theorem meth_ok {c n : Nat} {mn : String} {m : List D → Rs D} {ta : TE} {t : TA} {Ex : XK} {sp : Sp} (hsp : sp = spP E.K (n + 1) m) (ko : OkE E W ta fo) (ka : OkA E W t fa) (hx : NoX m) : OkE E W (tMeth (E.K.ca c) (Str.ofString mn) sp [] Ex ta t) (eMeth c mn n m fo fa) := by
  subst hsp
  intro F σ H env S Q q
  refine ko F σ H env S _ ?_
  unfold eMeth at q
  cases e1 : fo env with
  | un => rw [e1] at q; exact q
  | ex x => rw [e1] at q; exact q
  | ok d =>
    rw [e1, Rs.bind_ok] at q
    intro v fp F1 H1 G1 r1
    split at q
    · rename_i hob
      cases d <;> first | (cases hob; done) | skip
      rename_i c' ns vs
      have hob : (decide (c' = c) && (posOf mn ns).isNone) = true := hob
      rw [Bool.and_eq_true] at hob
      obtain rfl := of_decide_eq_true hob.1
      have hnone : posOf mn ns = none := Option.isNone_iff_eq_none.mp hob.2
      have r0 := r1.toData rfl
      cases r0 with
      | ob h1 h2 h3 h4 =>
        rename_i a dx ws
        refine ⟨a, dx, nmS ns ws, rfl, G1.fh _ _ h1, posOf_none mn ns ws hnone, ?_⟩
        refine ka F1 σ H1 env (S.grow G1) _ ?_
        cases e2 : fa env with
        | un => rw [e2] at q; exact q
        | ex x => rw [e2] at q; exact fun cls dd F' H' G r => q cls dd F' H' (G1.trans G) r
        | ok ds =>
          rw [e2, Rs.bind_ok] at q
          intro us fq F2 H2 G2 r2
          split at q
          · rename_i hc
            rw [Bool.and_eq_true] at hc
            rw [List.append_nil]
            refine ⟨.ob c' ns vs :: ds, F2, G2.fh, RL.mk0 ((R.ob h1 h2 h3 h4).grow G2) (r2.toData hc.1), by rw [List.length_cons, of_decide_eq_true hc.2], ?_⟩
            cases e3 : m (.ob c' ns vs :: ds) with
            | un => rw [e3] at q; exact q
            | ex x => exact absurd e3 (hx _ x)
            | ok d => rw [e3] at q; exact fun v F' H' G r => q v [] F' H' ((G1.trans G2).trans G) r
          · exact q.elim
    · exact q.elim
theorem SE.meth {k n c : Nat} {mn : String} {f : Addr} {fd : FuncData} {ps : List Str} {m : List D → Rs D} {pl : Sem Bool} (ho : SE X E W o fo) (hc : Cls X.K (E.K.ca c)) (hm : Meth X.K (E.K.ca c) (Str.ofString mn) f)
    (F : FnOk X.prog X.w X.K X.mg X.base CX0 k f fd ps (spP E.K (n + 1) m)) (hx : NoX m) (hr : Room k X.A) (hb : Binds X.K fd ps []) (ha : SA X E W (e :: es) fa)
    (hst : starEach (e :: es) X.env = (false, eval e X.env) :: starEach es X.env := by rfl) (hpl : (backTo pos (starEach es X.env)).any (·.1) = false := by rfl)
    (ht : eval (.Call (.Attribute o (Str.ofString mn) apos) (e :: es) [] pos) X.env = (do
      let ov ← eval o X.env
      standAt apos.atName
      let (f, first) ← holding [ov] (getMethod ov (Str.ofString mn) pl)
      callWith pos f first (backTo pos (starEach (e :: es) X.env)) (backToKw pos (keywordEach [] X.env))) := by rfl) :
    SE X E W (.Call (.Attribute o (Str.ofString mn) apos) (e :: es) [] pos) (eMeth c mn n m fo fa) := by
  obtain ⟨t1, p1, k1⟩ := ho.ex
  obtain ⟨t2, p2, k2⟩ := ha.ex
  exact ⟨ho.hK, _, pe_meth p1 hc hm F hr hb .nil pass0 p2 hst hpl ht, meth_ok rfl k1 k2 hx⟩
theorem SE.meth0 {k c : Nat} {mn : String} {f : Addr} {fd : FuncData} {ps : List Str} {m : List D → Rs D} {pl : Sem Bool} (ho : SE X E W o fo) (hc : Cls X.K (E.K.ca c)) (hm : Meth X.K (E.K.ca c) (Str.ofString mn) f)
    (F : FnOk X.prog X.w X.K X.mg X.base CX0 k f fd ps (spP E.K 1 m)) (hx : NoX m) (hr : Room k X.A) (hb : Binds X.K fd ps [])
    (ht : eval (.Call (.Attribute o (Str.ofString mn) apos) [] [] pos) X.env = (do
      let ov ← eval o X.env
      standAt apos.atName
      let (f, first) ← holding [ov] (getMethod ov (Str.ofString mn) pl)
      callWith pos f first (backTo pos (starEach [] X.env)) (backToKw pos (keywordEach [] X.env))) := by rfl) :
    SE X E W (.Call (.Attribute o (Str.ofString mn) apos) [] [] pos) (eMeth c mn 0 m fo aNil) := by
  obtain ⟨t1, p1, k1⟩ := ho.ex
  exact ⟨ho.hK, _, pe_meth0 p1 hc hm F hr hb .nil pass0 ht, meth_ok (n := 0) rfl k1 (fun F σ H env S Q q => q [] [] F H (Grow.refl S.fH) .nil) hx⟩
end
end Z

set_option Elab.async false
set_option linter.all false
set_option maxRecDepth 100000
set_option maxHeartbeats 1000000
/-! ZH: exceptions of own classes with one or two fields, raised -/
namespace Z
open PySem L2
/-- __init__(self, y): self.f = y -/
def spX1 (C : Addr) (f : Str) : Sp := fun vs H Q _ => ∃ a y, vs = [.ref a, y] ∧ H a = some (exo a C none) ∧ ∀ dx, H dx = none → dx ≠ a → Q .non (upd (upd H dx (exd dx [(f, y)])) a (exo a C (some dx)))
theorem fnE1 {P : Program} {w : World} {K : PySem.W.Frag} {mg : Str → Option Value} {base : Heap} {x qual : Str} {st : Stmt} {fa : Addr} {fd : FuncData} {sf p fl : Str} {C : Addr} {q1 q2 q3 q4 : Pos} (Fn : Fun K x qual st fa fd) (S : FnScope [sf, p] [sf, p] (defScope st))
    (hbody : defBody st = [.Assign [.Attribute (.Name sf q1) fl q2] (.Name p q3) q4]) (T : OexC K C) (hno : PySem.W.findIn K (.ref C) fl = some none)
    (hv1 : Vis (defScope st) sf) (hv2 : Vis (defScope st) p) (hd1 : (sf == ("__debug__" : Str)) = false) (hd2 : (p == ("__debug__" : Str)) = false) (hc1 : (sf == ("__classdict__" : Str)) = false) (hc2 : (p == ("__classdict__" : Str)) = false)
    (hsw : ∀ env : Env, swapsWith (.Name p q3) (some (.Attribute (.Name sf q1) fl q2)) q4.line env = pure false) : FnOk P w K mg base CX0 1 fa fd [sf, p] (spX1 C fl) := by
  refine Fn.ok S (fun vs H Q E h => ?_) (fun cdv A outer s H vs Q Ex hr h => ?_)
  · obtain ⟨a, y, rfl, _⟩ := h
    rfl
  · obtain ⟨a, y, rfl, ha, hq⟩ := h
    rw [hbody]
    refine ⟨_, pss_one (ps_ost (pe_var (i := 0) rfl hv1 hd1 hc1) (pe_var (i := 1) rfl hv2 hd2 hc2) (hsw _)), ?_⟩
    exact ⟨y, rfl, .ref a, rfl, a, C, rfl, T, hno, .inl ⟨ha, fun dx h1 h2 => hq dx h1 h2⟩⟩
def sRaise1 (c : Nat) (f : String) (fa : En → Rs (List D)) : En → Fl := fun env => match fa env with
  | .ok [d] => if isData d then .xx (.ob c [f] [d]) env else .un
  | .ok _ => .un
  | .ex x => .xx x env
  | .un => .un
section
variable {X : Cx} {E : Ent} {W : WX} {e : Expr} {pos p p0 : Pos} {fa : En → Rs (List D)}
theorem SS.raise1 (c : Nat) (f : String) {x : Str} {fI : Addr} {k : Nat} {fd : FuncData} {ps : List Str} (tk : Takes X W) (hcm : X.calm = true) (T : OexC X.K (E.K.ca c)) (iC : PySem.W.findIn X.K (.ref (E.K.ca c)) "__init__" = some (some (.ref fI))) (tI : PySem.W.typeIn X.K (.ref fI) = some (.type "function"))
    (F1 : FnOk X.prog X.w X.K X.mg X.base CX0 k fI fd ps (spX1 (E.K.ca c) (Str.ofString f))) (hr : Room (k + 1) X.A) (hb : Binds X.K fd ps []) (hm : X.mg x = some (.ref (E.K.ca c))) (ha : SA X E W [e] fa) (hg : Gl X x := by rfl)
    (hdb : (x == ("__debug__" : Str)) = false := by decide) (he : starEach [e] X.env = (false, eval e X.env) :: starEach [] X.env := by rfl) (hpl : (backTo p (starEach [] X.env)).any (·.1) = false := by rfl) :
    SS X E W (.Raise (some (.Call (.Name x p0) [e] [] p)) none pos) (sRaise1 c f fa) := by
  obtain ⟨t, pa, ka⟩ := ha.ex
  refine ⟨ha.hK, _, ps_raise hcm tk (pmk_oex T iC tI F1 hr hb .nil pass0 hg hm pa hdb he hpl), fun F σ H env S D q => ?_⟩
  refine ka F σ H env S _ ?_
  unfold sRaise1 at q
  cases e1 : fa env with
  | un => rw [e1] at q; exact q
  | ex z => rw [e1] at q; exact fun cls dd F' H' G r => q cls dd F' σ H' G.f (S.grow G) r
  | ok ds =>
    rw [e1] at q
    intro vs fp F1' H1 G1 r1
    match ds, q, r1 with
    | [d], q, r1 =>
      dsimp only at q
      split at q
      · rename_i hd
        obtain ⟨v, rfl, r⟩ := r1.one
        have r := r.toData hd
        refine ⟨by simp, fun a hna => ?_⟩
        refine ⟨a, v, rfl, upd_same, fun dx hdx hne => ⟨rfl, dx, [(Str.ofString f, v)], upd_same, by rw [upd_ne hne, upd_same], ?_, ?_⟩⟩
        · rw [upd_ne hne] at hdx; exact hdx
        · have hdx1 : H1 dx = none := by rw [upd_ne hne] at hdx; exact hdx
          have eH : upd (del (upd (upd (upd H1 a (exo a (E.K.ca c) none)) dx (exd dx [(Str.ofString f, v)])) a (exo a (E.K.ca c) (some dx))) a) dx (.xd [(Str.ofString f, v)]) = upd H1 dx (.xd [(Str.ofString f, v)]) := by
            funext b
            by_cases hb : b = dx
            · rw [hb, upd_same, upd_same]
            · rw [upd_ne hb, upd_ne hb]
              by_cases hba : b = a
              · rw [hba, del_same, hna]
              · rw [del_ne hba, upd_ne hba, upd_ne hb, upd_ne hba]
          rw [eH]
          have G2 : Grow F1' H1 (upd F1' dx (.xd [(Str.ofString f, v)])) (upd H1 dx (.xd [(Str.ofString f, v)])) := Grow.new G1.fh hdx1
          refine q (.ref (E.K.ca c)) (some dx) _ σ _ (G1.f.trans G2.f) (S.grow (G1.trans G2)) ⟨rfl, rfl, .inr ⟨dx, _, rfl, upd_same, fun i n z h1 h2 => ?_⟩⟩
          match i, h1, h2 with
          | 0, h1, h2 =>
            simp at h1 h2
            subst h1; subst h2
            exact ⟨v, by rw [List.lookup_cons, beq_self_eq_true], r.grow G2⟩
          | i + 1, h1, _ => simp at h1
      · exact q.elim
    | [], q, _ => exact q.elim
    | _ :: _ :: _, q, _ => exact q.elim
end
end Z

set_option Elab.async false
set_option linter.all false
set_option maxRecDepth 100000
set_option maxHeartbeats 1000000
/-! ZI: sorted of any alike data (lists and tuples), shifts, list.index -/
namespace PySem.ZSrt
open PySem PySem.W PySem.Calls PyProof.Rows PySem.SeqAt
section
variable {prog : Program} {w : World} {A : Around} {E : Value → Shared → Prop} {s : Shared}
/-- the items of a tuple, put into a new list -/
theorem gather_tup {t : Addr} {vs : List Value} {Q : List Value → Shared → Prop} (ht : s.heap.IsTuple t vs.toArray) (hz : vs.length ≤ sizeLine)
    (q : Q vs { s with heap := (s.heap.push (seqObj "list" #[] 0)).update s.heap.objs.size (Obj.mapSeq (· ++ vs.toArray)) }) : wpAny (model prog w) A (collect (.ref t)) Q E s := by
  obtain ⟨ob, hob, hcl, m, hdt⟩ := id ht
  have old : (s.heap.push (seqObj "list" #[] 0)).get? t = some ob := Heap.get?_push_of_some _ hob
  have new : (s.heap.push (seqObj "list" #[] 0)).get? s.heap.objs.size = some (seqObj "list" #[] 0) := Heap.get?_push_size _ rfl
  have fits : (#[] ++ vs.toArray).size ≤ sizeLine + 1 := by simp only [Array.size_append, List.size_toArray, List.length_nil]; omega
  unfold collect
  refine wpAny_bind (wpAny_runValue (codeAny_builtin entry_proto_collect' ?_))
  show wpAny _ _ (do again (.builtin "list.__iadd__" ⟨[← newList [], .ref t], []⟩)) _ _ s
  refine wpAny_bind (wpAny_newList (wpAny_pure ⟨Code.quiet_builtin _ (by decide +kernel), codeAny_builtin entry_list_iadd' ?body⟩))
  case body =>
    show wpAny (model prog w) _ (Builtin.List.listExtendWith (.ref s.heap.objs.size) (.ref t) (.ref s.heap.objs.size)) _ _ { s with heap := s.heap.push (seqObj "list" #[] 0) }
    unfold Builtin.List.listExtendWith
    refine wpAny_bind (wpAny_typeOf (T := "tuple") ⟨ob, old, hcl⟩ ?_)
    rw [if_pos (by rw [show (Value.type "tuple" == Value.type "tuple") = true from rfl, Bool.or_true])]
    refine wpAny_bind (listItems_at old hdt (wpAny_bind (listItems_at (xs := #[]) (n := 0) new rfl ?_)))
    rw [if_neg (by simp)]
    refine wpAny_bind (listUpdate_at (xs := #[]) (n := 0) new rfl (wpAny_pure ?_) (Nat.zero_le _) fits)
    show wpAny (model prog w) A (load s.heap.objs.size >>= fun o => match o.data with
      | .seq xs _ => pure xs.toList
      | _ => unsupported "internal:collect") Q E { s with heap := (s.heap.push (seqObj "list" #[] 0)).update s.heap.objs.size (Obj.mapSeq (· ++ vs.toArray)) }
    refine wpAny_bind (wpAny_load (get?_update_seq new _) ?_)
    show wpAny (model prog w) A (pure ((#[] : Array Value) ++ vs.toArray).toList) Q E _
    have e0 : ((#[] : Array Value) ++ vs.toArray).toList = vs := by simp
    rw [e0]
    exact wpAny_pure q
/-- sorted(t), t a tuple -/
theorem sorted_tup_vals {κ : PyProof.Rows.KeyKind} {t : Addr} {vs : List Value} {Q : Value → Shared → Prop} (ht : s.heap.IsTuple t vs.toArray) (hz : vs.length ≤ sizeLine) (S : SortsAt prog w A.in1.in1 { s with heap := sortingHeap (copyHeap s.heap vs) (s.heap.objs.size + 1) vs } κ vs)
    (q : Q (.ref (s.heap.objs.size + 1)) { s with heap := sortedAll s.heap vs (sortVals κ false vs vs).toArray }) : wpAny (model prog w) A (call (.builtin "sorted") [.ref t]) Q E s := by
  have size1 : ((s.heap.push (seqObj "list" #[] 0)).update s.heap.objs.size (Obj.mapSeq (· ++ vs.toArray))).objs.size = s.heap.objs.size + 1 := by rw [Heap.size_update, size_push']
  refine call_function_entry_kw kind_sorted plain_sorted entry_sorted (args_sorted1 _) ?_
  unfold Builtin.«sorted»
  refine wpAny_bind (m := checkCount "sorted" 1 1 _) (wpAny_pure (wpAny_bind (gather_tup ht hz (wpAny_bind (wpAny_newList ?_ hz)))))
  show wpAny _ _ _ _ _ { s with heap := copyHeap s.heap vs }
  rw [size1]
  refine wpAny_bind (wpAny_holding (wpAny_call_entry_kw slot_list_sort ⟨_, copyHeap_at s.heap vs, rfl⟩ entry_list_sort ?sort (args_list_sort _)))
  case sort =>
    refine wpAny_mono (list_sort_vals (s := { s with heap := copyHeap s.heap vs }) (P := fun f s' => f = .done (.ret .none) ∧ Q (.ref (s.heap.objs.size + 1)) s') (copyHeap_at s.heap vs) S hz ⟨rfl, q⟩) (fun f s' hf => ?_) fun _ _ e => e
    obtain ⟨ef, hq⟩ := hf
    subst ef
    exact ⟨_, rfl, wpAny_pure ⟨_, rfl, hq⟩⟩
end
end PySem.ZSrt
namespace L2
open PySem PySem.W PySem.Spec PyProof.Rows
/-- sorted(x), x a list or a tuple of alike data -/
def rSortAny (K : PySem.W.Frag) : List V → Hp → VK → Prop := fun us H Q => ∃ (a : Addr) (xs : List V) (ds : List PyData), us = [V.ref a] ∧ (SqL K H a xs ∨ SqT K H a xs) ∧ DpAll K H xs ds ∧ AllAlike ds ∧ Sortable ds ∧ PyData.depthAll ds ≤ 60 ∧
  ∀ p, H p = none → Q (.ref p) (upd H p (.lst (((xs.zip ds).mergeSort (dataLe false Prod.snd)).map Prod.fst)))
theorem each_of {s : Heap} : ∀ {xs : List V} {its : List Value} {ds : List PyData} {as : List Addr}, Vals xs its → ReadsAll s its ds as → EachIs (fun v (b : V × PyData) => RelV b.1 v) its (xs.zip ds) ∧ EachIs (fun v (b : V × PyData) => ∃ as, Reads s v b.2 as) its (xs.zip ds) ∧ (xs.zip ds).map Prod.snd = ds ∧ xs.length = ds.length
  | _, _, _, _, .nil, r => by
    cases r
    exact ⟨.nil, .nil, rfl, rfl⟩
  | _, _, _, _, .cons h t, r => by
    cases r with
    | cons r1 r2 =>
      obtain ⟨a, b, c, d⟩ := each_of t r2
      exact ⟨.cons h a, .cons ⟨_, r1⟩ b, by rw [List.zip_cons_cons, List.map_cons, c], by rw [List.length_cons, List.length_cons, d]⟩
theorem vals_each : ∀ {bs : List (V × PyData)} {out : List Value}, EachIs (fun v (b : V × PyData) => RelV b.1 v) out bs → Vals (bs.map Prod.fst) out
  | _, _, .nil => .nil
  | _, _, .cons h t => .cons h (vals_each t)
theorem depth_le_all : ∀ {ds : List PyData} {d : PyData}, d ∈ ds → d.depth ≤ PyData.depthAll ds
  | e :: ds, d, h => by
    simp only [PyData.depthAll]
    rcases List.mem_cons.mp h with z | z
    · subst z; omega
    · have := depth_le_all z; omega
theorem call_sortedAny {X : Cx} (hu : X.A.units + 64 < cLine) : CallR X (.builtin "sorted") (rSortAny X.K) := by
  intro pins s σ H vs us Q I r h
  obtain ⟨a, xs, ds, rfl, hs, hd, hal, hk, hdep, q⟩ := h
  rw [Vals.ref1 r]
  obtain ⟨its, rv, hl, hz⟩ : ∃ its, Vals xs its ∧ (s.heap.IsList a its.toArray ∨ s.heap.IsTuple a its.toArray) ∧ its.length ≤ sizeLine := by
    rcases hs with hs | hs
    · obtain ⟨its, rv, hl, hz⟩ := I.list hs
      exact ⟨its, rv, .inl hl.isList, by rw [← rv.length]; exact hz⟩
    · obtain ⟨its, rv, hl, hz⟩ := I.tuple hs
      exact ⟨its, rv, .inr hl, by rw [← rv.length]; exact hz⟩
  obtain ⟨as, hr⟩ := Dp.readsAll I ds xs its hd rv
  obtain ⟨e1, e2, e3, e4⟩ := each_of rv hr
  have hal' : AllAlike ((xs.zip ds).map Prod.snd) := by rw [e3]; exact hal
  have hk' : Sortable ((xs.zip ds).map Prod.snd) := by rw [e3]; exact hk
  have room : ∀ b ∈ xs.zip ds, X.A.units + 2 + b.2.depth < cLine := fun b hb => by
    have hm : b.2 ∈ ds := by rw [← e3]; exact List.mem_map.mpr ⟨b, hb, rfl⟩
    have := depth_le_all hm
    omega
  have er' : EachIs (fun v (b : V × PyData) => ∃ as, Reads (sortingHeap (copyHeap s.heap its) (s.heap.objs.size + 1) its) v b.2 as) its (xs.zip ds) := e2.mono fun _ _ ⟨as, r⟩ => ⟨as, PyProof.Rows.Reads.keeps (fun _ _ => sorting_copy_old) r⟩
  have S : SortsAt X.prog X.w X.A.in1.in1 { s with heap := sortingHeap (copyHeap s.heap its) (s.heap.objs.size + 1) its } (dataKind (sortingHeap (copyHeap s.heap its) (s.heap.objs.size + 1) its) ((xs.zip ds).map Prod.snd)) its :=
    SortsAt.data (s := { s with heap := sortingHeap (copyHeap s.heap its) (s.heap.objs.size + 1) its }) (each_map (R := fun v d => ∃ as, Reads (sortingHeap (copyHeap s.heap its) (s.heap.objs.size + 1) its) v d as) Prod.snd er') hal' hk' (bound_map room)
  have out := sortVals_data false e1 er' hal'
  have fin : EP X pins σ Q (.ref (s.heap.objs.size + 1)) { s with heap := PyProof.Rows.sortedAll s.heap its (sortVals (dataKind (sortingHeap (copyHeap s.heap its) (s.heap.objs.size + 1) its) ((xs.zip ds).map Prod.snd)) false its its).toArray } := by
    obtain ⟨ep, he⟩ := PyProof.Rows.sortedAll_at s.heap its (sortVals (dataKind (sortingHeap (copyHeap s.heap its) (s.heap.objs.size + 1) its) ((xs.zip ds).map Prod.snd)) false its its).toArray
    have hlen : (((xs.zip ds).mergeSort (dataLe false Prod.snd)).map Prod.fst).length ≤ sizeLine := by
      rw [List.length_map, List.length_mergeSort, List.length_zip, e4, Nat.min_self, ← e4, rv.length]; exact hz
    exact ⟨.ref _, upd H (s.heap.objs.size + 1) (.lst (((xs.zip ds).mergeSort (dataLe false Prod.snd)).map Prod.fst)), I.laid (t' := s.toks) (fun _ _ => PyProof.Rows.sortedAll_old) (Nat.le_succ _) ⟨hlen, _, ep, vals_each out, he⟩, rfl, q _ (I.hok.fresh (Nat.le_succ _))⟩
  rcases hl with hl | hl
  · exact sorted_vals hl S hz fin
  · exact PySem.ZSrt.sorted_tup_vals hl hz S fin
end L2
namespace Z
open PySem L2
section
variable {X : Cx} {E : Ent} {W : WX} {e a b : Expr} {f g : En → Rs D} {pos : Pos}
theorem toPyL_map : ∀ xs : List D, toPyL xs = xs.map toPy
  | [] => rfl
  | x :: xs => by rw [toPyL, List.map_cons, toPyL_map xs]
def leD (a b : D) : Bool := PySem.W.dataLe false toPy a b
def alikeB (xs : List D) : Bool := xs.all fun a => xs.all fun b => PySem.W.alike (toPy a) (toPy b)
def srt1 : D → Bool
  | .tup (_ :: _) => true
  | _ => false
def srt2 : D → Bool
  | .bl _ => true
  | .int _ => true
  | .str _ => true
  | .lst _ => true
  | .olst _ => true
  | _ => false
def srtB (xs : List D) : Bool := xs.all srt1 || xs.all srt2
def pSorted (d : D) : Option (List D) := (seqOf d).bind fun xs => if okPyL 60 xs && alikeB xs && srtB xs then some (xs.mergeSort leD) else none
theorem allAlike_of {xs : List D} (h : alikeB xs = true) : PySem.W.AllAlike (toPyL xs) := by
  rw [toPyL_map]
  intro d hd d' hd'
  obtain ⟨x, hx, rfl⟩ := List.mem_map.mp hd
  obtain ⟨y, hy, rfl⟩ := List.mem_map.mp hd'
  exact List.all_eq_true.mp (List.all_eq_true.mp h x hx) y hy
theorem sortable_of {xs : List D} (h : srtB xs = true) : PySem.W.Sortable (toPyL xs) := by
  rw [toPyL_map]
  unfold srtB at h
  rw [Bool.or_eq_true] at h
  rcases h with h | h
  · refine .inl fun d hd => ?_
    obtain ⟨x, hx, rfl⟩ := List.mem_map.mp hd
    have := List.all_eq_true.mp h x hx
    cases x <;> first | (cases this; done) | skip
    rename_i ys
    cases ys with
    | nil => cases this
    | cons y ys => exact ⟨toPy y, toPyL ys, by simp only [toPy, toPyL]⟩
  · refine .inr fun d hd => ?_
    obtain ⟨x, hx, rfl⟩ := List.mem_map.mp hd
    have := List.all_eq_true.mp h x hx
    cases x <;> first | (cases this; done) | skip
    all_goals exact ⟨by simp [toPy], fun xs => by simp [toPy]⟩
theorem RL.of_zip {K : Kx} {F H : Hp} : ∀ {l : List (V × D)}, (∀ p ∈ l, R K F H p.2 p.1 []) → RL K F H (l.map Prod.snd) (l.map Prod.fst) []
  | [], _ => .nil
  | p :: l, h => RL.mk0 (h p List.mem_cons_self) (RL.of_zip fun q hq => h q (List.mem_cons_of_mem _ hq))
theorem RL.zip_mem {K : Kx} {F H : Hp} : ∀ {ds : List D} {vs : List V}, RL K F H ds vs [] → ∀ p ∈ vs.zip ds, R K F H p.2 p.1 []
  | [], vs, h, p, hp => by simp at hp
  | d :: ds, vs, h, p, hp => by
    obtain ⟨v, vs', rfl, h1, h2⟩ := h.inv_cons
    rw [List.zip_cons_cons] at hp
    rcases List.mem_cons.mp hp with z | z
    · subst z; exact h1
    · exact RL.zip_mem h2 p z
theorem RL.sorted {K : Kx} {F H : Hp} {ds : List D} {vs : List V} (h : RL K F H ds vs []) : RL K F H (ds.mergeSort leD) (((vs.zip (toPyL ds)).mergeSort (PySem.W.dataLe false Prod.snd)).map Prod.fst) [] := by
  have hl := h.len
  let le2 : V × D → V × D → Bool := fun p q => leD p.2 q.2
  have e1 : vs.zip (toPyL ds) = (vs.zip ds).map fun p => (p.1, toPy p.2) := by
    rw [toPyL_map, List.zip_map_right]
    rfl
  have e2 : ((vs.zip ds).mergeSort le2).map (fun p => (p.1, toPy p.2)) = ((vs.zip ds).map fun p => (p.1, toPy p.2)).mergeSort (PySem.W.dataLe false Prod.snd) :=
    List.map_mergeSort fun a _ b _ => rfl
  have e3 : ((vs.zip ds).mergeSort le2).map Prod.snd = ((vs.zip ds).map Prod.snd).mergeSort leD := List.map_mergeSort fun a _ b _ => rfl
  have e4 : (vs.zip ds).map Prod.snd = ds := List.map_snd_zip (by omega)
  rw [e1, ← e2, List.map_map]
  rw [e4] at e3
  rw [← e3]
  have e5 : ((vs.zip ds).mergeSort le2).map (Prod.fst ∘ fun p : V × D => (p.1, toPy p.2)) = ((vs.zip ds).mergeSort le2).map Prod.fst := rfl
  rw [e5]
  exact RL.of_zip fun p hp => h.zip_mem p (List.mem_mergeSort.mp hp)
theorem SL.sorted {p : Pos} (ha : SE X E W a f) (hm : X.mg "sorted" = none) (hu : X.A.units + 64 < cLine) (hg : Gl X "sorted" := by rfl) (hs : starEach [a] X.env = (false, eval a X.env) :: starEach [] X.env := by rfl) (hpl : (backTo pos (starEach [] X.env)).any (·.1) = false := by rfl) : SL X E W (.Call (.Name "sorted" p) [a] [] pos) (fun env => (f env).bind fun d => ofO (pSorted d)) := by
  obtain ⟨t, pa, ka⟩ := ha.ex
  refine ⟨ha.hK, _, pe_callB (call_sortedAny hu) hg hm bo_sorted (pa_cons pa pa_nil hs) (by decide) (by decide) hs hpl, ?_⟩
  intro F σ H env S Q q
  refine ka F σ H env S _ ?_
  dsimp only at q
  cases e1 : f env with
  | un => rw [e1] at q; exact q
  | ex x => rw [e1] at q; exact q
  | ok d =>
    rw [e1, Rs.bind_ok] at q
    intro v fp F1 H1 G1 r1
    unfold pSorted at q
    cases e2 : seqOf d with
    | none => rw [e2] at q; exact q.elim
    | some xs =>
      rw [e2, Option.bind_some] at q
      split at q
      · rename_i hc
        rw [Bool.and_eq_true, Bool.and_eq_true] at hc
        obtain ⟨a', vs, rfl, hs', hl, hz⟩ := seqOf_at G1.fh r1 e2
        obtain ⟨q1, q2, q3⟩ := RL.dp G1.fh 60 xs hc.1.1 hl
        refine ⟨a', vs, toPyL xs, rfl, by rw [ha.hK]; exact hs', by rw [ha.hK]; exact q1, allAlike_of hc.1.2, sortable_of hc.2, q3, fun p hp => ?_⟩
        have hp0 : H p = none := by
          cases q0 : H p with
          | none => rfl
          | some o => rw [G1.h _ _ q0] at hp; cases hp
        exact q p _ F1 _ (G1.trans (Grow.own G1.fh hp)) hp0 (same_none G1.fh hp) upd_same (hl.sorted.grow (Grow.own G1.fh hp)) (by rw [List.length_mergeSort]; exact hz)
      · exact q.elim
theorem okPyL_mem {n : Nat} : ∀ {xs : List D} {x : D}, okPyL n xs = true → x ∈ xs → okPy n x = true
  | y :: ys, x, h, hx => by
    simp only [okPyL, Bool.and_eq_true] at h
    rcases List.mem_cons.mp hx with z | z
    · subst z; exact h.1
    · exact okPyL_mem h.2 z
/-! ### shifts and masks -/
def pShl : D → D → Option D
  | .int i, .int j => if i = 1 ∧ 0 ≤ j ∧ j ≤ 1000 then some (.int (2 ^ j.toNat)) else none
  | _, _ => none
theorem OpS.shl : OpS X E (binaryOp .LShift) pShl := by
  refine ⟨_, op_oneShl, fun F H x y d1 d2 fp1 fp2 d hs r1 r2 h Q q => ?_⟩
  unfold pShl at h
  split at h
  · split at h
    · rename_i i j hc
      obtain ⟨rfl, h0, h1⟩ := hc
      cases r1; cases r2; cases h
      exact ⟨j.toNat, rfl, by rw [Int.toNat_of_nonneg h0], by omega, q _ [] F H (Grow.refl hs) (.int _)⟩
    · cases h
  · cases h
def pShr : D → D → Option D
  | .int i, .int j => if 0 ≤ j then some (.int (i / 2 ^ j.toNat)) else none
  | _, _ => none
theorem OpS.shr : OpS X E (binaryOp .RShift) pShr := by
  refine ⟨_, op_shrN, fun F H x y d1 d2 fp1 fp2 d hs r1 r2 h Q q => ?_⟩
  unfold pShr at h
  split at h
  · split at h
    · rename_i i j h0
      cases r1; cases r2; cases h
      exact ⟨i, j.toNat, rfl, by rw [Int.toNat_of_nonneg h0], q _ [] F H (Grow.refl hs) (.int _)⟩
    · cases h
  · cases h
def pAnd : D → D → Option D
  | .int i, .int j => if 0 ≤ i ∧ j = 1 then some (.int (i % 2)) else none
  | _, _ => none
theorem OpS.and : OpS X E (binaryOp .BitAnd) pAnd := by
  refine ⟨_, op_odd, fun F H x y d1 d2 fp1 fp2 d hs r1 r2 h Q q => ?_⟩
  unfold pAnd at h
  split at h
  · split at h
    · rename_i i j hc
      obtain ⟨h0, rfl⟩ := hc
      cases r1; cases r2; cases h
      refine ⟨i.toNat, by rw [Int.toNat_of_nonneg h0], rfl, ?_⟩
      have e : ((i.toNat % 2 : Nat) : Int) = i % 2 := by omega
      rw [e]
      exact q _ [] F H (Grow.refl hs) (.int _)
    · cases h
  · cases h
/-! ### xs.index(y) -/
def pIndex (a b : D) : Option D := (listOf a).bind fun xs => if okPy 60 b && okPyL 60 xs then (xs.findIdx? fun z => eqv z b).map fun j => .int (j : Nat) else none
def eIndex (f g : En → Rs D) : En → Rs D := fun env => (f env).bind fun d => match listOf d with
  | some _ => (g env).bind fun y => ofO (pIndex d y)
  | none => .un
theorem SE.index {apos : Pos} (ha : SE X E W a f) (hb : SE X E W b g) (hu : X.A.units + 65 < cLine) (hbase : attributeBase a "index" X.env (eval a X.env) = eval a X.env := by rfl)
    (hfew : ((backTo pos (starEach [b] X.env)).all (fun x => !x.1) && (backToKw pos (keywordEach [] X.env)).all (fun x => x.1.isSome)
      && decide ([b].length + ([] : List Keyword).length + (if ([] : List Keyword).isEmpty then 0 else 1) < 30)) = true := by rfl)
    (hline : (apos.endLine == pos.line) = true := by rfl) (hs : starEach [b] X.env = (false, eval b X.env) :: starEach [] X.env := by rfl) (hplain : (backTo pos (starEach [] X.env)).any (·.1) = false := by rfl) :
    SE X E W (.Call (.Attribute a "index" apos) [b] [] pos) (eIndex f g) := by
  obtain ⟨t, p, k⟩ := ha.ex
  obtain ⟨u, p', k'⟩ := hb.ex
  refine ⟨ha.hK, _, pe_bm PySem.F.plainAttrs_list PySem.F.slot_list_index PySem.F.type_list_index (mt_indexD hu) p (pa_cons p' pa_nil hs) hbase hfew hline hs hplain, fun F σ H env S Q q => ?_⟩
  refine k F σ H env S _ ?_
  unfold eIndex at q
  cases e1 : f env with
  | un => rw [e1] at q; exact q
  | ex x => rw [e1] at q; exact q
  | ok d =>
    rw [e1, Rs.bind_ok] at q
    intro v fp F1 H1 G1 r1
    cases e2 : listOf d with
    | none => rw [e2] at q; exact q.elim
    | some xs =>
      rw [e2] at q
      dsimp only at q
      obtain ⟨a', vs, rfl, h1, hl, hz⟩ := listOf_at G1.fh r1 e2
      refine ⟨Or.inl ⟨rfl, vs, SqL.of h1⟩, k' F1 σ H1 env (S.grow G1) _ ?_⟩
      cases e3 : g env with
      | un => rw [e3] at q; exact q
      | ex x => rw [e3] at q; exact fun cls dd F' H' G r => q cls dd F' H' (G1.trans G) r
      | ok y =>
        rw [e3, Rs.bind_ok] at q
        intro v2 fp2 F2 H2 G2 r2
        unfold pIndex at q
        rw [e2, Option.bind_some] at q
        split at q
        · rename_i hc
          rw [Bool.and_eq_true] at hc
          cases e4 : xs.findIdx? fun z => eqv z y with
          | none => rw [e4] at q; exact q.elim
          | some j =>
            rw [e4] at q
            obtain ⟨q1, q2, q3⟩ := R.dp G2.fh 60 y hc.1 r2
            have hl2 := hl.grow G2
            obtain ⟨p1, p2, p3⟩ := RL.dp G2.fh 60 xs hc.2 hl2
            obtain ⟨hj, hj2, hj3⟩ := List.findIdx?_eq_some_iff_getElem.mp e4
            have ep : ∀ m (hm : m < xs.length), PyData.eqv (toPy xs[m]) (toPy y) = eqv xs[m] y := fun m hm => by
              have hok : okPy 60 xs[m] = true := Z.okPyL_mem hc.2 (List.getElem_mem hm)
              exact eqv_py 60 _ _ 60 hok hc.1
            refine ⟨a', v2, toPy y, toPyL xs, j, toPy xs[j], rfl, rfl, .lst (SqL.of (G2.h _ _ h1)) (by rw [ha.hK]; exact p1), by rw [ha.hK]; exact q1, shaped_of (n := 61) (by simp only [PyData.canLay0]; exact p2) (by simp only [PyData.depth]; omega) (by decide), shaped_of q2 q3 (by decide), ?_, ?_, ?_, ?_⟩
            · rw [toPyL_map, List.getElem?_map, List.getElem?_eq_getElem hj]; rfl
            · rw [ep]; exact hj2
            · intro m z' hm hz'
              have hml : m < xs.length := by omega
              rw [toPyL_map, List.getElem?_map, List.getElem?_eq_getElem hml] at hz'
              cases hz'
              rw [ep]
              exact Bool.eq_false_iff.mpr (hj3 m hm)
            · exact q _ [] F2 H2 (G1.trans G2) (.int _)
        · exact q.elim
end
end Z

set_option Elab.async false
set_option linter.all false
set_option maxRecDepth 100000
set_option maxHeartbeats 1000000
/-! ZJ: expressions that change what the frame owns: f : En → Fv D, the value is data -/
namespace Z
open PySem L2
inductive Fv (α : Type) where
  | ok (a : α) (e : En) | ex (x : D) (e : En) | un
def Fv.bind {α β : Type} (r : Fv α) (f : α → En → Fv β) : Fv β := match r with
  | .ok a e => f a e
  | .ex x e => .ex x e
  | .un => .un
@[simp] theorem Fv.bind_ok {α β : Type} (a : α) (e : En) (f : α → En → Fv β) : Fv.bind (.ok a e) f = f a e := id rfl
@[simp] theorem Fv.bind_ex {α β : Type} (x : D) (e : En) (f : α → En → Fv β) : Fv.bind (.ex x e) f = .ex x e := id rfl
@[simp] theorem Fv.bind_un {α β : Type} (f : α → En → Fv β) : Fv.bind .un f = .un := id rfl
/-- a pure value in its place -/
def toFv {α : Type} (env : En) : Rs α → Fv α
  | .ok a => .ok a env
  | .ex x => .ex x env
  | .un => .un
@[simp] theorem toFv_ok {α : Type} (env : En) (a : α) : toFv env (.ok a) = .ok a env := id rfl
@[simp] theorem toFv_ex {α : Type} (env : En) (x : D) : toFv env (.ex x : Rs α) = .ex x env := id rfl
@[simp] theorem toFv_un {α : Type} (env : En) : toFv env (.un : Rs α) = .un := id rfl
/-- only data -/
def datV (env : En) (d : D) : Fv D := if isData d then .ok d env else .un
def optV (env : En) : Option D → Fv D
  | some d => datV env d
  | none => .un
/-- an argument: data, or what a slot owns -/
inductive Arg where
  | d (d : D) | s (j : Nat)
inductive RA (K : Kx) (F H : Hp) (σ : St) : List Arg → List V → Prop
  | nil : RA K F H σ [] []
  | d {d : D} {v : V} {as : List Arg} {vs : List V} : R K F H d v [] → RA K F H σ as vs → RA K F H σ (.d d :: as) (v :: vs)
  | s {j : Nat} {v : V} {as : List Arg} {vs : List V} : σ[j]? = some (some v) → RA K F H σ as vs → RA K F H σ (.s j :: as) (v :: vs)
theorem RA.mono {K : Kx} {F H F' H' : Hp} {σ : St} (g : Same F F') : ∀ {as : List Arg} {vs : List V}, RA K F H σ as vs → RA K F' H' σ as vs
  | _, _, .nil => .nil
  | _, _, .d r t => .d (R.mono g _ (fun a z => nomatch z) r) (RA.mono g t)
  | _, _, .s h t => .s h (RA.mono g t)
def datsOf : List Arg → Option (List D)
  | [] => some []
  | .d d :: as => (datsOf as).map (d :: ·)
  | .s _ :: _ => none
@[simp] theorem datsOf_nil : datsOf [] = some [] := id rfl
@[simp] theorem datsOf_d (d : D) (as : List Arg) : datsOf (.d d :: as) = (datsOf as).map (d :: ·) := id rfl
/-- the one slot at place t -/
def lentOf : Nat → List Arg → Option (List D × Nat × List D)
  | 0, .s j :: as => (datsOf as).map fun ds => ([], j, ds)
  | t + 1, .d d :: as => (lentOf t as).map fun p => (d :: p.1, p.2)
  | _, _ => none
@[simp] theorem lentOf_0 (j : Nat) (as : List Arg) : lentOf 0 (.s j :: as) = (datsOf as).map fun ds => ([], j, ds) := id rfl
@[simp] theorem lentOf_s (t : Nat) (d : D) (as : List Arg) : lentOf (t + 1) (.d d :: as) = (lentOf t as).map fun p => (d :: p.1, p.2) := id rfl
theorem datsOf_at {K : Kx} {F H : Hp} {σ : St} : ∀ {as : List Arg} {vs : List V} {ds : List D}, RA K F H σ as vs → datsOf as = some ds → RL K F H ds vs []
  | _, _, _, .nil, e => by cases e; exact .nil
  | _, _, _, .s _ _, e => nomatch e
  | .d d :: as, _, ds, .d r t, e => by
    have e : (datsOf as).map (d :: ·) = some ds := e
    cases q : datsOf as with
    | none => rw [q] at e; cases e
    | some ds' =>
      rw [q] at e
      cases e
      exact RL.mk0 r (datsOf_at t q)
theorem lentOf_at {K : Kx} {F H : Hp} {σ : St} : ∀ {t : Nat} {as : List Arg} {vs : List V} {ds1 ds2 : List D} {j : Nat}, RA K F H σ as vs → lentOf t as = some (ds1, j, ds2) →
    ∃ v ws1 ws2, vs = ws1 ++ v :: ws2 ∧ σ[j]? = some (some v) ∧ RL K F H ds1 ws1 [] ∧ RL K F H ds2 ws2 [] ∧ ds1.length = t
  | 0, .s j' :: as, _, ds1, ds2, j, .s h t, e => by
    have e : (datsOf as).map (fun ds => (([] : List D), j', ds)) = some (ds1, j, ds2) := e
    cases q : datsOf as with
    | none => rw [q] at e; cases e
    | some ds' =>
      rw [q] at e
      cases e
      exact ⟨_, [], _, rfl, h, .nil, datsOf_at t q, rfl⟩
  | t + 1, .d d :: as, _, ds1, ds2, j, .d r tl, e => by
    have e : (lentOf t as).map (fun p => (d :: p.1, p.2)) = some (ds1, j, ds2) := e
    cases q : lentOf t as with
    | none => rw [q] at e; cases e
    | some p =>
      obtain ⟨p1, p2, p3⟩ := p
      rw [q] at e
      cases e
      obtain ⟨v, ws1, ws2, e1, e2, e3, e4, e5⟩ := lentOf_at tl q
      exact ⟨v, _ :: ws1, ws2, by rw [e1]; rfl, e2, RL.mk0 r e3, e4, by rw [List.length_cons, e5]⟩
  | 0, [], _, _, _, _, _, e => by cases e
  | 0, .d _ :: _, _, _, _, _, _, e => by cases e
  | _ + 1, [], _, _, _, _, _, e => by cases e
  | _ + 1, .s _ :: _, _, _, _, _, _, e => by cases e
section
variable {E : Ent} {W : WX}
def PostX (E : Ent) (W : WX) (F : Hp) (σ : St) (Q : VK) : Fv D → Prop
  | .ok d e => ∀ v F' H', Same F F' → Stt E F' e σ H' → R E.K F' H' d v [] → Q v H'
  | .ex x e => ∀ cls dd F' H', Same F F' → Stt E F' e σ H' → Rx E.K F' H' x cls dd → W cls dd σ H'
  | .un => False
def PostXT (E : Ent) (W : WX) (F : Hp) (σ : St) (Q : Bool → Hp → Prop) : Fv Bool → Prop
  | .ok b e => ∀ F' H', Same F F' → Stt E F' e σ H' → Q b H'
  | .ex x e => ∀ cls dd F' H', Same F F' → Stt E F' e σ H' → Rx E.K F' H' x cls dd → W cls dd σ H'
  | .un => False
def PostXA (E : Ent) (W : WX) (F : Hp) (σ : St) (Q : List V → Hp → Prop) : Fv (List Arg) → Prop
  | .ok as e => ∀ vs F' H', Same F F' → Stt E F' e σ H' → RA E.K F' H' σ as vs → Q vs H'
  | .ex x e => ∀ cls dd F' H', Same F F' → Stt E F' e σ H' → Rx E.K F' H' x cls dd → W cls dd σ H'
  | .un => False
/-- a list made anew -/
def PostXL (E : Ent) (W : WX) (F H : Hp) (σ : St) (Q : VK) : Fv (List D) → Prop
  | .ok ds e => ∀ p vs F' H', Same F F' → Stt E F' e σ H' → E.H0 p = none → F' p = none → (∀ fps, RS E.K F' H' e σ fps → ∀ fp ∈ fps, p ∉ fp) → H' p = some (.lst vs) → RL E.K F' H' ds vs [] → ds.length ≤ 16777216 → Q (.ref p) H'
  | .ex x e => ∀ cls dd F' H', Same F F' → Stt E F' e σ H' → Rx E.K F' H' x cls dd → W cls dd σ H'
  | .un => False
theorem PostX.mono {F F1 : Hp} {σ : St} {Q : VK} {r : Fv D} (G : Same F F1) (h : PostX E W F σ Q r) : PostX E W F1 σ Q r := by
  cases r with
  | ok d e => exact fun v F' H' g => h v F' H' (G.trans g)
  | ex x e => exact fun cls dd F' H' g => h cls dd F' H' (G.trans g)
  | un => exact h
theorem PostXT.mono {F F1 : Hp} {σ : St} {Q : Bool → Hp → Prop} {r : Fv Bool} (G : Same F F1) (h : PostXT E W F σ Q r) : PostXT E W F1 σ Q r := by
  cases r with
  | ok d e => exact fun F' H' g => h F' H' (G.trans g)
  | ex x e => exact fun cls dd F' H' g => h cls dd F' H' (G.trans g)
  | un => exact h
theorem PostXA.mono {F F1 : Hp} {σ : St} {Q : List V → Hp → Prop} {r : Fv (List Arg)} (G : Same F F1) (h : PostXA E W F σ Q r) : PostXA E W F1 σ Q r := by
  cases r with
  | ok d e => exact fun vs F' H' g => h vs F' H' (G.trans g)
  | ex x e => exact fun cls dd F' H' g => h cls dd F' H' (G.trans g)
  | un => exact h
def OkX (E : Ent) (W : WX) (t : TE) (f : En → Fv D) : Prop := ∀ F σ H env, Stt E F env σ H → ∀ Q, PostX E W F σ Q (f env) → t σ H Q
def OkXT (E : Ent) (W : WX) (t : TT) (f : En → Fv Bool) : Prop := ∀ F σ H env, Stt E F env σ H → ∀ Q, PostXT E W F σ Q (f env) → t σ H Q
def OkXA (E : Ent) (W : WX) (t : TA) (f : En → Fv (List Arg)) : Prop := ∀ F σ H env, Stt E F env σ H → ∀ Q, PostXA E W F σ Q (f env) → t σ H Q
structure SX (X : Cx) (E : Ent) (W : WX) (e : Expr) (f : En → Fv D) : Prop where
  hK : X.K = E.K.k
  ex : ∃ t, PE X e t ∧ OkX E W t f
structure SXT (X : Cx) (E : Ent) (W : WX) (e : Expr) (f : En → Fv Bool) : Prop where
  hK : X.K = E.K.k
  ex : ∃ t, PT X e t ∧ OkXT E W t f
structure SXW (X : Cx) (E : Ent) (W : WX) (e : Expr) (f : En → Fv Bool) : Prop where
  hK : X.K = E.K.k
  ex : ∃ t, PW X e t ∧ OkXT E W t f
structure SXA (X : Cx) (E : Ent) (W : WX) (es : List Expr) (f : En → Fv (List Arg)) : Prop where
  hK : X.K = E.K.k
  ex : ∃ t, PA X es t ∧ OkXA E W t f
end
section
variable {X : Cx} {E : Ent} {W : WX} {e a b : Expr} {f g : En → Rs D} {fx gx : En → Fv D} {tx ux : En → Fv Bool} {pos : Pos}
def xDat (f : En → Rs D) : En → Fv D := fun env => (toFv env (f env)).bind fun d e => datV e d
theorem SX.dat (h : SE X E W e f) : SX X E W e (xDat f) := by
  obtain ⟨t, p, k⟩ := h.ex
  refine ⟨h.hK, t, p, fun F σ H env S Q q => k F σ H env S Q ?_⟩
  unfold xDat at q
  cases e1 : f env with
  | un => rw [e1] at q; exact q
  | ex x => rw [e1] at q; exact fun cls dd F' H' G r => q cls dd F' H' G.f (S.grow G) r
  | ok d =>
    rw [e1, toFv_ok, Fv.bind_ok] at q
    unfold datV at q
    split at q
    · rename_i hd
      exact fun v fp F' H' G r => q v F' H' G.f (S.grow G) (r.toData hd)
    · exact q.elim
def xTst (f : En → Rs Bool) : En → Fv Bool := fun env => toFv env (f env)
theorem SXT.dat {f : En → Rs Bool} (h : ST X E W e f) : SXT X E W e (xTst f) := by
  obtain ⟨t, p, k⟩ := h.ex
  refine ⟨h.hK, t, p, fun F σ H env S Q q => k F σ H env S Q ?_⟩
  unfold xTst at q
  cases e1 : f env with
  | un => rw [e1] at q; exact q
  | ex x => rw [e1] at q; exact fun cls dd F' H' G r => q cls dd F' H' G.f (S.grow G) r
  | ok d => rw [e1] at q; exact fun F' H' G => q F' H' G.f (S.grow G)
def xBin (op : D → D → Option D) (f g : En → Fv D) : En → Fv D := fun env => (f env).bind fun a e => (g e).bind fun b e2 => optV e2 (op a b)
theorem two_okX {ta tb : TE} {r : R2} {op : D → D → Option D} (ha : OkX E W ta fx) (hb : OkX E W tb gx)
    (hr : ∀ F H x y d1 d2 fp1 fp2 d, Same F H → R E.K F H d1 x fp1 → R E.K F H d2 y fp2 → op d1 d2 = some d → ∀ Q : VK, (∀ v fp F' H', Grow F H F' H' → R E.K F' H' d v fp → Q v H') → r x y H Q) :
    OkX E W (tOp r ta tb) (xBin op fx gx) := by
  intro F σ H env S Q h
  refine ha F σ H env S _ ?_
  unfold xBin at h
  cases e1 : fx env with
  | un => rw [e1] at h; exact h
  | ex x e => rw [e1] at h; exact h
  | ok d1 e =>
    rw [e1, Fv.bind_ok] at h
    intro v1 F1 H1 G1 S1 r1
    refine hb F1 σ H1 e S1 _ ?_
    cases e2 : gx e with
    | un => rw [e2] at h; exact h
    | ex x e' => rw [e2] at h; exact PostX.mono (r := .ex x e') G1 h
    | ok d2 e' =>
      rw [e2, Fv.bind_ok] at h
      intro v2 F2 H2 G2 S2 r2
      cases e3 : op d1 d2 with
      | none => rw [e3] at h; exact h.elim
      | some d =>
        rw [e3] at h
        have h : PostX E W F σ Q (if isData d then .ok d e' else .un) := h
        split at h
        · rename_i hd
          exact hr F2 H2 v1 v2 d1 d2 [] [] d S2.fH (R.mono G2 _ (fun a z => nomatch z) r1) r2 e3 Q fun v fp F' H' G k => h v F' H' ((G1.trans G2).trans G.f) (S2.grow G) (k.toData hd)
        · exact h.elim
theorem SX.bin {o : Operator} {op : D → D → Option D} (ho : OpS X E (binaryOp o) op) (ha : SX X E W a fx) (hb : SX X E W b gx) : SX X E W (.BinOp a o b pos) (xBin op fx gx) := by
  obtain ⟨r, h1, h2⟩ := ho
  obtain ⟨ta, pa, ka⟩ := ha.ex
  obtain ⟨tb, pb, kb⟩ := hb.ex
  exact ⟨ha.hK, _, pe_op h1 pa pb, two_okX ka kb h2⟩
theorem SX.cmp {o : CmpOp} {op : D → D → Option D} (ho : OpS X E (compareOp o) op) (ha : SX X E W a fx) (hb : SX X E W b gx) (hm : behindInMarks o b = false := by first | exact nomark _ | rfl) : SX X E W (.Compare a [o] [b] pos) (xBin op fx gx) := by
  obtain ⟨r, h1, h2⟩ := ho
  obtain ⟨ta, pa, ka⟩ := ha.ex
  obtain ⟨tb, pb, kb⟩ := hb.ex
  exact ⟨ha.hK, _, pe_cmpR h1 pa pb hm, two_okX ka kb h2⟩
def asBV (env : En) : D → Fv Bool
  | .bl b => .ok b env
  | _ => .un
def xB (f : En → Fv D) : En → Fv Bool := fun env => (f env).bind fun d e => asBV e d
theorem testX_ok {t : TE} (h : OkX E W t fx) : OkXT E W (tTest t) (xB fx) := by
  intro F σ H env S Q q
  refine h F σ H env S _ ?_
  unfold xB at q
  cases e : fx env with
  | un => rw [e] at q; exact q
  | ex x e' => rw [e] at q; exact q
  | ok d e' =>
    rw [e, Fv.bind_ok] at q
    intro v F' H' G S' r
    cases d <;> first | exact q.elim | skip
    cases r
    exact ⟨_, rfl, q F' H' G S'⟩
theorem SXT.cmp {o : CmpOp} {op : D → D → Option D} (ho : OpS X E (compareOp o) op) (ha : SX X E W a fx) (hb : SX X E W b gx) (hm : behindInMarks o b = false := by first | exact nomark _ | rfl) : SXT X E W (.Compare a [o] [b] pos) (xB (xBin op fx gx)) := by
  obtain ⟨r, h1, h2⟩ := ho
  obtain ⟨ta, pa, ka⟩ := ha.ex
  obtain ⟨tb, pb, kb⟩ := hb.ex
  exact ⟨ha.hK, _, pt_cmpR h1 pa pb hm, testX_ok (two_okX ka kb h2)⟩
def xTru (f : En → Fv D) : En → Fv Bool := fun env => (f env).bind fun d e => toFv e (truD d)
theorem SXT.tru (ha : SX X E W a fx) (he : ∀ whole, isTrue a X.env whole = (do let v ← whole; standAt a.pos; holding [v] (truthy v)) := by intro _; rfl) : SXT X E W a (xTru fx) := by
  obtain ⟨t, p, k⟩ := ha.ex
  refine ⟨ha.hK, _, pt_truth p he, fun F σ H env S Q q => ?_⟩
  refine k F σ H env S _ ?_
  unfold xTru at q
  cases e : fx env with
  | un => rw [e] at q; exact q
  | ex x e' => rw [e] at q; exact q
  | ok d e' =>
    rw [e, Fv.bind_ok] at q
    intro v F' H' G S' r
    cases e2 : truD d with
    | un => rw [e2] at q; exact q.elim
    | ex x =>
      exfalso
      cases d <;> cases e2
    | ok b =>
      rw [e2] at q
      exact ⟨b, by rw [ha.hK]; exact tru_at S'.fH r e2, q F' H' G S'⟩
variable {rest : List Expr}
def xAnd (f g : En → Fv Bool) : En → Fv Bool := fun env => (f env).bind fun b e => if b then g e else .ok false e
def xOr (f g : En → Fv Bool) : En → Fv Bool := fun env => (f env).bind fun b e => if b then .ok true e else g e
def xNot (f : En → Fv Bool) : En → Fv Bool := fun env => (f env).bind fun b e => .ok (!b) e
theorem SXW.and1 (ha : SXT X E W a tx) : SXW X E W (.BoolOp .And [a] pos) tx := by
  obtain ⟨t, p, k⟩ := ha.ex
  exact ⟨ha.hK, _, pw_and1 p, k⟩
theorem SXW.or1 (ha : SXT X E W a tx) : SXW X E W (.BoolOp .Or [a] pos) tx := by
  obtain ⟨t, p, k⟩ := ha.ex
  exact ⟨ha.hK, _, pw_or1 p, k⟩
theorem SXW.and (ha : SXT X E W a tx) (hb : SXW X E W (.BoolOp .And (b :: rest) pos) ux) : SXW X E W (.BoolOp .And (a :: b :: rest) pos) (xAnd tx ux) := by
  obtain ⟨t, p, k⟩ := ha.ex
  obtain ⟨u, p', k'⟩ := hb.ex
  refine ⟨ha.hK, _, pw_and p p', fun F σ H env S Q q => ?_⟩
  refine k F σ H env S _ ?_
  unfold xAnd at q
  cases e : tx env with
  | un => rw [e] at q; exact q
  | ex x e' => rw [e] at q; exact q
  | ok b e' =>
    rw [e, Fv.bind_ok] at q
    intro F' H' G S'
    cases b with
    | true => exact k' F' σ H' e' S' Q (PostXT.mono G q)
    | false => exact q F' H' G S'
theorem SXW.or (ha : SXT X E W a tx) (hb : SXW X E W (.BoolOp .Or (b :: rest) pos) ux) : SXW X E W (.BoolOp .Or (a :: b :: rest) pos) (xOr tx ux) := by
  obtain ⟨t, p, k⟩ := ha.ex
  obtain ⟨u, p', k'⟩ := hb.ex
  refine ⟨ha.hK, _, pw_or p p', fun F σ H env S Q q => ?_⟩
  refine k F σ H env S _ ?_
  unfold xOr at q
  cases e : tx env with
  | un => rw [e] at q; exact q
  | ex x e' => rw [e] at q; exact q
  | ok b e' =>
    rw [e, Fv.bind_ok] at q
    intro F' H' G S'
    cases b with
    | true => exact q F' H' G S'
    | false => exact k' F' σ H' e' S' Q (PostXT.mono G q)
theorem SXT.w (h : SXW X E W a tx) : SXT X E W a tx := by
  obtain ⟨t, p, k⟩ := h.ex
  exact ⟨h.hK, _, p.pt, k⟩
theorem SXT.not (ha : SXT X E W a tx) : SXT X E W (.UnaryOp .Not a pos) (xNot tx) := by
  obtain ⟨t, p, k⟩ := ha.ex
  refine ⟨ha.hK, _, pt_not p, fun F σ H env S Q q => ?_⟩
  refine k F σ H env S _ ?_
  unfold xNot at q
  cases e : tx env with
  | un => rw [e] at q; exact q
  | ex x e' => rw [e] at q; exact q
  | ok b e' =>
    rw [e, Fv.bind_ok] at q
    exact fun F' H' G S' => q F' H' G S'
def xIf (c : En → Fv Bool) (f g : En → Fv D) : En → Fv D := fun env => (c env).bind fun b e => if b then f e else g e
theorem SX.ite {c : Expr} (hc : SXT X E W c tx) (ha : SX X E W a fx) (hb : SX X E W b gx) : SX X E W (.IfExp c a b pos) (xIf tx fx gx) := by
  obtain ⟨t, p, k⟩ := hc.ex
  obtain ⟨u, p', k'⟩ := ha.ex
  obtain ⟨u2, p2, k2⟩ := hb.ex
  refine ⟨ha.hK, _, pe_ifExp p p' p2, fun F σ H env S Q q => ?_⟩
  refine k F σ H env S _ ?_
  unfold xIf at q
  cases e : tx env with
  | un => rw [e] at q; exact q
  | ex x e' => rw [e] at q; exact q
  | ok b e' =>
    rw [e, Fv.bind_ok] at q
    intro F' H' G S'
    cases b with
    | true => exact k' F' σ H' e' S' Q (PostX.mono G q)
    | false => exact k2 F' σ H' e' S' Q (PostX.mono G q)
def xAndV (f g : En → Fv D) : En → Fv D := fun env => (f env).bind fun d e => (asBV e d).bind fun b e => if b then g e else .ok (.bl false) e
def xOrV (f g : En → Fv D) : En → Fv D := fun env => (f env).bind fun d e => (asBV e d).bind fun b e => if b then .ok (.bl true) e else g e
def xNotB (f : En → Fv D) : En → Fv D := fun env => (f env).bind fun d e => (asBV e d).bind fun b e => .ok (.bl (!b)) e
theorem SX.one {op : BoolOp} (ha : SX X E W a fx) : SX X E W (.BoolOp op [a] pos) fx := by
  obtain ⟨t, p, k⟩ := ha.ex
  exact ⟨ha.hK, _, pe_one p, k⟩
theorem SX.and (ha : SX X E W a fx) (hb : SX X E W (.BoolOp .And (b :: rest) pos) gx) : SX X E W (.BoolOp .And (a :: b :: rest) pos) (xAndV fx gx) := by
  obtain ⟨t, p, k⟩ := ha.ex
  obtain ⟨u, p', k'⟩ := hb.ex
  refine ⟨ha.hK, _, pe_and p p', fun F σ H env S Q q => ?_⟩
  refine k F σ H env S _ ?_
  unfold xAndV at q
  cases e : fx env with
  | un => rw [e] at q; exact q
  | ex x e' => rw [e] at q; exact q
  | ok d e' =>
    rw [e, Fv.bind_ok] at q
    intro v F' H' G S' r
    cases d <;> first | exact q.elim | skip
    rename_i b
    cases r
    have q : PostX E W F σ Q (if b then gx e' else .ok (.bl false) e') := q
    refine ⟨b, rfl, ?_⟩
    cases b with
    | true => exact k' F' σ H' e' S' Q (PostX.mono G q)
    | false => exact q _ F' H' G S' (.bl false)
theorem SX.or (ha : SX X E W a fx) (hb : SX X E W (.BoolOp .Or (b :: rest) pos) gx) : SX X E W (.BoolOp .Or (a :: b :: rest) pos) (xOrV fx gx) := by
  obtain ⟨t, p, k⟩ := ha.ex
  obtain ⟨u, p', k'⟩ := hb.ex
  refine ⟨ha.hK, _, pe_or p p', fun F σ H env S Q q => ?_⟩
  refine k F σ H env S _ ?_
  unfold xOrV at q
  cases e : fx env with
  | un => rw [e] at q; exact q
  | ex x e' => rw [e] at q; exact q
  | ok d e' =>
    rw [e, Fv.bind_ok] at q
    intro v F' H' G S' r
    cases d <;> first | exact q.elim | skip
    rename_i b
    cases r
    have q : PostX E W F σ Q (if b then .ok (.bl true) e' else gx e') := q
    refine ⟨b, rfl, ?_⟩
    cases b with
    | true => exact q _ F' H' G S' (.bl true)
    | false => exact k' F' σ H' e' S' Q (PostX.mono G q)
theorem SX.not (ha : SX X E W a fx) : SX X E W (.UnaryOp .Not a pos) (xNotB fx) := by
  obtain ⟨t, p, k⟩ := ha.ex
  refine ⟨ha.hK, _, pe_not p, fun F σ H env S Q q => ?_⟩
  refine k F σ H env S _ ?_
  unfold xNotB at q
  cases e : fx env with
  | un => rw [e] at q; exact q
  | ex x e' => rw [e] at q; exact q
  | ok d e' =>
    rw [e, Fv.bind_ok] at q
    intro v F' H' G S' r
    cases d <;> first | exact q.elim | skip
    rename_i b
    cases r
    exact ⟨b, rfl, q _ F' H' G S' (.bl _)⟩
theorem SX.ix (ha : SX X E W a fx) (hb : SX X E W b gx) (hp : PlainIx b := by exact fun _ _ => rfl) : SX X E W (.Subscript a b pos) (xBin pIx fx gx) := by
  obtain ⟨ta, pa, ka⟩ := ha.ex
  obtain ⟨tb, pb, kb⟩ := hb.ex
  obtain ⟨r, h1, h2⟩ := ixS (E := E) ha.hK
  exact ⟨ha.hK, _, pe_ix h1 pa pb hp, two_okX ka kb h2⟩
end
end Z

set_option Elab.async false
set_option linter.all false
set_option maxRecDepth 100000
set_option maxHeartbeats 1000000
/-! ZK: what is lent to a callee and comes back changed -/
namespace Z
open PySem L2
mutual
def noBor : D → Bool
  | .olst xs => noBorL xs
  | .odic _ _ vs => noBorL vs
  | .oob _ _ vs => noBorL vs
  | .bor _ _ => false
  | _ => true
def noBorL : List D → Bool
  | [] => true
  | x :: xs => noBor x && noBorL xs
end
theorem noBor_data : ∀ {d : D}, isData d = true → noBor d = true := by
  intro d h
  cases d <;> first | rfl | (cases h; done)
theorem noBorL_data : ∀ {ds : List D}, ds.all isData = true → noBorL ds = true
  | [], _ => by simp [noBorL]
  | d :: ds, h => by
    rw [List.all_cons, Bool.and_eq_true] at h
    simp only [noBorL, noBor_data h.1, noBorL_data h.2, Bool.and_self]
mutual
theorem R.reL {K K' : Kx} {F H : Hp} (hk : K'.k = K.k) (hc : K'.ca = K.ca) : ∀ (d : D) {v : V} {fp : List Addr}, noBor d = true → R K F H d v fp → R K' F H d v fp
  | .non, _, _, _, h => by cases h; exact .non
  | .bl _, _, _, _, h => by cases h; exact .bl _
  | .int _, _, _, _, h => by cases h; exact .int _
  | .str _, _, _, _, h => by
    cases h with
    | str k => exact .str k
  | .tup ds, _, _, _, h => R.reK hk hc _ (h.data rfl) h |> fun r => by have e := h.data rfl; rw [e]; exact r
  | .lst ds, _, _, _, h => R.reK hk hc _ (h.data rfl) h |> fun r => by have e := h.data rfl; rw [e]; exact r
  | .olst ds, _, _, z, h => by
    have z : noBorL ds = true := by simpa only [noBor] using z
    cases h with
    | olst a b c => exact .olst a (RL.reL hk hc ds z b) c
  | .dic t ks ds, _, _, _, h => R.reK hk hc _ (h.data rfl) h |> fun r => by have e := h.data rfl; rw [e]; exact r
  | .odic t ks ds, _, _, z, h => by
    have z : noBorL ds = true := by simpa only [noBor] using z
    cases h with
    | odicK a b c => exact .odicK a (RL.reL hk hc ds z b) c
    | odicT a b c => exact .odicT a (RL.reL hk hc ds z b) c
  | .set _, _, _, _, h => nomatch h
  | .oset _, _, _, _, h => nomatch h
  | .ob c ns ds, _, _, _, h => R.reK hk hc _ (h.data rfl) h |> fun r => by have e := h.data rfl; rw [e]; exact r
  | .oob c ns ds, _, _, z, h => by
    have z : noBorL ds = true := by simpa only [noBor] using z
    cases h with
    | oob a b c d => exact .oob (by rw [hc]; exact a) b (RL.reL hk hc ds z c) d
  | .scr _, _, _, _, h => R.reK hk hc _ (h.data rfl) h |> fun r => by have e := h.data rfl; rw [e]; exact r
  | .bor _ _, _, _, z, h => by simp [noBor] at z
  | .exn _ _ _ _ _ _, _, _, _, h => by
    cases h with
    | exn a b c => rw [← hc]; exact .exn a (RL.reK hk hc _ rfl b) c
theorem RL.reL {K K' : Kx} {F H : Hp} (hk : K'.k = K.k) (hc : K'.ca = K.ca) : ∀ (ds : List D) {vs : List V} {fp : List Addr}, noBorL ds = true → RL K F H ds vs fp → RL K' F H ds vs fp
  | [], _, _, _, h => by cases h; exact .nil
  | d :: ds, _, _, z, h => by
    have z : noBor d = true ∧ noBorL ds = true := by simpa only [noBorL, Bool.and_eq_true] using z
    cases h with
    | cons h1 h2 => exact .cons (R.reL hk hc d z.1 h1) (RL.reL hk hc ds z.2 h2)
end
/-- the outcome of a callee with one thing lent: the value and the thing behind it -/
inductive Fw where
  | ok (r d : D) | ex (x d : D) | un
def PostW (K : Kx) (F H : Hp) (v : V) (fp : List Addr) (Q : VK) (Ex : XK) : Fw → Prop
  | .ok r d => ∀ u F' H' fp', Chg F H F' H' fp fp' → fp' ≠ [] → noBor d = true → R K F' H' d v fp' → R K F' H' r u [] → Q u H'
  | .ex x d => ∀ cls dd F' H' fp', Chg F H F' H' fp fp' → fp' ≠ [] → noBor d = true → R K F' H' d v fp' → Rx K F' H' x cls dd → Ex cls dd H'
  | .un => False
def spL (K : Kx) (n t : Nat) (m : List D → Fw) : Sp := fun vs H Q Ex => ∃ ds1 d ds2 F ws1 a ws2 fp, vs = ws1 ++ .ref a :: ws2 ∧ Same F H ∧ RL K F H ds1 ws1 [] ∧ RL K F H ds2 ws2 [] ∧ R K F H d (.ref a) fp ∧ fp ≠ [] ∧ fp.Nodup ∧ (∀ b ∈ fp, F b = none) ∧
  noBor d = true ∧ ds1.length = t ∧ ds1.length + 1 + ds2.length = n ∧ PostW K F H (.ref a) fp Q Ex (m (ds1 ++ d :: ds2))
def lendT (k : Nat) : Nat → List D → List D
  | _, [] => []
  | 0, d :: ds => .bor k d :: ds
  | t + 1, d :: ds => d :: lendT k t ds
def backL (t : Nat) (e : En) (k : D → Fw) : Fw := match e[t]? with
  | some (some (.bor t' d)) => if t' = t ∧ noBor d = true then k d else .un
  | _ => .un
def outL (t : Nat) : Fl → Fw
  | .rt r e => backL t e fun d => .ok r d
  | .nx e => backL t e fun d => .ok .non d
  | .xx x e => backL t e fun d => .ex x d
  | _ => .un
def runL (g : En → Fl) (n t : Nat) (ds : List D) : Fw := outL t (g (start0 n (lendT t t ds)))
theorem lendT_app (k : Nat) (d : D) (ds2 : List D) : ∀ ds1 : List D, lendT k ds1.length (ds1 ++ d :: ds2) = ds1 ++ .bor k d :: ds2
  | [] => rfl
  | x :: ds1 => congrArg (x :: ·) (lendT_app k d ds2 ds1)
/-- no exception leaves it -/
def noXL : Fw → Fw
  | .ok r d => .ok r d
  | _ => .un
@[simp] theorem noXL_ok (r d : D) : noXL (.ok r d) = .ok r d := id rfl
def runL0 (g : En → Fl) (n t : Nat) (ds : List D) : Fw := noXL (runL g n t ds)
def NoXL (m : List D → Fw) : Prop := ∀ ds x d, m ds ≠ .ex x d
theorem runL0_nox {g : En → Fl} {n t : Nat} : NoXL (runL0 g n t) := fun ds x d e => by
  unfold runL0 at e
  cases q : runL g n t ds <;> rw [q] at e <;> cases e
/-! ### the return that keeps the slots -/
section
variable {X : Cx} {E : Ent} {W : WX} {e : Expr} {f : En → Rs D} {fx : En → Fv D} {pos : Pos}
def sRetX (f : En → Fv D) : En → Fl := fun env => match f env with
  | .ok d e => .rt d e
  | .ex x e => .xx x e
  | .un => .un
theorem SS.retX (hf : SX X E W e fx) : SS X E W (.Return (some e) pos) (sRetX fx) := by
  obtain ⟨t, p, k⟩ := hf.ex
  refine ⟨hf.hK, _, ps_ret p, fun F σ H env S D q => ?_⟩
  refine k F σ H env S _ ?_
  unfold sRetX at q
  cases e1 : fx env with
  | un => rw [e1] at q; exact q
  | ex x e' => rw [e1] at q; exact fun cls dd F' H' G S' r => q cls dd F' σ H' G S' r
  | ok d e' => rw [e1] at q; exact fun v F' H' G S' r => q v F' σ H' G S' r
def sRetNX : En → Fl := fun e => .rt .non e
theorem SS.retNX (hK : X.K = E.K.k := by rfl) : SS X E W (.Return none pos) sRetNX := ⟨hK, _, ps_retN, fun F σ H env S D q => q _ F σ H (Same.refl _) S .non⟩
def sExprX (f : En → Fv D) : En → Fl := fun env => match f env with
  | .ok _ e => .nx e
  | .ex x e => .xx x e
  | .un => .un
theorem SS.exprX (hf : SX X E W e fx) (hs : swapsWith e none pos.line X.env = pure false := by rfl) : SS X E W (.Expr e pos) (sExprX fx) := by
  obtain ⟨t, p, k⟩ := hf.ex
  refine ⟨hf.hK, _, ps_expr p hs, fun F σ H env S D q => ?_⟩
  refine k F σ H env S _ ?_
  unfold sExprX at q
  cases e1 : fx env with
  | un => rw [e1] at q; exact q
  | ex x e' => rw [e1] at q; exact fun cls dd F' H' G S' r => q cls dd F' σ H' G S' r
  | ok d e' => rw [e1] at q; exact fun v F' H' G S' r => q F' σ H' G S'
def sSetX (i : Nat) (f : En → Fv D) : En → Fl := fun env => match f env with
  | .ok d e => .nx (e.set i (some d))
  | .ex x e => .xx x e
  | .un => .un
theorem SS.setX (i : Nat) {y : Str} {py : Pos} (hf : SX X E W e fx) (hN : X.N.Nodup) (hy : X.N[i]? = some y := by rfl) (hl : Loc X.env.scope y := by first | exact Or.inl rfl | exact Or.inr rfl)
    (hs : swapsWith e (some (.Name y py)) pos.line X.env = pure false := by rfl) (hfn : X.fn y = true ∨ X.env.scope.names.lookup y = some .local := by first | exact .inl rfl | exact .inr rfl) : SS X E W (.Assign [.Name y py] e pos) (sSetX i fx) := by
  obtain ⟨t, p, k⟩ := hf.ex
  refine ⟨hf.hK, _, ps_set hN hy hl p hs hfn, fun F σ H env S D q => ?_⟩
  refine k F σ H env S _ ?_
  unfold sSetX at q
  cases e1 : fx env with
  | un => rw [e1] at q; exact q
  | ex x e' => rw [e1] at q; exact fun cls dd F' H' G S' r => q cls dd F' σ H' G S' r
  | ok d e' => rw [e1] at q; exact fun v F' H' G S' r => q F' _ H' G (S'.setData i r)
def sIfX (c : En → Fv Bool) (g h : En → Fl) : En → Fl := fun env => match c env with
  | .ok true e => g e
  | .ok false e => h e
  | .ex x e => .xx x e
  | .un => .un
theorem SS.iteX {c : Expr} {tc : En → Fv Bool} {a b : List Stmt} {gs gt : En → Fl} (hc : SXT X E W c tc) (ha : SB X E W a gs) (hb : SB X E W b gt) : SS X E W (.If c a b pos) (sIfX tc gs gt) := by
  obtain ⟨t, p, k⟩ := hc.ex
  obtain ⟨u, p', k'⟩ := ha.ex
  obtain ⟨u2, p2, k2⟩ := hb.ex
  refine ⟨hc.hK, _, ps_if p p' p2, fun F σ H env S D q => ?_⟩
  refine k F σ H env S _ ?_
  unfold sIfX at q
  cases e1 : tc env with
  | un => rw [e1] at q; exact q
  | ex x e' => rw [e1] at q; exact fun cls dd F' H' G S' r => q cls dd F' σ H' G S' r
  | ok b e' =>
    rw [e1] at q
    intro F' H' G S'
    cases b with
    | true => exact k' F' σ H' e' S' D (q.mono G)
    | false => exact k2 F' σ H' e' S' D (q.mono G)
def sUnpX (h : D → En → Option En) (f : En → Fv D) : En → Fl := fun env => match f env with
  | .ok d e => match h d e with
      | some e => .nx e
      | none => .un
  | .ex x e => .xx x e
  | .un => .un
theorem SS.unpX {tg : Expr} {is : List Nat} {h : D → En → Option En} (hg : SG X E tg is h) (hf : SX X E W e fx) (hs : swapsWithSole [tg] e pos.line X.env = pure false := by rfl) (hw : swappedStores [tg] e X.env = pure none := by rfl)
    (h1 : (assignEach [tg] X.env).map (·.2) = [assign tg X.env] := by rfl) : SS X E W (.Assign [tg] e pos) (sUnpX h fx) := by
  obtain ⟨t, p, k⟩ := hf.ex
  obtain ⟨u, p', k'⟩ := hg.ex
  refine ⟨hf.hK, _, ps_asg p p' hs hw h1, fun F σ H env S D q => ?_⟩
  refine k F σ H env S _ ?_
  unfold sUnpX at q
  cases e1 : fx env with
  | un => rw [e1] at q; exact q
  | ex x e' => rw [e1] at q; exact fun cls dd F' H' G S' r => q cls dd F' σ H' G S' r
  | ok d e' =>
    rw [e1] at q
    dsimp only at q
    intro v F1 H1 G1 S1 r1
    cases e2 : h d e' with
    | none => rw [e2] at q; exact q.elim
    | some en =>
      rw [e2] at q
      exact k' F1 σ H1 e' d v S1 r1 _ ⟨en, e2, fun σ' S' _ _ => q F1 σ' H1 G1 S'⟩
/-! ### arguments -/
def xaNil : En → Fv (List Arg) := fun env => .ok [] env
def xaD (f : En → Fv D) (g : En → Fv (List Arg)) : En → Fv (List Arg) := fun env => (f env).bind fun d e => (g e).bind fun as e => .ok (.d d :: as) e
def xaS (j : Nat) (g : En → Fv (List Arg)) : En → Fv (List Arg) := fun env => match env[j]? with
  | some (some _) => (g env).bind fun as e => .ok (.s j :: as) e
  | _ => .un
theorem SXA.nil (hK : X.K = E.K.k := by rfl) : SXA X E W [] xaNil := ⟨hK, _, pa_nil, fun F σ H env S Q q => q [] F H (Same.refl _) S .nil⟩
theorem SXA.d {es : List Expr} {ga : En → Fv (List Arg)} (ha : SX X E W e fx) (hr : SXA X E W es ga) (hs : starEach (e :: es) X.env = (false, eval e X.env) :: starEach es X.env := by rfl) : SXA X E W (e :: es) (xaD fx ga) := by
  obtain ⟨t, p, k⟩ := ha.ex
  obtain ⟨u, p', k'⟩ := hr.ex
  refine ⟨ha.hK, _, pa_cons p p' hs, fun F σ H env S Q q => ?_⟩
  refine k F σ H env S _ ?_
  unfold xaD at q
  cases e1 : fx env with
  | un => rw [e1] at q; exact q
  | ex x e' => rw [e1] at q; exact q
  | ok d e' =>
    rw [e1, Fv.bind_ok] at q
    intro v F1 H1 G1 S1 r1
    refine k' F1 σ H1 e' S1 _ ?_
    cases e2 : ga e' with
    | un => rw [e2] at q; exact q
    | ex x e2' => rw [e2] at q; exact PostXA.mono (r := .ex x e2') G1 q
    | ok as e2' =>
      rw [e2, Fv.bind_ok] at q
      intro vs F2 H2 G2 S2 r2
      exact q _ F2 H2 (G1.trans G2) S2 (.d (R.mono G2 _ (fun a z => nomatch z) r1) r2)
theorem SXA.s {es : List Expr} {ga : En → Fv (List Arg)} (j : Nat) {x : Str} {p : Pos} (hr : SXA X E W es ga) (hN : X.N[j]? = some x := by rfl) (hv : Vis X.env.scope x := by first | exact Or.inl rfl | exact Or.inr (Or.inl rfl) | exact Or.inr (Or.inr rfl))
    (hd : (x == ("__debug__" : Str)) = false := by decide) (hcd : (x == ("__classdict__" : Str)) = false := by decide) (hs : starEach (.Name x p :: es) X.env = (false, eval (.Name x p) X.env) :: starEach es X.env := by rfl) : SXA X E W (.Name x p :: es) (xaS j ga) := by
  obtain ⟨u, p', k'⟩ := hr.ex
  refine ⟨hr.hK, _, pa_cons (pe_var hN hv hd hcd) p' hs, fun F σ H env S Q q => ?_⟩
  unfold xaS at q
  split at q
  · rename_i d he
    obtain ⟨fps, rs, _⟩ := S.rep
    obtain ⟨v, fp, h1, _, _⟩ := rs.get he
    refine ⟨v, h1, k' F σ H env S _ ?_⟩
    cases e2 : ga env with
    | un => rw [e2] at q; exact q
    | ex x e2' => rw [e2] at q; exact q
    | ok as e2' =>
      rw [e2, Fv.bind_ok] at q
      exact fun vs F2 H2 G2 S2 r2 => q _ F2 H2 G2 S2 (.s h1 r2)
  · exact q.elim
/-! ### calls -/
def xCallB (g : List D → Option D) (fa : En → Fv (List Arg)) : En → Fv D := fun env => (fa env).bind fun as e => match datsOf as with
  | some ds => optV e (g ds)
  | none => .un
theorem cb_okX {r : List V → Hp → VK → Prop} {t : TA} {fa : En → Fv (List Arg)} {g : List D → Option D} (ka : OkXA E W t fa)
    (hr : ∀ F H vs ds fp d, Same F H → RL E.K F H ds vs fp → g ds = some d → ∀ Q : VK, (∀ v fp F' H', Grow F H F' H' → R E.K F' H' d v fp → Q v H') → r vs H Q) : OkX E W (tCB r t) (xCallB g fa) := by
  intro F σ H env S Q q
  refine ka F σ H env S _ ?_
  unfold xCallB at q
  cases e1 : fa env with
  | un => rw [e1] at q; exact q
  | ex x e' => rw [e1] at q; exact q
  | ok as e' =>
    rw [e1, Fv.bind_ok] at q
    intro vs F1 H1 G1 S1 r1
    cases e2 : datsOf as with
    | none => rw [e2] at q; exact q.elim
    | some ds =>
      rw [e2] at q
      dsimp only at q
      cases e3 : g ds with
      | none => rw [e3] at q; exact q.elim
      | some d =>
        rw [e3] at q
        have q : PostX E W F σ Q (if isData d then .ok d e' else .un) := q
        split at q
        · rename_i hd
          exact hr F1 H1 vs ds [] d S1.fH (datsOf_at r1 e2) e3 Q fun v fq F' H' G k => q v F' H' (G1.trans G.f) (S1.grow G) (k.toData hd)
        · exact q.elim
theorem SX.callB {x : Str} {id : String} {p : Pos} {es : List Expr} {fa : En → Fv (List Arg)} {g : List D → Option D} (hb : BS X E (.builtin id) g) (hm : X.mg x = none) (hv : bootBuiltins x = some (.builtin id)) (ha : SXA X E W (e :: es) fa) (hg : Gl X x := by rfl)
    (hn : x ≠ "__name__" := by decide) (hdb : (x == ("__debug__" : Str)) = false := by decide)
    (he : starEach (e :: es) X.env = (false, eval e X.env) :: starEach es X.env := by rfl) (hpl : (backTo pos (starEach es X.env)).any (·.1) = false := by rfl) : SX X E W (.Call (.Name x p) (e :: es) [] pos) (xCallB g fa) := by
  obtain ⟨t, pa, ka⟩ := ha.ex
  obtain ⟨r, h1, h2⟩ := hb
  exact ⟨ha.hK, _, pe_callB h1 hg hm hv pa hn hdb he hpl, cb_okX ka h2⟩
theorem SX.callT {x : Str} {T : String} {p : Pos} {es : List Expr} {fa : En → Fv (List Arg)} {g : List D → Option D} (hb : BS X E (.type T) g) (hm : X.mg x = none) (hv : bootBuiltins x = some (.type T)) (ha : SXA X E W (e :: es) fa) (hg : Gl X x := by rfl)
    (hn : x ≠ "__name__" := by decide) (hdb : (x == ("__debug__" : Str)) = false := by decide)
    (he : starEach (e :: es) X.env = (false, eval e X.env) :: starEach es X.env := by rfl) (hpl : (backTo pos (starEach es X.env)).any (·.1) = false := by rfl) : SX X E W (.Call (.Name x p) (e :: es) [] pos) (xCallB g fa) := by
  obtain ⟨t, pa, ka⟩ := ha.ex
  obtain ⟨r, h1, h2⟩ := hb
  exact ⟨ha.hK, _, pe_callTy h1 hg hm hv pa hn hdb he hpl, cb_okX ka h2⟩
def xTup (fa : En → Fv (List Arg)) : En → Fv D := fun env => (fa env).bind fun as e => match datsOf as with
  | some ds => if ds.length ≤ 16777216 then .ok (.tup ds) e else .un
  | none => .un
theorem SX.tup {es : List Expr} {fa : En → Fv (List Arg)} {k1} (h : SXA X E W es fa) : SX X E W (.Tuple es k1 pos) (xTup fa) := by
  obtain ⟨t, p, k⟩ := h.ex
  refine ⟨h.hK, _, pe_tup p, fun F σ H env S Q q => ?_⟩
  refine k F σ H env S _ ?_
  unfold xTup at q
  cases e1 : fa env with
  | un => rw [e1] at q; exact q
  | ex x e' => rw [e1] at q; exact q
  | ok as e' =>
    rw [e1, Fv.bind_ok] at q
    intro vs F1 H1 G1 S1 r1
    cases e2 : datsOf as with
    | none => rw [e2] at q; exact q.elim
    | some ds =>
      rw [e2] at q
      dsimp only at q
      split at q
      · rename_i hl
        have r0 := datsOf_at r1 e2
        refine ⟨by rw [r0.len]; exact hl, fun pp hp => ?_⟩
        exact q _ _ _ (G1.trans (Grow.new S1.fH hp).f) (S1.grow (Grow.new S1.fH hp)) (.tup upd_same (r0.grow (Grow.new S1.fH hp)) hl)
      · exact q.elim
/-- a call of a def of the program that lends nothing -/
def xApp (n : Nat) (m : List D → Rs D) (fa : En → Fv (List Arg)) : En → Fv D := fun env => (fa env).bind fun as e => match datsOf as with
  | some ds => if ds.length = n then (toFv e (m ds)).bind fun d e => datV e d else .un
  | none => .un
theorem SX.callX {x : Str} {p : Pos} {es : List Expr} {k n : Nat} {fa_ : Addr} {fd : FuncData} {ps : List Str} {m : List D → Rs D} {fa : En → Fv (List Arg)} (tk : Takes X W)
    (F : FnOk X.prog X.w X.K X.mg X.base (L2.CX X.prog X.w) k fa_ fd ps (spP E.K n m)) (hr : Room k X.A) (hm : X.mg x = some (.ref fa_)) (hk : PySem.W.keepIn X.K (.ref fa_) = true) (hb : Binds X.K fd ps []) (ha : SXA X E W (e :: es) fa) (hg : Gl X x := by rfl)
    (hdb : (x == ("__debug__" : Str)) = false := by decide) (he : starEach (e :: es) X.env = (false, eval e X.env) :: starEach es X.env := by rfl) (hpl : (backTo pos (starEach es X.env)).any (·.1) = false := by rfl) :
    SX X E W (.Call (.Name x p) (e :: es) [] pos) (xApp n m fa) := by
  obtain ⟨t, pa, ka⟩ := ha.ex
  refine ⟨ha.hK, _, pe_callW (W := W) (F.raw hb .nil) hr hk hg hm (passW_of tk) pa hdb he hpl, fun Fz σ H env S Q q => ?_⟩
  refine ka Fz σ H env S _ ?_
  unfold xApp at q
  cases e1 : fa env with
  | un => rw [e1] at q; exact q
  | ex x e' => rw [e1] at q; exact q
  | ok as e' =>
    rw [e1, Fv.bind_ok] at q
    intro vs F1 H1 G1 S1 r1
    cases e2 : datsOf as with
    | none => rw [e2] at q; exact q.elim
    | some ds =>
      rw [e2] at q
      dsimp only at q
      split at q
      · rename_i hl
        rw [List.append_nil]
        refine ⟨ds, F1, S1.fH, datsOf_at r1 e2, hl, ?_⟩
        cases e3 : m ds with
        | un => rw [e3] at q; exact q
        | ex x => rw [e3] at q; exact fun cls dd F' H' G r => q cls dd F' H' (G1.trans G.f) (S1.grow G) r
        | ok d =>
          rw [e3] at q
          have q : PostX E W Fz σ Q (if isData d then .ok d e' else .un) := q
          split at q
          · exact fun v F' H' G r => q v F' H' (G1.trans G.f) (S1.grow G) r
          · exact q.elim
      · exact q.elim
theorem SX.call0 {x : Str} {p : Pos} {es : List Expr} {k n : Nat} {fa_ : Addr} {fd : FuncData} {ps : List Str} {m : List D → Rs D} {fa : En → Fv (List Arg)}
    (F : FnOk X.prog X.w X.K X.mg X.base CX0 k fa_ fd ps (spP E.K n m)) (hx : NoX m) (hr : Room k X.A) (hm : X.mg x = some (.ref fa_)) (hk : PySem.W.keepIn X.K (.ref fa_) = true) (hb : Binds X.K fd ps []) (ha : SXA X E W (e :: es) fa) (hg : Gl X x := by rfl)
    (hdb : (x == ("__debug__" : Str)) = false := by decide) (he : starEach (e :: es) X.env = (false, eval e X.env) :: starEach es X.env := by rfl) (hpl : (backTo pos (starEach es X.env)).any (·.1) = false := by rfl) :
    SX X E W (.Call (.Name x p) (e :: es) [] pos) (xApp n m fa) := by
  obtain ⟨t, pa, ka⟩ := ha.ex
  refine ⟨ha.hK, _, pe_call F hr hg hm hk hb .nil pass0 pa hdb he hpl, fun Fz σ H env S Q q => ?_⟩
  refine ka Fz σ H env S _ ?_
  unfold xApp at q
  cases e1 : fa env with
  | un => rw [e1] at q; exact q
  | ex x e' => rw [e1] at q; exact q
  | ok as e' =>
    rw [e1, Fv.bind_ok] at q
    intro vs F1 H1 G1 S1 r1
    cases e2 : datsOf as with
    | none => rw [e2] at q; exact q.elim
    | some ds =>
      rw [e2] at q
      dsimp only at q
      split at q
      · rename_i hl
        rw [List.append_nil]
        refine ⟨ds, F1, S1.fH, datsOf_at r1 e2, hl, ?_⟩
        cases e3 : m ds with
        | un => rw [e3] at q; exact q
        | ex x => exact absurd e3 (hx ds x)
        | ok d =>
          rw [e3] at q
          have q : PostX E W Fz σ Q (if isData d then .ok d e' else .un) := q
          split at q
          · exact fun v F' H' G r => q v F' H' (G1.trans G.f) (S1.grow G) r
          · exact q.elim
      · exact q.elim
/-- owned things -/
def isOwn : D → Bool
  | .olst _ => true
  | .odic _ _ _ => true
  | .oob _ _ _ => true
  | _ => false
theorem R.own_ref {K : Kx} {F H : Hp} {d : D} {v : V} {fp : List Addr} (r : R K F H d v fp) (h : isOwn d = true) : ∃ a, v = .ref a ∧ fp ≠ [] := by
  cases r <;> first | (cases h; done) | exact ⟨_, rfl, List.cons_ne_nil _ _⟩
/-- a call that lends the slot's thing as argument number t -/
def xLend (n t : Nat) (m : List D → Fw) (fa : En → Fv (List Arg)) : En → Fv D := fun env => (fa env).bind fun as e => match lentOf t as with
  | some (ds1, j, ds2) => match e[j]? with
    | some (some d0) => if isOwn (peel d0) = true ∧ noBor (peel d0) = true ∧ ds1.length + 1 + ds2.length = n then
        match m (ds1 ++ peel d0 :: ds2) with
        | .ok r d => datV (e.set j (some (putRoot d0 d))) r
        | .ex x d => .ex x (e.set j (some (putRoot d0 d)))
        | .un => .un
      else .un
    | _ => .un
  | none => .un
theorem lend_ok {t : TA} {n pt : Nat} {m : List D → Fw} {fa : En → Fv (List Arg)} (ka : OkXA E W t fa) :
    OkX E W (fun σ H Q => t σ H fun vs H1 => spL E.K n pt m vs H1 Q (fun c d H' => W c d σ H')) (xLend n pt m fa) := by
  intro F σ H env S Q q
  refine ka F σ H env S _ ?_
  unfold xLend at q
  cases e1 : fa env with
  | un => rw [e1] at q; exact q
  | ex x e' => rw [e1] at q; exact q
  | ok as e' =>
    rw [e1, Fv.bind_ok] at q
    intro vs F1 H1 G1 S1 r1
    cases e2 : lentOf pt as with
    | none => rw [e2] at q; exact q.elim
    | some p =>
      obtain ⟨ds1, j, ds2⟩ := p
      rw [e2] at q
      dsimp only at q
      obtain ⟨v, ws1, ws2, ev, hs, rl1, rl2, hlt⟩ := lentOf_at r1 e2
      split at q
      · rename_i d0 he
        split at q
        · rename_i hc
          obtain ⟨v0, u, fq, g1, r2, n2, f2, hroot, kk⟩ := S1.chg (p := []) he (show subD d0 [] = some (peel d0) from rfl)
          obtain rfl := hroot rfl
          rw [hs] at g1
          cases g1
          obtain ⟨a, rfl, hne⟩ := r2.own_ref hc.1
          refine ⟨ds1, peel d0, ds2, F1, ws1, a, ws2, fq, ev, S1.fH, rl1, rl2, r2, hne, n2, f2, hc.2.1, hlt, hc.2.2, ?_⟩
          cases e3 : m (ds1 ++ peel d0 :: ds2) with
          | un => rw [e3] at q; exact q
          | ex x d => rw [e3] at q; exact fun cls dd F' H' fp' C hn hb r rx => q cls dd F' H' (G1.trans C.f) (kk F' H' d fp' C hn r) rx
          | ok r d =>
            rw [e3] at q
            have q : PostX E W F σ Q (if isData r then .ok r (e'.set j (some (putRoot d0 d))) else .un) := q
            split at q
            · exact fun w F' H' fp' C hn hb r2 rr => q w F' H' (G1.trans C.f) (kk F' H' d fp' C hn r2) rr
            · exact q.elim
        · exact q.elim
      · exact q.elim
theorem SX.lendX {x : Str} {p : Pos} {es : List Expr} {k n t : Nat} {fa_ : Addr} {fd : FuncData} {ps : List Str} {m : List D → Fw} {fa : En → Fv (List Arg)} (tk : Takes X W)
    (F : FnOk X.prog X.w X.K X.mg X.base (L2.CX X.prog X.w) k fa_ fd ps (spL E.K n t m)) (hr : Room k X.A) (hm : X.mg x = some (.ref fa_)) (hk : PySem.W.keepIn X.K (.ref fa_) = true) (hb : Binds X.K fd ps []) (ha : SXA X E W (e :: es) fa) (hg : Gl X x := by rfl)
    (hdb : (x == ("__debug__" : Str)) = false := by decide) (he : starEach (e :: es) X.env = (false, eval e X.env) :: starEach es X.env := by rfl) (hpl : (backTo pos (starEach es X.env)).any (·.1) = false := by rfl) :
    SX X E W (.Call (.Name x p) (e :: es) [] pos) (xLend n t m fa) := by
  obtain ⟨u, pa, ka⟩ := ha.ex
  have q := pe_callW (W := W) (p := p) (F.raw hb .nil) hr hk hg hm (passW_of tk) pa hdb he hpl
  simp only [List.append_nil] at q
  exact ⟨ha.hK, _, q, lend_ok ka⟩
theorem SX.lend0 {x : Str} {p : Pos} {es : List Expr} {k n t : Nat} {fa_ : Addr} {fd : FuncData} {ps : List Str} {m : List D → Fw} {fa : En → Fv (List Arg)}
    (F : FnOk X.prog X.w X.K X.mg X.base CX0 k fa_ fd ps (spL E.K n t m)) (hr : Room k X.A) (hm : X.mg x = some (.ref fa_)) (hk : PySem.W.keepIn X.K (.ref fa_) = true) (hb : Binds X.K fd ps []) (ha : SXA X E W (e :: es) fa) (hg : Gl X x := by rfl)
    (hdb : (x == ("__debug__" : Str)) = false := by decide) (he : starEach (e :: es) X.env = (false, eval e X.env) :: starEach es X.env := by rfl) (hpl : (backTo pos (starEach es X.env)).any (·.1) = false := by rfl) :
    SX X E W (.Call (.Name x p) (e :: es) [] pos) (xLend n t m fa) := by
  obtain ⟨u, pa, ka⟩ := ha.ex
  have q := pe_callW (W := W) (p := p) (F.raw hb .nil) hr hk hg hm passW0 pa hdb he hpl
  simp only [List.append_nil] at q
  exact ⟨ha.hK, _, q, lend_ok ka⟩
end
end Z

set_option Elab.async false
set_option linter.all false
set_option maxRecDepth 100000
set_option maxHeartbeats 1000000
/-! ZL: defs with a lent parameter; comprehensions whose parts change what the frame owns -/
namespace Z
open PySem L2
theorem rs_app {K : Kx} {F H : Hp} {env : En} {σ : St} {fps : List (List Addr)} : ∀ {ds : List D} {vs : List V}, RL K F H ds vs [] → RS K F H env σ fps → RS K F H (ds.map some ++ env) (vs.map some ++ σ) (List.replicate ds.length [] ++ fps)
  | [], vs, h, r => by
    have : vs = [] := by cases vs with | nil => rfl | cons a b => exact absurd h.len (by simp)
    subst this
    exact r
  | d :: ds, vs, h, r => by
    obtain ⟨v, vs', rfl, h1, h2⟩ := h.inv_cons
    rw [List.length_cons, List.replicate_succ]
    exact .som h1 (rs_app h2 r)
section
variable {P : Program} {w : World} {K : Kx} {mg : Str → Option Value} {base : Heap}
theorem lent_start {F H : Hp} {ds1 ds2 : List D} {d : D} {ws1 ws2 : List V} {a : Addr} {fp : List Addr} {N : List Str} (hs : Same F H) (h1 : RL K F H ds1 ws1 []) (h2 : RL K F H ds2 ws2 []) (r : R K F H d (.ref a) fp) (hne : fp ≠ []) (hnd : fp.Nodup) (hF : ∀ b ∈ fp, F b = none) (hb : noBor d = true) :
    Stt ⟨⟨K.k, K.ca, fun _ => a⟩, H, F, fun i => if i = ds1.length then fp else []⟩ F (start0 N.length (ds1 ++ .bor ds1.length d :: ds2)) (L2.start N (ws1 ++ .ref a :: ws2)) H := by
  have r' : R ⟨K.k, K.ca, fun _ => a⟩ F H (.bor ds1.length d) (.ref a) fp := .bor (R.reL (K := K) (K' := ⟨K.k, K.ca, fun _ => a⟩) rfl rfl d hb r) rfl hne
  have l1 : RL ⟨K.k, K.ca, fun _ => a⟩ F H ds1 ws1 [] := RL.reK (K := K) (K' := ⟨K.k, K.ca, fun _ => a⟩) rfl rfl ds1 rfl h1
  have l2 : RL ⟨K.k, K.ca, fun _ => a⟩ F H ds2 ws2 [] := RL.reK (K := K) (K' := ⟨K.k, K.ca, fun _ => a⟩) rfl rfl ds2 rfl h2
  have hsome := r.fp_some d
  refine ⟨Same.refl _, hs, fun b o e _ => e, fun b o e _ => rfl, fun i b hb => ?_, List.replicate ds1.length [] ++ fp :: List.replicate (ds2.length + (N.length - (ds1.length + (ds2.length + 1)))) [], ?_, ?_, ?_⟩
  · have hb : b ∈ (if i = ds1.length then fp else ([] : List Addr)) := hb
    split at hb
    · exact hsome b hb
    · cases hb
  · unfold start0 L2.start
    rw [List.length_append, List.length_append, List.length_cons, List.length_cons, h1.len, h2.len, List.map_append, List.map_append, List.append_assoc, List.append_assoc]
    exact rs_app l1 (.som r' (rs_start _ l2))
  · rw [List.flatten_append, List.flatten_cons, flat_nil, flat_nil, List.append_nil, List.nil_append]
    exact hnd
  · intro i fq hi b hbq
    by_cases hlt : i < ds1.length
    · rw [List.getElem?_append_left (by rw [List.length_replicate]; exact hlt), List.getElem?_replicate, if_pos hlt] at hi
      cases hi; cases hbq
    · rw [List.getElem?_append_right (by rw [List.length_replicate]; omega), List.length_replicate] at hi
      cases hk : i - ds1.length with
      | zero =>
        rw [hk] at hi
        cases hi
        exact ⟨hF b hbq, .inr (by show b ∈ (if i = ds1.length then fp else ([] : List Addr)); rw [if_pos (by omega)]; exact hbq)⟩
      | succ k =>
        rw [hk, List.getElem?_cons_succ, List.getElem?_replicate] at hi
        split at hi
        · cases hi; cases hbq
        · cases hi
theorem lent_end {F H F' H' : Hp} {t : Nat} {a : Addr} {fp : List Addr} {env : En} {σ : L2.St} (S : Stt ⟨⟨K.k, K.ca, fun _ => a⟩, H, F, fun i => if i = t then fp else []⟩ F' env σ H') {d : D} (he : env[t]? = some (some (.bor t d))) (hb : noBor d = true) :
    ∃ fp', Chg F H F' H' fp fp' ∧ fp' ≠ [] ∧ R K F' H' d (.ref a) fp' := by
  obtain ⟨fps, rs, nd, fr⟩ := S.rep
  obtain ⟨v, fp', g1, g2, g3⟩ := rs.get he
  have off : ∀ b, b ∉ fp → ∀ i, b ∉ (fun i => if i = t then fp else ([] : List Addr)) i := fun b hb i z => by
    dsimp only at z
    split at z
    · exact hb z
    · cases z
  cases g3 with
  | bor r ev hn =>
    subst ev
    refine ⟨fp', ⟨S.le0, S.fH, fun b o e hq => S.keep b o e (off b hq), fun b o e hq => S.old b o e (off b hq), fun b hq => S.ownS t b (by show b ∈ (if t = t then fp else ([] : List Addr)); rw [if_pos rfl]; exact hq), fun b hq => ?_, nodup_get nd g2⟩, hn, R.reL (K := ⟨K.k, K.ca, fun _ => a⟩) (K' := K) rfl rfl d hb r⟩
    obtain ⟨h1, h2⟩ := fr t fp' g2 b hq
    refine ⟨h1, ?_⟩
    rcases h2 with h2 | h2
    · exact .inr h2
    · have h2 : b ∈ (if t = t then fp else ([] : List Addr)) := h2
      rw [if_pos rfl] at h2
      exact .inl h2
theorem backL_inv {t : Nat} {e : En} {k : D → Fw} {K : Kx} {F H : Hp} {v : V} {fp : List Addr} {Q : VK} {Ex : XK} (h : PostW K F H v fp Q Ex (backL t e k)) : ∃ d, e[t]? = some (some (.bor t d)) ∧ noBor d = true ∧ PostW K F H v fp Q Ex (k d) := by
  unfold backL at h
  split at h
  · rename_i t' d he
    split at h
    · rename_i hc
      obtain ⟨rfl, hb⟩ := hc
      exact ⟨d, he, hb, h⟩
    · exact h.elim
  · exact h.elim
theorem fnLX {x qual : Str} {st : Stmt} {f : Addr} {fd : FuncData} {N ps : List Str} {k np n t : Nat} {g : En → Fl} {m : List D → Fw} (Fn : Fun K.k x qual st f fd) (S : FnScope N ps (defScope st))
    (hm : m = runL g n t) (hn : N.length = n) (hp : ps.length = np)
    (hb : ∀ (cdv : Value) (A : Around) (outer : List Env) (s : Shared) (H : Hp) (Ex : XK) (F0 : Hp) (a : Addr) (fp : List Addr), Room k (A.deeper (PyProof.Rows.envOfC qual (defScope st) s.heap.objs.size f cdv)) →
      SB (cxOf (L2.CX P w) P w K.k mg base N qual (defScope st) f cdv A outer s H Ex) ⟨⟨K.k, K.ca, fun _ => a⟩, H, F0, fun i => if i = t then fp else []⟩ (fun c d _ H' => Ex c d H') (defBody st) g) : FnOk P w K.k mg base (L2.CX P w) (k + 1) f fd ps (spL K np t m) := by
  subst hm hn hp
  refine Fn.okX S (fun vs H Q E h => ?_) (fun cdv A outer s H vs Q Ex hr h => ?_)
  · obtain ⟨ds1, d, ds2, F, ws1, a, ws2, fp, rfl, _, h1, h2, _, _, _, _, _, _, hl, _⟩ := h
    rw [List.length_append, List.length_cons, h1.len, h2.len]; omega
  · obtain ⟨ds1, d, ds2, F, ws1, a, ws2, fp, rfl, hs, h1, h2, r, hne, hnd, hF, hnb, rfl, hl, q⟩ := h
    obtain ⟨t, p, k⟩ := (hb cdv A outer s H Ex F a fp hr).ex
    refine ⟨t, p, k F _ H _ (lent_start hs h1 h2 r hne hnd hF hnb) _ ?_⟩
    unfold runL at q
    rw [lendT_app] at q
    cases e : g (start0 N.length (ds1 ++ .bor ds1.length d :: ds2)) with
    | nx en =>
      rw [e] at q
      intro F' σ' H' G S'
      obtain ⟨d', he, hb', q⟩ := backL_inv q
      obtain ⟨fp', C, hn', r'⟩ := lent_end S' he hb'
      exact q _ F' H' fp' C hn' hb' r' .non
    | bk en => rw [e] at q; exact q.elim
    | ct en => rw [e] at q; exact q.elim
    | rt z en =>
      rw [e] at q
      intro v F' σ' H' G S' rz
      obtain ⟨d', he, hb', q⟩ := backL_inv q
      obtain ⟨fp', C, hn', r'⟩ := lent_end S' he hb'
      exact q _ F' H' fp' C hn' hb' r' (R.reK (K := ⟨K.k, K.ca, fun _ => a⟩) (K' := K) rfl rfl z rfl rz)
    | xx z en =>
      rw [e] at q
      intro cls dd F' σ' H' G S' rz
      obtain ⟨d', he, hb', q⟩ := backL_inv q
      obtain ⟨fp', C, hn', r'⟩ := lent_end S' he hb'
      exact q cls dd F' H' fp' C hn' hb' r' (Rx.reK (K := ⟨K.k, K.ca, fun _ => a⟩) (K' := K) rfl rfl rz)
    | un => rw [e] at q; exact q
theorem fnL {x qual : Str} {st : Stmt} {f : Addr} {fd : FuncData} {N ps : List Str} {k np n t : Nat} {g : En → Fl} {m : List D → Fw} (Fn : Fun K.k x qual st f fd) (S : FnScope N ps (defScope st))
    (hm : m = runL0 g n t) (hn : N.length = n) (hp : ps.length = np)
    (hb : ∀ (cdv : Value) (A : Around) (outer : List Env) (s : Shared) (H : Hp) (Ex : XK) (F0 : Hp) (a : Addr) (fp : List Addr), Room k (A.deeper (PyProof.Rows.envOfC qual (defScope st) s.heap.objs.size f cdv)) →
      SB (cxOf CX0 P w K.k mg base N qual (defScope st) f cdv A outer s H Ex).nox ⟨⟨K.k, K.ca, fun _ => a⟩, H, F0, fun i => if i = t then fp else []⟩ W0 (defBody st) g) : FnOk P w K.k mg base CX0 (k + 1) f fd ps (spL K np t m) := by
  subst hm hn hp
  refine Fn.ok S (fun vs H Q E h => ?_) (fun cdv A outer s H vs Q Ex hr h => ?_)
  · obtain ⟨ds1, d, ds2, F, ws1, a, ws2, fp, rfl, _, h1, h2, _, _, _, _, _, _, hl, _⟩ := h
    rw [List.length_append, List.length_cons, h1.len, h2.len]; omega
  · obtain ⟨ds1, d, ds2, F, ws1, a, ws2, fp, rfl, hs, h1, h2, r, hne, hnd, hF, hnb, rfl, hl, q⟩ := h
    obtain ⟨t, p, k⟩ := (hb cdv A outer s H Ex F a fp hr).ex
    refine ⟨t, p, k F _ H _ (lent_start hs h1 h2 r hne hnd hF hnb) _ ?_⟩
    unfold runL0 runL at q
    rw [lendT_app] at q
    cases e : g (start0 N.length (ds1 ++ .bor ds1.length d :: ds2)) with
    | nx en =>
      rw [e] at q
      intro F' σ' H' G S'
      have q : PostW K F H (.ref a) fp Q Ex (noXL (backL ds1.length en fun d => .ok .non d)) := q
      have q : PostW K F H (.ref a) fp Q Ex (backL ds1.length en fun d => .ok .non d) := by
        cases e2 : backL ds1.length en fun d => .ok .non d <;> rw [e2] at q <;> first | exact q | exact q.elim
      obtain ⟨d', he, hb', q⟩ := backL_inv q
      obtain ⟨fp', C, hn', r'⟩ := lent_end S' he hb'
      exact q _ F' H' fp' C hn' hb' r' .non
    | bk en => rw [e] at q; exact q.elim
    | ct en => rw [e] at q; exact q.elim
    | rt z en =>
      rw [e] at q
      intro v F' σ' H' G S' rz
      have q : PostW K F H (.ref a) fp Q Ex (noXL (backL ds1.length en fun d => .ok z d)) := q
      have q : PostW K F H (.ref a) fp Q Ex (backL ds1.length en fun d => .ok z d) := by
        cases e2 : backL ds1.length en fun d => .ok z d <;> rw [e2] at q <;> first | exact q | exact q.elim
      obtain ⟨d', he, hb', q⟩ := backL_inv q
      obtain ⟨fp', C, hn', r'⟩ := lent_end S' he hb'
      exact q _ F' H' fp' C hn' hb' r' (R.reK (K := ⟨K.k, K.ca, fun _ => a⟩) (K' := K) rfl rfl z rfl rz)
    | xx z en =>
      rw [e] at q
      have q : PostW K F H (.ref a) fp Q Ex (noXL (backL ds1.length en fun d => .ex z d)) := q
      exfalso
      unfold backL at q
      split at q
      · split at q <;> exact q.elim
      · exact q.elim
    | un => rw [e] at q; exact q.elim
end
/-! ### the heap as it stands taken as the base -/
theorem RS.len {K : Kx} {F H : Hp} : ∀ {env : En} {σ : St} {fps : List (List Addr)}, RS K F H env σ fps → fps.length ≤ σ.length
  | _, _, _, .nil => Nat.zero_le _
  | _, _, _, .non t => Nat.succ_le_succ (RS.len t)
  | _, _, _, .som _ t => Nat.succ_le_succ (RS.len t)
theorem Stt.reb {E : Ent} {F H : Hp} {env : En} {σ : St} (S : Stt E F env σ H) : ∃ own, Stt ⟨E.K, H, F, own⟩ F env σ H ∧ (∀ i a, a ∈ own i → F a = none ∧ (E.H0 a = none ∨ a ∈ E.own i) ∧ i < σ.length) ∧
    ∀ F2 env2 σ2 H2, Stt ⟨E.K, H, F, own⟩ F2 env2 σ2 H2 → Stt E F2 env2 σ2 H2 := by
  obtain ⟨fps, rs, nd, fr⟩ := S.rep
  have get : ∀ (i : Nat) (a : Addr), a ∈ (fps[i]?).getD [] → ∃ fp, fps[i]? = some fp ∧ a ∈ fp := fun i a h => by
    cases e : fps[i]? with
    | none => rw [e] at h; cases h
    | some fp => rw [e] at h; exact ⟨fp, rfl, h⟩
  have inf : ∀ (i : Nat) (a : Addr), a ∈ (fps[i]?).getD [] → F a = none ∧ (E.H0 a = none ∨ a ∈ E.own i) ∧ i < σ.length := fun i a h => by
    obtain ⟨fp, e, ha⟩ := get i a h
    obtain ⟨h1, h2⟩ := fr i fp e a ha
    exact ⟨h1, h2, Nat.lt_of_lt_of_le (List.getElem?_eq_some_iff.mp e).1 rs.len⟩
  have off : ∀ a o, E.H0 a = some o → (∀ i, a ∉ E.own i) → ∀ i : Nat, a ∉ (fps[i]?).getD [] := fun a o h h2 i hm => by
    obtain ⟨_, h3, _⟩ := inf i a hm
    rcases h3 with h3 | h3
    · rw [h3] at h; cases h
    · exact h2 i h3
  refine ⟨fun i => (fps[i]?).getD [], ⟨Same.refl _, S.fH, fun a o e _ => e, fun a o e _ => rfl, fun i a ha => ?_, fps, rs, nd, fun i fp e a ha => ⟨(fr i fp e a ha).1, .inr ?_⟩⟩, inf, fun F2 env2 σ2 H2 S2 => ?_⟩
  · obtain ⟨fp, e, hm⟩ := get i a ha
    exact rs.fp_some fp (List.mem_of_getElem? e) a hm
  · show a ∈ (fps[i]?).getD []
    rw [e]; exact ha
  · obtain ⟨fps2, rs2, nd2, fr2⟩ := S2.rep
    refine ⟨S.le0.trans S2.le0, S2.fH, fun a o e h => S2.keep a o (S.keep a o e h) (off a o e h), fun a o e h => (S2.old a o (S.keep a o e h) (off a o e h)).trans (S.old a o e h), fun i a ha => ?_, fps2, rs2, nd2, fun i fp e a ha => ?_⟩
    · obtain ⟨o, ho⟩ := S.ownS i a ha
      by_cases hc : ∃ j : Nat, a ∈ (fps[j]?).getD []
      · obtain ⟨j, hj⟩ := hc
        exact S2.ownS j a hj
      · exact ⟨o, S2.keep a o ho fun j hj => hc ⟨j, hj⟩⟩
    · obtain ⟨h1, h2⟩ := fr2 i fp e a ha
      refine ⟨h1, ?_⟩
      rcases h2 with h2 | h2
      · exact .inl (S.h0_none h2)
      · exact (inf i a h2).2.1
/-- a place p apart from all that the frame owns -/
structure SttA (E : Ent) (p : Addr) (F : Hp) (env : En) (σ : St) (H : Hp) : Prop where
  le0 : Same E.F0 F
  fH : Same F H
  keep : ∀ a o, E.H0 a = some o → (∀ i, a ∉ E.own i) → H a = some o
  old : ∀ a o, E.H0 a = some o → (∀ i, a ∉ E.own i) → F a = E.F0 a
  ownS : ∀ i a, a ∈ E.own i → ∃ o, H a = some o
  h0 : E.H0 p = none
  hF : F p = none
  rep : ∃ fps, RS E.K F H env σ fps ∧ fps.flatten.Nodup ∧ (∀ i fp, fps[i]? = some fp → ∀ a ∈ fp, F a = none ∧ (E.H0 a = none ∨ a ∈ E.own i)) ∧ ∀ fp ∈ fps, p ∉ fp
theorem SttA.stt {E : Ent} {p : Addr} {F H : Hp} {env : En} {σ : St} (S : SttA E p F env σ H) : Stt E F env σ H := by
  obtain ⟨fps, a, b, c, _⟩ := S.rep
  exact ⟨S.le0, S.fH, S.keep, S.old, S.ownS, fps, a, b, c⟩
theorem SttA.upd {E : Ent} {p : Addr} {F H : Hp} {env : En} {σ : St} {o : HO} (S : SttA E p F env σ H) (hp : ∀ i, p ∉ E.own i) : SttA E p F env σ (L2.upd H p o) := by
  obtain ⟨fps, a, b, c, d⟩ := S.rep
  refine ⟨S.le0, fun x u e => ?_, fun x u e h => ?_, S.old, fun i x h => ?_, S.h0, S.hF, fps, a.mono (Same.refl _) (fun fp hf x hx => upd_ne fun z => d fp hf (by rw [← z]; exact hx)), b, c, d⟩
  · rw [upd_ne (ne_of_none e S.hF)]; exact S.fH x u e
  · rw [upd_ne fun z => by rw [z, S.h0] at e; cases e]
    exact S.keep x u e h
  · rw [upd_ne fun z => hp i (by rw [← z]; exact h)]
    exact S.ownS i x h
/-- the new list in a slot -/
theorem SttA.setL {E : Ent} {p : Addr} {F H : Hp} {env : En} {σ : St} {ds : List D} {vs : List V} (S : SttA E p F env σ H) (i : Nat) (h : H p = some (.lst vs)) (r : RL E.K F H ds vs []) (hz : ds.length ≤ 16777216) : Stt E F (env.set i (some (.olst ds))) (σ.set i (some (.ref p))) H := by
  obtain ⟨fps, a, b, c, d⟩ := S.rep
  refine ⟨S.le0, S.fH, S.keep, S.old, S.ownS, fps.set i [p], a.set i (.olst h r hz), nodup_set b (nodup1 p) (fun j y _ hy x hx z => ?_), fun j fq hj x hx => ?_⟩
  · rw [List.mem_singleton.mp z] at hx
    exact d y (List.mem_of_getElem? hy) hx
  · rcases mem_set_of hj with ⟨_, e⟩ | hj
    · subst e
      rw [List.mem_singleton.mp hx]
      exact ⟨S.hF, .inl S.h0⟩
    · exact c j fq hj x hx
/-- the new list as data -/
theorem SttA.frz {E : Ent} {p : Addr} {F H : Hp} {env : En} {σ : St} {ds : List D} {vs : List V} (S : SttA E p F env σ H) (h : H p = some (.lst vs)) (r : RL E.K F H ds vs []) (hz : ds.length ≤ 16777216) : ∃ F', Same F F' ∧ Stt E F' env σ H ∧ R E.K F' H (.lst ds) (.ref p) [] := by
  obtain ⟨fps, a, b, c, d⟩ := S.rep
  have gs : Same F (L2.upd F p (.lst vs)) := fun x u e => by rw [upd_ne (ne_of_none e S.hF)]; exact e
  refine ⟨L2.upd F p (.lst vs), gs, ⟨S.le0.trans gs, fun x u e => ?_, S.keep, fun x u e hh => ?_, S.ownS, fps, a.mono gs fun _ _ _ _ => rfl, b, fun i fp hi x hx => ?_⟩, .lst upd_same (RL.mono (fp := []) gs ds (fun _ z => nomatch z) r) hz⟩
  · by_cases hx : x = p
    · subst hx; rw [upd_same] at e; cases e; exact h
    · rw [upd_ne hx] at e; exact S.fH x u e
  · rw [upd_ne fun z => by rw [z, S.h0] at e; cases e]
    exact S.old x u e hh
  · obtain ⟨h1, h2⟩ := c i fp hi x hx
    refine ⟨?_, h2⟩
    rw [upd_ne fun z => d fp (List.mem_of_getElem? hi) (by rw [← z]; exact hx)]
    exact h1
/-! ### new lists by expressions that change -/
def PostYL (E : Ent) (W : WX) (F : Hp) (σ : St) (Q : VK) : Fv (List D) → Prop
  | .ok ds e => ∀ p vs F' H', Same F F' → SttA E p F' e σ H' → H' p = some (.lst vs) → RL E.K F' H' ds vs [] → ds.length ≤ 16777216 → Q (.ref p) H'
  | .ex x e => ∀ cls dd F' H', Same F F' → Stt E F' e σ H' → Rx E.K F' H' x cls dd → W cls dd σ H'
  | .un => False
def OkYL (E : Ent) (W : WX) (t : TE) (f : En → Fv (List D)) : Prop := ∀ F σ H env, Stt E F env σ H → ∀ Q, PostYL E W F σ Q (f env) → t σ H Q
structure SXL (X : Cx) (E : Ent) (W : WX) (e : Expr) (f : En → Fv (List D)) : Prop where
  hK : X.K = E.K.k
  ex : ∃ t, PE X e t ∧ OkYL E W t f
section
variable {X : Cx} {E : Ent} {W : WX} {e : Expr} {fl : En → Fv (List D)} {pos : Pos}
def xOfL (f : En → Fv (List D)) : En → Fv D := fun env => (f env).bind fun ds e => .ok (.lst ds) e
theorem ofYL_ok {t : TE} (k : OkYL E W t fl) : OkX E W t (xOfL fl) := by
  intro F σ H env S Q q
  refine k F σ H env S Q ?_
  unfold xOfL at q
  cases e1 : fl env with
  | un => rw [e1] at q; exact q
  | ex x e' => rw [e1] at q; exact q
  | ok ds e' =>
    rw [e1, Fv.bind_ok] at q
    intro p vs F1 H1 G1 S1 hp r hz
    obtain ⟨F2, g2, S2, r2⟩ := S1.frz hp r hz
    exact q _ F2 H1 (G1.trans g2) S2 r2
theorem SX.ofL (h : SXL X E W e fl) : SX X E W e (xOfL fl) := by
  obtain ⟨t, p, k⟩ := h.ex
  exact ⟨h.hK, t, p, ofYL_ok k⟩
def sSetLX (i : Nat) (f : En → Fv (List D)) : En → Fl := fun env => match f env with
  | .ok ds e => .nx (e.set i (some (.olst ds)))
  | .ex x e => .xx x e
  | .un => .un
theorem setLX_ok {t : TE} {i : Nat} (k : OkYL E W t fl) : OkS E W (tAsg t (gName i)) (sSetLX i fl) := by
  intro F σ H env S D q
  refine k F σ H env S _ ?_
  unfold sSetLX at q
  cases e1 : fl env with
  | un => rw [e1] at q; exact q
  | ex x e' => rw [e1] at q; exact fun cls dd F' H' G S' r => q cls dd F' σ H' G S' r
  | ok ds e' =>
    rw [e1] at q
    exact fun p vs F' H' G S' hp r hz => q F' _ H' G (S'.setL i hp r hz)
theorem SS.setLX (i : Nat) {y : Str} {py : Pos} (hf : SXL X E W e fl) (hN : X.N.Nodup) (hy : X.N[i]? = some y := by rfl) (hl : Loc X.env.scope y := by first | exact Or.inl rfl | exact Or.inr rfl)
    (hs : swapsWith e (some (.Name y py)) pos.line X.env = pure false := by rfl) (hfn : X.fn y = true ∨ X.env.scope.names.lookup y = some .local := by first | exact .inl rfl | exact .inr rfl) : SS X E W (.Assign [.Name y py] e pos) (sSetLX i fl) := by
  obtain ⟨t, p, k⟩ := hf.ex
  exact ⟨hf.hK, _, ps_set hN hy hl p hs hfn, setLX_ok k⟩
end
/-! the comprehension -/
def compXL (h : D → En → Option En) (c : En → Fv Bool) (f : En → Fv D) (own : List Nat) : List D → En → Fv (List D)
  | [], env => .ok [] env
  | d :: ds, env => match h d env with
    | none => .un
    | some e1 => match c e1 with
      | .ok true e2 => match f e2 with
        | .ok y e3 => (compXL h c f own ds (wipeR e3 own)).bind fun ys e => .ok (y :: ys) e
        | _ => .un
      | .ok false e2 => compXL h c f own ds (wipeR e2 own)
      | _ => .un
def xComp (fi : En → Rs (List D)) (h : D → En → Option En) (c : En → Fv Bool) (f : En → Fv D) (own : List Nat) : En → Fv (List D) := fun env => match fi env with
  | .ok ds => match compXL h c f own ds (wipeR env own) with
    | .ok ys e => .ok ys e
    | _ => .un
  | .ex x => .ex x env
  | .un => .un
def NoneAt (own : List Nat) (env : En) : Prop := ∀ i ∈ own, ∀ d, env[i]? ≠ some (some d)
theorem noneAt_wipeR (env : En) : ∀ own : List Nat, NoneAt own (wipeR env own)
  | [] => fun i hi => nomatch hi
  | v :: vs => fun i hi d he => by
    unfold wipeR at he
    by_cases e : v = i
    · subst e
      by_cases hl : v < (wipeR env vs).length
      · rw [List.getElem?_set_self hl] at he; cases he
      · rw [List.getElem?_eq_none (by rw [List.length_set]; omega)] at he; cases he
    · rw [List.getElem?_set_ne e] at he
      rcases List.mem_cons.mp hi with z | z
      · exact e z.symm
      · exact noneAt_wipeR env vs i z d he
theorem RS.unset {K : Kx} {F H : Hp} : ∀ {env : En} {σ : St} {fps : List (List Addr)} (i : Nat) (x : Option V), RS K F H env (σ.set i x) fps → (∀ d, env[i]? ≠ some (some d)) → RS K F H env σ fps
  | [], σ, fps, i, x, h, _ => by
    generalize σ.set i x = τ at h
    cases h
    exact .nil
  | o :: env, [], fps, i, x, h, _ => by simpa using h
  | o :: env, y :: σ, fps, 0, x, h, hn => by
    have h : RS K F H (o :: env) (x :: σ) fps := h
    cases h with
    | non t => exact .non t
    | som r t => exact absurd rfl (hn _)
  | o :: env, y :: σ, fps, i + 1, x, h, hn => by
    have h : RS K F H (o :: env) (y :: σ.set i x) fps := h
    cases h with
    | non t => exact .non (RS.unset i x t fun d => by simpa using hn d)
    | som r t => exact .som r (RS.unset i x t fun d => by simpa using hn d)
theorem RS.unwipe {K : Kx} {F H : Hp} {env : En} {fps : List (List Addr)} {σ : St} : ∀ (own : List Nat), RS K F H env (L2.wipe σ own) fps → NoneAt own env → RS K F H env σ fps
  | [], h, _ => h
  | v :: vs, h, hn => RS.unwipe vs (RS.unset v none h (hn v List.mem_cons_self)) fun i hi => hn i (List.mem_cons_of_mem _ hi)
theorem wipe_wipe (τ : St) (ws : List Nat) : wipe (wipe τ ws) ws = wipe τ ws := by
  apply List.ext_getElem?
  intro j
  by_cases hj : j ∈ ws
  · have key : ∀ (τ : St) (vs : List Nat), j ∈ vs → (wipe τ vs)[j]? = if j < τ.length then some none else none := by
      intro τ vs
      induction vs with
      | nil => intro h; cases h
      | cons w vs ih =>
        intro h
        unfold wipe
        by_cases e : w = j
        · subst e
          by_cases hl : w < τ.length
          · rw [if_pos hl, List.getElem?_set_self (by rw [wipe_length]; exact hl)]
          · rw [if_neg hl, List.getElem?_eq_none (by rw [List.length_set, wipe_length]; omega)]
        · rw [List.getElem?_set_ne e]
          exact ih (by rcases List.mem_cons.mp h with z | z; exact absurd z.symm e; exact z)
    rw [key _ ws hj, key _ ws hj, wipe_length]
  · rw [wipe_out hj]
abbrev WF : WX := fun _ _ _ _ => False
/-- OkG, OkXT, OkX at every base -/
theorem compX_ok {wi : TI} {fi : En → Rs (List D)} {tgg : TG} {tt : TT} {te : TE} {is own : List Nat} {h : D → En → Option En} {c : En → Fv Bool} {f : En → Fv D} {E : Ent} {W : WX} (ki : OkI E W wi fi)
    (kg : ∀ H0 F0 ow, OkG ⟨E.K, H0, F0, ow⟩ is tgg h) (kc : ∀ H0 F0 ow, OkXT ⟨E.K, H0, F0, ow⟩ WF tt c) (kf : ∀ H0 F0 ow, OkX ⟨E.K, H0, F0, ow⟩ WF te f)
    (hs : ∀ i ∈ is, i ∈ own) : OkYL E W (tLc wi tgg tt te own) (xComp fi h c f own) := by
  intro F σ H env S Q q
  refine ki F σ H env S _ ?_
  unfold xComp at q
  cases e1 : fi env with
  | un => rw [e1] at q; exact q
  | ex x => rw [e1] at q; exact fun cls dd F' H' G r => q cls dd F' H' G.f (S.grow G) r
  | ok ds =>
    rw [e1] at q
    dsimp only at q
    cases e2 : compXL h c f own ds (wipeR env own) with
    | un => rw [e2] at q; exact q.elim
    | ex x e' => rw [e2] at q; exact q.elim
    | ok zs ez =>
      rw [e2] at q
      intro J G Y F' H1 Gr hlen wk hG hY Dl hD
      have S' : Stt E F' (wipeR env own) (wipe σ own) H1 := (S.grow Gr).wipeR own
      have hDF : F' Dl = none := same_none Gr.fh hD
      have hD0 : E.H0 Dl = none := S'.h0_none hD
      have hDo : ∀ i, Dl ∉ E.own i := fun i hi => by
        obtain ⟨o, ho⟩ := S'.ownS i Dl hi
        rw [hD] at ho; cases ho
      have A0 : SttA E Dl F' (wipeR env own) (wipe σ own) H1 := by
        obtain ⟨fps, a, b, cc⟩ := S'.rep
        exact ⟨S'.le0, S'.fH, S'.keep, S'.old, S'.ownS, hD0, hDF, fps, a, b, cc, fun fp hf hm => by
          obtain ⟨o, ho⟩ := a.fp_some fp hf Dl hm
          rw [hD] at ho; cases ho⟩
      refine lc_it wk (fun i Hc => ∃ F1 en acc vs ys, Same F' F1 ∧ SttA E Dl F1 en (wipe σ own) Hc ∧ NoneAt own en ∧ Hc Dl = some (.lst vs) ∧ RL E.K F1 Hc acc vs [] ∧ compXL h c f own (ds.drop i) en = .ok ys ez ∧ acc ++ ys = zs ∧ acc.length ≤ i) ?_ ?_ ?_ ?_
      · exact ⟨F', _, [], [], zs, Same.refl _, A0.upd hDo, noneAt_wipeR env own, upd_same, .nil, e2, rfl, Nat.le_refl _⟩
      · rintro i Hc _ ⟨F1, en, acc, vs, ys, g1, A1, _⟩
        exact hG Hc (g1.trans A1.fH)
      · rintro i v Hc Hn hi ⟨F1, en, acc, vs, ys, g1, A1, hna, hDc, hr, hc, hz, hai⟩ hy
        obtain ⟨Fn, Gn, rn⟩ := hY i ds[i] (by simp [hi]) F1 Hc v Hn g1 A1.fH hy
        rw [drop_cons hi] at hc
        unfold compXL at hc
        have hDn : Hn Dl = some (.lst vs) := Gn.h _ _ hDc
        have hFn : Fn Dl = none := (Gn.o Dl _ hDc).trans A1.hF
        have hrn := hr.grow Gn
        have Sn0 := A1.stt.grow Gn
        -- the state at the turn's beginning as the base
        have An : SttA E Dl Fn en (wipe σ own) Hn := by
          obtain ⟨fps, a, b, cc, d⟩ := A1.rep
          have hsome : ∀ fp ∈ fps, ∀ x ∈ fp, Hn x = Hc x := fun fp hf x hx => by
            obtain ⟨o, ho⟩ := a.fp_some fp hf x hx
            rw [ho, Gn.h x o ho]
          refine ⟨Sn0.le0, Sn0.fH, Sn0.keep, Sn0.old, Sn0.ownS, hD0, hFn, fps, a.mono Gn.f hsome, b, fun i fp e x hx => ?_, d⟩
          obtain ⟨h1, h2⟩ := cc i fp e x hx
          obtain ⟨o, ho⟩ := a.fp_some fp (List.mem_of_getElem? e) x hx
          exact ⟨(Gn.o x o ho).trans h1, h2⟩
        -- from a state over the base back, Dl standing as it was
        have base : ∃ ow, Stt ⟨E.K, Hn, Fn, ow⟩ Fn en (wipe σ own) Hn ∧ ∀ F3 en3 σ3 H3, wipe σ3 own = wipe σ own → Stt ⟨E.K, Hn, Fn, ow⟩ F3 en3 σ3 H3 → H3 Dl = some (.lst vs) ∧ SttA E Dl F3 (wipeR en3 own) (wipe σ own) H3 := by
          obtain ⟨fps, rs, nd, fr, fd⟩ := An.rep
          have get : ∀ (i : Nat) (a : Addr), a ∈ (fps[i]?).getD [] → ∃ fp, fps[i]? = some fp ∧ a ∈ fp := fun i a h => by
            cases e : fps[i]? with
            | none => rw [e] at h; cases h
            | some fp => rw [e] at h; exact ⟨fp, rfl, h⟩
          have Sb : Stt ⟨E.K, Hn, Fn, fun i => (fps[i]?).getD []⟩ Fn en (wipe σ own) Hn := by
            refine ⟨Same.refl _, An.fH, fun a o e _ => e, fun a o e _ => rfl, fun i a ha => ?_, fps, rs, nd, fun i fp e a ha => ⟨(fr i fp e a ha).1, .inr ?_⟩⟩
            · obtain ⟨fp, e, hm⟩ := get i a ha
              exact rs.fp_some fp (List.mem_of_getElem? e) a hm
            · show a ∈ (fps[i]?).getD []
              rw [e]; exact ha
          refine ⟨_, Sb, fun F3 en3 σ3 H3 hw S3 => ?_⟩
          have hDoff : ∀ i : Nat, Dl ∉ (fps[i]?).getD [] := fun i hm => by
            obtain ⟨fp, e, hm⟩ := get i Dl hm
            exact fd fp (List.mem_of_getElem? e) hm
          have off : ∀ a o, E.H0 a = some o → (∀ i, a ∉ E.own i) → ∀ i : Nat, a ∉ (fps[i]?).getD [] := fun a o h h2 i hm => by
            obtain ⟨fp, e, hm⟩ := get i a hm
            rcases (fr i fp e a hm).2 with h3 | h3
            · rw [h3] at h; cases h
            · exact h2 i h3
          have S4 := S3.wipeR own
          rw [hw] at S4
          obtain ⟨fps2, rs2, nd2, fr2⟩ := S4.rep
          refine ⟨S3.keep Dl _ hDn hDoff, An.le0.trans S4.le0, S4.fH, fun a o e h => S4.keep a o (An.keep a o e h) (off a o e h), fun a o e h => (S4.old a o (An.keep a o e h) (off a o e h)).trans (An.old a o e h), fun i a ha => ?_, hD0, (S4.old Dl _ hDn hDoff).trans hFn, fps2, rs2, nd2, fun i fp e a ha => ?_, fun fp hf hm => ?_⟩
          · obtain ⟨o, ho⟩ := An.ownS i a ha
            by_cases hcc : ∃ j : Nat, a ∈ (fps[j]?).getD []
            · obtain ⟨j, hj⟩ := hcc
              exact S4.ownS j a hj
            · exact ⟨o, S4.keep a o ho fun j hj => hcc ⟨j, hj⟩⟩
          · obtain ⟨h1, h2⟩ := fr2 i fp e a ha
            refine ⟨h1, ?_⟩
            rcases h2 with h2 | h2
            · exact .inl (An.stt.h0_none h2)
            · obtain ⟨fq, e', hm⟩ := get i a h2
              exact (fr i fq e' a hm).2
          · obtain ⟨i, hi⟩ := List.mem_iff_getElem?.mp hf
            rcases (fr2 i fp hi Dl hm).2 with h2 | h2
            · have h2 : Hn Dl = none := h2
              rw [hDn] at h2; cases h2
            · exact hDoff i h2
        obtain ⟨ow, Sb, back⟩ := base
        cases e3 : h ds[i] en with
        | none => rw [e3] at hc; cases hc
        | some en1 =>
          rw [e3] at hc
          dsimp only at hc
          refine kg Hn Fn ow Fn (wipe σ own) Hn _ ds[i] v Sb rn _ ⟨en1, e3, fun σ2 S2 hoff hl2 => ?_⟩
          have hw : wipe σ2 own = wipe σ own := by
            have := wipe_off (is := is) (vs := own) hoff hl2 hs
            rw [wipe_wipe] at this
            exact this
          refine ⟨hw, kc Hn Fn ow Fn σ2 Hn en1 S2 _ ?_⟩
          cases e4 : c en1 with
          | un => rw [e4] at hc; cases hc
          | ex x e' => rw [e4] at hc; cases hc
          | ok bb en2 =>
            rw [e4] at hc
            intro F3 H3 G3 S3
            cases bb with
            | false =>
              obtain ⟨k1, k2⟩ := back F3 en2 σ2 H3 hw S3
              exact ⟨F3, _, acc, vs, ys, (g1.trans Gn.f).trans G3, k2, noneAt_wipeR en2 own, k1, RL.mono G3 _ (fun a z => nomatch z) hrn, hc, hz, by omega⟩
            | true =>
              show te σ2 H3 _
              dsimp only at hc
              refine kf Hn Fn ow F3 σ2 H3 en2 S3 _ ?_
              cases e5 : f en2 with
              | un => rw [e5] at hc; cases hc
              | ex x e' => rw [e5] at hc; cases hc
              | ok y en3 =>
                rw [e5] at hc
                dsimp only at hc
                cases e6 : compXL h c f own (ds.drop (i + 1)) (wipeR en3 own) with
                | un => rw [e6] at hc; cases hc
                | ex x e' => rw [e6] at hc; cases hc
                | ok ys' e' =>
                  rw [e6] at hc
                  cases hc
                  intro v5 F5 H5 G5 S5 r5
                  obtain ⟨k1, k2⟩ := back F5 en3 σ2 H5 hw S5
                  have hr5 : RL E.K F5 H5 acc vs [] := RL.mono (G3.trans G5) _ (fun a z => nomatch z) hrn
                  have hal : acc.length < ds.length := by omega
                  refine ⟨vs, k1, by rw [hr5.len, ← line_eq]; omega, F5, _, acc ++ [y], vs ++ [v5], ys', ((g1.trans Gn.f).trans G3).trans G5, k2.upd hDo, noneAt_wipeR en3 own, upd_same, ?_, e6, by rw [List.append_assoc]; exact hz, by rw [List.length_append]; simp; omega⟩
                  have hsn := hr5.snoc r5
                  rw [List.append_nil] at hsn
                  exact RL.mono (Same.refl _) _ (fun a z => nomatch z) hsn
      · rintro Hc ⟨F1, en, acc, vs, ys, g1, A1, hna, hDc, hr, hc, hz, hai⟩
        rw [List.drop_length] at hc
        cases hc
        rw [List.append_nil] at hz
        subst hz
        obtain ⟨fps, a, b, cc, d⟩ := A1.rep
        exact q Dl vs F1 Hc (Gr.f.trans g1) ⟨A1.le0, A1.fH, A1.keep, A1.old, A1.ownS, A1.h0, A1.hF, fps, a.unwipe own hna, b, cc, d⟩ hDc hr (by omega)
/-- the element, the tests, the target in the comprehension's own block, at every base -/
structure BlkX (X : Cx) (K : Kx) (scope : Scope) (tg : Expr) (ifs : List Expr) (elt : Expr) (is : List Nat) (h : D → En → Option En) (c : En → Fv Bool) (f : En → Fv D) : Prop where
  g : ∃ t, (∀ (s : Shared) (H : Hp) (C : Addr) (cl : List (Str × Addr)) (fp : List Addr), PG (X.blk s H scope (compEnvC scope cl C X.env) fp) tg t) ∧ ∀ H0 F0 ow, OkG ⟨K, H0, F0, ow⟩ is t h
  c : ∃ t, (∀ (s : Shared) (H : Hp) (C : Addr) (cl : List (Str × Addr)) (fp : List Addr), PTs (X.blk s H scope (compEnvC scope cl C X.env) fp) ifs t) ∧ ∀ H0 F0 ow, OkXT ⟨K, H0, F0, ow⟩ WF t c
  f : ∃ t, (∀ (s : Shared) (H : Hp) (C : Addr) (cl : List (Str × Addr)) (fp : List Addr), PE (X.blk s H scope (compEnvC scope cl C X.env) fp) elt t) ∧ ∀ H0 F0 ow, OkX ⟨K, H0, F0, ow⟩ WF t f
structure SCX (X : Cx) (E : Ent) (ifs : List Expr) (c : En → Fv Bool) : Prop where
  ex : ∃ t, PTs X ifs t ∧ OkXT E WF t c
def cYesX : En → Fv Bool := fun e => .ok true e
theorem SCX.nil {X : Cx} {E : Ent} : SCX X E [] cYesX := ⟨_, pts_nil, fun F σ H env S Q q => q F H (Same.refl _) S⟩
theorem SCX.one {X : Cx} {E : Ent} {c : Expr} {tc : En → Fv Bool} (h : SXT X E WF c tc) : SCX X E [c] tc := by
  obtain ⟨t, p, k⟩ := h.ex
  exact ⟨_, pts_one p, k⟩
section
variable {X : Cx} {E : Ent} {W : WX} {e tg iter : Expr} {pos : Pos} {K : Kx}
theorem BlkX.mk' {scope : Scope} {ifs : List Expr} {elt : Expr} {is : List Nat} {h : D → En → Option En} {c : En → Fv Bool} {f : En → Fv D}
    (hg : ∀ (H0 F0 : Hp) (ow : Nat → List Addr) (s : Shared) (H : Hp) (C : Addr) (cl : List (Str × Addr)) (fp : List Addr), SG (X.blk s H scope (compEnvC scope cl C X.env) fp) ⟨K, H0, F0, ow⟩ tg is h)
    (hc : ∀ (H0 F0 : Hp) (ow : Nat → List Addr) (s : Shared) (H : Hp) (C : Addr) (cl : List (Str × Addr)) (fp : List Addr), SCX (X.blk s H scope (compEnvC scope cl C X.env) fp) ⟨K, H0, F0, ow⟩ ifs c)
    (hf : ∀ (H0 F0 : Hp) (ow : Nat → List Addr) (s : Shared) (H : Hp) (C : Addr) (cl : List (Str × Addr)) (fp : List Addr), SX (X.blk s H scope (compEnvC scope cl C X.env) fp) ⟨K, H0, F0, ow⟩ WF elt f) : BlkX X K scope tg ifs elt is h c f := by
  refine ⟨⟨fun v σ H Q => ∃ H0 F0 ow, ∀ s H1 C cl fp, (hg H0 F0 ow s H1 C cl fp).ex.choose v σ H Q, fun s H0 C cl fp => ⟨fun pins s1 σ H v u Q I r q => ?_⟩, fun H0 F0 ow F σ H env d v S r Q q => ⟨H0, F0, ow, fun s H1 C cl fp => (hg H0 F0 ow s H1 C cl fp).ex.choose_spec.2 F σ H env d v S r Q q⟩⟩,
    ⟨fun σ H Q => ∃ H0 F0 ow, ∀ s H1 C cl fp, (hc H0 F0 ow s H1 C cl fp).ex.choose σ H Q, fun s H0 C cl fp => ⟨fun pins s1 σ H Q I q => ?_⟩, fun H0 F0 ow F σ H env S Q q => ⟨H0, F0, ow, fun s H1 C cl fp => (hc H0 F0 ow s H1 C cl fp).ex.choose_spec.2 F σ H env S Q q⟩⟩,
    ⟨fun σ H Q => ∃ H0 F0 ow, ∀ s H1 C cl fp, (hf H0 F0 ow s H1 C cl fp).ex.choose σ H Q, fun s H0 C cl fp => ⟨fun pins s1 σ H Q I q => ?_⟩, fun H0 F0 ow F σ H env S Q q => ⟨H0, F0, ow, fun s H1 C cl fp => (hf H0 F0 ow s H1 C cl fp).ex.choose_spec.2 F σ H env S Q q⟩⟩⟩
  · obtain ⟨a, b, c', k⟩ := q
    exact (hg a b c' s H0 C cl fp).ex.choose_spec.1.run pins s1 σ H v u Q I r (k s H0 C cl fp)
  · obtain ⟨a, b, c', k⟩ := q
    exact (hc a b c' s H0 C cl fp).ex.choose_spec.1.run pins s1 σ H Q I (k s H0 C cl fp)
  · obtain ⟨a, b, c', k⟩ := q
    exact (hf a b c' s H0 C cl fp).ex.choose_spec.1.run pins s1 σ H Q I (k s H0 C cl fp)
theorem SXL.comp {elt : Expr} {ifs : List Expr} {scope : Scope} {own : List (Str × Nat)} {is : List Nat} {fi : En → Rs (List D)} {h : D → En → Option En} {c : En → Fv Bool} {f : En → Fv D} (hc : X.calm = true) (hN : X.N.Nodup) (hi : SI X E W tg iter fi) (ok : BlkOk X.N X.env.scope scope own)
    (hb : BlkX X E.K scope tg ifs elt is h c f) (hs : ∀ i ∈ is, i ∈ own.map (·.2) := by decide) (hfs : ∀ x, foldedSetIterable iter X.env x = pure x := by intro _; rfl) : SXL X E W (.ListComp elt [⟨tg, iter, ifs, 0⟩] scope pos) (xComp fi h c f (own.map (·.2))) := by
  obtain ⟨wi, p1, k1⟩ := hi.ex
  obtain ⟨tg', p2, k2⟩ := hb.g
  obtain ⟨tc', p3, k3⟩ := hb.c
  obtain ⟨te', p4, k4⟩ := hb.f
  exact ⟨hi.hK, _, pe_lc hc hN p1 ok p2 p3 p4 hfs, compX_ok k1 k2 k3 k4 hs⟩
theorem SS.setCX2 (i : Nat) {y : Str} {py spos : Pos} {elt : Expr} {ifs : List Expr} {scope : Scope} {own : List (Str × Nat)} {is : List Nat} {fi : En → Rs (List D)} {h : D → En → Option En} {c : En → Fv Bool} {f : En → Fv D} (hc : X.calm = true) (hN : X.N.Nodup) (hi : SI X E W tg iter fi) (ok : BlkOk X.N X.env.scope scope own)
    (hb : BlkX X E.K scope tg ifs elt is h c f) (hy : X.N[i]? = some y) (hyl : X.env.scope.names.lookup y = some .local) (hsw : swapsWith (.ListComp elt [⟨tg, iter, ifs, 0⟩] scope pos) (some (.Name y py)) spos.line X.env = pure true) (hs : ∀ i ∈ is, i ∈ own.map (·.2)) (hfs : ∀ x, foldedSetIterable iter X.env x = pure x) :
    SS X E W (.Assign [.Name y py] (.ListComp elt [⟨tg, iter, ifs, 0⟩] scope pos) spos) (sSetLX i (xComp fi h c f (own.map (·.2)))) ∧ SS X E W (.Assign [.Name y py] (.ListComp elt [⟨tg, iter, ifs, 0⟩] scope pos) spos) (sSetX i (xOfL (xComp fi h c f (own.map (·.2))))) := by
  obtain ⟨wi, p1, k1⟩ := hi.ex
  obtain ⟨tg', p2, k2⟩ := hb.g
  obtain ⟨tc', p3, k3⟩ := hb.c
  obtain ⟨te', p4, k4⟩ := hb.f
  have p := ps_setLc hc hN hy hyl hsw p1 ok p2 p3 p4 hfs
  have k := compX_ok (W := W) k1 k2 k3 k4 hs
  refine ⟨⟨hi.hK, _, p, setLX_ok k⟩, ⟨hi.hK, _, p, ?_⟩⟩
  intro F σ H env S D q
  refine ofYL_ok k F σ H env S _ ?_
  unfold sSetX at q
  cases e1 : xOfL (xComp fi h c f (own.map (·.2))) env with
  | un => rw [e1] at q; exact q
  | ex x e' => rw [e1] at q; exact fun cls dd F' H' G S' r => q cls dd F' σ H' G S' r
  | ok d e' => rw [e1] at q; exact fun v F' H' G S' r => q F' _ H' G (S'.setData i r)
end
end Z

set_option Elab.async false
set_option linter.all false
set_option maxRecDepth 100000
set_option maxHeartbeats 1000000
/-! ZM: lists put together anew; append to an owned or a lent list -/
namespace Z
open PySem L2
section
variable {X : Cx} {E : Ent} {W : WX} {e a b : Expr} {f g : En → Rs D} {fx : En → Fv D} {pos : Pos}
/-- a + b, a new list -/
def eCat (f g : En → Rs D) : En → Rs (List D) := fun env => (f env).bind fun a => (g env).bind fun b => ofO ((listOf a).bind fun xs => (listOf b).bind fun ys => if xs.length + ys.length ≤ 16777216 then some (xs ++ ys) else none)
theorem SL.cat (ha : SE X E W a f) (hb : SE X E W b g) : SL X E W (.BinOp a .Add b pos) (eCat f g) := by
  obtain ⟨t, p, k⟩ := ha.ex
  obtain ⟨u, p', k'⟩ := hb.ex
  refine ⟨ha.hK, _, pe_op op_cat p p', fun F σ H env S Q q => ?_⟩
  refine k F σ H env S _ ?_
  unfold eCat at q
  cases e1 : f env with
  | un => rw [e1] at q; exact q
  | ex x => rw [e1] at q; exact q
  | ok d1 =>
    rw [e1, Rs.bind_ok] at q
    intro v1 fp1 F1 H1 G1 r1
    refine k' F1 σ H1 env (S.grow G1) _ ?_
    cases e2 : g env with
    | un => rw [e2] at q; exact q
    | ex x => rw [e2] at q; exact fun cls dd F' H' g => q cls dd F' H' (G1.trans g)
    | ok d2 =>
      rw [e2, Rs.bind_ok] at q
      intro v2 fp2 F2 H2 G2 r2
      cases e3 : listOf d1 with
      | none => rw [e3] at q; exact q.elim
      | some xs =>
        rw [e3, Option.bind_some] at q
        cases e4 : listOf d2 with
        | none => rw [e4] at q; exact q.elim
        | some ys =>
          rw [e4, Option.bind_some] at q
          split at q
          · rename_i hz
            obtain ⟨a', vs, rfl, ha', la, _⟩ := listOf_at G2.fh (r1.grow G2) e3
            obtain ⟨b', us, rfl, hb', lb, _⟩ := listOf_at G2.fh r2 e4
            refine ⟨a', b', vs, us, rfl, rfl, ha', hb', by rw [la.len, lb.len, ← line_eq]; exact hz, fun p hp => ?_⟩
            have G := G1.trans G2
            have hp0 : H p = none := by
              cases q0 : H p with
              | none => rfl
              | some o => rw [G.h _ _ q0] at hp; cases hp
            exact q p _ F2 _ (G.trans (Grow.own G2.fh hp)) hp0 (same_none G2.fh hp) upd_same ((la.app0 lb).grow (Grow.own G2.fh hp)) (by rw [List.length_append]; exact hz)
          · exact q.elim
/-- an owned list's items changed, the list owned by a slot or lent -/
theorem Stt.chgL {F H : Hp} {env : En} {σ : St} {i : Nat} {d0 : D} {ds : List D} {p : List Nat} (S : Stt E F env σ H) (he : env[i]? = some (some d0)) (hp : subD d0 p = some (.olst ds)) :
    ∃ v a vs, σ[i]? = some (some v) ∧ (p = [] → v = .ref a) ∧ H a = some (.lst vs) ∧ F a = none ∧ (∀ (ds' : List D) (vs' : List V), (∀ fp, RL E.K F H ds vs fp → RL E.K F H ds' vs' fp) → ds'.length ≤ 16777216 → Stt E F (env.set i (some (putD d0 p (.olst ds')))) σ (upd H a (.lst vs'))) ∧ ∃ fp0, RL E.K F H ds vs fp0 := by
  obtain ⟨v, u, fq, g1, r, nd, hF, hroot, kk⟩ := S.chg he hp
  obtain ⟨a, vs, fp0, rfl, rfl, h1, h2, hz⟩ := r.olst_inv2
  obtain ⟨n1, n2⟩ := List.nodup_cons.mp nd
  refine ⟨v, a, vs, g1, fun hp => (hroot hp).symm, h1, hF a List.mem_cons_self, fun ds' vs' hr hz' => ?_, fp0, h2⟩
  have off : ∀ b ∈ fp0, upd H a (.lst vs') b = H b := fun b hb => upd_ne fun z => n1 (by rw [← z]; exact hb)
  refine kk F _ (.olst ds') (a :: fp0) ⟨Same.refl _, fun b o hb => ?_, fun b o hb hnb => ?_, fun _ _ _ _ => rfl, fun b hb => ?_, fun b hb => ⟨hF b hb, .inl hb⟩, nd⟩ (List.cons_ne_nil _ _) (.olst upd_same (RL.mono (Same.refl _) _ off (hr fp0 h2)) hz')
  · rw [upd_ne fun z => by rw [z, hF a List.mem_cons_self] at hb; cases hb]
    exact S.fH b o hb
  · rw [upd_ne fun z => hnb (by rw [z]; exact List.mem_cons_self)]
    exact hb
  · by_cases hba : b = a
    · exact ⟨_, by rw [hba]; exact upd_same⟩
    · rw [upd_ne hba]
      rcases List.mem_cons.mp hb with z | z
      · exact absurd z hba
      · exact h2.fp_some _ b z
/-- x.append(e), x a list that is owned or lent -/
def sAppX (i : Nat) (f : En → Fv D) : En → Fl := fun env => match env[i]? with
  | some (some d0) => match peel d0 with
    | .olst _ => match f env with
      | .ok d e => match e[i]? with
        | some (some d1) => match peel d1 with
          | .olst ds => if ds.length < 16777216 then .nx (e.set i (some (putRoot d1 (.olst (ds ++ [d]))))) else .un
          | _ => .un
        | _ => .un
      | .ex x e => .xx x e
      | .un => .un
    | _ => .un
  | _ => .un
theorem SS.appX (i : Nat) {y : Str} {py apos cpos : Pos} (hf : SX X E W e fx) (hN : X.N[i]? = some y := by rfl) (hv : Vis X.env.scope y := by first | exact Or.inl rfl | exact Or.inr (Or.inl rfl) | exact Or.inr (Or.inr rfl))
    (hd : (y == ("__debug__" : Str)) = false := by decide) (hcd : (y == ("__classdict__" : Str)) = false := by decide)
    (hbase : attributeBase (.Name y py) "append" X.env (eval (.Name y py) X.env) = eval (.Name y py) X.env := by rfl)
    (hfew : ((backTo cpos (starEach [e] X.env)).all (fun x => !x.1) && (backToKw cpos (keywordEach [] X.env)).all (fun x => x.1.isSome)
      && decide ([e].length + ([] : List Keyword).length + (if ([] : List Keyword).isEmpty then 0 else 1) < 30)) = true := by rfl)
    (hline : (apos.endLine == cpos.line) = true := by rfl) (hs : starEach [e] X.env = (false, eval e X.env) :: starEach [] X.env := by rfl) (hplain : (backTo cpos (starEach [] X.env)).any (·.1) = false := by rfl)
    (hsw : swapsWith (.Call (.Attribute (.Name y py) "append" apos) [e] [] cpos) none pos.line X.env = pure false := by rfl) :
    SS X E W (.Expr (.Call (.Attribute (.Name y py) "append" apos) [e] [] cpos) pos) (sAppX i fx) := by
  obtain ⟨t, p, k⟩ := hf.ex
  refine ⟨hf.hK, _, ps_expr (pe_bm PySem.F.plainAttrs_list PySem.F.slot_list_append PySem.F.type_list_append mt_append (pe_var hN hv hd hcd) (pa_cons p pa_nil hs) hbase hfew hline hs hplain) hsw, fun F σ H env S D q => ?_⟩
  unfold sAppX at q
  split at q
  · rename_i d0 he
    split at q
    · rename_i ds0 hpe
      obtain ⟨v, a0, vs0, g1, hr0, h1, _, _, fp0, h2⟩ := S.chgL (p := []) he (show subD d0 [] = some (.olst ds0) by rw [← hpe]; rfl)
      obtain rfl := hr0 rfl
      refine ⟨.ref a0, g1, Or.inl ⟨rfl, vs0, SqL.of h1⟩, k F σ H env S _ ?_⟩
      cases e1 : fx env with
      | un => rw [e1] at q; exact q
      | ex x e' => rw [e1] at q; exact fun cls dd F' H' G S' r => q cls dd F' σ H' G S' r
      | ok d e' =>
        rw [e1] at q
        dsimp only at q
        intro v1 F1 H1 G1 S1 r1
        split at q
        · rename_i d1 he1
          split at q
          · rename_i ds hpe1
            split at q
            · rename_i hlt
              obtain ⟨v', a, vs, g2, hr, h3, _, kk, fp1, h4⟩ := S1.chgL (p := []) he1 (show subD d1 [] = some (.olst ds) by rw [← hpe1]; rfl)
              obtain rfl := hr rfl
              rw [g1] at g2
              cases g2
              refine ⟨a0, vs, v1, rfl, rfl, h3, by rw [h4.len, ← line_eq]; exact hlt, ?_⟩
              refine q F1 σ _ G1 (kk (ds ++ [d]) (vs ++ [v1]) (fun fq hq => ?_) (by rw [List.length_append]; simp; omega))
              have := hq.snoc r1
              rw [List.append_nil] at this
              exact this
            · exact q.elim
          · exact q.elim
        · exact q.elim
    · exact q.elim
  · exact q.elim
/-! ### sep.join(..) of what changes -/
def xJoin (sep : List Nat) (f : En → Fv D) : En → Fv D := fun env => (f env).bind fun d e => optV e (pJoin (.str sep) d)
end
end Z

set_option Elab.async false
set_option linter.all false
set_option maxRecDepth 100000
set_option maxHeartbeats 1000000
/-! ZQ: plain rules for what ZI to ZM brought; loops and comprehensions over rows xs.map g -/
namespace Z
open PySem L2
/-! names for what would else be bare functions -/
def eSort (f : En → Rs D) : En → Rs (List D) := fun env => (f env).bind fun d => ofO (pSorted d)
def eLRev (f : En → Rs D) : En → Rs (List D) := fun env => (f env).bind fun d => ofO (revOf d)
def eRg1 (fa : En → Rs (List D)) : En → Rs (List D) := fun env => (fa env).bind iRng1
def eRg2 (fa : En → Rs (List D)) : En → Rs (List D) := fun env => (fa env).bind iRng2
@[simp] theorem eSort_e {f : En → Rs D} {env : En} : eSort f env = (f env).bind fun d => ofO (pSorted d) := id rfl
@[simp] theorem eLRev_e {f : En → Rs D} {env : En} : eLRev f env = (f env).bind fun d => ofO (revOf d) := id rfl
@[simp] theorem eRg1_e {f : En → Rs (List D)} {env : En} : eRg1 f env = (f env).bind iRng1 := id rfl
@[simp] theorem eRg2_e {f : En → Rs (List D)} {env : En} : eRg2 f env = (f env).bind iRng2 := id rfl
section
variable {env : En} {f g : En → Rs D} {fx gx : En → Fv D} {tx ux : En → Fv Bool} {fa : En → Fv (List Arg)} {d d1 d2 : D} {b : Bool} {i j : Int}
@[simp] theorem datV_e : datV env d = if isData d then .ok d env else .un := id rfl
@[simp] theorem optV_some : optV env (some d) = datV env d := id rfl
@[simp] theorem optV_none : optV env none = .un := id rfl
@[simp] theorem xDat_e : xDat f env = (toFv env (f env)).bind fun d e => datV e d := id rfl
@[simp] theorem xTst_e {f : En → Rs Bool} : xTst f env = toFv env (f env) := id rfl
@[simp] theorem xBin_e {op : D → D → Option D} : xBin op fx gx env = (fx env).bind fun a e => (gx e).bind fun b e2 => optV e2 (op a b) := id rfl
@[simp] theorem asBV_bl : asBV env (.bl b) = .ok b env := id rfl
@[simp] theorem xB_e : xB fx env = (fx env).bind fun d e => asBV e d := id rfl
@[simp] theorem xTru_e : xTru fx env = (fx env).bind fun d e => toFv e (truD d) := id rfl
@[simp] theorem xAnd_e : xAnd tx ux env = (tx env).bind fun b e => if b then ux e else .ok false e := id rfl
@[simp] theorem xOr_e : xOr tx ux env = (tx env).bind fun b e => if b then .ok true e else ux e := id rfl
@[simp] theorem xNot_e : xNot tx env = (tx env).bind fun b e => .ok (!b) e := id rfl
@[simp] theorem xIf_e : xIf tx fx gx env = (tx env).bind fun b e => if b then fx e else gx e := id rfl
@[simp] theorem xAndV_e : xAndV fx gx env = (fx env).bind fun d e => (asBV e d).bind fun b e => if b then gx e else .ok (.bl false) e := id rfl
@[simp] theorem xOrV_e : xOrV fx gx env = (fx env).bind fun d e => (asBV e d).bind fun b e => if b then .ok (.bl true) e else gx e := id rfl
@[simp] theorem xNotB_e : xNotB fx env = (fx env).bind fun d e => (asBV e d).bind fun b e => .ok (.bl (!b)) e := id rfl
@[simp] theorem xaNil_e : xaNil env = .ok [] env := id rfl
@[simp] theorem xaD_e : xaD fx fa env = (fx env).bind fun d e => (fa e).bind fun as e => .ok (.d d :: as) e := id rfl
@[simp] theorem xaS_e {k : Nat} : xaS k fa env = match env[k]? with
  | some (some _) => (fa env).bind fun as e => .ok (.s k :: as) e
  | _ => .un := id rfl
@[simp] theorem xCallB_e {h : List D → Option D} : xCallB h fa env = (fa env).bind fun as e => match datsOf as with
  | some ds => optV e (h ds)
  | none => .un := id rfl
@[simp] theorem xTup_e : xTup fa env = (fa env).bind fun as e => match datsOf as with
  | some ds => if ds.length ≤ 16777216 then .ok (.tup ds) e else .un
  | none => .un := id rfl
@[simp] theorem xApp_e {n : Nat} {m : List D → Rs D} : xApp n m fa env = (fa env).bind fun as e => match datsOf as with
  | some ds => if ds.length = n then (toFv e (m ds)).bind fun d e => datV e d else .un
  | none => .un := id rfl
theorem xLend_e {n t : Nat} {m : List D → Fw} : xLend n t m fa env = (fa env).bind fun as e => match lentOf t as with
  | some (ds1, j, ds2) => match e[j]? with
    | some (some d0) => if isOwn (peel d0) = true ∧ noBor (peel d0) = true ∧ ds1.length + 1 + ds2.length = n then
        match m (ds1 ++ peel d0 :: ds2) with
        | .ok r d => datV (e.set j (some (putRoot d0 d))) r
        | .ex x d => .ex x (e.set j (some (putRoot d0 d)))
        | .un => .un
      else .un
    | _ => .un
  | none => .un := id rfl
@[simp] theorem isOwn_olst {x : List D} : isOwn (.olst x) = true := id rfl
@[simp] theorem putRoot_olst {x : List D} {e : D} : putRoot (.olst x) e = e := id rfl
@[simp] theorem putRoot_bor {t : Nat} {d e : D} : putRoot (.bor t d) e = .bor t e := id rfl
@[simp] theorem sRetX_e : sRetX fx env = match fx env with
  | .ok d e => .rt d e
  | .ex x e => .xx x e
  | .un => .un := id rfl
@[simp] theorem sRetNX_e : sRetNX env = .rt .non env := id rfl
@[simp] theorem sExprX_e : sExprX fx env = match fx env with
  | .ok _ e => .nx e
  | .ex x e => .xx x e
  | .un => .un := id rfl
@[simp] theorem sSetX_e {k : Nat} : sSetX k fx env = match fx env with
  | .ok d e => .nx (e.set k (some d))
  | .ex x e => .xx x e
  | .un => .un := id rfl
@[simp] theorem sIfX_e {gs gt : En → Fl} : sIfX tx gs gt env = match tx env with
  | .ok true e => gs e
  | .ok false e => gt e
  | .ex x e => .xx x e
  | .un => .un := id rfl
theorem xLend_ok {n t j : Nat} {m : List D → Fw} {as : List Arg} {e : En} {ds1 ds2 : List D} {d0 r d : D} (ha : fa env = .ok as e) (hl : lentOf t as = some (ds1, j, ds2)) (he : e[j]? = some (some d0)) (ho : isOwn (peel d0) = true) (hb : noBor (peel d0) = true)
    (hn : ds1.length + 1 + ds2.length = n) (hm : m (ds1 ++ peel d0 :: ds2) = .ok r d) (hr : isData r = true) : xLend n t m fa env = .ok r (e.set j (some (putRoot d0 d))) := by
  unfold xLend
  rw [ha, Fv.bind_ok, hl]
  dsimp only
  rw [he]
  dsimp only
  rw [if_pos ⟨ho, hb, hn⟩, hm]
  dsimp only
  unfold datV
  rw [if_pos hr]
theorem sAppX_ok {k : Nat} {e : En} {d d0 d1 : D} {ds0 ds : List D} (h0 : env[k]? = some (some d0)) (p0 : peel d0 = .olst ds0) (hf : fx env = .ok d e) (h1 : e[k]? = some (some d1)) (p1 : peel d1 = .olst ds) (hl : ds.length < 16777216) :
    sAppX k fx env = .nx (e.set k (some (putRoot d1 (.olst (ds ++ [d]))))) := by
  unfold sAppX
  rw [h0]
  dsimp only
  rw [p0]
  dsimp only
  rw [hf]
  dsimp only
  rw [h1]
  dsimp only
  rw [p1]
  dsimp only
  rw [if_pos hl]
@[simp] theorem outL_rt {t : Nat} {r : D} {e : En} : outL t (.rt r e) = backL t e fun d => .ok r d := id rfl
@[simp] theorem outL_nx {t : Nat} {e : En} : outL t (.nx e) = backL t e fun d => .ok .non d := id rfl
@[simp] theorem backL_e {t : Nat} {e : En} {k : D → Fw} : backL t e k = match e[t]? with
  | some (some (.bor t' d)) => if t' = t ∧ noBor d = true then k d else .un
  | _ => .un := id rfl
theorem noBor_olst {x : List D} (h : x.all isData = true) : noBor (.olst x) = true := noBorL_data h
@[simp] theorem eIndex_e : eIndex f g env = (f env).bind fun d => match listOf d with
  | some _ => (g env).bind fun y => ofO (pIndex d y)
  | none => .un := id rfl
@[simp] theorem listOf_lst {x : List D} : listOf (.lst x) = some x := id rfl
@[simp] theorem listOf_tup {x : List D} : listOf (.tup x) = none := id rfl
@[simp] theorem seqOf_lst {x : List D} : seqOf (.lst x) = some x := id rfl
@[simp] theorem seqOf_tup {x : List D} : seqOf (.tup x) = some x := id rfl
@[simp] theorem eCat_e : eCat f g env = (f env).bind fun a => (g env).bind fun b => ofO ((listOf a).bind fun xs => (listOf b).bind fun ys => if xs.length + ys.length ≤ 16777216 then some (xs ++ ys) else none) := id rfl
@[simp] theorem iSeqO_e : iSeqO f env = (f env).bind fun d => ofO (itemsOfO d) := id rfl
@[simp] theorem itemsOfO_lst {x : List D} : itemsOfO (.lst x) = some x := id rfl
@[simp] theorem itemsOfO_tup {x : List D} : itemsOfO (.tup x) = some x := id rfl
@[simp] theorem itemsOfO_olst {x : List D} : itemsOfO (.olst x) = if x.all isData then some x else none := id rfl
@[simp] theorem itemsOfO_str {x : List Nat} : itemsOfO (.str x) = some (x.map fun c => .str [c]) := id rfl
@[simp] theorem itemsOfO_scr {x : List Int} : itemsOfO (.scr x) = some (x.map .int) := id rfl
theorem pShl_nat {n : Nat} (h : n ≤ 1000) : pShl (.int 1) (.int n) = some (.int ((2 ^ n : Nat) : Int)) := by
  show (if _ then _ else _) = _
  rw [if_pos ⟨rfl, by omega, by omega⟩]
  simp
theorem pShr_nat {m n : Nat} : pShr (.int m) (.int n) = some (.int ((m / 2 ^ n : Nat) : Int)) := by
  show (if (0 : Int) ≤ (n : Int) then some (D.int ((m : Int) / 2 ^ (n : Int).toNat)) else none) = _
  rw [if_pos (by omega)]
  simp
theorem pAnd_nat {m : Nat} : pAnd (.int m) (.int 1) = some (.int ((m % 2 : Nat) : Int)) := by
  show (if (0 : Int) ≤ (m : Int) ∧ (1 : Int) = 1 then some (D.int ((m : Int) % 2)) else none) = _
  rw [if_pos ⟨by omega, rfl⟩]
  simp
end
/-! ### rows -/
section
variable {α : Type} {h : D → En → Option En} {c : En → Rs Bool} {f : En → Rs D} {body : En → Fl} {w : List Nat} {env : En}
/-- a comprehension over a row -/
theorem compL_T (g : α → D) (χ : α → Bool) (φ : α → D) : ∀ xs : List α, (∀ x ∈ xs, ∃ e1, h (g x) env = some e1 ∧ c e1 = .ok (χ x) ∧ (χ x = true → f e1 = .ok (φ x) ∧ isData (φ x) = true)) →
    compL h c f env (xs.map g) = .ok ((xs.filter χ).map φ)
  | [], _ => rfl
  | x :: xs, H => by
    obtain ⟨e1, h1, h2, h3⟩ := H x List.mem_cons_self
    have ih := compL_T g χ φ xs fun y hy => H y (List.mem_cons_of_mem _ hy)
    rw [List.map_cons]
    unfold compL
    rw [h1]
    dsimp only
    rw [h2]
    cases hx : χ x with
    | false =>
      dsimp only
      rw [ih, List.filter_cons_of_neg (by rw [hx]; decide)]
    | true =>
      obtain ⟨k1, k2⟩ := h3 hx
      dsimp only
      rw [k1]
      dsimp only
      rw [if_pos k2, ih, Rs.bind_ok, List.filter_cons_of_pos hx, List.map_cons]
theorem eComp_T (g : α → D) (χ : α → Bool) (φ : α → D) (xs : List α) {fi : En → Rs (List D)} {own : List Nat} (hi : fi env = .ok (xs.map g)) (H : ∀ x ∈ xs, ∃ e1, h (g x) (wipeR env own) = some e1 ∧ c e1 = .ok (χ x) ∧ (χ x = true → f e1 = .ok (φ x) ∧ isData (φ x) = true)) :
    eComp fi h c f own env = .ok ((xs.filter χ).map φ) := eComp_e hi (compL_T g χ φ xs H)
/-- .. without tests -/
theorem eComp_M (g : α → D) (φ : α → D) (xs : List α) {fi : En → Rs (List D)} {own : List Nat} (hi : fi env = .ok (xs.map g)) (H : ∀ x ∈ xs, ∃ e1, h (g x) (wipeR env own) = some e1 ∧ f e1 = .ok (φ x) ∧ isData (φ x) = true) :
    eComp fi h cYes f own env = .ok (xs.map φ) := by
  have := eComp_T (c := cYes) g (fun _ => true) φ xs hi fun x hx => by
    obtain ⟨e1, h1, h2, h3⟩ := H x hx
    exact ⟨e1, h1, rfl, fun _ => ⟨h2, h3⟩⟩
  rw [List.filter_eq_self.mpr fun _ _ => rfl] at this
  exact this
/-- a loop that carries a state -/
theorem forL_fold {σ : Type} (g : α → D) (enc : σ → En) (step : σ → α → σ) (Inv : List α → σ → Prop) : ∀ (xs : List α) (s : σ), Inv xs s →
    (∀ x xs s, Inv (x :: xs) s → ∃ e1, h (g x) (enc s) = some e1 ∧ (∃ e2, (body e1 = .nx e2 ∨ body e1 = .ct e2) ∧ wipeE w e2 = enc (step s x)) ∧ Inv xs (step s x)) →
    forL h body w (xs.map g) (enc s) = .nx (enc (xs.foldl step s)) ∧ Inv [] (xs.foldl step s)
  | [], s, h0, _ => ⟨rfl, h0⟩
  | x :: xs, s, h0, H => by
    obtain ⟨e1, h1, ⟨e2, h2, h3⟩, h4⟩ := H x xs s h0
    obtain ⟨q1, q2⟩ := forL_fold g enc step Inv xs (step s x) h4 H
    refine ⟨?_, q2⟩
    rw [List.map_cons]
    unfold forL
    rw [h1]
    dsimp only
    rcases h2 with h2 | h2 <;> rw [h2] <;> dsimp only <;> rw [h3] <;> exact q1
/-- a loop that ends at the first hit -/
theorem forL_find (g : α → D) (p : α → Bool) (r : D) (er : En) : ∀ xs : List α, (∀ x ∈ xs, ∃ e1, h (g x) env = some e1 ∧ (p x = true → body e1 = .rt r er) ∧ (p x = false → ∃ e2, (body e1 = .nx e2 ∨ body e1 = .ct e2) ∧ wipeE w e2 = env)) →
    forL h body w (xs.map g) env = if xs.any p then .rt r er else .nx env
  | [], _ => rfl
  | x :: xs, H => by
    obtain ⟨e1, h1, h2, h3⟩ := H x List.mem_cons_self
    have ih := forL_find g p r er xs fun y hy => H y (List.mem_cons_of_mem _ hy)
    rw [List.map_cons]
    unfold forL
    rw [h1]
    dsimp only
    cases hx : p x with
    | true =>
      rw [h2 hx, List.any_cons, hx]
      rfl
    | false =>
      obtain ⟨e2, k1, k2⟩ := h3 hx
      rw [List.any_cons, hx, Bool.false_or]
      rcases k1 with k1 | k1 <;> rw [k1] <;> dsimp only <;> rw [k2] <;> exact ih
theorem rngL_map (n : Nat) : rngL 0 n = (List.range n).map fun k => .int (k : Nat) := by
  unfold rngL
  exact List.map_congr_left fun k _ => by rw [Int.zero_add]
end
theorem okPyL_map {α : Type} {n : Nat} (g : α → D) : ∀ xs : List α, (∀ x ∈ xs, okPy n (g x) = true) → okPyL n (xs.map g) = true
  | [], _ => by cases n <;> simp [okPyL]
  | x :: xs, h => by
    rw [List.map_cons]
    simp only [okPyL, h x List.mem_cons_self, okPyL_map g xs fun y hy => h y (List.mem_cons_of_mem _ hy), Bool.and_self]
theorem eqvL_map {α : Type} (g : α → D) : ∀ xs ys : List α, (∀ x ∈ xs, ∀ y ∈ ys, eqv (g x) (g y) = true → x = y) → (∀ x ∈ xs, eqv (g x) (g x) = true) → (eqvL (xs.map g) (ys.map g) = true ↔ xs = ys)
  | [], [], _, _ => by simp [eqvL]
  | [], _ :: _, _, _ => by simp [eqvL]
  | _ :: _, [], _, _ => by simp [eqvL]
  | x :: xs, y :: ys, h, hr => by
    have ih := eqvL_map g xs ys (fun a ha b hb => h a (List.mem_cons_of_mem _ ha) b (List.mem_cons_of_mem _ hb)) fun a ha => hr a (List.mem_cons_of_mem _ ha)
    rw [List.map_cons, List.map_cons]
    simp only [eqvL, Bool.and_eq_true, ih, List.cons.injEq]
    constructor
    · rintro ⟨h1, h2⟩; exact ⟨h x (by simp) y (by simp) h1, h2⟩
    · rintro ⟨rfl, h2⟩; exact ⟨hr x (by simp), h2⟩
theorem eqv_nat (a b : Nat) : eqv (.int (a : Int)) (.int (b : Int)) = decide (a = b) := by
  show ((a : Int) == (b : Int)) = _
  by_cases h : a = b
  · subst h; simp
  · rw [decide_eq_false h, beq_eq_false_iff_ne]; omega
theorem eqv_str (a b : List Nat) : eqv (.str a) (.str b) = decide (a = b) := by
  show (a == b) = _
  by_cases h : a = b
  · subst h; simp
  · rw [decide_eq_false h, beq_eq_false_iff_ne]; exact h
theorem any_nat (xs : List Nat) (a : Nat) : ((xs.map fun k => D.int (k : Nat)).any fun z => eqv z (.int a)) = decide (a ∈ xs) := by
  rw [List.any_map]
  induction xs with
  | nil => simp
  | cons x xs ih =>
    rw [List.any_cons, ih]
    simp only [Function.comp_apply, eqv_nat]
    by_cases h : x = a
    · subst h; simp
    · by_cases h2 : a ∈ xs <;> simp [h, h2, Ne.symm h]
theorem any_str (xs : List (List Nat)) (a : List Nat) : ((xs.map D.str).any fun z => eqv z (.str a)) = decide (a ∈ xs) := by
  rw [List.any_map]
  induction xs with
  | nil => simp
  | cons x xs ih =>
    rw [List.any_cons, ih]
    simp only [Function.comp_apply, eqv_str]
    by_cases h : x = a
    · subst h; simp
    · by_cases h2 : a ∈ xs <;> simp [h, h2, Ne.symm h]
theorem ok_nats {n : Nat} (xs : List Nat) : okPyL n (xs.map fun k => D.int (k : Nat)) = true := okPyL_map _ xs fun _ _ => by cases n <;> rfl
theorem ok_strs {n : Nat} (xs : List (List Nat)) : okPyL n (xs.map D.str) = true := okPyL_map _ xs fun _ _ => by cases n <;> rfl
theorem pIn_nats_l (xs : List Nat) (a : Nat) : pIn (.int a) (.lst (xs.map fun k => .int (k : Nat))) = some (.bl (decide (a ∈ xs))) := by
  show (if _ then _ else _) = _
  rw [ok_nats, any_nat]
  rfl
theorem pIn_nats_t (xs : List Nat) (a : Nat) : pIn (.int a) (.tup (xs.map fun k => .int (k : Nat))) = some (.bl (decide (a ∈ xs))) := by
  show (if _ then _ else _) = _
  rw [ok_nats, any_nat]
  rfl
theorem pIn_strs_l (xs : List (List Nat)) (a : List Nat) : pIn (.str a) (.lst (xs.map .str)) = some (.bl (decide (a ∈ xs))) := by
  show (if _ then _ else _) = _
  rw [ok_strs, any_str]
  rfl
theorem pIn_strs_t (xs : List (List Nat)) (a : List Nat) : pIn (.str a) (.tup (xs.map .str)) = some (.bl (decide (a ∈ xs))) := by
  show (if _ then _ else _) = _
  rw [ok_strs, any_str]
  rfl
theorem pIn_strs_o (xs : List (List Nat)) (a : List Nat) : pIn (.str a) (.olst (xs.map .str)) = some (.bl (decide (a ∈ xs))) := by
  show (if _ then _ else _) = _
  rw [ok_strs, any_str]
  rfl
end Z

set_option Elab.async false
set_option linter.all false
set_option maxRecDepth 100000
namespace Law
open PySem L2 Z
def b0_without_larger : En → Fl :=
  (sIf (eNot (eTru (eCall bAny (aCons (eOfL (eComp (iSeqO (eVar 1)) (gN 4) cYes (eCall bAll (aCons (eOfL (eComp (iSeqO (eVar 4)) (gN 5) cYes (eBin pIn (eVar 5) (eBin pIx (eVar 2) (eC (.int 1)))) [5])) aNil)) [4])) aNil))))
  (sApp 1 (eBin pIx (eVar 2) (eC (.int 1))))
  sPass)
def g_without_larger : En → Fl :=
  (sSeq (sSetL 1 (eLst aNil))
  (sSeq (sFor (iSeq (eOfL (eSort (eOfL (eComp (iSeqO (eVar 0)) (gN 3) cYes (eTup (aCons (eCall bLen (aCons (eVar 3) aNil)) (aCons (eVar 3) aNil))) [3]))))) (gN 2) b0_without_larger [2])
  (sFrz 1 (sRet (eVar 1)))))
def m_without_larger : List D → Rs D := runB0 g_without_larger 6
theorem e_without_larger (a0 : D) : m_without_larger [a0] = noX (outB (g_without_larger [some a0, none, none, none, none, none])) := rfl
def b0_hitting_sets : En → Fl :=
  (sIf (eTru (eCall bAny (aCons (eOfL (eComp (iSeqO (eVar 4)) (gN 7) cYes (eBin pIn (eVar 7) (eVar 6)) [7])) aNil)))
  (sApp 5 (eVar 6))
  (sSetL 5 (eCat (eVar 5) (eOfL (eComp (iSeqO (eVar 4)) (gN 7) cYes (eCall bTuple (aCons (eOfL (eSort (eBin pAdd (eVar 6) (eTup (aCons (eVar 7) aNil))))) aNil)) [7])))))
def b1_hitting_sets : En → Fl :=
  (sSeq (sSet 4 (eOfL (eComp (eRg1 (aCons (eCall bLen (aCons (eVar 0) aNil)) aNil)) (gN 7) (eB (eBin pIn (eBin pIx (eVar 0) (eVar 7)) (eVar 3))) (eVar 7) [7])))
  (sSeq (sSetL 5 (eLst aNil))
  (sSeq (sFor (iSeq (eVar 2)) (gN 6) b0_hitting_sets [6])
  (sFrz 5 (sSet 2 (eApp 1 m_without_larger (aCons (eVar 5) aNil)))))))
def g_hitting_sets : En → Fl :=
  (sSeq (sSet 2 (eOfL (eLst (aCons (eTup aNil) aNil))))
  (sSeq (sFor (iSeq (eVar 1)) (gN 3) b1_hitting_sets [3, 4, 5, 6])
  (sRet (eCall bTuple (aCons (eOfL (eComp (iSeqO (eVar 2)) (gN 6) cYes (eCall bTuple (aCons (eOfL (eComp (iSeqO (eVar 6)) (gN 7) cYes (eBin pIx (eVar 0) (eVar 7)) [7])) aNil)) [6])) aNil)))))
def m_hitting_sets : List D → Rs D := runB0 g_hitting_sets 8
theorem e_hitting_sets (a0 a1 : D) : m_hitting_sets [a0, a1] = noX (outB (g_hitting_sets [some a0, some a1, none, none, none, none, none, none])) := rfl
def g__law_cell : En → Fl :=
  (sSeq (sIf (eB (eBin pLt (eVar 1) (eCall bLen (aCons (eVar 0) aNil))))
  (sRet (eBin pIx (eVar 0) (eVar 1)))
  sPass)
  (sRet (eBin pAdd (eBin pMul (eC (.int 5)) (eVar 1)) (eC (.int 2)))))
def m__law_cell : List D → Rs D := runB0 g__law_cell 2
theorem e__law_cell (a0 a1 : D) : m__law_cell [a0, a1] = noX (outB (g__law_cell [some a0, some a1])) := rfl
def b0__law_numbers : En → Fl :=
  (sIf (eTru (eVar 4))
  (sSeq (sApp 6 (eBin pMod (eCall bInt (aCons (eVar 3) aNil)) (eVar 1)))
  (sSet 3 (eBin pDiv (eVar 3) (eVar 1))))
  (sSeq (sSet 5 (eBin pMod (eCall bInt (aCons (eBin pAdd (eBin pAdd (eBin pMul (eVar 5) (eC (.int 48271))) (eBin pMul (eC (.int 11)) (eVar 7))) (eC (.int 1))) aNil)) (eC (.int 2147483647))))
  (sApp 6 (eBin pMod (eCall bInt (aCons (eBin pDiv (eVar 5) (eC (.int 8191))) aNil)) (eVar 1)))))
def g__law_numbers : En → Fl :=
  (sSeq (sSet 3 (eCall bAbs (aCons (eCall bInt (aCons (eVar 0) aNil)) aNil)))
  (sSeq (sSet 4 (eBin pGe (eVar 3) (eBin pPow (eC (.int 10)) (eC (.int 18)))))
  (sSeq (sSet 5 (eBin pAdd (eBin pMod (eCall bInt (aCons (eVar 3) aNil)) (eC (.int 2147483647))) (eC (.int 1))))
  (sSeq (sSetL 6 (eLst aNil))
  (sSeq (sFor (eRg1 (aCons (eVar 2) aNil)) (gN 7) b0__law_numbers [7])
  (sFrz 6 (sRet (eVar 6))))))))
def m__law_numbers : List D → Rs D := runB0 g__law_numbers 8
theorem e__law_numbers (a0 a1 a2 : D) : m__law_numbers [a0, a1, a2] = noX (outB (g__law_numbers [some a0, some a1, some a2, none, none, none, none, none])) := rfl
def b0__law_names : En → Fl :=
  (sSeq (sSet 6 (eApp 3 m__law_numbers (aCons (eApp 2 m__law_cell (aCons (eVar 0) (aCons (eBin pAdd (eC (.int 2)) (eVar 5)) aNil))) (aCons (eC (.int 208)) (aCons (eC (.int 9)) aNil)))))
  (sSeq (sSet 7 (eBin pJoin (eC (.str [])) (eOfL (eComp (iSeqO (eSl (eVar 6) (oSome (eC (.int 1))) (oSome (eBin pAdd (eC (.int 2)) (eBin pDiv (eBin pIx (eVar 6) (eC (.int 0))) (eC (.int 26))))))) (gN 8) cYes (eBin pIx (eVar 1) (eBin pMod (eVar 8) (eVar 2))) [8]))))
  (sIf (eB (eBin pNotIn (eVar 7) (eVar 4)))
  (sApp 4 (eVar 7))
  sPass)))
def t1__law_names : En → Fl :=
  (sFrz 4 (sRet (eVar 4)))
def t2__law_names : En → Fl :=
  (sSeq (sFor (eRg1 (aCons (eVar 3) aNil)) (gN 5) b0__law_names [5, 6, 7])
  t1__law_names)
def t3__law_names : En → Fl :=
  (sSeq (sSetL 4 (eLst aNil))
  t2__law_names)
def t4__law_names : En → Fl :=
  (sSeq (sIf (eB (eBin pEq (eBin pMod (eBin pDiv (eCall bInt (aCons (eApp 2 m__law_cell (aCons (eVar 0) (aCons (eC (.int 0)) aNil))) aNil)) (eC (.int 7))) (eC (.int 8))) (eC (.int 3))))
  (sSet 3 (eBin pAdd (eC (.int 7)) (eBin pMod (eBin pDiv (eCall bInt (aCons (eApp 2 m__law_cell (aCons (eVar 0) (aCons (eC (.int 0)) aNil))) aNil)) (eC (.int 56))) (eC (.int 2)))))
  sPass)
  t3__law_names)
def t5__law_names : En → Fl :=
  (sSeq (sSet 3 (eBin pMod (eCall bInt (aCons (eApp 2 m__law_cell (aCons (eVar 0) (aCons (eC (.int 0)) aNil))) aNil)) (eC (.int 7))))
  t4__law_names)
def t6__law_names : En → Fl :=
  (sSeq (sSet 2 (eBin pAdd (eC (.int 1)) (eBin pMod (eCall bInt (aCons (eApp 2 m__law_cell (aCons (eVar 0) (aCons (eC (.int 1)) aNil))) aNil)) (eC (.int 26)))))
  t5__law_names)
def g__law_names : En → Fl :=
  (sSeq (sSet 1 (eC (.str [97, 98, 99, 100, 101, 102, 103, 104, 105, 106, 107, 108, 109, 110, 111, 112, 113, 114, 115, 116, 117, 118, 119, 120, 121, 122])))
  t6__law_names)
def m__law_names : List D → Rs D := runB0 g__law_names 9
theorem e__law_names (a0 : D) : m__law_names [a0] = noX (outB (g__law_names [some a0, none, none, none, none, none, none, none, none])) := rfl
def t0__law_cut : En → Fl :=
  (sRetX (xDat (eVar 5)))
def t1__law_cut : En → Fl :=
  (sSeq (sIf (eB (eBin pEq (eBin pMod (eBin pIx (eVar 3) (eBin pAdd (eCall bLen (aCons (eVar 1) aNil)) (eC (.int 2)))) (eC (.int 2))) (eC (.int 0))))
  (sSet 5 (eOfL (eLRev (eVar 5))))
  sPass)
  t0__law_cut)
def t2__law_cut : En → Fl :=
  (sSeq (sSet 5 (eBin pAdd (eSl (eVar 5) (oSome (eVar 6)) oNone) (eSl (eVar 5) oNone (oSome (eVar 6)))))
  t1__law_cut)
def t3__law_cut : En → Fl :=
  (sSeq (sSet 6 (eBin pMod (eBin pDiv (eBin pIx (eVar 3) (eBin pAdd (eCall bLen (aCons (eVar 1) aNil)) (eC (.int 2)))) (eC (.int 2))) (eBin pAdd (eCall bLen (aCons (eVar 5) aNil)) (eC (.int 1)))))
  t2__law_cut)
def t4__law_cut : En → Fl :=
  (sSeq (sIf (eAnd (eB (eBin pEq (eCall bLen (aCons (eVar 5) aNil)) (eC (.int 0)))) (eAnd (eB (eBin pGt (eCall bLen (aCons (eVar 1) aNil)) (eC (.int 0)))) (eB (eBin pNe (eBin pMod (eBin pIx (eVar 3) (eBin pAdd (eCall bLen (aCons (eVar 1) aNil)) (eC (.int 1)))) (eC (.int 8))) (eC (.int 0))))))
  (sSet 5 (eOfL (eLst (aCons (eBin pIx (eVar 1) (eBin pMod (eBin pDiv (eBin pIx (eVar 3) (eBin pAdd (eCall bLen (aCons (eVar 1) aNil)) (eC (.int 1)))) (eC (.int 8))) (eCall bLen (aCons (eVar 1) aNil)))) aNil))))
  sPass)
  t3__law_cut)
def t5__law_cut : En → Fl :=
  (sSeq (sIf (eAnd (eB (eBin pGt (eCall bLen (aCons (eVar 2) aNil)) (eC (.int 0)))) (eB (eBin pEq (eBin pMod (eBin pDiv (eBin pIx (eVar 3) (eC (.int 0))) (eC (.int 3))) (eC (.int 6))) (eC (.int 0)))))
  (sSet 5 (eOfL (eList (eBin pIx (eVar 2) (eBin pMod (eBin pDiv (eBin pIx (eVar 3) (eC (.int 0))) (eC (.int 18))) (eCall bLen (aCons (eVar 2) aNil)))))))
  sPass)
  t4__law_cut)
def t6__law_cut : En → Fl :=
  (sSeq (sSet 5 (eOfL (eComp (eRg1 (aCons (eCall bLen (aCons (eVar 1) aNil)) aNil)) (gN 7) (eB (eBin pLt (eBin pMod (eBin pIx (eVar 3) (eBin pAdd (eVar 7) (eC (.int 1)))) (eC (.int 4))) (eVar 4))) (eBin pIx (eVar 1) (eVar 7)) [7])))
  t5__law_cut)
def t7__law_cut : En → Fl :=
  (sSeq (sSet 4 (eBin pAdd (eC (.int 1)) (eBin pMod (eBin pIx (eVar 3) (eC (.int 0))) (eC (.int 3)))))
  t6__law_cut)
def g__law_cut : En → Fl :=
  (sSeq (sSet 3 (eApp 3 m__law_numbers (aCons (eVar 0) (aCons (eC (.int 72)) (aCons (eBin pAdd (eCall bLen (aCons (eVar 1) aNil)) (eC (.int 3))) aNil)))))
  t7__law_cut)
def m__law_cut : List D → Fw := runL0 g__law_cut 8 2
theorem e__law_cut (a0 a1 a2 : D) : m__law_cut [a0, a1, a2] = noXL (outL 2 (g__law_cut [some a0, some a1, some (.bor 2 a2), none, none, none, none, none])) := rfl
def b0__law_meets : En → Fl :=
  (sIf (eB (eBin pEq (eCall bLen (aCons (eOfL (eComp (iSeqO (eVar 0)) (gN 3) (eB (eBin pIn (eVar 3) (eVar 2))) (eVar 3) [3])) aNil)) (eC (.int 0))))
  (sRet (eC (.bl false)))
  sPass)
def g__law_meets : En → Fl :=
  (sSeq (sFor (iSeq (eVar 1)) (gN 2) b0__law_meets [2])
  (sRet (eC (.bl true))))
def m__law_meets : List D → Rs D := runB0 g__law_meets 4
theorem e__law_meets (a0 a1 : D) : m__law_meets [a0, a1] = noX (outB (g__law_meets [some a0, some a1, none, none])) := rfl
def b0__law_due : En → Fl :=
  (sSeq (sSet 5 (eOfL (eComp (eRg1 (aCons (eCall bLen (aCons (eVar 0) aNil)) aNil)) (gN 9) (eB (eBin pEq (eBin pAnd (eBin pShr (eVar 4) (eVar 9)) (eC (.int 1))) (eC (.int 1)))) (eVar 9) [9])))
  (sIf (eTru (eApp 2 m__law_meets (aCons (eVar 5) (aCons (eVar 2) aNil))))
  (sSeq (sSet 6 (eOfL (eComp (iSeqO (eVar 5)) (gN 9) (eTru (eApp 2 m__law_meets (aCons (eOfL (eComp (iSeqO (eVar 5)) (gN 11) (eB (eBin pNe (eVar 11) (eVar 9))) (eVar 11) [11])) (aCons (eVar 2) aNil)))) (eVar 9) [9])))
  (sIf (eB (eBin pEq (eCall bLen (aCons (eVar 6) aNil)) (eC (.int 0))))
  (sApp 3 (eTup (aCons (eCall bLen (aCons (eVar 5) aNil)) (aCons (eVar 5) aNil))))
  sPass))
  sPass))
def g__law_due : En → Fl :=
  (sSeq (sSet 2 (eOfL (eComp (iSeqO (eVar 1)) (gN 7) cYes (eOfL (eComp (iSeqO (eVar 7)) (gN 8) cYes (eIndex (eVar 0) (eVar 8)) [8])) [7])))
  (sSeq (sSetL 3 (eLst aNil))
  (sSeq (sFor (eRg1 (aCons (eBin pShl (eC (.int 1)) (eCall bLen (aCons (eVar 0) aNil))) aNil)) (gN 4) b0__law_due [4, 5, 6])
  (sRet (eCall bTuple (aCons (eOfL (eComp (iSeqO (eOfL (eSort (eVar 3)))) (gN 10) cYes (eCall bTuple (aCons (eOfL (eComp (iSeqO (eBin pIx (eVar 10) (eC (.int 1)))) (gN 9) cYes (eBin pIx (eVar 0) (eVar 9)) [9])) aNil)) [10])) aNil))))))
def m__law_due : List D → Rs D := runB0 g__law_due 12
theorem e__law_due (a0 a1 : D) : m__law_due [a0, a1] = noX (outB (g__law_due [some a0, some a1, none, none, none, none, none, none, none, none, none, none])) := rfl
def b0__law_is_rows : En → Fl :=
  (sIf (eOr (eNot (eTru (eIsi "tuple" (eVar 1)))) (eB (eBin pGt (eCall bLen (aCons (eOfL (eComp (iSeqO (eVar 1)) (gN 2) (eNot (eTru (eIsi "str" (eVar 2)))) (eVar 2) [2])) aNil)) (eC (.int 0)))))
  (sRet (eC (.bl false)))
  sPass)
def g__law_is_rows : En → Fl :=
  (sSeq (sIf (eNot (eTru (eIsi "tuple" (eVar 0))))
  (sRet (eC (.bl false)))
  sPass)
  (sSeq (sFor (iSeq (eVar 0)) (gN 1) b0__law_is_rows [1])
  (sRet (eC (.bl true)))))
def m__law_is_rows : List D → Rs D := runB0 g__law_is_rows 3
theorem e__law_is_rows (a0 : D) : m__law_is_rows [a0] = noX (outB (g__law_is_rows [some a0, none, none])) := rfl
def b0_law : En → Fl :=
  (sAppX 2 (xLend 3 2 m__law_cut (xaD (xDat (eApp 2 m__law_cell (aCons (eVar 0) (aCons (eBin pAdd (eC (.int 11)) (eVar 3)) aNil)))) (xaD (xDat (eVar 1)) (xaS 2 xaNil)))))
def b1_law : En → Fl :=
  (sSeq (sSet 5 (eApp 2 m__law_due (aCons (eVar 1) (aCons (eSl (eVar 2) oNone (oSome (eVar 4))) aNil))))
  (sSeq (sSet 6 (eApp 2 m_hitting_sets (aCons (eCall bTuple (aCons (eVar 1) aNil)) (aCons (eCall bTuple (aCons (eOfL (eComp (iSeqO (eSl (eVar 2) oNone (oSome (eVar 4)))) (gN 7) cYes (eCall bTuple (aCons (eVar 7) aNil)) [7])) aNil)) aNil))))
  (sIf (eOr (eNot (eTru (eApp 1 m__law_is_rows (aCons (eVar 6) aNil)))) (eB (eBin pNe (eVar 6) (eVar 5))))
  (sRet (eC (.bl false)))
  sPass)))
def g_law : En → Fl :=
  (sSeq (sSet 1 (eApp 1 m__law_names (aCons (eVar 0) aNil)))
  (sSeq (sSetL 2 (eLst aNil))
  (sSeq (sFor (eRg1 (aCons (eBin pMod (eCall bInt (aCons (eApp 2 m__law_cell (aCons (eVar 0) (aCons (eC (.int 10)) aNil))) aNil)) (eC (.int 10))) aNil)) (gN 3) b0_law [3])
  (sSeq (sFor (iSeq (eOfL (eLst (aCons (eCall bLen (aCons (eVar 2) aNil)) (aCons (eBin pDiv (eCall bLen (aCons (eVar 2) aNil)) (eC (.int 2))) (aCons (eC (.int 0)) (aCons (eCall bLen (aCons (eVar 2) aNil)) aNil))))))) (gN 4) b1_law [4, 5, 6])
  (sRet (eC (.bl true)))))))
def m_law : List D → Rs D := runB0 g_law 8
theorem e_law (a0 : D) : m_law [a0] = noX (outB (g_law [some a0, none, none, none, none, none, none, none])) := rfl
end Law

set_option Elab.async false
set_option linter.all false
set_option maxRecDepth 100000
namespace Law
open Z PySem L2
/-! ### least hitting sets -/
def SSn (n : Nat) (T : List Nat) : Prop := T.Pairwise (· < ·) ∧ ∀ a ∈ T, a < n
def Hits (C : List (List Nat)) (T : List Nat) : Prop := ∀ c ∈ C, ∃ a ∈ c, a ∈ T
theorem ss_nodup {n : Nat} {T : List Nat} (h : SSn n T) : T.Nodup := h.1.imp fun h => Nat.ne_of_lt h
theorem nodup_len {α : Type} [DecidableEq α] : ∀ {l m : List α}, l.Nodup → (∀ x ∈ l, x ∈ m) → l.length ≤ m.length
  | [], _, _, _ => Nat.zero_le _
  | x :: l, m, hn, hs => by
    obtain ⟨h1, h2⟩ := List.nodup_cons.mp hn
    have hx := hs x List.mem_cons_self
    have := nodup_len (l := l) (m := m.erase x) h2 fun y hy => (List.mem_erase_of_ne fun e => h1 (by rw [← e]; exact hy)).mpr (hs y (List.mem_cons_of_mem _ hy))
    rw [List.length_erase_of_mem hx] at this
    have := List.length_pos_of_mem hx
    rw [List.length_cons]; omega
theorem ss_eq {n : Nat} {s t : List Nat} (hs : SSn n s) (ht : SSn n t) (h : ∀ a, a ∈ s ↔ a ∈ t) : s = t :=
  ((List.perm_ext_iff_of_nodup (ss_nodup hs) (ss_nodup ht)).mpr h).eq_of_pairwise (fun a b _ _ h1 h2 => absurd h1 (by omega)) hs.1 ht.1
theorem ss_sub_eq {n : Nat} {s t : List Nat} (hs : SSn n s) (ht : SSn n t) (h : ∀ a ∈ s, a ∈ t) (hl : t.length ≤ s.length) : s = t := by
  refine ss_eq hs ht fun a => ⟨h a, fun ha => Classical.byContradiction fun hn => ?_⟩
  have := nodup_len (l := s) (m := t.erase a) (ss_nodup hs) fun y hy => (List.mem_erase_of_ne fun e => hn (by rw [← e]; exact hy)).mpr (h y hy)
  rw [List.length_erase_of_mem ha] at this
  have := List.length_pos_of_mem ha
  omega
/-- shorter ones first, then by their numbers -/
def leS (a b : List Nat) : Bool := decide (a.length < b.length) || (decide (a.length = b.length) && decide (a ≤ b))
theorem leS_iff {a b : List Nat} : leS a b = true ↔ a.length < b.length ∨ (a.length = b.length ∧ a ≤ b) := by simp [leS]
theorem leS_total (a b : List Nat) : (leS a b || leS b a) = true := by
  rw [Bool.or_eq_true, leS_iff, leS_iff]
  rcases Nat.lt_trichotomy a.length b.length with h | h | h
  · exact .inl (.inl h)
  · rcases List.le_total a b with k | k
    · exact .inl (.inr ⟨h, k⟩)
    · exact .inr (.inr ⟨h.symm, k⟩)
  · exact .inr (.inl h)
theorem leS_trans (a b c : List Nat) (h1 : leS a b = true) (h2 : leS b c = true) : leS a c = true := by
  rw [leS_iff] at *
  rcases h1 with h1 | ⟨h1, k1⟩ <;> rcases h2 with h2 | ⟨h2, k2⟩
  · exact .inl (by omega)
  · exact .inl (by omega)
  · exact .inl (by omega)
  · exact .inr ⟨by omega, List.le_trans k1 k2⟩
theorem leS_anti {a b : List Nat} (h1 : leS a b = true) (h2 : leS b a = true) : a = b := by
  rw [leS_iff] at *
  rcases h1 with h1 | ⟨h1, k1⟩ <;> rcases h2 with h2 | ⟨h2, k2⟩
  · omega
  · omega
  · omega
  · exact List.le_antisymm k1 k2
theorem srt_eq {L M : List (List Nat)} (h1 : L.Pairwise fun a b => leS a b = true) (h2 : M.Pairwise fun a b => leS a b = true) (n1 : L.Nodup) (n2 : M.Nodup) (h : ∀ a, a ∈ L ↔ a ∈ M) : L = M :=
  ((List.perm_ext_iff_of_nodup n1 n2).mpr h).eq_of_pairwise (fun a b _ _ k1 k2 => leS_anti k1 k2) h1 h2
theorem sorted_ms (L : List (List Nat)) : (L.mergeSort leS).Pairwise fun a b => leS a b = true := List.pairwise_mergeSort leS_trans leS_total L
/-- those that hold no earlier one -/
def subB (s t : List Nat) : Bool := s.all fun a => decide (a ∈ t)
theorem subB_iff {s t : List Nat} : subB s t = true ↔ ∀ a ∈ s, a ∈ t := by simp [subB]
def grd (acc : List (List Nat)) (x : List Nat) : List (List Nat) := if acc.any fun s => subB s x then acc else acc ++ [x]
theorem grd_inv : ∀ (M acc Q : List (List Nat)), (∀ s ∈ acc, s ∈ Q) → (∀ m ∈ Q, ∃ l ∈ acc, ∀ a ∈ l, a ∈ m) → (acc.Pairwise fun a b => subB a b = false) → (acc ++ M).Pairwise (fun a b => leS a b = true) →
    (∀ s ∈ M.foldl grd acc, s ∈ Q ++ M) ∧ (∀ m ∈ Q ++ M, ∃ l ∈ M.foldl grd acc, ∀ a ∈ l, a ∈ m) ∧ ((M.foldl grd acc).Pairwise fun a b => subB a b = false) ∧ (M.foldl grd acc).Pairwise (fun a b => leS a b = true)
  | [], acc, Q, h1, h2, h3, h4 => by simpa using ⟨h1, h2, h3, by simpa using h4⟩
  | x :: M, acc, Q, h1, h2, h3, h4 => by
    have e : Q ++ x :: M = (Q ++ [x]) ++ M := by simp
    rw [List.foldl_cons, e]
    by_cases hc : (acc.any fun s => subB s x) = true
    · have eg : grd acc x = acc := by unfold grd; rw [if_pos hc]
      rw [eg]
      refine grd_inv M acc (Q ++ [x]) (fun s hs => by simp [h1 s hs]) (fun m hm => ?_) h3 ?_
      · rcases List.mem_append.mp hm with hm | hm
        · exact h2 m hm
        · rw [List.mem_singleton.mp hm]
          obtain ⟨s, hs, hk⟩ := List.any_eq_true.mp hc
          exact ⟨s, hs, subB_iff.mp hk⟩
      · rw [List.pairwise_append] at h4 ⊢
        obtain ⟨k1, k2, k3⟩ := h4
        exact ⟨k1, (List.pairwise_cons.mp k2).2, fun a ha b hb => k3 a ha b (List.mem_cons_of_mem _ hb)⟩
    · have eg : grd acc x = acc ++ [x] := by unfold grd; rw [if_neg hc]
      rw [eg]
      refine grd_inv M (acc ++ [x]) (Q ++ [x]) (fun s hs => ?_) (fun m hm => ?_) ?_ (by simpa using h4)
      · rcases List.mem_append.mp hs with hs | hs
        · simp [h1 s hs]
        · simp [List.mem_singleton.mp hs]
      · rcases List.mem_append.mp hm with hm | hm
        · obtain ⟨l, hl, k⟩ := h2 m hm
          exact ⟨l, by simp [hl], k⟩
        · rw [List.mem_singleton.mp hm]
          exact ⟨x, by simp, fun a ha => ha⟩
      · rw [List.pairwise_append]
        refine ⟨h3, List.pairwise_singleton _ _, fun a ha b hb => ?_⟩
        rw [List.mem_singleton.mp hb]
        cases q : subB a x with
        | false => rfl
        | true => exact absurd (List.any_eq_true.mpr ⟨a, ha, q⟩) hc
/-- the program's own `without_larger` -/
def wol (sets : List (List Nat)) : List (List Nat) := (sets.mergeSort leS).foldl grd []
structure Fam (n : Nat) (C : List (List Nat)) (L : List (List Nat)) : Prop where
  ss : ∀ s ∈ L, SSn n s
  up : ∀ T, SSn n T → (Hits C T ↔ ∃ s ∈ L, ∀ a ∈ s, a ∈ T)
structure Lst (n : Nat) (C : List (List Nat)) (L : List (List Nat)) : Prop extends Fam n C L where
  anti : ∀ s ∈ L, ∀ t ∈ L, (∀ a ∈ s, a ∈ t) → s = t
  srt : L.Pairwise fun a b => leS a b = true
  nd : L.Nodup
theorem wol_ok {n : Nat} {C M : List (List Nat)} (h : Fam n C M) : Lst n C (wol M) := by
  obtain ⟨g1, g2, g3, g4⟩ := grd_inv (M.mergeSort leS) [] [] (fun _ z => nomatch z) (fun _ z => nomatch z) List.Pairwise.nil (by simpa using sorted_ms M)
  rw [List.nil_append] at g1 g2
  have g3 : (wol M).Pairwise (fun a b => subB a b = false) := g3
  have g4 : (wol M).Pairwise (fun a b => leS a b = true) := g4
  have hm : ∀ s ∈ wol M, SSn n s := fun s hs => h.ss s (List.mem_mergeSort.mp (g1 s hs))
  have sub_refl : ∀ s : List Nat, subB s s = true := fun s => subB_iff.mpr fun a ha => ha
  refine ⟨⟨hm, fun T hT => ?_⟩, fun s hs t ht hst => ?_, g4, g3.imp fun {a b} hab e => by subst e; rw [sub_refl] at hab; cases hab⟩
  · rw [h.up T hT]
    constructor
    · rintro ⟨s, hs, k⟩
      obtain ⟨l, hl, k2⟩ := g2 s (List.mem_mergeSort.mpr hs)
      exact ⟨l, hl, fun a ha => k a (k2 a ha)⟩
    · rintro ⟨s, hs, k⟩
      exact ⟨s, List.mem_mergeSort.mp (g1 s hs), k⟩
  · obtain ⟨i, hi, ei⟩ := List.mem_iff_getElem.mp hs
    obtain ⟨j, hj, ej⟩ := List.mem_iff_getElem.mp ht
    rcases Nat.lt_trichotomy i j with k | k | k
    · have := List.pairwise_iff_getElem.mp g3 i j hi hj k
      rw [ei, ej, subB_iff.mpr hst] at this
      cases this
    · subst k; rw [← ei, ← ej]
    · have le := List.pairwise_iff_getElem.mp g4 j i hj hi k
      rw [ei, ej, leS_iff] at le
      exact ss_sub_eq (hm s hs) (hm t ht) hst (by rcases le with h | h <;> omega)
/-- one cut more, met by the sets -/
def metOf (L : List (List Nat)) (P : List Nat) (srt : List Nat → List Nat) : List (List Nat) := L.foldl (fun acc one => if P.any fun a => decide (a ∈ one) then acc ++ [one] else acc ++ P.map fun a => srt (one ++ [a])) []
theorem metOf_mem {P : List Nat} {srt : List Nat → List Nat} {x : List Nat} : ∀ (L acc : List (List Nat)), x ∈ L.foldl (fun acc one => if P.any fun a => decide (a ∈ one) then acc ++ [one] else acc ++ P.map fun a => srt (one ++ [a])) acc ↔ x ∈ acc ∨ (∃ one ∈ L, (∃ a ∈ P, a ∈ one) ∧ x = one) ∨ ∃ one ∈ L, (∀ a ∈ P, a ∉ one) ∧ ∃ a ∈ P, x = srt (one ++ [a])
  | [], acc => by simp
  | one :: L, acc => by
    rw [List.foldl_cons, metOf_mem L]
    by_cases h : (P.any fun a => decide (a ∈ one)) = true
    · rw [if_pos h]
      have h' : ∃ a ∈ P, a ∈ one := by simpa using h
      constructor
      · rintro (k | ⟨o, ho, k⟩ | ⟨o, ho, k⟩)
        · rcases List.mem_append.mp k with k | k
          · exact .inl k
          · exact .inr (.inl ⟨one, by simp, h', List.mem_singleton.mp k⟩)
        · exact .inr (.inl ⟨o, by simp [ho], k⟩)
        · exact .inr (.inr ⟨o, by simp [ho], k⟩)
      · rintro (k | ⟨o, ho, k⟩ | ⟨o, ho, k1, k2⟩)
        · exact .inl (by simp [k])
        · rcases List.mem_cons.mp ho with e | ho
          · subst e; exact .inl (by simp [k.2])
          · exact .inr (.inl ⟨o, ho, k⟩)
        · rcases List.mem_cons.mp ho with e | ho
          · subst e
            obtain ⟨a, ha, hb⟩ := h'
            exact absurd hb (k1 a ha)
          · exact .inr (.inr ⟨o, ho, k1, k2⟩)
    · rw [if_neg h]
      have h' : ∀ a ∈ P, a ∉ one := by simpa using h
      constructor
      · rintro (k | ⟨o, ho, k⟩ | ⟨o, ho, k⟩)
        · rcases List.mem_append.mp k with k | k
          · exact .inl k
          · obtain ⟨a, ha, e⟩ := List.mem_map.mp k
            exact .inr (.inr ⟨one, by simp, h', a, ha, e.symm⟩)
        · exact .inr (.inl ⟨o, by simp [ho], k⟩)
        · exact .inr (.inr ⟨o, by simp [ho], k⟩)
      · rintro (k | ⟨o, ho, k⟩ | ⟨o, ho, k1, k2⟩)
        · exact .inl (by simp [k])
        · rcases List.mem_cons.mp ho with e | ho
          · subst e
            obtain ⟨⟨a, ha, hb⟩, _⟩ := k
            exact absurd hb (h' a ha)
          · exact .inr (.inl ⟨o, ho, k⟩)
        · rcases List.mem_cons.mp ho with e | ho
          · subst e
            obtain ⟨a, ha, e⟩ := k2
            exact .inl (by rw [e]; exact List.mem_append_right _ (List.mem_map.mpr ⟨a, ha, rfl⟩))
          · exact .inr (.inr ⟨o, ho, k1, k2⟩)
theorem met_ok {n : Nat} {C L : List (List Nat)} {P c : List Nat} {srt : List Nat → List Nat} (h : Lst n C L) (hP : ∀ a ∈ P, a < n) (hc : ∀ a, a ∈ P ↔ a ∈ c) (hs : ∀ one a, SSn n one → a < n → a ∉ one → SSn n (srt (one ++ [a])) ∧ ∀ b, b ∈ srt (one ++ [a]) ↔ b ∈ one ∨ b = a) :
    Fam n (C ++ [c]) (metOf L P srt) := by
  have hmem : ∀ x, x ∈ metOf L P srt ↔ _ := fun x => metOf_mem L []
  refine ⟨fun s hs' => ?_, fun T hT => ?_⟩
  · rcases (hmem s).mp hs' with k | ⟨o, ho, _, rfl⟩ | ⟨o, ho, k, a, ha, rfl⟩
    · cases k
    · exact h.ss s ho
    · exact (hs o a (h.ss o ho) (hP a ha) (k a ha)).1
  · have hh : Hits (C ++ [c]) T ↔ Hits C T ∧ ∃ a ∈ c, a ∈ T := by
      constructor
      · intro k
        exact ⟨fun x hx => k x (by simp [hx]), k c (by simp)⟩
      · rintro ⟨k1, k2⟩ x hx
        rcases List.mem_append.mp hx with hx | hx
        · exact k1 x hx
        · rw [List.mem_singleton.mp hx]; exact k2
    rw [hh, h.up T hT]
    constructor
    · rintro ⟨⟨s, hsL, hsT⟩, a, hac, haT⟩
      by_cases hm : ∃ b ∈ P, b ∈ s
      · exact ⟨s, (hmem s).mpr (.inr (.inl ⟨s, hsL, hm, rfl⟩)), hsT⟩
      · have hm' : ∀ b ∈ P, b ∉ s := fun b hb hbs => hm ⟨b, hb, hbs⟩
        have haP := (hc a).mpr hac
        refine ⟨srt (s ++ [a]), (hmem _).mpr (.inr (.inr ⟨s, hsL, hm', a, haP, rfl⟩)), fun b hb => ?_⟩
        rcases ((hs s a (h.ss s hsL) (hP a haP) (hm' a haP)).2 b).mp hb with k | k
        · exact hsT b k
        · rw [k]; exact haT
    · rintro ⟨s, hsM, hsT⟩
      rcases (hmem s).mp hsM with k | ⟨o, ho, ⟨b, hb, hbo⟩, rfl⟩ | ⟨o, ho, k, a, ha, rfl⟩
      · cases k
      · exact ⟨⟨s, ho, hsT⟩, b, (hc b).mp hb, hsT b hbo⟩
      · have hiff := (hs o a (h.ss o ho) (hP a ha) (k a ha)).2
        exact ⟨⟨o, ho, fun b hb => hsT b ((hiff b).mpr (.inl hb))⟩, a, (hc a).mp ha, hsT a ((hiff a).mpr (.inr rfl))⟩
theorem lst_start (n : Nat) : Lst n [] [[]] := by
  refine ⟨⟨fun s hs => ?_, fun T hT => ⟨fun _ => ⟨[], by simp, by simp⟩, fun _ c hc => nomatch hc⟩⟩, fun s hs t ht _ => ?_, List.pairwise_singleton _ _, by simp⟩
  · rw [List.mem_singleton.mp hs]; exact ⟨List.Pairwise.nil, fun a h => nomatch h⟩
  · rw [List.mem_singleton.mp hs, List.mem_singleton.mp ht]
theorem filter_ss {n : Nat} {T : List Nat} (h : SSn n T) (p : Nat → Bool) : SSn n (T.filter p) := ⟨h.1.filter p, fun a ha => h.2 a (List.mem_filter.mp ha).1⟩
/-- the least ones, told without a walk -/
theorem lst_mem {n : Nat} {C L : List (List Nat)} (h : Lst n C L) {T : List Nat} : T ∈ L ↔ SSn n T ∧ Hits C T ∧ ∀ a ∈ T, ¬ Hits C (T.filter fun b => !decide (b = a)) := by
  constructor
  · intro hT
    have hs := h.ss T hT
    refine ⟨hs, (h.up T hs).mpr ⟨T, hT, fun a ha => ha⟩, fun a ha hh => ?_⟩
    obtain ⟨s, hsL, hsub⟩ := (h.up _ (filter_ss hs _)).mp hh
    have e := h.anti s hsL T hT fun b hb => (List.mem_filter.mp (hsub b hb)).1
    subst e
    have := (List.mem_filter.mp (hsub a ha)).2
    simp at this
  · rintro ⟨hs, hh, hmin⟩
    obtain ⟨s, hsL, hsub⟩ := (h.up T hs).mp hh
    by_cases hex : ∃ a ∈ T, a ∉ s
    · obtain ⟨a, ha, hna⟩ := hex
      exfalso
      refine hmin a ha ((h.up _ (filter_ss hs _)).mpr ⟨s, hsL, fun b hb => List.mem_filter.mpr ⟨hsub b hb, ?_⟩⟩)
      have : b ≠ a := fun e => hna (by rw [← e]; exact hb)
      simp [this]
    · have : s = T := ss_eq (h.ss s hsL) hs fun a => ⟨hsub a, fun ha => Classical.byContradiction fun hn => hex ⟨a, ha, hn⟩⟩
      rw [← this]; exact hsL
/-! ### the subsets by numbers -/
def bits (n m : Nat) : List Nat := (List.range n).filter fun i => m.testBit i
theorem bits_ss (n m : Nat) : SSn n (bits n m) := ⟨List.pairwise_lt_range.filter _, fun a ha => List.mem_range.mp (List.mem_filter.mp ha).1⟩
theorem bits_ex (p : Nat → Bool) : ∀ n, ∃ m, m < 2 ^ n ∧ ∀ i, i < n → m.testBit i = p i
  | 0 => ⟨0, by decide, fun i h => absurd h (Nat.not_lt_zero i)⟩
  | n + 1 => by
    obtain ⟨m, h1, h2⟩ := bits_ex p n
    cases q : p n with
    | true =>
      refine ⟨2 ^ n + m, by rw [Nat.pow_succ]; omega, fun i hi => ?_⟩
      rcases Nat.lt_succ_iff_lt_or_eq.mp hi with h | h
      · rw [Nat.testBit_two_pow_add_gt h]; exact h2 i h
      · subst h
        rw [Nat.testBit_two_pow_add_eq, Nat.testBit_lt_two_pow h1, q]; rfl
    | false =>
      refine ⟨m, by rw [Nat.pow_succ]; omega, fun i hi => ?_⟩
      rcases Nat.lt_succ_iff_lt_or_eq.mp hi with h | h
      · exact h2 i h
      · subst h; rw [Nat.testBit_lt_two_pow h1, q]
theorem bits_of {n : Nat} {T : List Nat} (h : SSn n T) : ∃ m, m < 2 ^ n ∧ bits n m = T := by
  obtain ⟨m, h1, h2⟩ := bits_ex (fun i => decide (i ∈ T)) n
  refine ⟨m, h1, ss_eq (bits_ss n m) h fun a => ?_⟩
  unfold bits
  rw [List.mem_filter, List.mem_range]
  constructor
  · rintro ⟨k1, k2⟩; rw [h2 a k1] at k2; exact of_decide_eq_true k2
  · intro k; exact ⟨h.2 a k, by rw [h2 a (h.2 a k)]; exact decide_eq_true k⟩
theorem bits_inj {n m k : Nat} (hm : m < 2 ^ n) (hk : k < 2 ^ n) (h : bits n m = bits n k) : m = k := by
  apply Nat.eq_of_testBit_eq
  intro i
  by_cases hi : i < n
  · have : i ∈ bits n m ↔ i ∈ bits n k := by rw [h]
    unfold bits at this
    rw [List.mem_filter, List.mem_filter] at this
    simp [hi] at this
    cases q1 : m.testBit i <;> cases q2 : k.testBit i <;> simp [q1, q2] at this ⊢
  · have hp : 2 ^ n ≤ 2 ^ i := Nat.pow_le_pow_right (by decide) (by omega)
    rw [Nat.testBit_lt_two_pow (by omega), Nat.testBit_lt_two_pow (by omega)]
def hitsB (C : List (List Nat)) (T : List Nat) : Bool := C.all fun c => T.any fun a => decide (a ∈ c)
theorem hitsB_iff {C : List (List Nat)} {T : List Nat} : hitsB C T = true ↔ Hits C T := by
  unfold hitsB Hits
  rw [List.all_eq_true]
  refine forall_congr' fun c => forall_congr' fun _ => ?_
  rw [List.any_eq_true]
  constructor
  · rintro ⟨a, h1, h2⟩; exact ⟨a, of_decide_eq_true h2, h1⟩
  · rintro ⟨a, h1, h2⟩; exact ⟨a, h2, decide_eq_true h1⟩
theorem hitsB_no {C : List (List Nat)} {T : List Nat} : hitsB C T = false ↔ ¬ Hits C T := by rw [← hitsB_iff]; cases hitsB C T <;> simp
def dueB (C : List (List Nat)) (T : List Nat) : Bool := hitsB C T && T.all fun a => !hitsB C (T.filter fun b => !decide (b = a))
theorem dueB_iff {C : List (List Nat)} {T : List Nat} : dueB C T = true ↔ Hits C T ∧ ∀ a ∈ T, ¬ Hits C (T.filter fun b => !decide (b = a)) := by
  unfold dueB
  rw [Bool.and_eq_true, hitsB_iff, List.all_eq_true]
  simp only [Bool.not_eq_true', hitsB_no]
def duL (n : Nat) (C : List (List Nat)) : List (List Nat) := ((List.range (2 ^ n)).map (bits n)).filter (dueB C)
theorem du_eq {n : Nat} {C L : List (List Nat)} (h : Lst n C L) : L = (duL n C).mergeSort leS := by
  have nd : (duL n C).Nodup := by
    refine List.Pairwise.filter _ ?_
    refine List.Pairwise.map _ (fun a b h => h) ?_
    refine List.Pairwise.imp_of_mem (fun {a b} ha hb hab e => hab (bits_inj (List.mem_range.mp ha) (List.mem_range.mp hb) e)) (List.nodup_range (n := 2 ^ n))
  refine srt_eq h.srt (sorted_ms _) h.nd ((List.mergeSort_perm _ _).nodup_iff.mpr nd) fun T => ?_
  rw [lst_mem h, List.mem_mergeSort]
  unfold duL
  rw [List.mem_filter, List.mem_map]
  constructor
  · rintro ⟨k1, k2⟩
    obtain ⟨m, hm, e⟩ := bits_of k1
    exact ⟨⟨m, List.mem_range.mpr hm, e⟩, dueB_iff.mpr k2⟩
  · rintro ⟨⟨m, hm, rfl⟩, k2⟩
    exact ⟨bits_ss n m, dueB_iff.mp k2⟩
theorem lst_len {n : Nat} {C L : List (List Nat)} (h : Lst n C L) : L.length ≤ 2 ^ n := by
  have := nodup_len (m := (List.range (2 ^ n)).map (bits n)) h.nd fun T hT => by
    obtain ⟨m, hm, e⟩ := bits_of (h.ss T hT)
    exact List.mem_map.mpr ⟨m, List.mem_range.mpr hm, e⟩
  simpa using this
end Law

set_option Elab.async false
set_option linter.all false
set_option maxRecDepth 100000
namespace Law
open Z PySem L2
/-! ### how the program's rows stand for lists of numbers -/
abbrev ni (xs : List Nat) : List D := xs.map fun k => D.int (k : Nat)
def prT (a : List Nat) : D := .tup [.int (a.length : Nat), .tup (ni a)]
def prL (a : List Nat) : D := .tup [.int (a.length : Nat), .lst (ni a)]
theorem toPyL_ni (a : List Nat) : toPyL (ni a) = (a.map fun (k : Nat) => (k : Int)).map PyData.int := by
  rw [toPyL_map, List.map_map, List.map_map]
  exact List.map_congr_left fun k _ => by simp [toPy]
theorem cast_lt : ∀ a b : List Nat, ((a.map fun (k : Nat) => (k : Int)) < (b.map fun (k : Nat) => (k : Int))) ↔ a < b
  | [], [] => by simp
  | [], _ :: _ => by simp
  | _ :: _, [] => by simp
  | x :: a, y :: b => by
    have h1 : ((x : Int) < (y : Int)) ↔ x < y := by omega
    have h2 : ((x : Int) = (y : Int)) ↔ x = y := by omega
    rw [List.map_cons, List.map_cons, List.cons_lt_cons_iff, List.cons_lt_cons_iff, cast_lt a b, h1, h2]
theorem eqv_ni (a b : List Nat) : eqvL (ni a) (ni b) = decide (a = b) := by
  have := eqvL_map (fun k : Nat => D.int (k : Nat)) a b (fun x _ y _ h => by rw [eqv_nat] at h; exact of_decide_eq_true h) (fun x _ => by rw [eqv_nat]; simp)
  cases h : eqvL (ni a) (ni b) with
  | true => exact (decide_eq_true (this.mp h)).symm
  | false =>
    symm
    exact decide_eq_false fun e => by rw [this.mpr e] at h; cases h
theorem lt_pair (x y : Nat) (p q : PyData) (a b : List Nat) (hp : (p = .tuple (toPyL (ni a)) ∧ q = .tuple (toPyL (ni b))) ∨ (p = .list (toPyL (ni a)) ∧ q = .list (toPyL (ni b)))) :
    PySem.W.dataLt (.tuple [.int x, p]) (.tuple [.int y, q]) = (if x = y then (if a = b then false else decide (a < b)) else decide (x < y)) := by
  have al : PySem.W.alikeAll (toPyL (ni a)) (toPyL (ni b)) = true := by rw [toPyL_ni, toPyL_ni]; exact PySem.W.alike_ints _ _
  have ha : PySem.W.alike p q = true := by
    rcases hp with ⟨rfl, rfl⟩ | ⟨rfl, rfl⟩ <;> simpa only [PySem.W.alike] using al
  have he : PyData.eqv p q = decide (a = b) := by
    have e := eqvL_py 60 (ni a) (ni b) 60 (ok_nats a) (ok_nats b)
    rw [eqv_ni] at e
    rcases hp with ⟨rfl, rfl⟩ | ⟨rfl, rfl⟩ <;> simpa only [PyData.eqv] using e
  have hl : PySem.W.dataLt p q = decide (a < b) := by
    have r := PySem.W.dataLt_ints (a.map fun (k : Nat) => (k : Int)) (b.map fun (k : Nat) => (k : Int))
    rw [← toPyL_ni, ← toPyL_ni] at r
    have r2 : decide ((a.map fun (k : Nat) => (k : Int)) < (b.map fun (k : Nat) => (k : Int))) = decide (a < b) := decide_eq_decide.mpr (cast_lt a b)
    rw [r2] at r
    rcases hp with ⟨rfl, rfl⟩ | ⟨rfl, rfl⟩
    · rw [PySem.W.dataLt_tuple]; exact r
    · rw [PySem.W.dataLt_list]; exact r
  rw [PySem.W.dataLt_pair (by simp [PySem.W.alike]) ha, he, hl, PySem.W.dataLt_int]
  have e1 : PyData.eqv (.int (x : Int)) (.int (y : Int)) = decide (x = y) := by
    have := eqv_nat x y
    simpa only [PyData.eqv, eqv] using this
  rw [e1]
  by_cases h : x = y
  · subst h; simp
  · simp [h]
theorem leD_of {x y : D} {a b : List Nat} (hx : (toPy x = .tuple [.int (a.length : Nat), .tuple (toPyL (ni a))] ∧ toPy y = .tuple [.int (b.length : Nat), .tuple (toPyL (ni b))]) ∨ (toPy x = .tuple [.int (a.length : Nat), .list (toPyL (ni a))] ∧ toPy y = .tuple [.int (b.length : Nat), .list (toPyL (ni b))])) : leD x y = leS a b := by
  have e : leD x y = !PySem.W.dataLt (toPy y) (toPy x) := by
    show PySem.W.dataLe false toPy x y = _
    rw [PySem.W.dataLe_eq]
    rfl
  rw [e]
  have key : PySem.W.dataLt (toPy y) (toPy x) = (if b.length = a.length then (if b = a then false else decide (b < a)) else decide (b.length < a.length)) := by
    rcases hx with ⟨h1, h2⟩ | ⟨h1, h2⟩
    · rw [h1, h2]; exact lt_pair _ _ _ _ b a (.inl ⟨rfl, rfl⟩)
    · rw [h1, h2]; exact lt_pair _ _ _ _ b a (.inr ⟨rfl, rfl⟩)
  rw [key]
  unfold leS
  by_cases h : b.length = a.length
  · rw [if_pos h]
    by_cases h2 : b = a
    · subst h2; simp [List.le_refl]
    · rw [if_neg h2]
      have h3 : (a ≤ b) ↔ ¬ b < a := List.not_lt.symm
      by_cases h4 : b < a <;> simp [h, h4, h3]
  · rw [if_neg h]
    by_cases h4 : b.length < a.length
    · have : ¬ a.length < b.length := by omega
      have h5 : ¬ a.length = b.length := by omega
      simp [h4, this, h5]
    · have : a.length < b.length := by omega
      simp [h4, this]
theorem toPy_prT (a : List Nat) : toPy (prT a) = .tuple [.int (a.length : Nat), .tuple (toPyL (ni a))] := by simp only [prT, toPy, toPyL]
theorem toPy_prL (a : List Nat) : toPy (prL a) = .tuple [.int (a.length : Nat), .list (toPyL (ni a))] := by simp only [prL, toPy, toPyL]
theorem alike_pr (p : List Nat → D) (hp : p = prT ∨ p = prL) (L : List (List Nat)) : alikeB (L.map p) = true := by
  unfold alikeB
  rw [List.all_eq_true]
  intro x hx
  rw [List.all_eq_true]
  intro y hy
  obtain ⟨a, _, rfl⟩ := List.mem_map.mp hx
  obtain ⟨b, _, rfl⟩ := List.mem_map.mp hy
  have al : PySem.W.alikeAll (toPyL (ni a)) (toPyL (ni b)) = true := by rw [toPyL_ni, toPyL_ni]; exact PySem.W.alike_ints _ _
  rcases hp with rfl | rfl
  · rw [toPy_prT, toPy_prT]; simp [PySem.W.alike, PySem.W.alikeAll, al]
  · rw [toPy_prL, toPy_prL]; simp [PySem.W.alike, PySem.W.alikeAll, al]
theorem ok_pr (p : List Nat → D) (hp : p = prT ∨ p = prL) (L : List (List Nat)) : okPyL 60 (L.map p) = true := okPyL_map p L fun a _ => by
  have h : okPyL 58 (ni a) = true := ok_nats a
  rcases hp with rfl | rfl
  · show okPyL 59 [.int (a.length : Nat), .tup (ni a)] = true
    simp only [okPyL, okPy, h, Bool.and_self]
  · show okPyL 59 [.int (a.length : Nat), .lst (ni a)] = true
    simp only [okPyL, okPy, h, Bool.and_self]
theorem sort_pr (p : List Nat → D) (hp : p = prT ∨ p = prL) (L : List (List Nat)) {d : D} (hd : seqOf d = some (L.map p)) : pSorted d = some ((L.mergeSort leS).map p) := by
  unfold pSorted
  rw [hd, Option.bind_some, ok_pr p hp, alike_pr p hp]
  have hs : srtB (L.map p) = true := by
    unfold srtB
    rw [Bool.or_eq_true]
    refine .inl (List.all_eq_true.mpr fun x hx => ?_)
    obtain ⟨a, _, rfl⟩ := List.mem_map.mp hx
    rcases hp with rfl | rfl <;> rfl
  rw [hs]
  simp only [Bool.and_self, if_true]
  congr 1
  symm
  refine List.map_mergeSort fun a _ b _ => ?_
  symm
  rcases hp with rfl | rfl
  · exact leD_of (.inl ⟨toPy_prT a, toPy_prT b⟩)
  · exact leD_of (.inr ⟨toPy_prL a, toPy_prL b⟩)
def leN (a b : Nat) : Bool := decide (a ≤ b)
def srtN (xs : List Nat) : List Nat := xs.mergeSort leN
theorem leD_nat (a b : Nat) : leD (.int (a : Int)) (.int (b : Int)) = leN a b := by
  show PySem.W.dataLe false toPy (.int (a : Int)) (.int (b : Int)) = _
  rw [PySem.W.dataLe_eq]
  show (!PySem.W.dataLt (toPy (.int (b : Int))) (toPy (.int (a : Int)))) = _
  simp only [toPy]
  rw [PySem.W.dataLt_int]
  unfold leN
  by_cases h : a ≤ b
  · have : ¬ (b : Int) < (a : Int) := by omega
    simp [h, this]
  · have : (b : Int) < (a : Int) := by omega
    simp [h, this]
theorem sort_ni (xs : List Nat) {d : D} (hd : seqOf d = some (ni xs)) : pSorted d = some (ni (srtN xs)) := by
  unfold pSorted
  rw [hd, Option.bind_some, ok_nats]
  have h1 : alikeB (ni xs) = true := by
    unfold alikeB
    rw [List.all_eq_true]
    intro x hx
    rw [List.all_eq_true]
    intro y hy
    obtain ⟨a, _, rfl⟩ := List.mem_map.mp hx
    obtain ⟨b, _, rfl⟩ := List.mem_map.mp hy
    simp [toPy, PySem.W.alike]
  have h2 : srtB (ni xs) = true := by
    unfold srtB
    rw [Bool.or_eq_true]
    refine .inr (List.all_eq_true.mpr fun x hx => ?_)
    obtain ⟨a, _, rfl⟩ := List.mem_map.mp hx
    rfl
  rw [h1, h2]
  simp only [Bool.and_self, if_true]
  congr 1
  symm
  exact List.map_mergeSort fun a _ b _ => (leD_nat a b).symm
theorem srtN_ok {n : Nat} (one : List Nat) (a : Nat) (h : SSn n one) (ha : a < n) (hn : a ∉ one) : SSn n (srtN (one ++ [a])) ∧ ∀ b, b ∈ srtN (one ++ [a]) ↔ b ∈ one ∨ b = a := by
  have hm : ∀ b, b ∈ srtN (one ++ [a]) ↔ b ∈ one ∨ b = a := fun b => by
    unfold srtN
    rw [List.mem_mergeSort]
    simp
  have hs : (srtN (one ++ [a])).Pairwise fun x y => leN x y = true := List.pairwise_mergeSort (fun x y z h1 h2 => by
    unfold leN at *
    simp only [decide_eq_true_eq] at *
    omega) (fun x y => by
    unfold leN
    simp only [Bool.or_eq_true, decide_eq_true_eq]
    omega) _
  have hnd : (srtN (one ++ [a])).Nodup := by
    unfold srtN
    rw [(List.mergeSort_perm _ _).nodup_iff, List.nodup_append]
    refine ⟨ss_nodup h, by simp, fun x hx y hy e => ?_⟩
    subst e
    rw [List.mem_singleton.mp hy] at hx
    exact hn hx
  refine ⟨⟨?_, fun b hb => ?_⟩, hm⟩
  · refine (List.Pairwise.and hs hnd).imp fun {x y} hxy => ?_
    obtain ⟨h1, h2⟩ := hxy
    unfold leN at h1
    have := of_decide_eq_true h1
    have h2 : x ≠ y := h2
    omega
  · rcases (hm b).mp hb with k | k
    · exact h.2 b k
    · omega
end Law

set_option Elab.async false
set_option linter.all false
set_option maxRecDepth 100000
namespace Law
open Z PySem L2
abbrev tupN (a : List Nat) : D := .tup (ni a)
theorem data_map {α : Type} (g : α → D) (h : ∀ x, isData (g x) = true) (xs : List α) : (xs.map g).all isData = true := by
  rw [List.all_eq_true]
  intro d hd
  obtain ⟨x, _, rfl⟩ := List.mem_map.mp hd
  exact h x
theorem wol_body (A : D) (acc : List (List Nat)) (x : List Nat) (hl : acc.length < 16777216) :
    b0_without_larger [some A, some (.olst (acc.map tupN)), some (prT x), none, none, none] = .nx [some A, some (.olst ((grd acc x).map tupN)), some (prT x), none, none, none] := by
  have c1 : ∀ s : List Nat, eComp (iSeqO (eVar 4)) (gN 5) cYes (eBin pIn (eVar 5) (eBin pIx (eVar 2) (eC (.int 1)))) [5] [some A, some (.olst (acc.map tupN)), some (prT x), none, some (tupN s), none] = .ok (s.map fun a => .bl (decide (a ∈ x))) := fun s => by
    refine eComp_M (fun k : Nat => D.int (k : Nat)) _ s (by simp) fun a ha => ⟨_, rfl, ?_, rfl⟩
    simp [prT, pIn_nats_t]
  have c2 : eComp (iSeqO (eVar 1)) (gN 4) cYes (eCall bAll (aCons (eOfL (eComp (iSeqO (eVar 4)) (gN 5) cYes (eBin pIn (eVar 5) (eBin pIx (eVar 2) (eC (.int 1)))) [5])) aNil)) [4] [some A, some (.olst (acc.map tupN)), some (prT x), none, none, none] = .ok (acc.map fun s => .bl (subB s x)) := by
    refine eComp_M tupN _ acc (by simp [data_map tupN (fun _ => rfl)]) fun s hs => ⟨_, rfl, ?_, rfl⟩
    simp [c1 s, bAll_map]
    rfl
  unfold b0_without_larger
  simp [c2, bAny_map]
  unfold grd
  cases acc.any fun s => subB s x with
  | true => simp
  | false => simp [hl, prT]
theorem wol_run (sets : List (List Nat)) (hl : sets.length ≤ 1000000) (hs : ∀ s ∈ sets, s.length ≤ 1000) : m_without_larger [.lst (sets.map tupN)] = .ok (.lst ((wol sets).map tupN)) := by
  have c1 : eComp (iSeqO (eVar 0)) (gN 3) cYes (eTup (aCons (eCall bLen (aCons (eVar 3) aNil)) (aCons (eVar 3) aNil))) [3] [some (.lst (sets.map tupN)), some (.olst []), none, none, none, none] = .ok (sets.map prT) := by
    refine eComp_M tupN _ sets (by simp) fun s hs => ⟨_, rfl, ?_, rfl⟩
    simp [prT]
  obtain ⟨q1, _⟩ := forL_fold (h := gN 2) (body := b0_without_larger) (w := [2]) prT (fun acc : List (List Nat) => [some (.lst (sets.map tupN)), some (.olst (acc.map tupN)), none, none, none, none]) grd (fun xs acc => xs.length + acc.length ≤ 1000000) (sets.mergeSort leS) []
    (by simp [hl]) (fun x xs acc hi => by
      refine ⟨_, rfl, ⟨_, .inl (wol_body _ acc x (by simp at hi; omega)), rfl⟩, ?_⟩
      have : (grd acc x).length ≤ acc.length + 1 := by unfold grd; split <;> simp
      simp at hi; omega)
  rw [e_without_larger]
  unfold g_without_larger
  simp only [List.map_nil] at q1
  have hsort : pSorted (.lst (sets.map prT)) = some ((sets.mergeSort leS).map prT) := sort_pr prT (.inl rfl) sets rfl
  simp [sFor_ok (ds := (sets.mergeSort leS).map prT), c1, hsort, q1, data_map tupN (fun _ => rfl)]
  rfl
theorem wol_mem {sets : List (List Nat)} {s : List Nat} (h : s ∈ wol sets) : s ∈ sets := by
  obtain ⟨g1, _⟩ := grd_inv (sets.mergeSort leS) [] [] (fun _ z => nomatch z) (fun _ z => nomatch z) List.Pairwise.nil (by simpa using sorted_ms sets)
  have := g1 s h
  rw [List.nil_append] at this
  exact List.mem_mergeSort.mp this
/-- the places of a cut -/
def plc (names cut : List (List Nat)) : List Nat := (List.range names.length).filter fun k => decide (names.getD k [] ∈ cut)
def metS (P : List Nat) (acc : List (List Nat)) (one : List Nat) : List (List Nat) := if P.any fun a => decide (a ∈ one) then acc ++ [one] else acc ++ P.map fun a => srtN (one ++ [a])
theorem met_body (A B C E : D) (P : List Nat) (acc : List (List Nat)) (one : List Nat) (hl : acc.length + P.length < 1000000) (h1 : one.length < 1000) :
    b0_hitting_sets [some A, some B, some C, some E, some (.lst (ni P)), some (.olst (acc.map tupN)), some (tupN one), none] = .nx [some A, some B, some C, some E, some (.lst (ni P)), some (.olst ((metS P acc one).map tupN)), some (tupN one), none] := by
  have c1 : eComp (iSeqO (eVar 4)) (gN 7) cYes (eBin pIn (eVar 7) (eVar 6)) [7] [some A, some B, some C, some E, some (.lst (ni P)), some (.olst (acc.map tupN)), some (tupN one), none] = .ok (P.map fun a => .bl (decide (a ∈ one))) := by
    refine eComp_M (fun k : Nat => D.int (k : Nat)) _ P (by simp) fun a ha => ⟨_, rfl, ?_, rfl⟩
    simp [pIn_nats_t]
  have c2 : eComp (iSeqO (eVar 4)) (gN 7) cYes (eCall bTuple (aCons (eOfL (eSort (eBin pAdd (eVar 6) (eTup (aCons (eVar 7) aNil))))) aNil)) [7] [some A, some B, some C, some E, some (.lst (ni P)), some (.olst (acc.map tupN)), some (tupN one), none] = .ok (P.map fun a => tupN (srtN (one ++ [a]))) := by
    refine eComp_M (fun k : Nat => D.int (k : Nat)) _ P (by simp) fun a ha => ⟨_, rfl, ?_, rfl⟩
    have hs : pSorted (.tup (ni one ++ [.int (a : Nat)])) = some (ni (srtN (one ++ [a]))) := sort_ni (one ++ [a]) (by simp [ni])
    have hz : one.length + 1 ≤ 16777216 := by omega
    have ht : ∀ xs : List D, bTuple [.lst xs] = some (.tup xs) := fun xs => rfl
    simp [tupN, pAdd_tup, hz, hs, ht]
  unfold b0_hitting_sets
  simp [c1, bAny_map]
  unfold metS
  cases P.any fun a => decide (a ∈ one) with
  | true =>
    have : acc.length < 16777216 := by omega
    simp [this]
  | false =>
    have hd := data_map tupN (fun _ => rfl) acc
    have hL : listOf (.olst (acc.map tupN)) = some (acc.map tupN) := by show (if _ then _ else _) = _; rw [if_pos hd]
    have hz : acc.length + P.length ≤ 16777216 := by omega
    simp [c2, hL, hz]
end Law

set_option Elab.async false
set_option linter.all false
set_option maxRecDepth 100000
namespace Law
open Z PySem L2
theorem ss_len {n : Nat} {s : List Nat} (h : SSn n s) : s.length ≤ n := by
  have := nodup_len (m := List.range n) (ss_nodup h) fun a ha => List.mem_range.mpr (h.2 a ha)
  simpa using this
theorem plc_lt {names cut : List (List Nat)} : ∀ a ∈ plc names cut, a < names.length := fun a ha => List.mem_range.mp (List.mem_filter.mp ha).1
theorem plc_len (names cut : List (List Nat)) : (plc names cut).length ≤ names.length := by
  have := List.length_filter_le (fun k => decide (names.getD k [] ∈ cut)) (List.range names.length)
  simpa [plc] using this
abbrev tupS (c : List (List Nat)) : D := .tup (c.map .str)
theorem pIx_names {names : List (List Nat)} {k : Nat} (h : k < names.length) : pIx (.tup (names.map .str)) (.int (k : Int)) = some (.str (names.getD k [])) := by
  rw [pIx_tup, List.getElem?_map, List.getElem?_eq_getElem h, List.getD_eq_getElem?_getD, List.getElem?_eq_getElem h]
  rfl
theorem pIx_namesL {names : List (List Nat)} {k : Nat} (h : k < names.length) : pIx (.lst (names.map .str)) (.int (k : Int)) = some (.str (names.getD k [])) := by
  rw [pIx_lst, List.getElem?_map, List.getElem?_eq_getElem h, List.getD_eq_getElem?_getD, List.getElem?_eq_getElem h]
  rfl
theorem places_run (names cut : List (List Nat)) (hn : names.length ≤ 8) (B C : D) (E G H : Option D) :
    eComp (eRg1 (aCons (eCall bLen (aCons (eVar 0) aNil)) aNil)) (gN 7) (eB (eBin pIn (eBin pIx (eVar 0) (eVar 7)) (eVar 3))) (eVar 7) [7] [some (.tup (names.map .str)), some B, some C, some (tupS cut), E, G, H, none] = .ok (ni (plc names cut)) := by
  refine eComp_T (fun k : Nat => D.int (k : Nat)) (fun k => decide (names.getD k [] ∈ cut)) _ (List.range names.length) ?_ fun k hk => ?_
  · have : names.length ≤ 16000000 := by omega
    simp [iRng1_nat this, rngL_map]
  · have hk' := List.mem_range.mp hk
    refine ⟨_, rfl, ?_, fun _ => ⟨rfl, rfl⟩⟩
    simp [pIx_names hk', pIn_strs_t]
theorem hit_body {n : Nat} {C0 L : List (List Nat)} (names cut : List (List Nat)) (B : D) (hn : names.length = n) (h8 : n ≤ 8) (h : Lst n C0 L) :
    ∃ P6, b1_hitting_sets [some (.tup (names.map .str)), some B, some (.lst (L.map tupN)), some (tupS cut), none, none, none, none] = .nx [some (.tup (names.map .str)), some B, some (.lst ((wol (metOf L (plc names cut) srtN)).map tupN)), some (tupS cut), some (.lst (ni (plc names cut))), some (.lst ((metOf L (plc names cut) srtN).map tupN)), P6, none] := by
  have hp := plc_len names cut
  have hL := lst_len h
  have h256 : 2 ^ n ≤ 256 := Nat.pow_le_pow_right (by decide) h8
  obtain ⟨q1, q2⟩ := forL_fold (h := gN 6) (body := b0_hitting_sets) (w := [6]) tupN (fun acc : List (List Nat) => [some (.tup (names.map .str)), some B, some (.lst (L.map tupN)), some (tupS cut), some (.lst (ni (plc names cut))), some (.olst (acc.map tupN)), none, none]) (metS (plc names cut))
    (fun xs acc => xs.length * 9 + acc.length ≤ 3000 ∧ ∀ x ∈ xs, SSn n x) L [] ⟨by simp; omega, h.ss⟩ (fun x xs acc hi => by
      obtain ⟨hi, hx⟩ := hi
      simp at hi
      have hxl := ss_len (hx x (by simp))
      refine ⟨_, rfl, ⟨_, .inl (met_body _ _ _ _ (plc names cut) acc x (by omega) (by omega)), rfl⟩, ?_, fun y hy => hx y (by simp [hy])⟩
      have : (metS (plc names cut) acc x).length ≤ acc.length + 9 := by
        unfold metS
        split
        · simp
        · simp; omega
      omega)
  have hfold : L.foldl (metS (plc names cut)) [] = metOf L (plc names cut) srtN := rfl
  rw [hfold] at q1 q2
  have hfam := met_ok (srt := srtN) (P := plc names cut) (c := plc names cut) h (hn ▸ plc_lt) (fun a => Iff.rfl) (fun one a h1 h2 h3 => srtN_ok one a h1 h2 h3)
  have hw := wol_run (metOf L (plc names cut) srtN) (by have := q2.1; simp at this; omega) (fun s hs => by have := ss_len (hfam.ss s hs); omega)
  have hpl := places_run names cut (by omega) B (.lst (L.map tupN)) none none none
  refine ⟨none, ?_⟩
  unfold b1_hitting_sets
  simp only [List.map_nil] at q1
  have hdm : (L.map tupN).all isData = true := data_map tupN (fun _ => rfl) L
  simp [hpl, sFor_ok (ds := L.map tupN), q1, hw, data_map tupN (fun _ => rfl)]
theorem hit_run {n : Nat} (names : List (List Nat)) (cuts : List (List (List Nat))) (hn : names.length = n) (h8 : n ≤ 8) (hc : cuts.length ≤ 100) :
    ∃ L, Lst n (cuts.map (plc names)) L ∧ m_hitting_sets [.tup (names.map .str), .tup (cuts.map tupS)] = .ok (.tup (L.map fun one => tupS (one.map fun k => names.getD k []))) := by
  obtain ⟨q1, L, hL⟩ : ∃ q : True, ∃ L, forL (gN 3) b1_hitting_sets [3, 4, 5, 6] (cuts.map tupS) [some (.tup (names.map .str)), some (.tup (cuts.map tupS)), some (.lst [.tup []]), none, none, none, none, none] = .nx [some (.tup (names.map .str)), some (.tup (cuts.map tupS)), some (.lst (L.map tupN)), none, none, none, none, none] ∧ Lst n (cuts.map (plc names)) L := by
    refine ⟨trivial, ?_⟩
    obtain ⟨q1, q2⟩ := forL_fold (h := gN 3) (body := b1_hitting_sets) (w := [3, 4, 5, 6]) tupS (fun L : List (List Nat) => [some (.tup (names.map .str)), some (.tup (cuts.map tupS)), some (.lst (L.map tupN)), none, none, none, none, none]) (fun L cut => wol (metOf L (plc names cut) srtN))
      (fun xs L => ∃ C, Lst n C L ∧ C ++ xs.map (plc names) = cuts.map (plc names)) cuts [[]] ⟨[], lst_start n, by simp⟩ (fun x xs L hi => by
        obtain ⟨C, hC, e⟩ := hi
        obtain ⟨P6, hb⟩ := hit_body names x (.tup (cuts.map tupS)) hn h8 hC
        refine ⟨_, rfl, ⟨_, .inl hb, rfl⟩, C ++ [plc names x], wol_ok (met_ok hC (hn ▸ plc_lt) (fun a => Iff.rfl) fun one a h1 h2 h3 => srtN_ok one a h1 h2 h3), ?_⟩
        rw [← e]; simp)
    obtain ⟨C, hC, e⟩ := q2
    refine ⟨_, q1, ?_⟩
    rw [← e]; simpa using hC
  refine ⟨L, hL.2, ?_⟩
  have c2 : ∀ one ∈ L, eComp (iSeqO (eVar 6)) (gN 7) cYes (eBin pIx (eVar 0) (eVar 7)) [7] [some (.tup (names.map .str)), some (.tup (cuts.map tupS)), some (.lst (L.map tupN)), none, none, none, some (tupN one), none] = .ok ((one.map fun k => names.getD k []).map .str) := fun one ho => by
    rw [List.map_map]
    refine eComp_M (fun k : Nat => D.int (k : Nat)) _ one (by simp) fun a ha => ⟨_, rfl, ?_, rfl⟩
    simp [pIx_names (hn ▸ (hL.2.ss one ho).2 a ha)]
  have ht : ∀ xs : List D, bTuple [.lst xs] = some (.tup xs) := fun xs => rfl
  have c1 : eComp (iSeqO (eVar 2)) (gN 6) cYes (eCall bTuple (aCons (eOfL (eComp (iSeqO (eVar 6)) (gN 7) cYes (eBin pIx (eVar 0) (eVar 7)) [7])) aNil)) [6] [some (.tup (names.map .str)), some (.tup (cuts.map tupS)), some (.lst (L.map tupN)), none, none, none, none, none] = .ok (L.map fun one => tupS (one.map fun k => names.getD k [])) := by
    refine eComp_M tupN _ L (by simp) fun one ho => ⟨_, rfl, ?_, rfl⟩
    simp [c2 one ho, ht]
  rw [e_hitting_sets]
  unfold g_hitting_sets
  simp [sFor_ok (ds := cuts.map tupS), hL.1, c1, ht]
end Law

set_option Elab.async false
set_option linter.all false
set_option maxRecDepth 100000
namespace Law
open Z PySem L2
abbrev lstN (a : List Nat) : D := .lst (ni a)
abbrev lstS (c : List (List Nat)) : D := .lst (c.map .str)
theorem meets_run (T : List Nat) (C : List (List Nat)) : m__law_meets [lstN T, .lst (C.map lstN)] = .ok (.bl (hitsB C T)) := by
  have c1 : ∀ c : List Nat, eComp (iSeqO (eVar 0)) (gN 3) (eB (eBin pIn (eVar 3) (eVar 2))) (eVar 3) [3] [some (lstN T), some (.lst (C.map lstN)), some (lstN c), none] = .ok (ni (T.filter fun a => decide (a ∈ c))) := fun c => by
    refine eComp_T (fun k : Nat => D.int (k : Nat)) _ _ T (by simp) fun a ha => ⟨_, rfl, ?_, fun _ => ⟨rfl, rfl⟩⟩
    simp [pIn_nats_l]
  have q := forL_find (h := gN 2) (body := b0__law_meets) (w := [2]) (env := [some (lstN T), some (.lst (C.map lstN)), none, none]) lstN (fun c => !(T.any fun a => decide (a ∈ c))) (.bl false) [] C (fun c hc => by
    refine ⟨_, rfl, fun h => ?_, fun h => ⟨[some (lstN T), some (.lst (C.map lstN)), some (lstN c), none], .inl ?_, rfl⟩⟩
    · unfold b0__law_meets
      have hz : (T.filter fun a => decide (a ∈ c)).length = 0 := by
        rw [List.length_eq_zero_iff, List.filter_eq_nil_iff]
        intro a ha
        simp at h
        simp [h a ha]
      simp [c1 c, hz]
    · unfold b0__law_meets
      have hz : (T.filter fun a => decide (a ∈ c)).length ≠ 0 := by
        intro h0
        rw [List.length_eq_zero_iff, List.filter_eq_nil_iff] at h0
        simp at h
        obtain ⟨a, ha, hac⟩ := h
        exact h0 a ha (decide_eq_true hac)
      have hq : ¬ ∀ a, a ∈ T → ¬ a ∈ c := fun hh => hz (by
        rw [List.length_eq_zero_iff, List.filter_eq_nil_iff]
        intro a ha
        simp [hh a ha])
      simp [c1 c, hq])
  rw [e__law_meets]
  unfold g__law_meets
  have eq : (C.any fun c => !(T.any fun a => decide (a ∈ c))) = !hitsB C T := by
    unfold hitsB
    rw [List.all_eq_not_any_not, Bool.not_not]
  rw [eq] at q
  simp [sFor_ok (ds := C.map lstN), q]
  cases hitsB C T <;> simp
def ixN' (names : List (List Nat)) (x : List Nat) : Nat := (names.findIdx? fun z => decide (z = x)).getD 0
theorem ix_ok {names : List (List Nat)} {x : List Nat} (h : x ∈ names) : (names.findIdx? fun z => decide (z = x)) = some (ixN' names x) ∧ ixN' names x < names.length ∧ names.getD (ixN' names x) [] = x := by
  cases e : names.findIdx? fun z => decide (z = x) with
  | none =>
    have := List.findIdx?_eq_none_iff.mp e x h
    simp at this
  | some j =>
    obtain ⟨h1, h2, _⟩ := List.findIdx?_eq_some_iff_getElem.mp e
    have ej : ixN' names x = j := by unfold ixN'; rw [e]; rfl
    rw [ej]
    refine ⟨rfl, h1, ?_⟩
    rw [List.getD_eq_getElem?_getD, List.getElem?_eq_getElem h1]
    exact of_decide_eq_true h2
theorem findIdx_map (names : List (List Nat)) (x : List Nat) : ((names.map D.str).findIdx? fun z => eqv z (.str x)) = names.findIdx? fun z => decide (z = x) := by
  rw [List.findIdx?_map]
  congr 1
  funext z
  exact eqv_str z x
theorem pIndex_ok {names : List (List Nat)} {x : List Nat} (h : x ∈ names) : pIndex (.lst (names.map .str)) (.str x) = some (.int (ixN' names x : Nat)) := by
  show (if okPy 60 (.str x) && okPyL 60 (names.map D.str) then ((names.map D.str).findIdx? fun z => eqv z (.str x)).map (fun j => D.int (j : Nat)) else none) = _
  rw [ok_strs, findIdx_map, (ix_ok h).1]
  rfl
theorem getD_get {xs : List (List Nat)} {k : Nat} (h : k < xs.length) : xs.getD k [] = xs[k] := by
  rw [List.getD_eq_getElem?_getD, List.getElem?_eq_getElem h]; rfl
theorem ix_mem {names c : List (List Nat)} (hn : names.Nodup) (hc : ∀ x ∈ c, x ∈ names) (a : Nat) : a ∈ c.map (ixN' names) ↔ a ∈ plc names c := by
  unfold plc
  rw [List.mem_map, List.mem_filter, List.mem_range]
  constructor
  · rintro ⟨x, hx, rfl⟩
    obtain ⟨_, h1, h2⟩ := ix_ok (hc x hx)
    exact ⟨h1, by rw [h2]; exact decide_eq_true hx⟩
  · rintro ⟨h1, h2⟩
    have h2 := of_decide_eq_true h2
    refine ⟨_, h2, ?_⟩
    obtain ⟨_, k1, k2⟩ := ix_ok (hc _ h2)
    rw [getD_get k1] at k2
    exact (List.getElem_inj hn).mp (k2.trans (getD_get h1))
theorem hitsB_congr {C C' : List (List Nat)} {ι : Type} {cs : List ι} {f g : ι → List Nat} (h : ∀ c ∈ cs, ∀ a, a ∈ f c ↔ a ∈ g c) (T : List Nat) : hitsB (cs.map f) T = hitsB (cs.map g) T := by
  unfold hitsB
  rw [List.all_map, List.all_map]
  induction cs with
  | nil => rfl
  | cons c cs ih =>
    rw [List.all_cons, List.all_cons, ih fun c' hc' => h c' (List.mem_cons_of_mem _ hc')]
    congr 1
    simp only [Function.comp_apply]
    congr 1
    funext a
    exact decide_eq_decide.mpr (h c List.mem_cons_self a)
theorem dueB_congr {ι : Type} {cs : List ι} {f g : ι → List Nat} (h : ∀ c ∈ cs, ∀ a, a ∈ f c ↔ a ∈ g c) (T : List Nat) : dueB (cs.map f) T = dueB (cs.map g) T := by
  unfold dueB
  simp only [hitsB_congr (C := []) (C' := []) h]
def rowS (n : Nat) (C : List (List Nat)) (rows : List (List Nat)) (m : Nat) : List (List Nat) := if dueB C (bits n m) then rows ++ [bits n m] else rows
theorem rowS_fold (n : Nat) (C : List (List Nat)) : ∀ (ms : List Nat) (rows : List (List Nat)), ms.foldl (rowS n C) rows = rows ++ (ms.map (bits n)).filter (dueB C)
  | [], rows => by simp
  | m :: ms, rows => by
    rw [List.foldl_cons, rowS_fold n C ms, List.map_cons]
    unfold rowS
    cases h : dueB C (bits n m) with
    | true => rw [if_pos rfl, List.filter_cons_of_pos h]; simp
    | false => rw [if_neg (by simp), List.filter_cons_of_neg (by simp [h])]
theorem due_body (names : List (List Nat)) (B : D) (C : List (List Nat)) (rows : List (List Nat)) (m : Nat) (hn : names.length ≤ 8) (hr : rows.length < 1000) :
    ∃ s5 s6, b0__law_due [some (lstS names), some B, some (.lst (C.map lstN)), some (.olst (rows.map prL)), some (.int (m : Nat)), none, none, none, none, none, none, none] = .nx [some (lstS names), some B, some (.lst (C.map lstN)), some (.olst ((rowS names.length C rows m).map prL)), some (.int (m : Nat)), s5, s6, none, none, none, none, none] := by
  have hn' : names.length ≤ 16000000 := by omega
  have c1 : eComp (eRg1 (aCons (eCall bLen (aCons (eVar 0) aNil)) aNil)) (gN 9) (eB (eBin pEq (eBin pAnd (eBin pShr (eVar 4) (eVar 9)) (eC (.int 1))) (eC (.int 1)))) (eVar 9) [9] [some (lstS names), some B, some (.lst (C.map lstN)), some (.olst (rows.map prL)), some (.int (m : Nat)), none, none, none, none, none, none, none] = .ok (ni (bits names.length m)) := by
    refine eComp_T (fun k : Nat => D.int (k : Nat)) _ _ (List.range names.length) (by simp [iRng1_nat hn', rngL_map]) fun a ha => ⟨_, rfl, ?_, fun _ => ⟨rfl, rfl⟩⟩
    have hb : m.testBit a = decide (m / 2 ^ a % 2 = 1) := Nat.testBit_eq_decide_div_mod_eq
    have e2 : (((m / 2 ^ a % 2 : Nat) : Int) = 1) ↔ (m / 2 ^ a % 2 = 1) := by omega
    have e3 : decide (((m / 2 ^ a % 2 : Nat) : Int) = 1) = decide (m / 2 ^ a % 2 = 1) := decide_eq_decide.mpr e2
    have p1 : pShr (.int (m : Int)) (.int (a : Int)) = some (.int ((m / 2 ^ a : Nat) : Int)) := pShr_nat
    have p2 : pAnd (.int ((m / 2 ^ a : Nat) : Int)) (.int 1) = some (.int ((m / 2 ^ a % 2 : Nat) : Int)) := pAnd_nat
    simp only [eB_e, eBin_e, gN_e, wipeR_cons, wipeR_nil, List.set_cons_succ, List.set_cons_zero, eVar_s, eVar_z, peel_data isData_int, eC_e, Rs.bind_ok, p1, p2, ofO_some, pEq_int, asB_bl, hb, e3]
  have c3 : ∀ a : Nat, eComp (iSeqO (eVar 5)) (gN 11) (eB (eBin pNe (eVar 11) (eVar 9))) (eVar 11) [11] [some (lstS names), some B, some (.lst (C.map lstN)), some (.olst (rows.map prL)), some (.int (m : Nat)), some (lstN (bits names.length m)), none, none, none, some (.int (a : Nat)), none, none] = .ok (ni ((bits names.length m).filter fun b => !decide (b = a))) := fun a => by
    refine eComp_T (fun k : Nat => D.int (k : Nat)) _ _ (bits names.length m) (by simp) fun b hb => ⟨_, rfl, ?_, fun _ => ⟨rfl, rfl⟩⟩
    have : decide ((b : Int) = (a : Int)) = decide (b = a) := decide_eq_decide.mpr (by omega)
    simp [this]
  have c2 : eComp (iSeqO (eVar 5)) (gN 9) (eTru (eApp 2 m__law_meets (aCons (eOfL (eComp (iSeqO (eVar 5)) (gN 11) (eB (eBin pNe (eVar 11) (eVar 9))) (eVar 11) [11])) (aCons (eVar 2) aNil)))) (eVar 9) [9] [some (lstS names), some B, some (.lst (C.map lstN)), some (.olst (rows.map prL)), some (.int (m : Nat)), some (lstN (bits names.length m)), none, none, none, none, none, none] = .ok (ni ((bits names.length m).filter fun a => hitsB C ((bits names.length m).filter fun b => !decide (b = a)))) := by
    refine eComp_T (fun k : Nat => D.int (k : Nat)) _ _ (bits names.length m) (by simp) fun a ha => ⟨_, rfl, ?_, fun _ => ⟨rfl, rfl⟩⟩
    simp [c3 a, meets_run]
  have hz : ((bits names.length m).filter fun a => hitsB C ((bits names.length m).filter fun b => !decide (b = a))).length = 0 ↔ ((bits names.length m).all fun a => !hitsB C ((bits names.length m).filter fun b => !decide (b = a))) = true := by
    rw [List.length_eq_zero_iff, List.filter_eq_nil_iff, List.all_eq_true]
    simp
  unfold b0__law_due rowS dueB
  cases h1 : hitsB C (bits names.length m) with
  | false => exact ⟨some (lstN (bits names.length m)), none, by simp [c1, meets_run, h1]⟩
  | true =>
    by_cases h2 : ((bits names.length m).all fun a => !hitsB C ((bits names.length m).filter fun b => !decide (b = a))) = true
    · have h3 := hz.mpr h2
      have hrl : rows.length < 16777216 := by omega
      refine ⟨some (lstN (bits names.length m)), some (lstN ((bits names.length m).filter fun a => hitsB C ((bits names.length m).filter fun b => !decide (b = a)))), ?_⟩
      rw [h2]
      simp [c1, meets_run, h1, c2, h3, hrl, prL]
    · have h3 : ¬ ((((bits names.length m).filter fun a => hitsB C ((bits names.length m).filter fun b => !decide (b = a))).length : Int) = 0) := fun e => h2 (hz.mp (by omega))
      have h2' := Bool.eq_false_iff.mpr h2
      have hq : ¬ ∀ a, a ∈ bits names.length m → hitsB C ((bits names.length m).filter fun b => !decide (b = a)) = false := fun hh => h2 (List.all_eq_true.mpr fun a ha => by rw [hh a ha]; rfl)
      refine ⟨some (lstN (bits names.length m)), some (lstN ((bits names.length m).filter fun a => hitsB C ((bits names.length m).filter fun b => !decide (b = a)))), ?_⟩
      rw [h2']
      simp [c1, meets_run, h1, c2, hq]
theorem due_run (names : List (List Nat)) (cuts : List (List (List Nat))) (hn : names.length ≤ 8) (hnd : names.Nodup) (hc : ∀ c ∈ cuts, ∀ x ∈ c, x ∈ names) :
    m__law_due [lstS names, .lst (cuts.map lstS)] = .ok (.tup (((duL names.length (cuts.map (plc names))).mergeSort leS).map fun one => tupS (one.map fun k => names.getD k []))) := by
  have hdu : duL names.length (cuts.map fun c => c.map (ixN' names)) = duL names.length (cuts.map (plc names)) := by
    unfold duL
    refine List.filter_congr fun T _ => dueB_congr (fun c hc' a => ix_mem hnd (hc c hc') a) T
  have c0 : ∀ c ∈ cuts, eComp (iSeqO (eVar 7)) (gN 8) cYes (eIndex (eVar 0) (eVar 8)) [8] [some (lstS names), some (.lst (cuts.map lstS)), none, none, none, none, none, some (lstS c), none, none, none, none] = .ok (ni (c.map (ixN' names))) := fun c hcc => by
    have := eComp_M (h := gN 8) (f := eIndex (eVar 0) (eVar 8)) (env := [some (lstS names), some (.lst (cuts.map lstS)), none, none, none, none, none, some (lstS c), none, none, none, none]) (own := [8]) (fi := iSeqO (eVar 7)) D.str (fun x => .int (ixN' names x : Nat)) c (by simp) fun x hx => ⟨_, rfl, by simp [pIndex_ok (hc c hcc x hx)], rfl⟩
    rw [this, ni, List.map_map]
    rfl
  have c1 : eComp (iSeqO (eVar 1)) (gN 7) cYes (eOfL (eComp (iSeqO (eVar 7)) (gN 8) cYes (eIndex (eVar 0) (eVar 8)) [8])) [7] [some (lstS names), some (.lst (cuts.map lstS)), none, none, none, none, none, none, none, none, none, none] = .ok ((cuts.map fun c => c.map (ixN' names)).map lstN) := by
    rw [List.map_map]
    refine eComp_M lstS _ cuts (by simp) fun c hcc => ⟨_, rfl, ?_, rfl⟩
    simp [c0 c hcc]
  obtain ⟨q1, _⟩ := forL_fold (h := gN 4) (body := b0__law_due) (w := [4, 5, 6]) (fun m : Nat => D.int (m : Nat)) (fun rows : List (List Nat) => [some (lstS names), some (.lst (cuts.map lstS)), some (.lst ((cuts.map fun c => c.map (ixN' names)).map lstN)), some (.olst (rows.map prL)), none, none, none, none, none, none, none, none])
    (rowS names.length (cuts.map fun c => c.map (ixN' names))) (fun xs rows => xs.length + rows.length ≤ 256) (List.range (2 ^ names.length)) []
    (by have := Nat.pow_le_pow_right (n := 2) (by decide) hn; simp; omega) (fun x xs rows hi => by
      simp at hi
      obtain ⟨s5, s6, hb⟩ := due_body names (.lst (cuts.map lstS)) (cuts.map fun c => c.map (ixN' names)) rows x hn (by omega)
      refine ⟨_, rfl, ⟨_, .inl hb, rfl⟩, ?_⟩
      have : (rowS names.length (cuts.map fun c => c.map (ixN' names)) rows x).length ≤ rows.length + 1 := by unfold rowS; split <;> simp
      omega)
  rw [rowS_fold, List.nil_append] at q1
  have hfold : ((List.range (2 ^ names.length)).map (bits names.length)).filter (dueB (cuts.map fun c => c.map (ixN' names))) = duL names.length (cuts.map (plc names)) := hdu
  rw [hfold] at q1
  generalize hL : duL names.length (cuts.map (plc names)) = L at q1
  have hss : ∀ one ∈ L.mergeSort leS, ∀ a ∈ one, a < names.length := fun one ho a ha => by
    have : one ∈ L := List.mem_mergeSort.mp ho
    rw [← hL] at this
    obtain ⟨m, _, rfl⟩ := List.mem_map.mp (List.mem_filter.mp this).1
    exact (bits_ss _ _).2 a ha
  have hsort : pSorted (.olst (L.map prL)) = some ((L.mergeSort leS).map prL) := sort_pr prL (.inr rfl) L (by show (if _ then _ else _) = _; rw [if_pos (data_map prL (fun _ => rfl) L)])
  have ht : ∀ xs : List D, bTuple [.lst xs] = some (.tup xs) := fun xs => rfl
  have c4 : ∀ (P1 P2 : D), ∀ one ∈ L.mergeSort leS, eComp (iSeqO (eBin pIx (eVar 10) (eC (.int 1)))) (gN 9) cYes (eBin pIx (eVar 0) (eVar 9)) [9] [some (lstS names), some P1, some P2, some (.olst (L.map prL)), none, none, none, none, none, none, some (prL one), none] = .ok ((one.map fun k => names.getD k []).map .str) := fun P1 P2 one ho => by
    rw [List.map_map]
    refine eComp_M (fun k : Nat => D.int (k : Nat)) _ one (by simp [prL]) fun a ha => ⟨_, rfl, ?_, rfl⟩
    simp [pIx_namesL (hss one ho a ha)]
  have c5 : ∀ (P1 P2 : D), eComp (iSeqO (eOfL (eSort (eVar 3)))) (gN 10) cYes (eCall bTuple (aCons (eOfL (eComp (iSeqO (eBin pIx (eVar 10) (eC (.int 1)))) (gN 9) cYes (eBin pIx (eVar 0) (eVar 9)) [9])) aNil)) [10] [some (lstS names), some P1, some P2, some (.olst (L.map prL)), none, none, none, none, none, none, none, none] = .ok ((L.mergeSort leS).map fun one => tupS (one.map fun k => names.getD k [])) := fun P1 P2 => by
    refine eComp_M prL _ (L.mergeSort leS) (by simp [hsort]) fun one ho => ⟨_, rfl, ?_, rfl⟩
    simp [c4 P1 P2 one ho, ht]
  have hshl : pShl (.int 1) (.int (names.length : Int)) = some (.int ((2 ^ names.length : Nat) : Int)) := pShl_nat (by omega)
  have hrg : iRng1 [.int ((2 ^ names.length : Nat) : Int)] = .ok (rngL 0 (2 ^ names.length)) := iRng1_nat (by
    have := Nat.pow_le_pow_right (n := 2) (by decide) hn
    omega)
  have hf : sFor (eRg1 (aCons (eBin pShl (eC (.int 1)) (eCall bLen (aCons (eVar 0) aNil))) aNil)) (gN 4) b0__law_due [4, 5, 6] [some (lstS names), some (.lst (cuts.map lstS)), some (.lst ((cuts.map fun c => c.map (ixN' names)).map lstN)), some (.olst []), none, none, none, none, none, none, none, none] = .nx [some (lstS names), some (.lst (cuts.map lstS)), some (.lst ((cuts.map fun c => c.map (ixN' names)).map lstN)), some (.olst (L.map prL)), none, none, none, none, none, none, none, none] := by
    rw [sFor_ok (ds := rngL 0 (2 ^ names.length)) (by simp only [eRg1_e, aCons_e, eBin_e, eC_e, Rs.bind_ok, eCall_e, eVar_z, peel_data isData_lst, aNil_e, bLen_lst, List.length_map, ofO_some, hshl, hrg]), rngL_map]
    exact q1
  rw [e__law_due]
  unfold g__law_due
  rw [sSeq_e]
  have s1 : sSet 2 (eOfL (eComp (iSeqO (eVar 1)) (gN 7) cYes (eOfL (eComp (iSeqO (eVar 7)) (gN 8) cYes (eIndex (eVar 0) (eVar 8)) [8])) [7])) [some (lstS names), some (.lst (cuts.map lstS)), none, none, none, none, none, none, none, none, none, none] = .nx [some (lstS names), some (.lst (cuts.map lstS)), some (.lst ((cuts.map fun c => c.map (ixN' names)).map lstN)), none, none, none, none, none, none, none, none, none] := by
    rw [sSet_e, eOfL_e, c1]; rfl
  rw [s1, seqR_nx, sSeq_e]
  have s2 : sSetL 3 (eLst aNil) [some (lstS names), some (.lst (cuts.map lstS)), some (.lst ((cuts.map fun c => c.map (ixN' names)).map lstN)), none, none, none, none, none, none, none, none, none] = .nx [some (lstS names), some (.lst (cuts.map lstS)), some (.lst ((cuts.map fun c => c.map (ixN' names)).map lstN)), some (.olst []), none, none, none, none, none, none, none, none] := by
    simp
  rw [s2, seqR_nx, sSeq_e, hf, seqR_nx, sRet_e, eCall_e, aCons_e, eOfL_e, c5]
  simp [ht]
end Law

set_option Elab.async false
set_option linter.all false
set_option maxRecDepth 100000
namespace Law
open Z PySem L2
def cellS (ns : List Int) (k : Nat) : Int := ns.getD k (5 * k + 2)
theorem cell_ok (ns : List Int) (k : Nat) (hk : k < 1000000) : m__law_cell [.scr ns, .int k] = .ok (.int (cellS ns k)) := by
  show noX (outB (g__law_cell [some (.scr ns), some (.int k)])) = _
  unfold g__law_cell cellS
  have hm : (smallI 5 || smallI (k : Int)) = true := rfl
  by_cases h : k < ns.length
  · simp [h, pIx_scr]
  · simp [h, hm]
theorem smallC (i : Int) (j : Int) (h : smallI j = true) : (smallI i || smallI j) = true := by rw [h]; exact Bool.or_true _
def absI (c : Int) : Int := if c < 0 then -c else c
def numE (c many : Int) (n : Nat) (r mx : Int) (xs : List Int) : En :=
  [some (.int c), some (.int many), some (.int n), some (.int r), some (.bl (decide ((1000000000000000000:Int) ≤ absI c))), some (.int mx), some (.olst (xs.map .int)), none]
def numP (c many : Int) (n : Nat) (i : Nat) (e : En) : Prop := ∃ r mx xs, e = numE c many n r mx xs ∧ xs.length = i ∧ ∀ x ∈ xs, 0 ≤ x ∧ x < many
theorem num_step {c many : Int} {n i : Nat} (h1 : 0 < many) (h2 : many < 1073741824) (r mx : Int) (xs : List Int) (hz : xs.length < 16777216) (hl : xs.length = i) (hx : ∀ x ∈ xs, 0 ≤ x ∧ x < many) :
    LpP [7] (b0__law_numbers [some (.int c), some (.int many), some (.int n), some (.int r), some (.bl (decide ((1000000000000000000:Int) ≤ absI c))), some (.int mx), some (.olst (xs.map .int)), some (.int (0 + (i : Int)))])
      (numP c many n (i + 1)) fun _ => False := by
  have s1 : smallI 48271 = true := by decide
  have s2 : smallI 11 = true := by decide
  have key : ∀ r' mx' y, numP c many n (i + 1) (numE c many n r' mx' (xs ++ [y % many])) := fun r' mx' y => ⟨r', mx', _, rfl, by simp [hl], by
    intro x hm
    rcases List.mem_append.mp hm with hm | hm
    · exact hx x hm
    · rw [List.mem_singleton.mp hm]
      exact ⟨Int.emod_nonneg _ (by omega), Int.emod_lt_of_pos _ h1⟩⟩
  unfold numE at key
  simp only [List.map_append, List.map_cons, List.map_nil] at key
  unfold b0__law_numbers
  generalize decide ((1000000000000000000:Int) ≤ absI c) = b at key ⊢
  cases b with
  | true => simp [h1, h2, hz, key]
  | false => simp [h1, h2, hz, s1, s2, key]
theorem numbers_ok (c many : Int) (n : Nat) (h1 : 0 < many) (h2 : many < 1073741824) (hn : n ≤ 16000000) : ∃ xs : List Int, m__law_numbers [.int c, .int many, .int n] = .ok (.lst (xs.map .int)) ∧ xs.length = n ∧ ∀ x ∈ xs, 0 ≤ x ∧ x < many := by
  obtain ⟨e, he, r, mx, xs, rfl, hl, hx⟩ := forL_inv (h := gN 7) (body := b0__law_numbers) (w := [7]) (ds := rngL 0 n) (env := numE c many n (absI c) (absI c % 2147483647 + 1) []) (numP c many n)
    ⟨_, _, [], rfl, rfl, fun x h => nomatch h⟩ (by
      rintro i d e hd ⟨r, mx, xs, rfl, hl, hx⟩
      obtain ⟨hi, rfl⟩ := rng_at hd
      exact num_step h1 h2 r mx xs (by omega) hl hx)
  rw [rngL_len] at hl
  refine ⟨xs, ?_, hl, hx⟩
  show noX (outB (g__law_numbers [some (.int c), some (.int many), some (.int n), none, none, none, none, none])) = _
  unfold g__law_numbers
  unfold absI numE at he
  unfold absI at he
  simp only [List.map_nil] at he
  simp [sFor_ok (ds := rngL 0 n), hn, he]

theorem modN (c : Int) (n : Nat) (h : 0 < n) : ∃ k : Nat, c % (n : Int) = k ∧ k < n := ⟨(c % n).toNat, by
  have := Int.emod_nonneg c (show (n : Int) ≠ 0 by omega)
  omega, by
  have := Int.emod_nonneg c (show (n : Int) ≠ 0 by omega)
  have := Int.emod_lt_of_pos c (show (0 : Int) < n by omega)
  omega⟩
theorem cell_ok' (ns : List Int) (i : Int) (k : Nat) (hi : i = k) (hk : k < 1000000) : m__law_cell [.scr ns, .int i] = .ok (.int (cellS ns k)) := by rw [hi]; exact cell_ok ns k hk
theorem nums_nat (c : Int) (b n : Nat) (h1 : 0 < b) (h2 : b < 1073741824) (hn : n ≤ 16000000) : ∃ xs : List Nat, m__law_numbers [.int c, .int b, .int n] = .ok (.lst (xs.map fun (x : Nat) => D.int x)) ∧ xs.length = n ∧ ∀ x ∈ xs, x < b := by
  obtain ⟨xs, e, hl, hx⟩ := numbers_ok c b n (by omega) (by omega) hn
  refine ⟨xs.map Int.toNat, ?_, by simpa using hl, fun x h => ?_⟩
  · rw [e, List.map_map]
    congr 2
    apply List.map_congr_left
    intro x hm
    have := hx x hm
    simp [Int.toNat_of_nonneg this.1]
  · obtain ⟨y, hy, rfl⟩ := List.mem_map.mp h
    have := hx y hy
    omega
end Law

set_option Elab.async false
set_option linter.all false
set_option maxRecDepth 100000
namespace Law
open Z PySem L2
theorem cutL_map {α β : Type} (f : α → β) (xs : List α) (lo hi : Option Int) : cutL (xs.map f) lo hi = (cutL xs lo hi).map f := by
  unfold cutL
  rw [List.length_map, List.map_take, List.map_drop]
theorem pSl_map {α : Type} (g : α → D) (xs : List α) (lo hi : Option Int) : pSl (.lst (xs.map g)) lo hi = some (.lst ((cutL xs lo hi).map g)) := by
  show some (D.lst (cutL (xs.map g) lo hi)) = _
  rw [cutL_map]
def abc : List Nat := [97, 98, 99, 100, 101, 102, 103, 104, 105, 106, 107, 108, 109, 110, 111, 112, 113, 114, 115, 116, 117, 118, 119, 120, 121, 122]
theorem name_body (ns : List Int) (few : Nat) (h1 : 1 ≤ few) (h2 : few ≤ 26) (A : D) (names : List (List Nat)) (i : Nat) (hi : i < 1000) (hl : names.length ≤ 1000) :
    ∃ x s6 s7, x.length ≤ 9 ∧ b0__law_names [some (.scr ns), some (.str abc), some (.int (few : Nat)), some A, some (.olst (names.map .str)), some (.int (i : Nat)), none, none, none] =
      .nx [some (.scr ns), some (.str abc), some (.int (few : Nat)), some A, some (.olst ((if x ∈ names then names else names ++ [x]).map .str)), some (.int (i : Nat)), s6, s7, none] := by
  have hcell : m__law_cell [.scr ns, .int (2 + (i : Int))] = .ok (.int (cellS ns (2 + i))) := cell_ok' ns _ (2 + i) (by omega) (by omega)
  obtain ⟨xs, e, hxl, hx⟩ := nums_nat (cellS ns (2 + i)) 208 9 (by decide) (by decide) (by decide)
  simp at e
  match xs, hxl with
  | x0 :: xr, hxl =>
    let ys := cutL (x0 :: xr) (some 1) (some (2 + (x0 : Int) / 26))
    have hyl : ys.length ≤ 9 := by rw [← hxl]; exact (cutL_sub _ _ _).1
    have hs : eSl (eVar 6) (oSome (eC (.int 1))) (oSome (eBin pAdd (eC (.int 2)) (eBin pDiv (eBin pIx (eVar 6) (eC (.int 0))) (eC (.int 26))))) [some (.scr ns), some (.str abc), some (.int (few : Nat)), some A, some (.olst (names.map .str)), some (.int (i : Nat)), some (.lst ((x0 :: xr).map fun (x : Nat) => D.int x)), none, none] = .ok (.lst (ys.map fun (x : Nat) => D.int x)) := by
      have hsl := pSl_map (fun (x : Nat) => D.int x) (x0 :: xr) (some 1) (some (2 + (x0 : Int) / 26))
      simp at hsl
      simp [hsl, ys]
    have hc : eComp (iSeqO (eSl (eVar 6) (oSome (eC (.int 1))) (oSome (eBin pAdd (eC (.int 2)) (eBin pDiv (eBin pIx (eVar 6) (eC (.int 0))) (eC (.int 26))))))) (gN 8) cYes (eBin pIx (eVar 1) (eBin pMod (eVar 8) (eVar 2))) [8] [some (.scr ns), some (.str abc), some (.int (few : Nat)), some A, some (.olst (names.map .str)), some (.int (i : Nat)), some (.lst ((x0 :: xr).map fun (x : Nat) => D.int x)), none, none] = .ok (ys.map fun y => .str [abc.getD (y % few) 0]) := by
      refine eComp_M (fun (x : Nat) => D.int x) _ ys ?_ fun y hy => ⟨_, rfl, ?_, rfl⟩
      · rw [iSeqO_e, hs]; rfl
      · have hm : pMod (.int (y : Int)) (.int (few : Int)) = some (.int ((y % few : Nat) : Int)) := by rw [pMod_int (by omega)]; rfl
        have hlt : y % few < abc.length := by
          have := Nat.mod_lt y (show 0 < few by omega)
          have h26 : abc.length = 26 := rfl
          omega
        have hp : pIx (.str abc) (.int ((y % few : Nat) : Int)) = some (.str [abc.getD (y % few) 0]) := by
          rw [pIx_str, List.getElem?_eq_getElem hlt, List.getD_eq_getElem?_getD, List.getElem?_eq_getElem hlt]; rfl
        simp only [eBin_e, gN_e, wipeR_cons, wipeR_nil, List.set_cons_succ, List.set_cons_zero, eVar_s, eVar_z, peel_data isData_int, peel_data isData_str, Rs.bind_ok, hm, ofO_some, hp]
    have hj := pJoin_single (fun y => abc.getD (y % few) 0) ys (by omega)
    refine ⟨ys.map fun y => abc.getD (y % few) 0, some (.lst ((x0 :: xr).map fun (x : Nat) => D.int x)), some (.str (ys.map fun y => abc.getD (y % few) 0)), by rw [List.length_map]; exact hyl, ?_⟩
    have hin : pNotIn (.str (ys.map fun y => abc.getD (y % few) 0)) (.olst (names.map .str)) = some (.bl (!decide ((ys.map fun y => abc.getD (y % few) 0) ∈ names))) := by
      unfold pNotIn
      rw [pIn_strs_o]; rfl
    generalize (ys.map fun y => abc.getD (y % few) 0) = nm at hj hin
    have s1 : sSet 6 (eApp 3 m__law_numbers (aCons (eApp 2 m__law_cell (aCons (eVar 0) (aCons (eBin pAdd (eC (.int 2)) (eVar 5)) aNil))) (aCons (eC (.int 208)) (aCons (eC (.int 9)) aNil)))) [some (.scr ns), some (.str abc), some (.int (few : Nat)), some A, some (.olst (names.map .str)), some (.int (i : Nat)), none, none, none] = .nx [some (.scr ns), some (.str abc), some (.int (few : Nat)), some A, some (.olst (names.map .str)), some (.int (i : Nat)), some (.lst ((x0 :: xr).map fun (x : Nat) => D.int x)), none, none] := by
      simp [hcell, e]
    have s2 : sSet 7 (eBin pJoin (eC (.str [])) (eOfL (eComp (iSeqO (eSl (eVar 6) (oSome (eC (.int 1))) (oSome (eBin pAdd (eC (.int 2)) (eBin pDiv (eBin pIx (eVar 6) (eC (.int 0))) (eC (.int 26))))))) (gN 8) cYes (eBin pIx (eVar 1) (eBin pMod (eVar 8) (eVar 2))) [8]))) [some (.scr ns), some (.str abc), some (.int (few : Nat)), some A, some (.olst (names.map .str)), some (.int (i : Nat)), some (.lst ((x0 :: xr).map fun (x : Nat) => D.int x)), none, none] = .nx [some (.scr ns), some (.str abc), some (.int (few : Nat)), some A, some (.olst (names.map .str)), some (.int (i : Nat)), some (.lst ((x0 :: xr).map fun (x : Nat) => D.int x)), some (.str nm), none] := by
      rw [sSet_e, eBin_e, eOfL_e, hc]
      simp only [eC_e, Rs.bind_ok, hj, ofO_some, isData_str, if_true, List.set_cons_succ, List.set_cons_zero]
    unfold b0__law_names
    rw [sSeq_e, s1, seqR_nx, sSeq_e, s2, seqR_nx]
    have hnl : names.length < 16777216 := by omega
    by_cases hm : nm ∈ names
    · simp [hin, hm]
    · simp [hin, hm, hnl]
def NamesOk (names : List (List Nat)) (n : Nat) : Prop := names.Nodup ∧ names.length ≤ n ∧ ∀ x ∈ names, x.length ≤ 9
theorem names_loop (ns : List Int) (few count : Nat) (h1 : 1 ≤ few) (h2 : few ≤ 26) (hc : count ≤ 8) :
    ∃ names, NamesOk names 8 ∧ t2__law_names [some (.scr ns), some (.str abc), some (.int (few : Nat)), some (.int (count : Nat)), some (.olst []), none, none, none, none] = .rt (.lst (names.map .str)) [] := by
  obtain ⟨e, he, names, rfl, hok⟩ := forL_inv (h := gN 5) (body := b0__law_names) (w := [5, 6, 7]) (ds := rngL 0 count) (env := [some (.scr ns), some (.str abc), some (.int (few : Nat)), some (.int (count : Nat)), some (.olst []), none, none, none, none])
    (fun i e => ∃ names, e = [some (.scr ns), some (.str abc), some (.int (few : Nat)), some (.int (count : Nat)), some (.olst (names.map .str)), none, none, none, none] ∧ NamesOk names i) ⟨[], rfl, List.nodup_nil, Nat.le_refl _, fun x hx => nomatch hx⟩ (by
      rintro i d e hd ⟨names, rfl, hn1, hn2, hn3⟩
      obtain ⟨hi, rfl⟩ := rng_at hd
      obtain ⟨x, s6, s7, hx, hb⟩ := name_body ns few h1 h2 (.int (count : Nat)) names i (by omega) (by omega)
      rw [gN_e, SoP_some, Int.zero_add]
      simp only [List.set_cons_succ, List.set_cons_zero]
      rw [hb, LpP_nx]
      refine ⟨_, rfl, ?_⟩
      by_cases hm : x ∈ names
      · rw [if_pos hm]; exact ⟨hn1, by omega, hn3⟩
      · rw [if_neg hm]
        refine ⟨?_, by simp; omega, fun y hy => ?_⟩
        · rw [List.nodup_append]
          exact ⟨hn1, by simp, fun a ha b hb' e => hm (by rw [← List.mem_singleton.mp hb', ← e]; exact ha)⟩
        · rcases List.mem_append.mp hy with k | k
          · exact hn3 y k
          · rw [List.mem_singleton.mp k]; exact hx)
  rw [rngL_len] at hok
  refine ⟨names, ⟨hok.1, by have := hok.2.1; omega, hok.2.2⟩, ?_⟩
  unfold t2__law_names t1__law_names
  have hc' : count ≤ 16000000 := by omega
  simp [sFor_ok (ds := rngL 0 count), iRng1_nat hc', he]
theorem names_run (ns : List Int) : ∃ names, NamesOk names 8 ∧ m__law_names [.scr ns] = .ok (.lst (names.map .str)) := by
  obtain ⟨f, hf, hfl⟩ := modN (cellS ns 1) 26 (by decide)
  obtain ⟨c, hc, hcl⟩ := modN (cellS ns 0) 7 (by decide)
  obtain ⟨c2, hc2, hc2l⟩ := modN (cellS ns 0 / 56) 2 (by decide)
  have h0 : m__law_cell [.scr ns, .int 0] = .ok (.int (cellS ns 0)) := cell_ok' ns 0 0 rfl (by decide)
  have h1 : m__law_cell [.scr ns, .int 1] = .ok (.int (cellS ns 1)) := cell_ok' ns 1 1 rfl (by decide)
  simp at hf hc hc2
  obtain ⟨f', hf'⟩ : ∃ f', f' = 1 + f := ⟨_, rfl⟩
  obtain ⟨c', hc'⟩ : ∃ c', c' = 7 + c2 := ⟨_, rfl⟩
  have e1 : (1 : Int) + (f : Int) = (f' : Int) := by omega
  have e2 : (7 : Int) + (c2 : Int) = (c' : Int) := by omega
  have step : ∃ count : Nat, count ≤ 8 ∧ t4__law_names [some (.scr ns), some (.str abc), some (.int (f' : Int)), some (.int (c : Nat)), none, none, none, none, none] = t2__law_names [some (.scr ns), some (.str abc), some (.int (f' : Int)), some (.int (count : Nat)), some (.olst []), none, none, none, none] := by
    unfold t4__law_names t3__law_names
    by_cases h : cellS ns 0 / 7 % 8 = 3
    · exact ⟨c', by omega, by simp [h0, h, hc2, e2]⟩
    · exact ⟨c, by omega, by simp [h0, h]⟩
  obtain ⟨count, hcount, h4⟩ := step
  obtain ⟨names, hok, hr⟩ := names_loop ns f' count (by omega) (by omega) hcount
  refine ⟨names, hok, ?_⟩
  rw [e__law_names]
  unfold g__law_names t6__law_names t5__law_names
  have s0 : (eC (.str [97, 98, 99, 100, 101, 102, 103, 104, 105, 106, 107, 108, 109, 110, 111, 112, 113, 114, 115, 116, 117, 118, 119, 120, 121, 122])) = eC (.str abc) := rfl
  rw [s0]
  simp [h0, h1, hf, hc, e1]
  rw [h4, hr]
  rfl
end Law

set_option Elab.async false
set_option linter.all false
set_option maxRecDepth 100000
namespace Law
open Z PySem L2
abbrev nums (xs : List Nat) : D := .lst (xs.map fun (x : Nat) => D.int x)
theorem pIx_nums {xs : List Nat} {k : Nat} (h : k < xs.length) : pIx (nums xs) (.int (k : Int)) = some (.int ((xs.getD k 0 : Nat) : Int)) := by
  rw [pIx_lst, List.getElem?_map, List.getElem?_eq_getElem h, List.getD_eq_getElem?_getD, List.getElem?_eq_getElem h]
  rfl
def CutOk (names c : List (List Nat)) : Prop := (∀ x ∈ c, x ∈ names) ∧ c.length ≤ 16
def CutR (names : List (List Nat)) (E : D) (r : Fl) : Prop := ∃ c env, CutOk names c ∧ env[2]? = some (some (.bor 2 E)) ∧ r = .rt (lstS c) env
theorem cut_t1 (names c : List (List Nat)) (A E T U : D) (xs : List Nat) (hx : xs.length = names.length + 3) (hc : CutOk names c) : CutR names E (t1__law_cut [some A, some (lstS names), some (.bor 2 E), some (nums xs), some T, some (lstS c), some U, none]) := by
  have e1 : (names.length : Int) + 2 = ((names.length + 2 : Nat) : Int) := by omega
  obtain ⟨k, hk⟩ : ∃ k : Nat, k = names.length + 2 := ⟨_, rfl⟩
  rw [← hk] at e1
  have hp : pIx (nums xs) (.int (k : Int)) = some (.int ((xs.getD k 0 : Nat) : Int)) := pIx_nums (by omega)
  generalize ((xs.getD k 0 : Nat) : Int) = z at hp
  unfold t1__law_cut t0__law_cut
  simp only [nums] at hp ⊢
  by_cases h : z % 2 = 0
  · refine ⟨c.reverse, [some A, some (lstS names), some (.bor 2 E), some (nums xs), some T, some (lstS c.reverse), some U, none], ⟨fun x hx => hc.1 x (List.mem_reverse.mp hx), by rw [List.length_reverse]; exact hc.2⟩, rfl, ?_⟩
    simp [e1, hp, h]
  · refine ⟨c, [some A, some (lstS names), some (.bor 2 E), some (nums xs), some T, some (lstS c), some U, none], hc, rfl, ?_⟩
    simp [e1, hp, h]
theorem cut_t3 (names c : List (List Nat)) (A E T : D) (xs : List Nat) (hx : xs.length = names.length + 3) (hc : CutOk names c) : CutR names E (t3__law_cut [some A, some (lstS names), some (.bor 2 E), some (nums xs), some T, some (lstS c), none, none]) := by
  have e1 : (names.length : Int) + 2 = ((names.length + 2 : Nat) : Int) := by omega
  obtain ⟨k, hk⟩ : ∃ k : Nat, k = names.length + 2 := ⟨_, rfl⟩
  rw [← hk] at e1
  have hp : pIx (nums xs) (.int (k : Int)) = some (.int ((xs.getD k 0 : Nat) : Int)) := pIx_nums (by omega)
  generalize ((xs.getD k 0 : Nat) : Int) = z at hp
  obtain ⟨u, hu, hul⟩ := modN (z / 2) (c.length + 1) (by omega)
  obtain ⟨m, hm⟩ : ∃ m : Nat, m = c.length + 1 := ⟨_, rfl⟩
  have e2 : (c.length : Int) + 1 = (m : Int) := by omega
  rw [← hm] at hu
  have hm0 : 0 < m := by omega
  have hsl1 := pSl_map D.str c (some (u : Int)) none
  have hsl2 := pSl_map D.str c none (some (u : Int))
  have hl1 := cutL_sub c (some (u : Int)) none
  have hl2 := cutL_sub c none (some (u : Int))
  have hsum : (cutL c (some (u : Int)) none ++ cutL c none (some (u : Int))).length ≤ 16 := by
    have h1 : (cutL c (some (u : Int)) none).length ≤ c.length - u := by
      unfold cutL
      have : HT.sIx c.length 0 (some (u : Int)) = u := by unfold HT.sIx; simp; split <;> omega
      rw [this, List.length_take, List.length_drop]; omega
    have h2 : (cutL c none (some (u : Int))).length ≤ u := by
      unfold cutL
      have : HT.sIx c.length c.length (some (u : Int)) = u := by unfold HT.sIx; simp; split <;> omega
      rw [this, List.length_take]; omega
    have := hc.2
    rw [List.length_append]; omega
  have hsz : (cutL c (some (u : Int)) none).length + (cutL c none (some (u : Int))).length ≤ 16777216 := by rw [List.length_append] at hsum; omega
  have key := cut_t1 names (cutL c (some (u : Int)) none ++ cutL c none (some (u : Int))) A E T (.int (u : Nat)) xs hx ⟨fun x hx => by
    rcases List.mem_append.mp hx with k | k
    · exact hc.1 x (hl1.2 x k)
    · exact hc.1 x (hl2.2 x k), hsum⟩
  have hst : t3__law_cut [some A, some (lstS names), some (.bor 2 E), some (nums xs), some T, some (lstS c), none, none] = t1__law_cut [some A, some (lstS names), some (.bor 2 E), some (nums xs), some T, some (lstS (cutL c (some (u : Int)) none ++ cutL c none (some (u : Int)))), some (.int (u : Nat)), none] := by
    unfold t3__law_cut t2__law_cut
    simp only [nums] at hp ⊢
    simp [e1, e2, hp, hm0, hu, hsl1, hsl2, hsz, lstS, List.map_append]
  rw [hst]
  exact key
theorem cut_t5 (names c0 : List (List Nat)) (cuts : List (List (List Nat))) (A T : D) (xs : List Nat) (hx : xs.length = names.length + 3) (hn : names.length ≤ 8) (hcs : ∀ c ∈ cuts, CutOk names c) (hcl : cuts.length ≤ 1000) (hc : CutOk names c0) :
    CutR names (.olst (cuts.map lstS)) (t5__law_cut [some A, some (lstS names), some (.bor 2 (.olst (cuts.map lstS))), some (nums xs), some T, some (lstS c0), none, none]) := by
  have hp0 : pIx (nums xs) (.int 0) = some (.int ((xs.getD 0 0 : Nat) : Int)) := pIx_nums (k := 0) (by omega)
  generalize ((xs.getD 0 0 : Nat) : Int) = z0 at hp0
  -- the cut behind the second statement
  have st5 : ∃ c, CutOk names c ∧ t5__law_cut [some A, some (lstS names), some (.bor 2 (.olst (cuts.map lstS))), some (nums xs), some T, some (lstS c0), none, none] = t4__law_cut [some A, some (lstS names), some (.bor 2 (.olst (cuts.map lstS))), some (nums xs), some T, some (lstS c), none, none] := by
    unfold t5__law_cut
    simp only [nums] at hp0 ⊢
    cases cuts with
    | nil => exact ⟨c0, hc, by simp⟩
    | cons c1 cr =>
      by_cases h : z0 / 3 % 6 = 0
      · obtain ⟨j, hj, hjl⟩ := modN (z0 / 18) (cr.length + 1) (by omega)
        have hget : pIx (.olst ((c1 :: cr).map lstS)) (.int (j : Int)) = some (lstS ((c1 :: cr).getD j [])) := by
          show (atI _ _).bind _ = _
          have hjl' : j < (c1 :: cr).length := hjl
          rw [atI_nat0, List.getElem?_map, List.getElem?_eq_getElem hjl', List.getD_eq_getElem?_getD, List.getElem?_eq_getElem hjl']
          rfl
        have hmem : (c1 :: cr).getD j [] ∈ c1 :: cr := by
          have hjl' : j < (c1 :: cr).length := hjl
          rw [List.getD_eq_getElem?_getD, List.getElem?_eq_getElem hjl']
          exact List.getElem_mem hjl'
        obtain ⟨m, hm⟩ : ∃ m : Nat, m = cr.length + 1 := ⟨_, rfl⟩
        have e2 : (cr.length : Int) + 1 = (m : Int) := by omega
        rw [← hm] at hj
        have hm0 : 0 < m := by omega
        have hm1 : (0 : Int) < (m : Int) := by omega
        generalize (c1 :: cr).getD j [] = c at hget hmem
        refine ⟨c, hcs c hmem, ?_⟩
        simp only [List.map_cons] at hget
        simp [hp0, h, e2, hm0, hm1, hj, hget]
      · refine ⟨c0, hc, ?_⟩
        have hm1 : (0 : Int) < (cr.length : Int) + 1 := by omega
        simp [hp0, h, hm1]
  obtain ⟨c, hcok, e5⟩ := st5
  rw [e5]
  have e1 : (names.length : Int) + 1 = ((names.length + 1 : Nat) : Int) := by omega
  obtain ⟨k, hk⟩ : ∃ k : Nat, k = names.length + 1 := ⟨_, rfl⟩
  rw [← hk] at e1
  have hp : pIx (nums xs) (.int (k : Int)) = some (.int ((xs.getD k 0 : Nat) : Int)) := pIx_nums (by omega)
  generalize ((xs.getD k 0 : Nat) : Int) = z at hp
  have st4 : ∃ c', CutOk names c' ∧ t4__law_cut [some A, some (lstS names), some (.bor 2 (.olst (cuts.map lstS))), some (nums xs), some T, some (lstS c), none, none] = t3__law_cut [some A, some (lstS names), some (.bor 2 (.olst (cuts.map lstS))), some (nums xs), some T, some (lstS c'), none, none] := by
    unfold t4__law_cut
    simp only [nums] at hp ⊢
    by_cases h0 : c = []
    · by_cases h1 : 0 < names.length
      · by_cases h2 : z % 8 = 0
        · exact ⟨c, hcok, by simp [h0, h1, e1, hp, h2]⟩
        · obtain ⟨j, hj, hjl⟩ := modN (z / 8) names.length (by omega)
          have hget := pIx_namesL (names := names) hjl
          have hmem : names.getD j [] ∈ names := by rw [getD_get hjl]; exact List.getElem_mem hjl
          generalize names.getD j [] = nm at hget hmem
          refine ⟨[nm], ⟨fun x hx => by rw [List.mem_singleton.mp hx]; exact hmem, by simp⟩, ?_⟩
          simp [h0, h1, e1, hp, h2, hj, hget, lstS]
      · exact ⟨c, hcok, by simp [h0, h1]⟩
    · exact ⟨c, hcok, by simp [h0]⟩
  obtain ⟨c', hc', e4⟩ := st4
  rw [e4]
  exact cut_t3 names c' A _ T xs hx hc'
theorem cut_run (cell : Int) (names : List (List Nat)) (cuts : List (List (List Nat))) (hn : names.length ≤ 8) (hcs : ∀ c ∈ cuts, CutOk names c) (hcl : cuts.length ≤ 1000) :
    ∃ c, CutOk names c ∧ m__law_cut [.int cell, lstS names, .olst (cuts.map lstS)] = .ok (lstS c) (.olst (cuts.map lstS)) := by
  obtain ⟨xs, e, hxl, hx⟩ := nums_nat cell 72 (names.length + 3) (by decide) (by decide) (by omega)
  have e3 : (names.length : Int) + 3 = ((names.length + 3 : Nat) : Int) := by omega
  obtain ⟨k, hk⟩ : ∃ k : Nat, k = names.length + 3 := ⟨_, rfl⟩
  rw [← hk] at e3 e
  have hp0 : pIx (nums xs) (.int 0) = some (.int ((xs.getD 0 0 : Nat) : Int)) := pIx_nums (k := 0) (by omega)
  generalize ((xs.getD 0 0 : Nat) : Int) = z0 at hp0
  have hn' : names.length ≤ 16000000 := by omega
  have c6 : ∃ c, CutOk names c ∧ eComp (eRg1 (aCons (eCall bLen (aCons (eVar 1) aNil)) aNil)) (gN 7) (eB (eBin pLt (eBin pMod (eBin pIx (eVar 3) (eBin pAdd (eVar 7) (eC (.int 1)))) (eC (.int 4))) (eVar 4))) (eBin pIx (eVar 1) (eVar 7)) [7] [some (.int cell), some (lstS names), some (.bor 2 (.olst (cuts.map lstS))), some (nums xs), some (.int (1 + z0 % 3)), none, none, none] = .ok (c.map .str) := by
    refine ⟨((List.range names.length).filter fun j => decide (((xs.getD (j + 1) 0 : Nat) : Int) % 4 < 1 + z0 % 3)).map fun j => names.getD j [], ⟨fun x hx => ?_, ?_⟩, ?_⟩
    · obtain ⟨j, hj, rfl⟩ := List.mem_map.mp hx
      have hj' := List.mem_range.mp (List.mem_filter.mp hj).1
      rw [getD_get hj']; exact List.getElem_mem hj'
    · rw [List.length_map]
      have := List.length_filter_le (fun j => decide (((xs.getD (j + 1) 0 : Nat) : Int) % 4 < 1 + z0 % 3)) (List.range names.length)
      rw [List.length_range] at this
      omega
    · rw [List.map_map]
      refine eComp_T (fun k : Nat => D.int (k : Nat)) _ _ (List.range names.length) (by simp [iRng1_nat hn', rngL_map]) fun j hj => ⟨_, rfl, ?_, fun _ => ⟨?_, rfl⟩⟩
      · have hj' := List.mem_range.mp hj
        have hpj := pIx_nums (xs := xs) (k := j + 1) (by omega)
        have ej : (j : Int) + 1 = ((j + 1 : Nat) : Int) := by omega
        simp only [eB_e, eBin_e, gN_e, wipeR_cons, wipeR_nil, List.set_cons_succ, List.set_cons_zero, eVar_s, eVar_z, peel_data isData_int, peel_data isData_lst, eC_e, Rs.bind_ok, pAdd_int, ofO_some, ej, hpj, pMod_int (show (0 : Int) < 4 by decide), pLt_int, asB_bl]
      · have hj' := List.mem_range.mp hj
        simp [pIx_namesL hj']
  obtain ⟨c, hc, e6⟩ := c6
  obtain ⟨c', env, hc', henv, hr⟩ := cut_t5 names c cuts (.int cell) (.int (1 + z0 % 3)) xs hxl hn hcs hcl hc
  refine ⟨c', hc', ?_⟩
  rw [e__law_cut]
  have hst : g__law_cut [some (.int cell), some (lstS names), some (.bor 2 (.olst (cuts.map lstS))), none, none, none, none, none] = t5__law_cut [some (.int cell), some (lstS names), some (.bor 2 (.olst (cuts.map lstS))), some (nums xs), some (.int (1 + z0 % 3)), some (lstS c), none, none] := by
    unfold g__law_cut t7__law_cut t6__law_cut
    have a1 : sSet 3 (eApp 3 m__law_numbers (aCons (eVar 0) (aCons (eC (.int 72)) (aCons (eBin pAdd (eCall bLen (aCons (eVar 1) aNil)) (eC (.int 3))) aNil)))) [some (.int cell), some (lstS names), some (.bor 2 (.olst (cuts.map lstS))), none, none, none, none, none] = .nx [some (.int cell), some (lstS names), some (.bor 2 (.olst (cuts.map lstS))), some (nums xs), none, none, none, none] := by
      simp at e
      simp [e3, e]
    have a2 : sSet 4 (eBin pAdd (eC (.int 1)) (eBin pMod (eBin pIx (eVar 3) (eC (.int 0))) (eC (.int 3)))) [some (.int cell), some (lstS names), some (.bor 2 (.olst (cuts.map lstS))), some (nums xs), none, none, none, none] = .nx [some (.int cell), some (lstS names), some (.bor 2 (.olst (cuts.map lstS))), some (nums xs), some (.int (1 + z0 % 3)), none, none, none] := by
      simp only [nums] at hp0 ⊢
      simp [hp0]
    rw [sSeq_e, a1, seqR_nx, sSeq_e, a2, seqR_nx, sSeq_e, sSet_e, eOfL_e, e6]
    simp only [Rs.bind_ok, isData_lst, if_true, List.set_cons_succ, List.set_cons_zero, seqR_nx]
  rw [hst, hr, outL_rt, backL_e, henv]
  simp [noBor_olst (data_map lstS (fun _ => rfl) cuts)]
end Law

set_option Elab.async false
set_option linter.all false
set_option maxRecDepth 100000
namespace Law
open Z PySem L2
theorem isi_tup (x : List D) : pIsi "tuple" (.tup x) = some (.bl true) := by simp [pIsi, tyOf, isT]
theorem isi_str (x : List Nat) : pIsi "str" (.str x) = some (.bl true) := by simp [pIsi, tyOf, isT]
theorem rows_run (rows : List (List (List Nat))) : m__law_is_rows [.tup (rows.map tupS)] = .ok (.bl true) := by
  have c1 : ∀ r : List (List Nat), eComp (iSeqO (eVar 1)) (gN 2) (eNot (eTru (eIsi "str" (eVar 2)))) (eVar 2) [2] [some (.tup (rows.map tupS)), some (tupS r), none] = .ok [] := fun r => by
    have := eComp_T (h := gN 2) (c := eNot (eTru (eIsi "str" (eVar 2)))) (f := eVar 2) (env := [some (.tup (rows.map tupS)), some (tupS r), none]) (own := [2]) (fi := iSeqO (eVar 1)) D.str (fun _ => false) D.str r (by simp) fun x hx => ⟨_, rfl, by simp [isi_str], fun h => nomatch h⟩
    rw [List.filter_eq_nil_iff.mpr (by simp)] at this
    exact this
  have q := forL_find (h := gN 1) (body := b0__law_is_rows) (w := [1]) (env := [some (.tup (rows.map tupS)), none, none]) tupS (fun _ : List (List Nat) => false) (.bl false) [] rows (fun r hr => ⟨[some (.tup (rows.map tupS)), some (tupS r), none], rfl, fun h => absurd h (by decide), fun _ => ⟨[some (.tup (rows.map tupS)), some (tupS r), none], .inl (by
    unfold b0__law_is_rows
    simp [isi_tup, c1 r]), rfl⟩⟩)
  rw [e__law_is_rows]
  unfold g__law_is_rows
  simp [isi_tup, sFor_ok (ds := rows.map tupS), q]
theorem eqvL_self : ∀ xs : List D, (∀ x ∈ xs, eqv x x = true) → eqvL xs xs = true
  | [], _ => by simp [eqvL]
  | x :: xs, h => by simp only [eqvL, h x List.mem_cons_self, eqvL_self xs fun y hy => h y (List.mem_cons_of_mem _ hy), Bool.and_self]
theorem rows_same (rows : List (List (List Nat))) : pNe (.tup (rows.map tupS)) (.tup (rows.map tupS)) = some (.bl false) := by
  have h1 : okPy 60 (.tup (rows.map tupS)) = true := by
    show okPyL 59 (rows.map tupS) = true
    exact okPyL_map _ rows fun r _ => by show okPyL 58 (r.map D.str) = true; exact ok_strs r
  have h2 : eqv (.tup (rows.map tupS)) (.tup (rows.map tupS)) = true := by
    simp only [eqv]
    refine eqvL_self _ fun x hx => ?_
    obtain ⟨r, _, rfl⟩ := List.mem_map.mp hx
    simp only [eqv]
    refine eqvL_self _ fun y hy => ?_
    obtain ⟨z, _, rfl⟩ := List.mem_map.mp hy
    rw [eqv_str]; simp
  unfold pNe
  rw [h1, h2]; rfl
theorem cuts_step (ns : List Int) (names : List (List Nat)) (cuts : List (List (List Nat))) (c : List (List Nat)) (i : Nat) (hlt : cuts.length < 16777216) (hcell : m__law_cell [.scr ns, .int (11 + (i : Int))] = .ok (.int (cellS ns (11 + i)))) (hr : m__law_cut [.int (cellS ns (11 + i)), lstS names, .olst (cuts.map lstS)] = .ok (lstS c) (.olst (cuts.map lstS))) :
    xLend 3 2 m__law_cut (xaD (xDat (eApp 2 m__law_cell (aCons (eVar 0) (aCons (eBin pAdd (eC (.int 11)) (eVar 3)) aNil)))) (xaD (xDat (eVar 1)) (xaS 2 xaNil))) [some (.scr ns), some (lstS names), some (.olst (cuts.map lstS)), some (.int (i : Nat)), none, none, none, none] = .ok (lstS c) [some (.scr ns), some (lstS names), some (.olst (cuts.map lstS)), some (.int (i : Nat)), none, none, none, none] := by
  have hnb := noBor_olst (data_map lstS (fun _ => rfl) cuts)
  have ha : xaD (xDat (eApp 2 m__law_cell (aCons (eVar 0) (aCons (eBin pAdd (eC (.int 11)) (eVar 3)) aNil)))) (xaD (xDat (eVar 1)) (xaS 2 xaNil)) [some (.scr ns), some (lstS names), some (.olst (cuts.map lstS)), some (.int (i : Nat)), none, none, none, none] = .ok [.d (.int (cellS ns (11 + i))), .d (lstS names), .s 2] [some (.scr ns), some (lstS names), some (.olst (cuts.map lstS)), some (.int (i : Nat)), none, none, none, none] := by
    simp [hcell]
  have hl : lentOf 2 [.d (.int (cellS ns (11 + i))), .d (lstS names), .s 2] = some ([.int (cellS ns (11 + i)), lstS names], 2, []) := by
    rw [lentOf_s, lentOf_s, lentOf_0, datsOf_nil]
    rfl
  have hm : m__law_cut ([.int (cellS ns (11 + i)), lstS names] ++ peel (.olst (cuts.map lstS)) :: []) = .ok (lstS c) (.olst (cuts.map lstS)) := hr
  refine (xLend_ok (n := 3) (d0 := .olst (cuts.map lstS)) ha hl rfl rfl hnb rfl hm rfl).trans ?_
  rfl
theorem cuts_step2 (ns : List Int) (names : List (List Nat)) (cuts : List (List (List Nat))) (c : List (List Nat)) (i : Nat) (hlt : cuts.length < 16777216) (hcell : m__law_cell [.scr ns, .int (11 + (i : Int))] = .ok (.int (cellS ns (11 + i)))) (hr : m__law_cut [.int (cellS ns (11 + i)), lstS names, .olst (cuts.map lstS)] = .ok (lstS c) (.olst (cuts.map lstS))) :
    b0_law [some (.scr ns), some (lstS names), some (.olst (cuts.map lstS)), some (.int (i : Nat)), none, none, none, none] = .nx [some (.scr ns), some (lstS names), some (.olst ((cuts ++ [c]).map lstS)), some (.int (i : Nat)), none, none, none, none] := by
  unfold b0_law
  rw [sAppX_ok (d0 := .olst (cuts.map lstS)) (d1 := .olst (cuts.map lstS)) rfl rfl (cuts_step ns names cuts c i hlt hcell hr) rfl rfl (by rw [List.length_map]; exact hlt), List.map_append]
  rfl
theorem cuts_loop (ns : List Int) (names : List (List Nat)) (hn : names.length ≤ 8) (count : Nat) (hc : count ≤ 9) :
    ∃ cuts : List (List (List Nat)), (∀ c ∈ cuts, CutOk names c) ∧ cuts.length ≤ 9 ∧ forL (gN 3) b0_law [3] (rngL 0 count) [some (.scr ns), some (lstS names), some (.olst []), none, none, none, none, none] = .nx [some (.scr ns), some (lstS names), some (.olst (cuts.map lstS)), none, none, none, none, none] := by
  obtain ⟨e, he, cuts, rfl, h1, h2⟩ := forL_inv (h := gN 3) (body := b0_law) (w := [3]) (ds := rngL 0 count) (env := [some (.scr ns), some (lstS names), some (.olst []), none, none, none, none, none])
    (fun i e => ∃ cuts : List (List (List Nat)), e = [some (.scr ns), some (lstS names), some (.olst (cuts.map lstS)), none, none, none, none, none] ∧ (∀ c ∈ cuts, CutOk names c) ∧ cuts.length = i) ⟨[], rfl, (fun c hc => nomatch hc), rfl⟩ (by
      rintro i d e hd ⟨cuts, rfl, h1, h2⟩
      obtain ⟨hi, rfl⟩ := rng_at hd
      have hcell : m__law_cell [.scr ns, .int (11 + (i : Int))] = .ok (.int (cellS ns (11 + i))) := cell_ok' ns _ (11 + i) (by omega) (by omega)
      obtain ⟨c, hcok, hr⟩ := cut_run (cellS ns (11 + i)) names cuts hn h1 (by omega)
      rw [gN_e, SoP_some, Int.zero_add]
      simp only [List.set_cons_succ, List.set_cons_zero]
      have hb := cuts_step2 ns names cuts c i (by omega) hcell hr
      rw [hb, LpP_nx]
      refine ⟨cuts ++ [c], rfl, fun x hx => ?_, by simp [h2]⟩
      rcases List.mem_append.mp hx with k | k
      · exact h1 x k
      · rw [List.mem_singleton.mp k]; exact hcok)
  rw [rngL_len] at h2
  exact ⟨cuts, h1, by omega, he⟩
theorem law_body (ns : List Int) (names : List (List Nat)) (hN : NamesOk names 8) (cuts : List (List (List Nat))) (hcs : ∀ c ∈ cuts, CutOk names c) (hcl : cuts.length ≤ 9) (m : Nat) :
    ∃ s5 s6, b1_law [some (.scr ns), some (lstS names), some (.olst (cuts.map lstS)), none, some (.int (m : Nat)), none, none, none] = .nx [some (.scr ns), some (lstS names), some (.olst (cuts.map lstS)), none, some (.int (m : Nat)), s5, s6, none] := by
  have hdm := data_map lstS (fun _ => rfl) cuts
  have hsl : pSl (.olst (cuts.map lstS)) none (some (m : Int)) = some (.lst ((cutL cuts none (some (m : Int))).map lstS)) := by
    show (listOf (.olst (cuts.map lstS))).map _ = _
    have : listOf (.olst (cuts.map lstS)) = some (cuts.map lstS) := by show (if _ then _ else _) = _; rw [if_pos hdm]
    rw [this, Option.map_some, cutL_map]
  have hsub := cutL_sub cuts none (some (m : Int))
  generalize cutL cuts none (some (m : Int)) = cs at hsl hsub
  have hdue := due_run names cs hN.2.1 hN.1 fun c hc => (hcs c (hsub.2 c hc)).1
  obtain ⟨L, hL, hhit⟩ := hit_run (n := names.length) names cs rfl hN.2.1 (by have := hsub.1; omega)
  rw [← du_eq hL] at hdue
  have ht : ∀ xs : List D, bTuple [.lst xs] = some (.tup xs) := fun xs => rfl
  have c1 : ∀ s5, eComp (iSeqO (eSl (eVar 2) oNone (oSome (eVar 4)))) (gN 7) cYes (eCall bTuple (aCons (eVar 7) aNil)) [7] [some (.scr ns), some (lstS names), some (.olst (cuts.map lstS)), none, some (.int (m : Nat)), s5, none, none] = .ok (cs.map tupS) := fun s5 => by
    refine eComp_M lstS _ cs (by simp [hsl]) fun c hc => ⟨_, rfl, ?_, rfl⟩
    simp [ht]
  have hr := rows_run (L.map fun one => one.map fun k => names.getD k [])
  have hsm := rows_same (L.map fun one => one.map fun k => names.getD k [])
  rw [List.map_map] at hr hsm
  have er : (tupS ∘ fun one : List Nat => one.map fun k => names.getD k []) = fun one => tupS (one.map fun k => names.getD k []) := rfl
  rw [er] at hr hsm
  have hTT : isData (D.tup (L.map fun one => tupS (one.map fun k => names.getD k []))) = true := rfl
  generalize (D.tup (L.map fun one => tupS (one.map fun k => names.getD k []))) = TT at hdue hhit hr hsm hTT
  refine ⟨some TT, some TT, ?_⟩
  unfold b1_law
  have a1 : sSet 5 (eApp 2 m__law_due (aCons (eVar 1) (aCons (eSl (eVar 2) oNone (oSome (eVar 4))) aNil))) [some (.scr ns), some (lstS names), some (.olst (cuts.map lstS)), none, some (.int (m : Nat)), none, none, none] = .nx [some (.scr ns), some (lstS names), some (.olst (cuts.map lstS)), none, some (.int (m : Nat)), some TT, none, none] := by
    simp [hsl, hdue, hTT]
  have a2 : sSet 6 (eApp 2 m_hitting_sets (aCons (eCall bTuple (aCons (eVar 1) aNil)) (aCons (eCall bTuple (aCons (eOfL (eComp (iSeqO (eSl (eVar 2) oNone (oSome (eVar 4)))) (gN 7) cYes (eCall bTuple (aCons (eVar 7) aNil)) [7])) aNil)) aNil))) [some (.scr ns), some (lstS names), some (.olst (cuts.map lstS)), none, some (.int (m : Nat)), some TT, none, none] = .nx [some (.scr ns), some (lstS names), some (.olst (cuts.map lstS)), none, some (.int (m : Nat)), some TT, some TT, none] := by
    rw [sSet_e, eApp_e, aCons_e, aCons_e, aNil_e, eCall_e, aCons_e, aNil_e, eCall_e, aCons_e, aNil_e, eOfL_e, c1]
    simp [ht, hhit, hTT]
  rw [sSeq_e, a1, seqR_nx, sSeq_e, a2, seqR_nx]
  simp [hr, hsm, hTT, peel_data hTT]
theorem law_true (ns : List Int) (hl : ns.length ≤ 63) : m_law [.scr ns] = .ok (.bl true) := by
  obtain ⟨names, hN, hnames⟩ := names_run ns
  obtain ⟨count, hc, hcl⟩ := modN (cellS ns 10) 10 (by decide)
  have h10 : m__law_cell [.scr ns, .int 10] = .ok (.int (cellS ns 10)) := cell_ok' ns 10 10 rfl (by decide)
  obtain ⟨cuts, hcs, hcl', hloop⟩ := cuts_loop ns names hN.2.1 count (by omega)
  have q := forL_find (h := gN 4) (body := b1_law) (w := [4, 5, 6]) (env := [some (.scr ns), some (lstS names), some (.olst (cuts.map lstS)), none, none, none, none, none]) (fun k : Nat => D.int (k : Nat)) (fun _ => false) (.bl false) [] [cuts.length, cuts.length / 2, 0, cuts.length] (fun m hm => by
    obtain ⟨s5, s6, hb⟩ := law_body ns names hN cuts hcs hcl' m
    exact ⟨_, rfl, (fun h => nomatch h), fun _ => ⟨_, .inl hb, rfl⟩⟩)
  simp at hc
  rw [e_law]
  unfold g_law
  have a1 : sSet 1 (eApp 1 m__law_names (aCons (eVar 0) aNil)) [some (.scr ns), none, none, none, none, none, none, none] = .nx [some (.scr ns), some (lstS names), none, none, none, none, none, none] := by
    simp [hnames]
  have a2 : sSetL 2 (eLst aNil) [some (.scr ns), some (lstS names), none, none, none, none, none, none] = .nx [some (.scr ns), some (lstS names), some (.olst []), none, none, none, none, none] := by simp
  have hc16 : count ≤ 16000000 := by omega
  have a3 : sFor (eRg1 (aCons (eBin pMod (eCall bInt (aCons (eApp 2 m__law_cell (aCons (eVar 0) (aCons (eC (.int 10)) aNil))) aNil)) (eC (.int 10))) aNil)) (gN 3) b0_law [3] [some (.scr ns), some (lstS names), some (.olst []), none, none, none, none, none] = .nx [some (.scr ns), some (lstS names), some (.olst (cuts.map lstS)), none, none, none, none, none] := by
    rw [sFor_ok (ds := rngL 0 count) (by simp [h10, hc, iRng1_nat hc16])]
    exact hloop
  have a4 : sFor (iSeq (eOfL (eLst (aCons (eCall bLen (aCons (eVar 2) aNil)) (aCons (eBin pDiv (eCall bLen (aCons (eVar 2) aNil)) (eC (.int 2))) (aCons (eC (.int 0)) (aCons (eCall bLen (aCons (eVar 2) aNil)) aNil))))))) (gN 4) b1_law [4, 5, 6] [some (.scr ns), some (lstS names), some (.olst (cuts.map lstS)), none, none, none, none, none] = .nx [some (.scr ns), some (lstS names), some (.olst (cuts.map lstS)), none, none, none, none, none] := by
    rw [sFor_ok (ds := [cuts.length, cuts.length / 2, 0, cuts.length].map fun k : Nat => D.int (k : Nat)) (by simp)]
    exact q
  rw [sSeq_e, a1, seqR_nx, sSeq_e, a2, seqR_nx, sSeq_e, a3, seqR_nx, sSeq_e, a4]
  simp
end Law

set_option Elab.async false
set_option linter.all false
set_option maxRecDepth 100000
set_option maxHeartbeats 4000000
namespace Law
open PySem L2 Z
def top (i : Nat) : Stmt := PySem.Challenge.pw_samebytesanywhere_k07_hitting_sets_exact.main.body.getD i (.Pass ⟨0, 0, 0, 0⟩)
structure Pg (K : PySem.W.Frag) (mg : Str → Option Value) (fa : Nat → Addr) (fd : Nat → FuncData) : Prop where
  z_abs : mg "abs" = none
  z_all : mg "all" = none
  z_any : mg "any" = none
  z_int : mg "int" = none
  z_isinstance : mg "isinstance" = none
  z_len : mg "len" = none
  z_list : mg "list" = none
  z_range : mg "range" = none
  z_reversed : mg "reversed" = none
  z_sorted : mg "sorted" = none
  z_str : mg "str" = none
  z_tuple : mg "tuple" = none
  f_without_larger : Fun K "without_larger" "without_larger" (top 1) (fa 1) (fd 1)
  m_without_larger : mg "without_larger" = some (.ref (fa 1))
  b_without_larger : Binds K (fd 1) ["sets"] []
  f_hitting_sets : Fun K "hitting_sets" "hitting_sets" (top 2) (fa 2) (fd 2)
  m_hitting_sets : mg "hitting_sets" = some (.ref (fa 2))
  b_hitting_sets : Binds K (fd 2) ["names", "cuts"] []
  f__law_cell : Fun K "_law_cell" "_law_cell" (top 4) (fa 4) (fd 4)
  m__law_cell : mg "_law_cell" = some (.ref (fa 4))
  b__law_cell : Binds K (fd 4) ["script", "k"] []
  f__law_numbers : Fun K "_law_numbers" "_law_numbers" (top 5) (fa 5) (fd 5)
  m__law_numbers : mg "_law_numbers" = some (.ref (fa 5))
  b__law_numbers : Binds K (fd 5) ["cell", "many", "count"] []
  f__law_names : Fun K "_law_names" "_law_names" (top 6) (fa 6) (fd 6)
  m__law_names : mg "_law_names" = some (.ref (fa 6))
  b__law_names : Binds K (fd 6) ["script"] []
  f__law_cut : Fun K "_law_cut" "_law_cut" (top 7) (fa 7) (fd 7)
  m__law_cut : mg "_law_cut" = some (.ref (fa 7))
  b__law_cut : Binds K (fd 7) ["cell", "names", "earlier"] []
  f__law_meets : Fun K "_law_meets" "_law_meets" (top 8) (fa 8) (fd 8)
  m__law_meets : mg "_law_meets" = some (.ref (fa 8))
  b__law_meets : Binds K (fd 8) ["places", "cuts"] []
  f__law_due : Fun K "_law_due" "_law_due" (top 9) (fa 9) (fd 9)
  m__law_due : mg "_law_due" = some (.ref (fa 9))
  b__law_due : Binds K (fd 9) ["names", "cuts"] []
  f__law_is_rows : Fun K "_law_is_rows" "_law_is_rows" (top 10) (fa 10) (fd 10)
  m__law_is_rows : mg "_law_is_rows" = some (.ref (fa 10))
  b__law_is_rows : Binds K (fd 10) ["told"] []
  f_law : Fun K "law" "law" (top 11) (fa 11) (fd 11)
  m_law : mg "law" = some (.ref (fa 11))
  b_law : Binds K (fd 11) ["script"] []
section
variable {P : Program} {w : World} {K : Kx} {mg : Str → Option Value} {base : Heap} {fa : Nat → Addr} {fd : Nat → FuncData}
theorem sc_without_larger : FnScope ["sets", "least", "pair", "one", "small", "at"] ["sets"] (defScope (top 1)) := ⟨rfl, rfl, rfl, by decide +kernel, rfl, by decide +kernel, by decide +kernel⟩
theorem ok_without_larger (T : Pg K.k mg fa fd) : FnOk P w K.k mg base CX0 1 (fa 1) (fd 1) ["sets"] (spP K 1 m_without_larger) := by
  have nd := sc_without_larger.nd
  refine fn1 (k := 0) (g := g_without_larger) T.f_without_larger sc_without_larger rfl rfl rfl fun cdv A outer s H Ex F0 hr => ?_
  exact (SB.cons (SS.setL 1 (SL.lst SA.nil) nd)
  (SB.cons (SS.for [2] PassesOwn.never rfl (SI.seq (SE.ofL (SL.sorted (SE.ofL (SL.comp (own := [("one", 3)]) rfl nd (SJ.seq (SE.var 0)) (blkOk_by (by kernel_rfl)) (Blk.mk' (fun _ _ _ _ _ => (SG.name 3 nd)) (fun _ _ _ _ _ => SC.nil) (fun _ _ _ _ _ => (SE.tup (SA.cons (SE.callB (BS.len rfl) T.z_len bo_len (SA.cons (SE.var 3) SA.nil)) (SA.cons (SE.var 3) SA.nil))))))) T.z_sorted (u64 hr)))) (SG.name 2 nd) (show SB _ _ _ _ b0_without_larger from (SB.one (SS.ite (ST.not (ST.tru (SE.callB (BS.any rfl) T.z_any bo_any (SA.cons (SE.ofL (SL.comp (own := [("small", 4)]) rfl nd (SJ.seq (SE.var 1)) (blkOk_by (by kernel_rfl)) (Blk.mk' (fun _ _ _ _ _ => (SG.name 4 nd)) (fun _ _ _ _ _ => SC.nil) (fun _ _ _ _ _ => (SE.callB (BS.all rfl) T.z_all bo_all (SA.cons (SE.ofL (SL.comp (own := [("at", 5)]) rfl nd (SJ.seq (SE.var 4)) (blkOk_by (by kernel_rfl)) (Blk.mk' (fun _ _ _ _ _ => (SG.name 5 nd)) (fun _ _ _ _ _ => SC.nil) (fun _ _ _ _ _ => (SE.cmp (OpS.isin rfl (u65 hr)) (SE.var 5) (SE.ix (SE.var 2) SE.int)))))) SA.nil)))))) SA.nil))))
  (SB.one (SS.app 1 (SE.ix (SE.var 2) SE.int)))
  SB.nil))))
  (SB.one (SS.frz 1 (SS.ret (SE.var 1))))))
theorem sc_hitting_sets : FnScope ["names", "cuts", "sets", "cut", "places", "met", "one", "at"] ["names", "cuts"] (defScope (top 2)) := ⟨rfl, rfl, rfl, by decide +kernel, rfl, by decide +kernel, by decide +kernel⟩
theorem ok_hitting_sets (T : Pg K.k mg fa fd) : FnOk P w K.k mg base CX0 2 (fa 2) (fd 2) ["names", "cuts"] (spP K 2 m_hitting_sets) := by
  have nd := sc_hitting_sets.nd
  refine fn1 (k := 1) (g := g_hitting_sets) T.f_hitting_sets sc_hitting_sets rfl rfl rfl fun cdv A outer s H Ex F0 hr => ?_
  exact (SB.cons (SS.set 2 (SE.ofL (SL.lst (SA.cons (SE.tup SA.nil) SA.nil))) nd)
  (SB.cons (SS.for [3, 4, 5, 6] PassesOwn.never rfl (SI.seq (SE.var 1)) (SG.name 3 nd) (show SB _ _ _ _ b1_hitting_sets from (SB.cons (SS.setC (own := [("at", 7)]) 4 rfl nd (SJ.of (SI.range1 (SA.cons (SE.callB (BS.len rfl) T.z_len bo_len (SA.cons (SE.var 0) SA.nil)) SA.nil) T.z_range)) (blkOk_by (by kernel_rfl)) (Blk.mk' (fun _ _ _ _ _ => (SG.name 7 nd)) (fun _ _ _ _ _ => (SC.one (ST.cmp (OpS.isin rfl (u65 hr)) (SE.ix (SE.var 0) (SE.var 7)) (SE.var 3)))) (fun _ _ _ _ _ => (SE.var 7))))
  (SB.cons (SS.setL 5 (SL.lst SA.nil) nd)
  (SB.cons (SS.for [6] PassesOwn.never rfl (SI.seq (SE.var 2)) (SG.name 6 nd) (show SB _ _ _ _ b0_hitting_sets from (SB.one (SS.ite (ST.tru (SE.callB (BS.any rfl) T.z_any bo_any (SA.cons (SE.ofL (SL.comp (own := [("at", 7)]) rfl nd (SJ.seq (SE.var 4)) (blkOk_by (by kernel_rfl)) (Blk.mk' (fun _ _ _ _ _ => (SG.name 7 nd)) (fun _ _ _ _ _ => SC.nil) (fun _ _ _ _ _ => (SE.cmp (OpS.isin rfl (u65 hr)) (SE.var 7) (SE.var 6)))))) SA.nil)))
  (SB.one (SS.app 5 (SE.var 6)))
  (SB.one (SS.setL 5 (SL.cat (SE.var 5) (SE.ofL (SL.comp (own := [("at", 7)]) rfl nd (SJ.seq (SE.var 4)) (blkOk_by (by kernel_rfl)) (Blk.mk' (fun _ _ _ _ _ => (SG.name 7 nd)) (fun _ _ _ _ _ => SC.nil) (fun _ _ _ _ _ => (SE.callT (BS.tuple rfl) T.z_tuple bo_tuple (SA.cons (SE.ofL (SL.sorted (SE.bin (OpS.add rfl) (SE.var 6) (SE.tup (SA.cons (SE.var 7) SA.nil))) T.z_sorted (u64 hr))) SA.nil))))))) nd))))))
  (SB.one (SS.frz 5 (SS.set 2 (SE.call0 (ok_without_larger T) runB0_nox (hr.mono (by decide)) T.m_without_larger T.f_without_larger.kp T.b_without_larger (SA.cons (SE.var 5) SA.nil)) nd))))))))
  (SB.one (SS.ret (SE.callT (BS.tuple rfl) T.z_tuple bo_tuple (SA.cons (SE.ofL (SL.comp (own := [("one", 6)]) rfl nd (SJ.seq (SE.var 2)) (blkOk_by (by kernel_rfl)) (Blk.mk' (fun _ _ _ _ _ => (SG.name 6 nd)) (fun _ _ _ _ _ => SC.nil) (fun _ _ _ _ _ => (SE.callT (BS.tuple rfl) T.z_tuple bo_tuple (SA.cons (SE.ofL (SL.comp (own := [("at", 7)]) rfl nd (SJ.seq (SE.var 6)) (blkOk_by (by kernel_rfl)) (Blk.mk' (fun _ _ _ _ _ => (SG.name 7 nd)) (fun _ _ _ _ _ => SC.nil) (fun _ _ _ _ _ => (SE.ix (SE.var 0) (SE.var 7)))))) SA.nil)))))) SA.nil))))))
theorem sc__law_cell : FnScope ["script", "k"] ["script", "k"] (defScope (top 4)) := ⟨rfl, rfl, rfl, by decide +kernel, rfl, by decide +kernel, by decide +kernel⟩
theorem ok__law_cell (T : Pg K.k mg fa fd) : FnOk P w K.k mg base CX0 1 (fa 4) (fd 4) ["script", "k"] (spP K 2 m__law_cell) := by
  have nd := sc__law_cell.nd
  refine fn1 (k := 0) (g := g__law_cell) T.f__law_cell sc__law_cell rfl rfl rfl fun cdv A outer s H Ex F0 hr => ?_
  exact (SB.cons (SS.ite (ST.cmp OpS.lt (SE.var 1) (SE.callB (BS.len rfl) T.z_len bo_len (SA.cons (SE.var 0) SA.nil)))
  (SB.one (SS.ret (SE.ix (SE.var 0) (SE.var 1))))
  SB.nil)
  (SB.one (SS.ret (SE.bin (OpS.add rfl) (SE.bin (OpS.mul) SE.int (SE.var 1)) SE.int))))
theorem sc__law_numbers : FnScope ["cell", "many", "count", "rest", "large", "mixed", "found", "k"] ["cell", "many", "count"] (defScope (top 5)) := ⟨rfl, rfl, rfl, by decide +kernel, rfl, by decide +kernel, by decide +kernel⟩
theorem ok__law_numbers (T : Pg K.k mg fa fd) : FnOk P w K.k mg base CX0 1 (fa 5) (fd 5) ["cell", "many", "count"] (spP K 3 m__law_numbers) := by
  have nd := sc__law_numbers.nd
  refine fn1 (k := 0) (g := g__law_numbers) T.f__law_numbers sc__law_numbers rfl rfl rfl fun cdv A outer s H Ex F0 hr => ?_
  exact (SB.cons (SS.set 3 (SE.callB (BS.abs) T.z_abs bo_abs (SA.cons (SE.callT (BS.int) T.z_int bo_int (SA.cons (SE.var 0) SA.nil)) SA.nil)) nd)
  (SB.cons (SS.set 4 (SE.cmp OpS.ge (SE.var 3) (SE.bin (OpS.pow) SE.int SE.int)) nd)
  (SB.cons (SS.set 5 (SE.bin (OpS.add rfl) (SE.bin (OpS.mod) (SE.callT (BS.int) T.z_int bo_int (SA.cons (SE.var 3) SA.nil)) SE.int) SE.int) nd)
  (SB.cons (SS.setL 6 (SL.lst SA.nil) nd)
  (SB.cons (SS.for [7] PassesOwn.never rfl (SI.range1 (SA.cons (SE.var 2) SA.nil) T.z_range) (SG.name 7 nd) (show SB _ _ _ _ b0__law_numbers from (SB.one (SS.ite (ST.tru (SE.var 4))
  (SB.cons (SS.app 6 (SE.bin (OpS.mod) (SE.callT (BS.int) T.z_int bo_int (SA.cons (SE.var 3) SA.nil)) (SE.var 1)))
  (SB.one (SS.set 3 (SE.bin (OpS.div) (SE.var 3) (SE.var 1)) nd)))
  (SB.cons (SS.set 5 (SE.bin (OpS.mod) (SE.callT (BS.int) T.z_int bo_int (SA.cons (SE.bin (OpS.add rfl) (SE.bin (OpS.add rfl) (SE.bin (OpS.mul) (SE.var 5) SE.int) (SE.bin (OpS.mul) SE.int (SE.var 7))) SE.int) SA.nil)) SE.int) nd)
  (SB.one (SS.app 6 (SE.bin (OpS.mod) (SE.callT (BS.int) T.z_int bo_int (SA.cons (SE.bin (OpS.div) (SE.var 5) SE.int) SA.nil)) (SE.var 1)))))))))
  (SB.one (SS.frz 6 (SS.ret (SE.var 6)))))))))
theorem sc__law_names : FnScope ["script", "letters", "few", "count", "names", "k", "draw", "name", "number"] ["script"] (defScope (top 6)) := ⟨rfl, rfl, rfl, by decide +kernel, rfl, by decide +kernel, by decide +kernel⟩
theorem ok__law_names (T : Pg K.k mg fa fd) : FnOk P w K.k mg base CX0 2 (fa 6) (fd 6) ["script"] (spP K 1 m__law_names) := by
  have nd := sc__law_names.nd
  refine fn1 (k := 1) (g := g__law_names) T.f__law_names sc__law_names rfl rfl rfl fun cdv A outer s H Ex F0 hr => ?_
  exact (SB.cons (SS.set 1 (SE.str [97, 98, 99, 100, 101, 102, 103, 104, 105, 106, 107, 108, 109, 110, 111, 112, 113, 114, 115, 116, 117, 118, 119, 120, 121, 122]) nd)
  (SB.cons (SS.set 2 (SE.bin (OpS.add rfl) SE.int (SE.bin (OpS.mod) (SE.callT (BS.int) T.z_int bo_int (SA.cons (SE.call0 (ok__law_cell T) runB0_nox (hr.mono (by decide)) T.m__law_cell T.f__law_cell.kp T.b__law_cell (SA.cons (SE.var 0) (SA.cons SE.int SA.nil))) SA.nil)) SE.int)) nd)
  (SB.cons (SS.set 3 (SE.bin (OpS.mod) (SE.callT (BS.int) T.z_int bo_int (SA.cons (SE.call0 (ok__law_cell T) runB0_nox (hr.mono (by decide)) T.m__law_cell T.f__law_cell.kp T.b__law_cell (SA.cons (SE.var 0) (SA.cons SE.int SA.nil))) SA.nil)) SE.int) nd)
  (SB.cons (SS.ite (ST.cmp (OpS.eq rfl (u64 hr)) (SE.bin (OpS.mod) (SE.bin (OpS.div) (SE.callT (BS.int) T.z_int bo_int (SA.cons (SE.call0 (ok__law_cell T) runB0_nox (hr.mono (by decide)) T.m__law_cell T.f__law_cell.kp T.b__law_cell (SA.cons (SE.var 0) (SA.cons SE.int SA.nil))) SA.nil)) SE.int) SE.int) SE.int)
  (SB.one (SS.set 3 (SE.bin (OpS.add rfl) SE.int (SE.bin (OpS.mod) (SE.bin (OpS.div) (SE.callT (BS.int) T.z_int bo_int (SA.cons (SE.call0 (ok__law_cell T) runB0_nox (hr.mono (by decide)) T.m__law_cell T.f__law_cell.kp T.b__law_cell (SA.cons (SE.var 0) (SA.cons SE.int SA.nil))) SA.nil)) SE.int) SE.int)) nd))
  SB.nil)
  (SB.cons (SS.setL 4 (SL.lst SA.nil) nd)
  (SB.cons (SS.for [5, 6, 7] PassesOwn.never rfl (SI.range1 (SA.cons (SE.var 3) SA.nil) T.z_range) (SG.name 5 nd) (show SB _ _ _ _ b0__law_names from (SB.cons (SS.set 6 (SE.call0 (ok__law_numbers T) runB0_nox (hr.mono (by decide)) T.m__law_numbers T.f__law_numbers.kp T.b__law_numbers (SA.cons (SE.call0 (ok__law_cell T) runB0_nox (hr.mono (by decide)) T.m__law_cell T.f__law_cell.kp T.b__law_cell (SA.cons (SE.var 0) (SA.cons (SE.bin (OpS.add rfl) SE.int (SE.var 5)) SA.nil))) (SA.cons SE.int (SA.cons SE.int SA.nil)))) nd)
  (SB.cons (SS.set 7 (SE.join (sep := []) (SE.ofL (SL.comp (own := [("number", 8)]) rfl nd (SJ.seq (SE.sl (SE.var 6) (SO.some SE.int) (SO.some (SE.bin (OpS.add rfl) SE.int (SE.bin (OpS.div) (SE.ix (SE.var 6) SE.int) SE.int))))) (blkOk_by (by kernel_rfl)) (Blk.mk' (fun _ _ _ _ _ => (SG.name 8 nd)) (fun _ _ _ _ _ => SC.nil) (fun _ _ _ _ _ => (SE.ix (SE.var 1) (SE.bin (OpS.mod) (SE.var 8) (SE.var 2)))))))) nd)
  (SB.one (SS.ite (ST.cmp (OpS.notin rfl (u65 hr)) (SE.var 7) (SE.var 4))
  (SB.one (SS.app 4 (SE.var 7)))
  SB.nil))))))
  (SB.one (SS.frz 4 (SS.ret (SE.var 4))))))))))
theorem sc__law_cut : FnScope ["cell", "names", "earlier", "draw", "thin", "cut", "turn", "k"] ["cell", "names", "earlier"] (defScope (top 7)) := ⟨rfl, rfl, rfl, by decide +kernel, rfl, by decide +kernel, by decide +kernel⟩
theorem ok__law_cut (T : Pg K.k mg fa fd) : FnOk P w K.k mg base CX0 2 (fa 7) (fd 7) ["cell", "names", "earlier"] (spL K 3 2 m__law_cut) := by
  have nd := sc__law_cut.nd
  refine fnL (k := 1) (g := g__law_cut) T.f__law_cut sc__law_cut rfl rfl rfl fun cdv A outer s H Ex F0 al fpl hr => ?_
  exact (SB.cons (SS.set 3 (SE.call0 (ok__law_numbers (K := ⟨K.k, K.ca, fun _ => al⟩) T) runB0_nox (hr.mono (by decide)) T.m__law_numbers T.f__law_numbers.kp T.b__law_numbers (SA.cons (SE.var 0) (SA.cons SE.int (SA.cons (SE.bin (OpS.add rfl) (SE.callB (BS.len rfl) T.z_len bo_len (SA.cons (SE.var 1) SA.nil)) SE.int) SA.nil)))) nd)
  (SB.cons (SS.set 4 (SE.bin (OpS.add rfl) SE.int (SE.bin (OpS.mod) (SE.ix (SE.var 3) SE.int) SE.int)) nd)
  (SB.cons (SS.setC (own := [("k", 7)]) 5 rfl nd (SJ.of (SI.range1 (SA.cons (SE.callB (BS.len rfl) T.z_len bo_len (SA.cons (SE.var 1) SA.nil)) SA.nil) T.z_range)) (blkOk_by (by kernel_rfl)) (Blk.mk' (fun _ _ _ _ _ => (SG.name 7 nd)) (fun _ _ _ _ _ => (SC.one (ST.cmp OpS.lt (SE.bin (OpS.mod) (SE.ix (SE.var 3) (SE.bin (OpS.add rfl) (SE.var 7) SE.int)) SE.int) (SE.var 4)))) (fun _ _ _ _ _ => (SE.ix (SE.var 1) (SE.var 7)))))
  (SB.cons (SS.ite (ST.w (SW.and (ST.cmp OpS.gt (SE.callB (BS.len rfl) T.z_len bo_len (SA.cons (SE.var 2) SA.nil)) SE.int) (SW.and1 (ST.cmp (OpS.eq rfl (u64 hr)) (SE.bin (OpS.mod) (SE.bin (OpS.div) (SE.ix (SE.var 3) SE.int) SE.int) SE.int) SE.int))))
  (SB.one (SS.set 5 (SE.ofL (SL.list (SE.ix (SE.var 2) (SE.bin (OpS.mod) (SE.bin (OpS.div) (SE.ix (SE.var 3) SE.int) SE.int) (SE.callB (BS.len rfl) T.z_len bo_len (SA.cons (SE.var 2) SA.nil)))) T.z_list)) nd))
  SB.nil)
  (SB.cons (SS.ite (ST.w (SW.and (ST.cmp (OpS.eq rfl (u64 hr)) (SE.callB (BS.len rfl) T.z_len bo_len (SA.cons (SE.var 5) SA.nil)) SE.int) (SW.and (ST.cmp OpS.gt (SE.callB (BS.len rfl) T.z_len bo_len (SA.cons (SE.var 1) SA.nil)) SE.int) (SW.and1 (ST.cmp (OpS.ne rfl (u64 hr)) (SE.bin (OpS.mod) (SE.ix (SE.var 3) (SE.bin (OpS.add rfl) (SE.callB (BS.len rfl) T.z_len bo_len (SA.cons (SE.var 1) SA.nil)) SE.int)) SE.int) SE.int)))))
  (SB.one (SS.set 5 (SE.ofL (SL.lst (SA.cons (SE.ix (SE.var 1) (SE.bin (OpS.mod) (SE.bin (OpS.div) (SE.ix (SE.var 3) (SE.bin (OpS.add rfl) (SE.callB (BS.len rfl) T.z_len bo_len (SA.cons (SE.var 1) SA.nil)) SE.int)) SE.int) (SE.callB (BS.len rfl) T.z_len bo_len (SA.cons (SE.var 1) SA.nil)))) SA.nil))) nd))
  SB.nil)
  (SB.cons (SS.set 6 (SE.bin (OpS.mod) (SE.bin (OpS.div) (SE.ix (SE.var 3) (SE.bin (OpS.add rfl) (SE.callB (BS.len rfl) T.z_len bo_len (SA.cons (SE.var 1) SA.nil)) SE.int)) SE.int) (SE.bin (OpS.add rfl) (SE.callB (BS.len rfl) T.z_len bo_len (SA.cons (SE.var 5) SA.nil)) SE.int)) nd)
  (SB.cons (SS.set 5 (SE.bin (OpS.add rfl) (SE.sl (SE.var 5) (SO.some (SE.var 6)) SO.none) (SE.sl (SE.var 5) SO.none (SO.some (SE.var 6)))) nd)
  (SB.cons (SS.ite (ST.cmp (OpS.eq rfl (u64 hr)) (SE.bin (OpS.mod) (SE.ix (SE.var 3) (SE.bin (OpS.add rfl) (SE.callB (BS.len rfl) T.z_len bo_len (SA.cons (SE.var 1) SA.nil)) SE.int)) SE.int) SE.int)
  (SB.one (SS.set 5 (SE.ofL (SL.lrev (SE.var 5) rfl T.z_list T.z_reversed)) nd))
  SB.nil)
  (SB.one (SS.retX (SX.dat (SE.var 5))))))))))))
theorem sc__law_meets : FnScope ["places", "cuts", "cut", "at"] ["places", "cuts"] (defScope (top 8)) := ⟨rfl, rfl, rfl, by decide +kernel, rfl, by decide +kernel, by decide +kernel⟩
theorem ok__law_meets (T : Pg K.k mg fa fd) : FnOk P w K.k mg base CX0 1 (fa 8) (fd 8) ["places", "cuts"] (spP K 2 m__law_meets) := by
  have nd := sc__law_meets.nd
  refine fn1 (k := 0) (g := g__law_meets) T.f__law_meets sc__law_meets rfl rfl rfl fun cdv A outer s H Ex F0 hr => ?_
  exact (SB.cons (SS.for [2] PassesOwn.never rfl (SI.seq (SE.var 1)) (SG.name 2 nd) (show SB _ _ _ _ b0__law_meets from (SB.one (SS.ite (ST.cmp (OpS.eq rfl (u64 hr)) (SE.callB (BS.len rfl) T.z_len bo_len (SA.cons (SE.ofL (SL.comp (own := [("at", 3)]) rfl nd (SJ.seq (SE.var 0)) (blkOk_by (by kernel_rfl)) (Blk.mk' (fun _ _ _ _ _ => (SG.name 3 nd)) (fun _ _ _ _ _ => (SC.one (ST.cmp (OpS.isin rfl (u65 hr)) (SE.var 3) (SE.var 2)))) (fun _ _ _ _ _ => (SE.var 3))))) SA.nil)) SE.int)
  (SB.one (SS.ret SE.bl))
  SB.nil))))
  (SB.one (SS.ret SE.bl)))
theorem sc__law_due : FnScope ["names", "cuts", "placed", "rows", "mask", "places", "less", "cut", "name", "at", "pair", "k"] ["names", "cuts"] (defScope (top 9)) := ⟨rfl, rfl, rfl, by decide +kernel, rfl, by decide +kernel, by decide +kernel⟩
theorem ok__law_due (T : Pg K.k mg fa fd) : FnOk P w K.k mg base CX0 2 (fa 9) (fd 9) ["names", "cuts"] (spP K 2 m__law_due) := by
  have nd := sc__law_due.nd
  refine fn1 (k := 1) (g := g__law_due) T.f__law_due sc__law_due rfl rfl rfl fun cdv A outer s H Ex F0 hr => ?_
  exact (SB.cons (SS.set 2 (SE.ofL (SL.comp (own := [("cut", 7)]) rfl nd (SJ.seq (SE.var 1)) (blkOk_by (by kernel_rfl)) (Blk.mk' (fun _ _ _ _ _ => (SG.name 7 nd)) (fun _ _ _ _ _ => SC.nil) (fun _ _ _ _ _ => (SE.ofL (SL.comp (own := [("name", 8)]) rfl nd (SJ.seq (SE.var 7)) (blkOk_by (by kernel_rfl)) (Blk.mk' (fun _ _ _ _ _ => (SG.name 8 nd)) (fun _ _ _ _ _ => SC.nil) (fun _ _ _ _ _ => (SE.index (SE.var 0) (SE.var 8) (u65 hr)))))))))) nd)
  (SB.cons (SS.setL 3 (SL.lst SA.nil) nd)
  (SB.cons (SS.for [4, 5, 6] PassesOwn.never rfl (SI.range1 (SA.cons (SE.bin (OpS.shl) SE.int (SE.callB (BS.len rfl) T.z_len bo_len (SA.cons (SE.var 0) SA.nil))) SA.nil) T.z_range) (SG.name 4 nd) (show SB _ _ _ _ b0__law_due from (SB.cons (SS.set 5 (SE.ofL (SL.comp (own := [("at", 9)]) rfl nd (SJ.of (SI.range1 (SA.cons (SE.callB (BS.len rfl) T.z_len bo_len (SA.cons (SE.var 0) SA.nil)) SA.nil) T.z_range)) (blkOk_by (by kernel_rfl)) (Blk.mk' (fun _ _ _ _ _ => (SG.name 9 nd)) (fun _ _ _ _ _ => (SC.one (ST.cmp (OpS.eq rfl (u64 hr)) (SE.bin (OpS.and) (SE.bin (OpS.shr) (SE.var 4) (SE.var 9)) SE.int) SE.int))) (fun _ _ _ _ _ => (SE.var 9))))) nd)
  (SB.one (SS.ite (ST.tru (SE.call0 (ok__law_meets T) runB0_nox (hr.mono (by decide)) T.m__law_meets T.f__law_meets.kp T.b__law_meets (SA.cons (SE.var 5) (SA.cons (SE.var 2) SA.nil))))
  (SB.cons (SS.setC (own := [("at", 9)]) 6 rfl nd (SJ.seq (SE.var 5)) (blkOk_by (by kernel_rfl)) (Blk.mk' (fun _ _ _ _ _ => (SG.name 9 nd)) (fun _ _ _ _ _ => (SC.one (ST.tru (SE.call0 (ok__law_meets T) runB0_nox (hr.mono (by decide)) T.m__law_meets T.f__law_meets.kp T.b__law_meets (SA.cons (SE.ofL (SL.comp (own := [("k", 11)]) rfl nd (SJ.seq (SE.var 5)) (blkOk_by (by kernel_rfl)) (Blk.mk' (fun _ _ _ _ _ => (SG.name 11 nd)) (fun _ _ _ _ _ => (SC.one (ST.cmp (OpS.ne rfl (u64 hr)) (SE.var 11) (SE.var 9)))) (fun _ _ _ _ _ => (SE.var 11))))) (SA.cons (SE.var 2) SA.nil)))))) (fun _ _ _ _ _ => (SE.var 9))))
  (SB.one (SS.ite (ST.cmp (OpS.eq rfl (u64 hr)) (SE.callB (BS.len rfl) T.z_len bo_len (SA.cons (SE.var 6) SA.nil)) SE.int)
  (SB.one (SS.app 3 (SE.tup (SA.cons (SE.callB (BS.len rfl) T.z_len bo_len (SA.cons (SE.var 5) SA.nil)) (SA.cons (SE.var 5) SA.nil)))))
  SB.nil)))
  SB.nil)))))
  (SB.one (SS.ret (SE.callT (BS.tuple rfl) T.z_tuple bo_tuple (SA.cons (SE.ofL (SL.comp (own := [("pair", 10)]) rfl nd (SJ.seq (SE.ofL (SL.sorted (SE.var 3) T.z_sorted (u64 hr)))) (blkOk_by (by kernel_rfl)) (Blk.mk' (fun _ _ _ _ _ => (SG.name 10 nd)) (fun _ _ _ _ _ => SC.nil) (fun _ _ _ _ _ => (SE.callT (BS.tuple rfl) T.z_tuple bo_tuple (SA.cons (SE.ofL (SL.comp (own := [("at", 9)]) rfl nd (SJ.seq (SE.ix (SE.var 10) SE.int)) (blkOk_by (by kernel_rfl)) (Blk.mk' (fun _ _ _ _ _ => (SG.name 9 nd)) (fun _ _ _ _ _ => SC.nil) (fun _ _ _ _ _ => (SE.ix (SE.var 0) (SE.var 9)))))) SA.nil)))))) SA.nil)))))))
theorem sc__law_is_rows : FnScope ["told", "row", "name"] ["told"] (defScope (top 10)) := ⟨rfl, rfl, rfl, by decide +kernel, rfl, by decide +kernel, by decide +kernel⟩
theorem ok__law_is_rows (T : Pg K.k mg fa fd) : FnOk P w K.k mg base CX0 1 (fa 10) (fd 10) ["told"] (spP K 1 m__law_is_rows) := by
  have nd := sc__law_is_rows.nd
  refine fn1 (k := 0) (g := g__law_is_rows) T.f__law_is_rows sc__law_is_rows rfl rfl rfl fun cdv A outer s H Ex F0 hr => ?_
  exact (SB.cons (SS.ite (ST.not (ST.tru (SE.isi "tuple" (SE.var 0) T.z_isinstance T.z_tuple bo_tuple)))
  (SB.one (SS.ret SE.bl))
  SB.nil)
  (SB.cons (SS.for [1] PassesOwn.never rfl (SI.seq (SE.var 0)) (SG.name 1 nd) (show SB _ _ _ _ b0__law_is_rows from (SB.one (SS.ite (ST.w (SW.or (ST.not (ST.tru (SE.isi "tuple" (SE.var 1) T.z_isinstance T.z_tuple bo_tuple))) (SW.or1 (ST.cmp OpS.gt (SE.callB (BS.len rfl) T.z_len bo_len (SA.cons (SE.ofL (SL.comp (own := [("name", 2)]) rfl nd (SJ.seq (SE.var 1)) (blkOk_by (by kernel_rfl)) (Blk.mk' (fun _ _ _ _ _ => (SG.name 2 nd)) (fun _ _ _ _ _ => (SC.one (ST.not (ST.tru (SE.isi "str" (SE.var 2) T.z_isinstance T.z_str bo_str))))) (fun _ _ _ _ _ => (SE.var 2))))) SA.nil)) SE.int))))
  (SB.one (SS.ret SE.bl))
  SB.nil))))
  (SB.one (SS.ret SE.bl))))
theorem sc_law : FnScope ["script", "names", "cuts", "k", "many", "due", "told", "cut"] ["script"] (defScope (top 11)) := ⟨rfl, rfl, rfl, by decide +kernel, rfl, by decide +kernel, by decide +kernel⟩
theorem ok_law (T : Pg K.k mg fa fd) : FnOk P w K.k mg base CX0 3 (fa 11) (fd 11) ["script"] (spP K 1 m_law) := by
  have nd := sc_law.nd
  refine fn1 (k := 2) (g := g_law) T.f_law sc_law rfl rfl rfl fun cdv A outer s H Ex F0 hr => ?_
  exact (SB.cons (SS.set 1 (SE.call0 (ok__law_names T) runB0_nox (hr.mono (by decide)) T.m__law_names T.f__law_names.kp T.b__law_names (SA.cons (SE.var 0) SA.nil)) nd)
  (SB.cons (SS.setL 2 (SL.lst SA.nil) nd)
  (SB.cons (SS.for [3] PassesOwn.never rfl (SI.range1 (SA.cons (SE.bin (OpS.mod) (SE.callT (BS.int) T.z_int bo_int (SA.cons (SE.call0 (ok__law_cell T) runB0_nox (hr.mono (by decide)) T.m__law_cell T.f__law_cell.kp T.b__law_cell (SA.cons (SE.var 0) (SA.cons SE.int SA.nil))) SA.nil)) SE.int) SA.nil) T.z_range) (SG.name 3 nd) (show SB _ _ _ _ b0_law from (SB.one (SS.appX 2 (SX.lend0 (ok__law_cut T) (hr.mono (by decide)) T.m__law_cut T.f__law_cut.kp T.b__law_cut (SXA.d (SX.dat (SE.call0 (ok__law_cell T) runB0_nox (hr.mono (by decide)) T.m__law_cell T.f__law_cell.kp T.b__law_cell (SA.cons (SE.var 0) (SA.cons (SE.bin (OpS.add rfl) SE.int (SE.var 3)) SA.nil)))) (SXA.d (SX.dat (SE.var 1)) (SXA.s 2 SXA.nil))))))))
  (SB.cons (SS.for [4, 5, 6] PassesOwn.never rfl (SI.seq (SE.ofL (SL.lst (SA.cons (SE.callB (BS.len rfl) T.z_len bo_len (SA.cons (SE.var 2) SA.nil)) (SA.cons (SE.bin (OpS.div) (SE.callB (BS.len rfl) T.z_len bo_len (SA.cons (SE.var 2) SA.nil)) SE.int) (SA.cons SE.int (SA.cons (SE.callB (BS.len rfl) T.z_len bo_len (SA.cons (SE.var 2) SA.nil)) SA.nil))))))) (SG.name 4 nd) (show SB _ _ _ _ b1_law from (SB.cons (SS.set 5 (SE.call0 (ok__law_due T) runB0_nox (hr.mono (by decide)) T.m__law_due T.f__law_due.kp T.b__law_due (SA.cons (SE.var 1) (SA.cons (SE.sl (SE.var 2) SO.none (SO.some (SE.var 4))) SA.nil))) nd)
  (SB.cons (SS.set 6 (SE.call0 (ok_hitting_sets T) runB0_nox (hr.mono (by decide)) T.m_hitting_sets T.f_hitting_sets.kp T.b_hitting_sets (SA.cons (SE.callT (BS.tuple rfl) T.z_tuple bo_tuple (SA.cons (SE.var 1) SA.nil)) (SA.cons (SE.callT (BS.tuple rfl) T.z_tuple bo_tuple (SA.cons (SE.ofL (SL.comp (own := [("cut", 7)]) rfl nd (SJ.seq (SE.sl (SE.var 2) SO.none (SO.some (SE.var 4)))) (blkOk_by (by kernel_rfl)) (Blk.mk' (fun _ _ _ _ _ => (SG.name 7 nd)) (fun _ _ _ _ _ => SC.nil) (fun _ _ _ _ _ => (SE.callT (BS.tuple rfl) T.z_tuple bo_tuple (SA.cons (SE.var 7) SA.nil)))))) SA.nil)) SA.nil))) nd)
  (SB.one (SS.ite (ST.w (SW.or (ST.not (ST.tru (SE.call0 (ok__law_is_rows T) runB0_nox (hr.mono (by decide)) T.m__law_is_rows T.f__law_is_rows.kp T.b__law_is_rows (SA.cons (SE.var 6) SA.nil)))) (SW.or1 (ST.cmp (OpS.ne rfl (u64 hr)) (SE.var 6) (SE.var 5)))))
  (SB.one (SS.ret SE.bl))
  SB.nil))))))
  (SB.one (SS.ret SE.bl))))))
end
end Law

set_option Elab.async false
set_option linter.all false
set_option maxRecDepth 100000
set_option maxHeartbeats 4000000
namespace Law
open PySem L2 Z
theorem all_mk {l : PySem.W.OpenLaw} {w : World} {K : PySem.W.Frag} {h : Heap} {mg : Str → Option Value} {fa0 f1 f2 f4 f5 f6 f7 f8 f9 f10 f11 : Addr} (X : K.In h) (G : h.Ns mainGlobals mg) (hfa : mg "law" = some (.ref fa0))
    {od1 an1 od2 an2 od4 an4 od5 an5 od6 an6 od7 an7 od8 an8 od9 an9 od10 an10 od11 an11 : Option Addr} {sl1 sl2 sl4 sl5 sl6 sl7 sl8 sl9 sl10 sl11 : Array (Option Value)} {oc1 kV1 dc1 pm1 cd1 ct1 oc2 kV2 dc2 pm2 cd2 ct2 oc4 kV4 dc4 pm4 cd4 ct4 oc5 kV5 dc5 pm5 cd5 ct5 oc6 kV6 dc6 pm6 cd6 ct6 oc7 kV7 dc7 pm7 cd7 ct7 oc8 kV8 dc8 pm8 cd8 ct8 oc9 kV9 dc9 pm9 cd9 ct9 oc10 kV10 dc10 pm10 cd10 ct10 oc11 kV11 dc11 pm11 cd11 ct11 : Value}
    (a1 : PySem.W.nsIn K mainGlobals "without_larger" = some (some (.ref f1))) (l1 : K.lookup f1 = some ⟨oc1, od1, .func (PySem.W.fnOf "without_larger" "without_larger" (defArgs (top 1)) (defBody (top 1)) (defScope (top 1)) .none kV1 dc1 pm1 an1 cd1 ct1), sl1⟩) (c1 : PySem.W.codeIn K cd1 "without_larger" = true) (k1 : PySem.W.keepIn K (.ref f1) = true)
    (a2 : PySem.W.nsIn K mainGlobals "hitting_sets" = some (some (.ref f2))) (l2 : K.lookup f2 = some ⟨oc2, od2, .func (PySem.W.fnOf "hitting_sets" "hitting_sets" (defArgs (top 2)) (defBody (top 2)) (defScope (top 2)) .none kV2 dc2 pm2 an2 cd2 ct2), sl2⟩) (c2 : PySem.W.codeIn K cd2 "hitting_sets" = true) (k2 : PySem.W.keepIn K (.ref f2) = true)
    (a4 : PySem.W.nsIn K mainGlobals "_law_cell" = some (some (.ref f4))) (l4 : K.lookup f4 = some ⟨oc4, od4, .func (PySem.W.fnOf "_law_cell" "_law_cell" (defArgs (top 4)) (defBody (top 4)) (defScope (top 4)) .none kV4 dc4 pm4 an4 cd4 ct4), sl4⟩) (c4 : PySem.W.codeIn K cd4 "_law_cell" = true) (k4 : PySem.W.keepIn K (.ref f4) = true)
    (a5 : PySem.W.nsIn K mainGlobals "_law_numbers" = some (some (.ref f5))) (l5 : K.lookup f5 = some ⟨oc5, od5, .func (PySem.W.fnOf "_law_numbers" "_law_numbers" (defArgs (top 5)) (defBody (top 5)) (defScope (top 5)) .none kV5 dc5 pm5 an5 cd5 ct5), sl5⟩) (c5 : PySem.W.codeIn K cd5 "_law_numbers" = true) (k5 : PySem.W.keepIn K (.ref f5) = true)
    (a6 : PySem.W.nsIn K mainGlobals "_law_names" = some (some (.ref f6))) (l6 : K.lookup f6 = some ⟨oc6, od6, .func (PySem.W.fnOf "_law_names" "_law_names" (defArgs (top 6)) (defBody (top 6)) (defScope (top 6)) .none kV6 dc6 pm6 an6 cd6 ct6), sl6⟩) (c6 : PySem.W.codeIn K cd6 "_law_names" = true) (k6 : PySem.W.keepIn K (.ref f6) = true)
    (a7 : PySem.W.nsIn K mainGlobals "_law_cut" = some (some (.ref f7))) (l7 : K.lookup f7 = some ⟨oc7, od7, .func (PySem.W.fnOf "_law_cut" "_law_cut" (defArgs (top 7)) (defBody (top 7)) (defScope (top 7)) .none kV7 dc7 pm7 an7 cd7 ct7), sl7⟩) (c7 : PySem.W.codeIn K cd7 "_law_cut" = true) (k7 : PySem.W.keepIn K (.ref f7) = true)
    (a8 : PySem.W.nsIn K mainGlobals "_law_meets" = some (some (.ref f8))) (l8 : K.lookup f8 = some ⟨oc8, od8, .func (PySem.W.fnOf "_law_meets" "_law_meets" (defArgs (top 8)) (defBody (top 8)) (defScope (top 8)) .none kV8 dc8 pm8 an8 cd8 ct8), sl8⟩) (c8 : PySem.W.codeIn K cd8 "_law_meets" = true) (k8 : PySem.W.keepIn K (.ref f8) = true)
    (a9 : PySem.W.nsIn K mainGlobals "_law_due" = some (some (.ref f9))) (l9 : K.lookup f9 = some ⟨oc9, od9, .func (PySem.W.fnOf "_law_due" "_law_due" (defArgs (top 9)) (defBody (top 9)) (defScope (top 9)) .none kV9 dc9 pm9 an9 cd9 ct9), sl9⟩) (c9 : PySem.W.codeIn K cd9 "_law_due" = true) (k9 : PySem.W.keepIn K (.ref f9) = true)
    (a10 : PySem.W.nsIn K mainGlobals "_law_is_rows" = some (some (.ref f10))) (l10 : K.lookup f10 = some ⟨oc10, od10, .func (PySem.W.fnOf "_law_is_rows" "_law_is_rows" (defArgs (top 10)) (defBody (top 10)) (defScope (top 10)) .none kV10 dc10 pm10 an10 cd10 ct10), sl10⟩) (c10 : PySem.W.codeIn K cd10 "_law_is_rows" = true) (k10 : PySem.W.keepIn K (.ref f10) = true)
    (a11 : PySem.W.nsIn K mainGlobals "law" = some (some (.ref f11))) (l11 : K.lookup f11 = some ⟨oc11, od11, .func (PySem.W.fnOf "law" "law" (defArgs (top 11)) (defBody (top 11)) (defScope (top 11)) .none kV11 dc11 pm11 an11 cd11 ct11), sl11⟩) (c11 : PySem.W.codeIn K cd11 "law" = true) (k11 : PySem.W.keepIn K (.ref f11) = true)
    (z_abs : PySem.W.nsIn K mainGlobals "abs" = some none)
    (z_all : PySem.W.nsIn K mainGlobals "all" = some none)
    (z_any : PySem.W.nsIn K mainGlobals "any" = some none)
    (z_int : PySem.W.nsIn K mainGlobals "int" = some none)
    (z_isinstance : PySem.W.nsIn K mainGlobals "isinstance" = some none)
    (z_len : PySem.W.nsIn K mainGlobals "len" = some none)
    (z_list : PySem.W.nsIn K mainGlobals "list" = some none)
    (z_range : PySem.W.nsIn K mainGlobals "range" = some none)
    (z_reversed : PySem.W.nsIn K mainGlobals "reversed" = some none)
    (z_sorted : PySem.W.nsIn K mainGlobals "sorted" = some none)
    (z_str : PySem.W.nsIn K mainGlobals "str" = some none)
    (z_tuple : PySem.W.nsIn K mainGlobals "tuple" = some none)
    : ∃ fd : FuncData, (∀ (s : Shared) (v : Value), BindsTo s fd ⟨[v], []⟩ [("script", v)]) ∧ ∀ base : Heap, K.In base → base.Ns mainGlobals mg → FnOk l.prog w K mg base CX0 3 fa0 fd ["script"] (spLaw K) := by
  have e := hfa.symm.trans (PySem.W.mg_of X G a11)
  cases e
  have F1 := fun_mk (st := top 1) l1 c1 k1
  have F2 := fun_mk (st := top 2) l2 c2 k2
  have F4 := fun_mk (st := top 4) l4 c4 k4
  have F5 := fun_mk (st := top 5) l5 c5 k5
  have F6 := fun_mk (st := top 6) l6 c6 k6
  have F7 := fun_mk (st := top 7) l7 c7 k7
  have F8 := fun_mk (st := top 8) l8 c8 k8
  have F9 := fun_mk (st := top 9) l9 c9 k9
  have F10 := fun_mk (st := top 10) l10 c10 k10
  have F11 := fun_mk (st := top 11) l11 c11 k11
  have T : Pg K mg (fun i => if i = 1 then f1 else if i = 2 then f2 else if i = 4 then f4 else if i = 5 then f5 else if i = 6 then f6 else if i = 7 then f7 else if i = 8 then f8 else if i = 9 then f9 else if i = 10 then f10 else if i = 11 then fa0 else 0) (fun i => if i = 1 then PySem.W.fnOf "without_larger" "without_larger" (defArgs (top 1)) (defBody (top 1)) (defScope (top 1)) .none kV1 dc1 pm1 an1 cd1 ct1 else if i = 2 then PySem.W.fnOf "hitting_sets" "hitting_sets" (defArgs (top 2)) (defBody (top 2)) (defScope (top 2)) .none kV2 dc2 pm2 an2 cd2 ct2 else if i = 4 then PySem.W.fnOf "_law_cell" "_law_cell" (defArgs (top 4)) (defBody (top 4)) (defScope (top 4)) .none kV4 dc4 pm4 an4 cd4 ct4 else if i = 5 then PySem.W.fnOf "_law_numbers" "_law_numbers" (defArgs (top 5)) (defBody (top 5)) (defScope (top 5)) .none kV5 dc5 pm5 an5 cd5 ct5 else if i = 6 then PySem.W.fnOf "_law_names" "_law_names" (defArgs (top 6)) (defBody (top 6)) (defScope (top 6)) .none kV6 dc6 pm6 an6 cd6 ct6 else if i = 7 then PySem.W.fnOf "_law_cut" "_law_cut" (defArgs (top 7)) (defBody (top 7)) (defScope (top 7)) .none kV7 dc7 pm7 an7 cd7 ct7 else if i = 8 then PySem.W.fnOf "_law_meets" "_law_meets" (defArgs (top 8)) (defBody (top 8)) (defScope (top 8)) .none kV8 dc8 pm8 an8 cd8 ct8 else if i = 9 then PySem.W.fnOf "_law_due" "_law_due" (defArgs (top 9)) (defBody (top 9)) (defScope (top 9)) .none kV9 dc9 pm9 an9 cd9 ct9 else if i = 10 then PySem.W.fnOf "_law_is_rows" "_law_is_rows" (defArgs (top 10)) (defBody (top 10)) (defScope (top 10)) .none kV10 dc10 pm10 an10 cd10 ct10 else if i = 11 then PySem.W.fnOf "law" "law" (defArgs (top 11)) (defBody (top 11)) (defScope (top 11)) .none kV11 dc11 pm11 an11 cd11 ct11 else PySem.W.fnOf "law" "law" (defArgs (top 11)) (defBody (top 11)) (defScope (top 11)) .none kV11 dc11 pm11 an11 cd11 ct11) := {
    z_abs := PySem.W.mg_none_of X G z_abs
    z_all := PySem.W.mg_none_of X G z_all
    z_any := PySem.W.mg_none_of X G z_any
    z_int := PySem.W.mg_none_of X G z_int
    z_isinstance := PySem.W.mg_none_of X G z_isinstance
    z_len := PySem.W.mg_none_of X G z_len
    z_list := PySem.W.mg_none_of X G z_list
    z_range := PySem.W.mg_none_of X G z_range
    z_reversed := PySem.W.mg_none_of X G z_reversed
    z_sorted := PySem.W.mg_none_of X G z_sorted
    z_str := PySem.W.mg_none_of X G z_str
    z_tuple := PySem.W.mg_none_of X G z_tuple
    f_without_larger := F1
    m_without_larger := PySem.W.mg_of X G a1
    b_without_larger := F1.binds (ps := ["sets"]) fun _ _ _ _ _ _ us hl => match us, hl with | [_], _ => rfl
    f_hitting_sets := F2
    m_hitting_sets := PySem.W.mg_of X G a2
    b_hitting_sets := F2.binds (ps := ["names", "cuts"]) fun _ _ _ _ _ _ us hl => match us, hl with | [_, _], _ => rfl
    f__law_cell := F4
    m__law_cell := PySem.W.mg_of X G a4
    b__law_cell := F4.binds (ps := ["script", "k"]) fun _ _ _ _ _ _ us hl => match us, hl with | [_, _], _ => rfl
    f__law_numbers := F5
    m__law_numbers := PySem.W.mg_of X G a5
    b__law_numbers := F5.binds (ps := ["cell", "many", "count"]) fun _ _ _ _ _ _ us hl => match us, hl with | [_, _, _], _ => rfl
    f__law_names := F6
    m__law_names := PySem.W.mg_of X G a6
    b__law_names := F6.binds (ps := ["script"]) fun _ _ _ _ _ _ us hl => match us, hl with | [_], _ => rfl
    f__law_cut := F7
    m__law_cut := PySem.W.mg_of X G a7
    b__law_cut := F7.binds (ps := ["cell", "names", "earlier"]) fun _ _ _ _ _ _ us hl => match us, hl with | [_, _, _], _ => rfl
    f__law_meets := F8
    m__law_meets := PySem.W.mg_of X G a8
    b__law_meets := F8.binds (ps := ["places", "cuts"]) fun _ _ _ _ _ _ us hl => match us, hl with | [_, _], _ => rfl
    f__law_due := F9
    m__law_due := PySem.W.mg_of X G a9
    b__law_due := F9.binds (ps := ["names", "cuts"]) fun _ _ _ _ _ _ us hl => match us, hl with | [_, _], _ => rfl
    f__law_is_rows := F10
    m__law_is_rows := PySem.W.mg_of X G a10
    b__law_is_rows := F10.binds (ps := ["told"]) fun _ _ _ _ _ _ us hl => match us, hl with | [_], _ => rfl
    f_law := F11
    m_law := PySem.W.mg_of X G a11
    b_law := F11.binds (ps := ["script"]) fun _ _ _ _ _ _ us hl => match us, hl with | [_], _ => rfl
  }
  exact ⟨PySem.W.fnOf "law" "law" (defArgs (top 11)) (defBody (top 11)) (defScope (top 11)) .none kV11 dc11 pm11 an11 cd11 ct11, fun s v => .of_eq rfl, fun base _ _ => law_of (ok_law (K := ⟨K, fun _ => 0, fun _ => 0⟩) T) law_true⟩
end Law
open PySem PySem.W PyProof.Rows in
set_option maxRecDepth 100000 in
set_option maxHeartbeats 0 in
theorem PySem.Challenge.cw_samebytesanywhere_k07_hitting_sets_exact_holds : PySem.Challenge.rw_samebytesanywhere_k07_hitting_sets_exact.Holds := by
  w_on; o_law; k_head; (case hw => w_witness2)
  k_fill
  refine Z.walk (k := 3) (l := PySem.Challenge.rw_samebytesanywhere_k07_hitting_sets_exact) rfl rfl ⟨rfl, by decide, by decide⟩ (fun w h Y => PySem.W.kIn_of Y) ?F
  case F =>
    intro w mg fa h KX G hmg
    refine' Law.all_mk KX G hmg ?a1 ?l1 ?c1 ?k1 ?a2 ?l2 ?c2 ?k2 ?a4 ?l4 ?c4 ?k4 ?a5 ?l5 ?c5 ?k5 ?a6 ?l6 ?c6 ?k6 ?a7 ?l7 ?c7 ?k7 ?a8 ?l8 ?c8 ?k8 ?a9 ?l9 ?c9 ?k9 ?a10 ?l10 ?c10 ?k10 ?a11 ?l11 ?c11 ?k11 ?z_abs ?z_all ?z_any ?z_int ?z_isinstance ?z_len ?z_list ?z_range ?z_reversed ?z_sorted ?z_str ?z_tuple
    (case a1 => k_is)
    (case l1 => k_is)
    (case c1 => k_is)
    (case k1 => k_is)
    (case a2 => k_is)
    (case l2 => k_is)
    (case c2 => k_is)
    (case k2 => k_is)
    (case a4 => k_is)
    (case l4 => k_is)
    (case c4 => k_is)
    (case k4 => k_is)
    (case a5 => k_is)
    (case l5 => k_is)
    (case c5 => k_is)
    (case k5 => k_is)
    (case a6 => k_is)
    (case l6 => k_is)
    (case c6 => k_is)
    (case k6 => k_is)
    (case a7 => k_is)
    (case l7 => k_is)
    (case c7 => k_is)
    (case k7 => k_is)
    (case a8 => k_is)
    (case l8 => k_is)
    (case c8 => k_is)
    (case k8 => k_is)
    (case a9 => k_is)
    (case l9 => k_is)
    (case c9 => k_is)
    (case k9 => k_is)
    (case a10 => k_is)
    (case l10 => k_is)
    (case c10 => k_is)
    (case k10 => k_is)
    (case a11 => k_is)
    (case l11 => k_is)
    (case c11 => k_is)
    (case k11 => k_is)
    (case z_abs => k_is)
    (case z_all => k_is)
    (case z_any => k_is)
    (case z_int => k_is)
    (case z_isinstance => k_is)
    (case z_len => k_is)
    (case z_list => k_is)
    (case z_range => k_is)
    (case z_reversed => k_is)
    (case z_sorted => k_is)
    (case z_str => k_is)
    (case z_tuple => k_is)

