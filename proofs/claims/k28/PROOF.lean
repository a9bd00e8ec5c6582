import PyProof.Rows.All
import Wide.All
import OpenK.AllK
import Wide.FinOn
import HandS.ForMost
import HandS.Walk
import HandS.Flow
import HandS.IsInst
import HandS.TupAny
import HandS.TupLen
import HandS.Rev
import HandS.Deep
import HandS.Exc
import HandS.ExcInit
import HandS.TryOnly
import HandS.WordsExc
import PyProof.StrBlock2
import HandS.More
import HandS.Star
import KE.SortData
import HandS.WideBits
import HandS.Small
import HandS.WordsDict
import HandS.SetKeys
import PyProof.DictMoreH
import KE.GoesEnum
import HandS.Zip
import HandS.Style
import PySem.Challenge.RW_samebytesanywhere_k28_united_texts_and_m
set_option Elab.async false
set_option linter.all false
set_option maxRecDepth 100000
set_option maxHeartbeats 1000000
/-! Z: values as data, without a heap. A def's meaning is a plain function of data; the soundness of each construct is proved once over the hand layer. -/
namespace Z
open PySem L2

/-- data. The o-forms are owned by the frame that runs (they may change); all other forms stand still. -/
inductive D where
  | non | bl (b : Bool) | int (i : Int) | str (x : List Nat)
  | tup (xs : List D) | lst (xs : List D) | olst (xs : List D)
  /-- a dict: t says whether the keys are tuples; the keys, the values -/
  | dic (t : Bool) (ks vs : List D) | odic (t : Bool) (ks vs : List D)
  /-- a set -/
  | set (xs : List D) | oset (xs : List D)
  /-- an instance of class number c: the names of its attributes, their values -/
  | ob (c : Nat) (ns : List String) (vs : List D) | oob (c : Nat) (ns : List String) (vs : List D)
  /-- the law's own list -/
  | scr (ns : List Int)
  /-- what the caller lent: parameter number t -/
  | bor (t : Nat) (d : D)
  /-- a caught exception: its address, its class, its dict, the class's number, its fields -/
  | exn (a : Nat) (cls : Value) (dd : Nat) (c : Nat) (ns : List String) (vs : List D)

/-- outcome of an expression: a value, an exception raised, or nothing known -/
inductive Rs (α : Type) where
  | ok (a : α) | ex (x : D) | un
def Rs.bind {α β : Type} (r : Rs α) (f : α → Rs β) : Rs β := match r with
  | .ok a => f a
  | .ex x => .ex x
  | .un => .un
instance : Monad Rs where
  pure := .ok
  bind := Rs.bind
@[simp] theorem Rs.bind_ok {α β : Type} (a : α) (f : α → Rs β) : Rs.bind (.ok a) f = f a := id rfl
@[simp] theorem Rs.bind_ex {α β : Type} (x : D) (f : α → Rs β) : Rs.bind (.ex x) f = .ex x := id rfl
@[simp] theorem Rs.bind_un {α β : Type} (f : α → Rs β) : Rs.bind .un f = .un := id rfl

def isData : D → Bool
  | .olst _ => false
  | .odic _ _ _ => false
  | .oset _ => false
  | .oob _ _ _ => false
  | .bor _ _ => false
  | .exn _ _ _ _ _ _ => false
  | _ => true

abbrev En := List (Option D)
/-- a text that may stand in the heap -/
structure StrOk (x : List Nat) : Prop where
  len : x.length ≤ sizeLine
  cps : ∀ c ∈ x, c < 1114112

/-- the written part, and where the program's classes stand -/
structure Kx where
  k : PySem.W.Frag
  ca : Nat → Addr
  tg : Nat → Addr := fun _ => 0
variable (K : Kx)
/-- a key of a dict as data -/
def kD : Key → D
  | .inl i => .int i
  | .inr x => .str x.cps.toList
def nmS (ns : List String) (ws : List V) : List (Str × V) := (ns.map Str.ofString).zip ws
/-! ### what stands for what. F: the part of the heap that stands still; H: the heap; the last list: the addresses owned -/
mutual
inductive R (F H : Hp) : D → V → List Addr → Prop
  | non : R F H .non .non []
  | bl (b : Bool) : R F H (.bl b) (.bl b) []
  | int (i : Int) : R F H (.int i) (.int i) []
  | str {x : List Nat} : StrOk x → R F H (.str x) (.str ⟨x.toArray⟩) []
  | tup {a : Addr} {vs : List V} {ds : List D} : F a = some (.tup vs) → RL F H ds vs [] → ds.length ≤ 16777216 → R F H (.tup ds) (.ref a) []
  | lst {a : Addr} {vs : List V} {ds : List D} : F a = some (.lst vs) → RL F H ds vs [] → ds.length ≤ 16777216 → R F H (.lst ds) (.ref a) []
  | scr {a : Addr} {ns : List Int} : SqL K.k F a (ns.map V.int) → ns.length ≤ 16777216 → R F H (.scr ns) (.ref a) []
  | olst {a : Addr} {vs : List V} {ds : List D} {fp : List Addr} : H a = some (.lst vs) → RL F H ds vs fp → ds.length ≤ 16777216 → R F H (.olst ds) (.ref a) (a :: fp)
  | dicK {a : Addr} {ks : List Key} {vs : List V} {ds : List D} : F a = some (.dK (ks.zip vs)) → RL F H ds vs [] → ks.length = ds.length → ks.Nodup → R F H (.dic false (ks.map kD) ds) (.ref a) []
  | dicT {a : Addr} {ks : List (List Key)} {vs : List V} {ds : List D} : F a = some (.dT (ks.zip vs)) → RL F H ds vs [] → ks.length = ds.length → ks.Nodup → R F H (.dic true (ks.map fun k => .tup (k.map kD)) ds) (.ref a) []
  | odicK {a : Addr} {ks : List Key} {vs : List V} {ds : List D} {fp : List Addr} : H a = some (.dK (ks.zip vs)) → RL F H ds vs fp → ks.length = ds.length → ks.Nodup → R F H (.odic false (ks.map kD) ds) (.ref a) (a :: fp)
  | odicT {a : Addr} {ks : List (List Key)} {vs : List V} {ds : List D} {fp : List Addr} : H a = some (.dT (ks.zip vs)) → RL F H ds vs fp → ks.length = ds.length → ks.Nodup → R F H (.odic true (ks.map fun k => .tup (k.map kD)) ds) (.ref a) (a :: fp)
  | ob {a dx : Addr} {c : Nat} {ns : List String} {vs : List V} {ds : List D} : F a = some (.ins (K.ca c) dx (nmS ns vs)) → F dx = some (.own a) → RL F H ds vs [] → ns.length = ds.length → R F H (.ob c ns ds) (.ref a) []
  | oob {a dx : Addr} {c : Nat} {ns : List String} {vs : List V} {ds : List D} {fp : List Addr} : H a = some (.ins (K.ca c) dx (nmS ns vs)) → H dx = some (.own a) → RL F H ds vs fp → ns.length = ds.length → R F H (.oob c ns ds) (.ref a) (a :: dx :: fp)
  | bor {t : Nat} {d : D} {v : V} {fp : List Addr} : R F H d v fp → v = .ref (K.tg t) → fp ≠ [] → R F H (.bor t d) v fp
  | exn {a dd : Addr} {c : Nat} {ns : List String} {vs : List V} {ds : List D} {fs : List (Str × V)} : F dd = some (.xd fs) → RL F H ds vs [] → (∀ (i : Nat) (n : String) (v : V), ns[i]? = some n → vs[i]? = some v → fs.lookup (Str.ofString n) = some v) → R F H (.exn a (.ref (K.ca c)) dd c ns ds) (.ref a) []
inductive RL (F H : Hp) : List D → List V → List Addr → Prop
  | nil : RL F H [] [] []
  | cons {d : D} {ds : List D} {v : V} {vs : List V} {fp fq : List Addr} : R F H d v fp → RL F H ds vs fq → RL F H (d :: ds) (v :: vs) (fp ++ fq)
end
variable {K} {F F' F1 F2 H H' H1 H2 : Hp} {d : D} {ds : List D} {v : V} {vs : List V} {fp fq : List Addr}

theorem same_t {K : PySem.W.Frag} {a : Addr} {xs : List V} (e : Same F F') (h : SqT K F a xs) : SqT K F' a xs := by
  rcases h with (h | ⟨o, h⟩) | h
  · exact .inl (.inl (e _ _ h))
  · exact .inl (.inr ⟨o, e _ _ h⟩)
  · exact .inr h

mutual
theorem R.mono (e : Same F F') : ∀ (d : D) {v : V} {fp : List Addr}, (∀ a ∈ fp, H' a = H a) → R K F H d v fp → R K F' H' d v fp
  | .non, _, _, _, h => by cases h; exact .non
  | .bl _, _, _, _, h => by cases h; exact .bl _
  | .int _, _, _, _, h => by cases h; exact .int _
  | .str _, _, _, _, h => by
    cases h with
    | str k => exact .str k
  | .tup ds, _, _, _, h => by
    cases h with
    | tup hs hl hz => exact .tup (e _ _ hs) (RL.mono e ds (fun a z => nomatch z) hl) hz
  | .lst ds, _, _, _, h => by
    cases h with
    | lst hs hl hz => exact .lst (e _ _ hs) (RL.mono e ds (fun a z => nomatch z) hl) hz
  | .olst ds, _, _, k, h => by
    cases h with
    | olst hs hl hz => exact .olst (by rw [k _ List.mem_cons_self]; exact hs) (RL.mono e ds (fun a z => k a (List.mem_cons_of_mem _ z)) hl) hz
  | .scr ns, _, _, _, h => by
    cases h with
    | scr hs hz => exact .scr (e.seq hs) hz
  | .dic t ks ds, _, _, _, h => by
    cases h with
    | dicK hs hl hz hn => exact .dicK (e _ _ hs) (RL.mono e ds (fun a z => nomatch z) hl) hz hn
    | dicT hs hl hz hn => exact .dicT (e _ _ hs) (RL.mono e ds (fun a z => nomatch z) hl) hz hn
  | .odic t ks ds, _, _, k, h => by
    cases h with
    | odicK hs hl hz hn => exact .odicK (by rw [k _ List.mem_cons_self]; exact hs) (RL.mono e ds (fun a z => k a (List.mem_cons_of_mem _ z)) hl) hz hn
    | odicT hs hl hz hn => exact .odicT (by rw [k _ List.mem_cons_self]; exact hs) (RL.mono e ds (fun a z => k a (List.mem_cons_of_mem _ z)) hl) hz hn
  | .set _, _, _, _, h => nomatch h
  | .oset _, _, _, _, h => nomatch h
  | .ob c ns ds, _, _, _, h => by
    cases h with
    | ob hs hd hl hz => exact .ob (e _ _ hs) (e _ _ hd) (RL.mono e ds (fun a z => nomatch z) hl) hz
  | .oob c ns ds, _, _, k, h => by
    cases h with
    | oob hs hd hl hz => exact .oob (by rw [k _ List.mem_cons_self]; exact hs) (by rw [k _ (List.mem_cons_of_mem _ List.mem_cons_self)]; exact hd) (RL.mono e ds (fun a z => k a (List.mem_cons_of_mem _ (List.mem_cons_of_mem _ z))) hl) hz
  | .bor t d, _, _, k, h => by
    cases h with
    | bor h e1 hn => exact .bor (R.mono e d k h) e1 hn
  | .exn a cls dd c ns ds, _, _, _, h => by
    cases h with
    | exn hs hl hz => exact .exn (e _ _ hs) (RL.mono e ds (fun a z => nomatch z) hl) hz
theorem RL.mono (e : Same F F') : ∀ (ds : List D) {vs : List V} {fp : List Addr}, (∀ a ∈ fp, H' a = H a) → RL K F H ds vs fp → RL K F' H' ds vs fp
  | [], _, _, _, h => by cases h; exact .nil
  | d :: ds, _, _, k, h => by
    cases h with
    | cons h1 h2 => exact .cons (R.mono e d (fun a z => k a (List.mem_append_left _ z)) h1) (RL.mono e ds (fun a z => k a (List.mem_append_right _ z)) h2)
end
mutual
theorem R.fp_some : ∀ (d : D) {v : V} {fp : List Addr}, R K F H d v fp → ∀ a ∈ fp, ∃ o, H a = some o
  | .non, _, _, h, _, z => by cases h; cases z
  | .bl _, _, _, h, _, z => by cases h; cases z
  | .int _, _, _, h, _, z => by cases h; cases z
  | .str _, _, _, h, _, z => by cases h; cases z
  | .tup ds, _, _, h, _, z => by cases h; cases z
  | .lst ds, _, _, h, _, z => by cases h; cases z
  | .olst ds, _, _, h, a, z => by
    cases h with
    | olst hs hl =>
      rcases List.mem_cons.mp z with z | z
      · rw [z]; exact ⟨_, hs⟩
      · exact RL.fp_some ds hl a z
  | .scr _, _, _, h, _, z => by cases h; cases z
  | .dic _ _ _, _, _, h, _, z => by cases h <;> cases z
  | .odic t ks ds, _, _, h, a, z => by
    cases h with
    | odicK hs hl =>
      rcases List.mem_cons.mp z with z | z
      · rw [z]; exact ⟨_, hs⟩
      · exact RL.fp_some ds hl a z
    | odicT hs hl =>
      rcases List.mem_cons.mp z with z | z
      · rw [z]; exact ⟨_, hs⟩
      · exact RL.fp_some ds hl a z
  | .set _, _, _, h, _, _ => nomatch h
  | .oset _, _, _, h, _, _ => nomatch h
  | .ob _ _ _, _, _, h, _, z => by cases h; cases z
  | .oob c ns ds, _, _, h, a, z => by
    cases h with
    | oob hs hd hl =>
      rcases List.mem_cons.mp z with z | z
      · rw [z]; exact ⟨_, hs⟩
      · rcases List.mem_cons.mp z with z | z
        · rw [z]; exact ⟨_, hd⟩
        · exact RL.fp_some ds hl a z
  | .bor t d, _, _, h, a, z => by
    cases h with
    | bor h e1 => exact R.fp_some d h a z
  | .exn _ _ _ _ _ _, _, _, h, _, z => by cases h; cases z
theorem RL.fp_some : ∀ (ds : List D) {vs : List V} {fp : List Addr}, RL K F H ds vs fp → ∀ a ∈ fp, ∃ o, H a = some o
  | [], _, _, h, _, z => by cases h; cases z
  | d :: ds, _, _, h, a, z => by
    cases h with
    | cons h1 h2 =>
      rcases List.mem_append.mp z with z | z
      · exact R.fp_some d h1 a z
      · exact RL.fp_some ds h2 a z
end
theorem R.data (h : R K F H d v fp) (hd : isData d = true) : fp = [] := by
  cases h <;> first | rfl | cases hd
theorem R.toData (h : R K F H d v fp) (hd : isData d = true) : R K F H d v [] := by
  have e := h.data hd
  rw [e] at h
  exact h
theorem RL.toData : ∀ {ds : List D} {vs : List V} {fp : List Addr}, RL K F H ds vs fp → ds.all isData = true → RL K F H ds vs []
  | _, _, _, .nil, _ => .nil
  | _, _, _, .cons h t, hd => by
    rw [List.all_cons, Bool.and_eq_true] at hd
    exact RL.cons (fp := []) (fq := []) (h.toData hd.1) (RL.toData t hd.2)
theorem RL.len : ∀ {ds : List D} {vs : List V} {fp : List Addr}, RL K F H ds vs fp → vs.length = ds.length
  | _, _, _, .nil => rfl
  | _, _, _, .cons _ t => congrArg (· + 1) (RL.len t)
theorem RL.tail0 (h : RL K F H (d :: ds) (v :: vs) []) : R K F H d v [] ∧ RL K F H ds vs [] := by
  generalize e : ([] : List Addr) = fp at h
  cases h with
  | cons h1 h2 =>
    obtain ⟨e1, e2⟩ := List.append_eq_nil_iff.mp e.symm
    subst e1; subst e2
    exact ⟨h1, h2⟩
theorem RL.mk0 (h1 : R K F H d v []) (h2 : RL K F H ds vs []) : RL K F H (d :: ds) (v :: vs) [] := RL.cons (fp := []) (fq := []) h1 h2
theorem RL.inv_cons (h : RL K F H (d :: ds) vs []) : ∃ v vs', vs = v :: vs' ∧ R K F H d v [] ∧ RL K F H ds vs' [] := by
  cases vs with
  | nil => generalize e : ([] : List Addr) = fp at h; cases h
  | cons v vs' => exact ⟨v, vs', rfl, h.tail0⟩
theorem RL.get0 : ∀ {ds : List D} {vs : List V} {i : Nat} {d : D}, RL K F H ds vs [] → ds[i]? = some d → ∃ v, vs[i]? = some v ∧ R K F H d v []
  | [], _, _, _, _, e => by simp at e
  | d :: ds, vs, 0, d', h, e => by
    obtain ⟨v, vs', rfl, h1, h2⟩ := h.inv_cons
    simp at e; subst e
    exact ⟨v, rfl, h1⟩
  | d :: ds, vs, i + 1, d', h, e => by
    obtain ⟨v, vs', rfl, h1, h2⟩ := h.inv_cons
    obtain ⟨u, e1, e2⟩ := RL.get0 (i := i) h2 (by simpa using e)
    exact ⟨u, by simpa using e1, e2⟩
theorem RL.app0 : ∀ {ds es : List D} {vs us : List V}, RL K F H ds vs [] → RL K F H es us [] → RL K F H (ds ++ es) (vs ++ us) []
  | [], _, vs, _, h, k => by
    have : vs = [] := by cases vs with | nil => rfl | cons a b => exact absurd h.len (by simp)
    subst this
    exact k
  | d :: ds, es, vs, us, h, k => by
    obtain ⟨v, vs', rfl, h1, h2⟩ := h.inv_cons
    exact RL.mk0 h1 (RL.app0 h2 k)
theorem RL.drop0 : ∀ {ds : List D} {vs : List V} (n : Nat), RL K F H ds vs [] → RL K F H (ds.drop n) (vs.drop n) []
  | _, _, 0, h => h
  | [], vs, n + 1, h => by
    have : vs = [] := by cases vs with | nil => rfl | cons a b => exact absurd h.len (by simp)
    subst this
    exact h
  | d :: ds, vs, n + 1, h => by
    obtain ⟨v, vs', rfl, h1, h2⟩ := h.inv_cons
    exact RL.drop0 n h2
theorem RL.take0 : ∀ {ds : List D} {vs : List V} (n : Nat), RL K F H ds vs [] → RL K F H (ds.take n) (vs.take n) []
  | ds, vs, 0, h => by simp; exact .nil
  | [], vs, n + 1, h => by
    have : vs = [] := by cases vs with | nil => rfl | cons a b => exact absurd h.len (by simp)
    subst this
    exact h
  | d :: ds, vs, n + 1, h => by
    obtain ⟨v, vs', rfl, h1, h2⟩ := h.inv_cons
    exact RL.mk0 h1 (RL.take0 n h2)
theorem RL.rev0 : ∀ {ds : List D} {vs : List V}, RL K F H ds vs [] → RL K F H ds.reverse vs.reverse []
  | [], vs, h => by
    have : vs = [] := by cases vs with | nil => rfl | cons a b => exact absurd h.len (by simp)
    subst this
    exact h
  | d :: ds, vs, h => by
    obtain ⟨v, vs', rfl, h1, h2⟩ := h.inv_cons
    rw [List.reverse_cons, List.reverse_cons]
    exact RL.app0 (RL.rev0 h2) (RL.mk0 h1 .nil)
theorem RL.snoc : ∀ {ds : List D} {vs : List V} {fp fq : List Addr} {d : D} {v : V}, RL K F H ds vs fp → R K F H d v fq → RL K F H (ds ++ [d]) (vs ++ [v]) (fp ++ fq)
  | _, _, _, fq, _, _, .nil, k => by
    have q := RL.cons k (RL.nil (K := K) (F := F) (H := H))
    rw [List.append_nil] at q
    exact q
  | _, _, _, fq, _, _, .cons h t, k => by
    rw [List.append_assoc]
    exact RL.cons h (RL.snoc t k)
/-- the heap grows: what was known stays; what stood still, stands still; no elder object becomes still -/
structure Grow (F H F' H' : Hp) : Prop where
  f : Same F F'
  fh : Same F' H'
  h : Same H H'
  o : ∀ a o, H a = some o → F' a = F a
theorem Grow.refl (h : Same F H) : Grow F H F H := ⟨Same.refl _, h, Same.refl _, fun _ _ _ => rfl⟩
theorem Grow.trans (a : Grow F H F1 H1) (b : Grow F1 H1 F2 H2) : Grow F H F2 H2 :=
  ⟨a.f.trans b.f, b.fh, a.h.trans b.h, fun x o e => (b.o x o (a.h x o e)).trans (a.o x o e)⟩
theorem R.grow (g : Grow F H F' H') (h : R K F H d v fp) : R K F' H' d v fp := R.mono g.f d (fun a z => by
  obtain ⟨o, e⟩ := h.fp_some d a z
  rw [e, g.h a o e]) h
theorem RL.grow (g : Grow F H F' H') (h : RL K F H ds vs fp) : RL K F' H' ds vs fp := RL.mono g.f ds (fun a z => by
  obtain ⟨o, e⟩ := h.fp_some ds a z
  rw [e, g.h a o e]) h
/-- a new object that stands still from now on -/
theorem Grow.new {p : Addr} {o : HO} (hs : Same F H) (hp : H p = none) : Grow F H (upd F p o) (upd H p o) where
  f := fun b u e => by rw [upd_ne (ne_of_none (hs b u e) hp)]; exact e
  fh := fun b u e => by
    by_cases hb : b = p
    · subst hb; rw [upd_same] at e ⊢; exact e
    · rw [upd_ne hb] at e ⊢; exact hs b u e
  h := fun b u e => by rw [upd_ne (ne_of_none e hp)]; exact e
  o := fun b u e => by rw [upd_ne (ne_of_none e hp)]
/-- a new object that is not still -/
theorem Grow.own {p : Addr} {o : HO} (hs : Same F H) (hp : H p = none) : Grow F H F (upd H p o) where
  f := Same.refl _
  fh := fun b u e => by rw [upd_ne (ne_of_none (hs b u e) hp)]; exact hs b u e
  h := fun b u e => by rw [upd_ne (ne_of_none e hp)]; exact e
  o := fun _ _ _ => rfl

/-! ### the frame's state -/
structure Ent where
  K : Kx
  H0 : Hp
  F0 : Hp
  own : Nat → List Addr

inductive RS (K : Kx) (F H : Hp) : En → St → List (List Addr) → Prop
  | nil {σ : St} : RS K F H [] σ []
  | non {env : En} {σ : St} {fps : List (List Addr)} {x : Option V} : RS K F H env σ fps → RS K F H (none :: env) (x :: σ) ([] :: fps)
  | som {env : En} {σ : St} {fps : List (List Addr)} {d : D} {v : V} {fp : List Addr} : R K F H d v fp → RS K F H env σ fps → RS K F H (some d :: env) (some v :: σ) (fp :: fps)

structure Stt (E : Ent) (F : Hp) (env : En) (σ : St) (H : Hp) : Prop where
  le0 : Same E.F0 F
  fH : Same F H
  keep : ∀ a o, E.H0 a = some o → (∀ i, a ∉ E.own i) → H a = some o
  old : ∀ a o, E.H0 a = some o → (∀ i, a ∉ E.own i) → F a = E.F0 a
  ownS : ∀ i a, a ∈ E.own i → ∃ o, H a = some o
  rep : ∃ fps, RS E.K F H env σ fps ∧ fps.flatten.Nodup ∧ ∀ i fp, fps[i]? = some fp → ∀ a ∈ fp, F a = none ∧ (E.H0 a = none ∨ a ∈ E.own i)

variable {E : Ent} {env : En} {σ : St} {fps : List (List Addr)}
theorem RS.get : ∀ {env : En} {σ : St} {fps : List (List Addr)} {i : Nat} {d : D}, RS K F H env σ fps → env[i]? = some (some d) → ∃ v fp, σ[i]? = some (some v) ∧ fps[i]? = some fp ∧ R K F H d v fp
  | _, _, _, _, _, .nil, e => by simp at e
  | _, _, _, 0, _, .non _, e => by simp at e
  | _, _, _, 0, _, .som r _, e => by
    simp at e; subst e
    exact ⟨_, _, rfl, rfl, r⟩
  | _, _, _, i + 1, _, .non t, e => by
    obtain ⟨v, fp, h1, h2, h3⟩ := RS.get (i := i) t (by simpa using e)
    exact ⟨v, fp, by simpa using h1, by simpa using h2, h3⟩
  | _, _, _, i + 1, _, .som _ t, e => by
    obtain ⟨v, fp, h1, h2, h3⟩ := RS.get (i := i) t (by simpa using e)
    exact ⟨v, fp, by simpa using h1, by simpa using h2, h3⟩
theorem RS.set : ∀ {env : En} {σ : St} {fps : List (List Addr)} (i : Nat), RS K F H env σ fps → R K F H d v fp → RS K F H (env.set i (some d)) (σ.set i (some v)) (fps.set i fp)
  | _, _, _, _, .nil, _ => .nil
  | _, _, _, 0, .non t, r => .som r t
  | _, _, _, 0, .som _ t, r => .som r t
  | _, _, _, i + 1, .non t, r => .non (RS.set i t r)
  | _, _, _, i + 1, .som q t, r => .som q (RS.set i t r)
theorem RS.wipe : ∀ {env : En} {σ : St} {fps : List (List Addr)} (i : Nat), RS K F H env σ fps → RS K F H (env.set i none) σ (fps.set i [])
  | _, _, _, _, .nil => .nil
  | _, _, _, 0, .non t => .non t
  | _, _, _, 0, .som _ t => .non t
  | _, _, _, i + 1, .non t => .non (RS.wipe i t)
  | _, _, _, i + 1, .som q t => .som q (RS.wipe i t)
theorem RS.wipe2 : ∀ {env : En} {σ : St} {fps : List (List Addr)} (i : Nat), RS K F H env σ fps → RS K F H (env.set i none) (σ.set i none) (fps.set i [])
  | _, _, _, _, .nil => .nil
  | _, _, _, 0, .non t => .non t
  | _, _, _, 0, .som _ t => .non t
  | _, _, _, i + 1, .non t => .non (RS.wipe2 i t)
  | _, _, _, i + 1, .som q t => .som q (RS.wipe2 i t)
theorem RS.mono : ∀ {env : En} {σ : St} {fps : List (List Addr)}, Same F F' → (∀ fp ∈ fps, ∀ a ∈ fp, H' a = H a) → RS K F H env σ fps → RS K F' H' env σ fps
  | _, _, _, _, _, .nil => .nil
  | _, _, _, e, k, .non t => .non (RS.mono e (fun fp z => k fp (List.mem_cons_of_mem _ z)) t)
  | _, _, _, e, k, .som r t => .som (R.mono e _ (k _ List.mem_cons_self) r) (RS.mono e (fun fp z => k fp (List.mem_cons_of_mem _ z)) t)
theorem RS.fp_some : ∀ {env : En} {σ : St} {fps : List (List Addr)}, RS K F H env σ fps → ∀ fp ∈ fps, ∀ a ∈ fp, ∃ o, H a = some o
  | _, _, _, .nil, _, z, _, _ => nomatch z
  | _, _, _, .non t, fp, z, a, y => by
    rcases List.mem_cons.mp z with z | z
    · subst z; cases y
    · exact RS.fp_some t fp z a y
  | _, _, _, .som r t, fp, z, a, y => by
    rcases List.mem_cons.mp z with z | z
    · subst z; exact r.fp_some _ a y
    · exact RS.fp_some t fp z a y
theorem Stt.grow (S : Stt E F env σ H) (g : Grow F H F' H') : Stt E F' env σ H' := by
  obtain ⟨fps, r, nd, fr⟩ := S.rep
  have ks : ∀ fp ∈ fps, ∀ a ∈ fp, H' a = H a := fun fp hf a ha => by
    obtain ⟨o, e⟩ := r.fp_some fp hf a ha
    rw [e, g.h a o e]
  refine ⟨S.le0.trans g.f, g.fh, fun a o e n => g.h a o (S.keep a o e n), fun a o e n => (g.o a o (S.keep a o e n)).trans (S.old a o e n), fun i a ha => (S.ownS i a ha).imp fun o e => g.h a o e, fps, r.mono g.f ks, nd, fun i fp hi a ha => ?_⟩
  obtain ⟨h1, h2⟩ := fr i fp hi a ha
  obtain ⟨o, e⟩ := r.fp_some fp (List.mem_of_getElem? hi) a ha
  exact ⟨(g.o a o e).trans h1, h2⟩
theorem Stt.nilEnv (S : Stt E F env σ H) : Stt E F [] σ H := ⟨S.le0, S.fH, S.keep, S.old, S.ownS, [], .nil, List.nodup_nil, fun i fp h => by simp at h⟩
theorem flat_set_sub {α : Type} : ∀ {l : List (List α)} {i : Nat} {x : List α}, (l.set i x).flatten.Sublist (l.flatten) ∨ True := .inr trivial
theorem mem_set_of {α : Type} {l : List α} {i j : Nat} {x y : α} (h : (l.set i x)[j]? = some y) : (i = j ∧ y = x) ∨ l[j]? = some y := by
  by_cases e : i = j
  · subst e
    by_cases hl : i < l.length
    · rw [List.getElem?_set_self hl] at h
      exact .inl ⟨rfl, (Option.some.inj h).symm⟩
    · rw [List.getElem?_eq_none (by simpa using hl)] at h; cases h
  · rw [List.getElem?_set_ne e] at h
    exact .inr h
/-- the owned addresses stay apart where a slot's become fewer, or new ones come in -/
theorem nodup_set {α : Type} : ∀ {l : List (List α)} {i : Nat} {x : List α}, l.flatten.Nodup → x.Nodup → (∀ j y, j ≠ i → l[j]? = some y → ∀ a ∈ y, a ∉ x) → (l.set i x).flatten.Nodup
  | [], _, _, h, _, _ => h
  | y :: l, 0, x, h, hx, k => by
    rw [List.flatten_cons] at h
    obtain ⟨h1, h2, h3⟩ := List.nodup_append.mp h
    show (x :: l).flatten.Nodup
    rw [List.flatten_cons]
    refine List.nodup_append.mpr ⟨hx, h2, fun a ha b hb e => ?_⟩
    subst e
    obtain ⟨z, hz, haz⟩ := List.mem_flatten.mp hb
    obtain ⟨j, hj⟩ := List.mem_iff_getElem?.mp hz
    exact k (j + 1) z (by simp) (by simpa using hj) a haz ha
  | y :: l, i + 1, x, h, hx, k => by
    rw [List.flatten_cons] at h
    obtain ⟨h1, h2, h3⟩ := List.nodup_append.mp h
    show (y :: l.set i x).flatten.Nodup
    rw [List.flatten_cons]
    refine List.nodup_append.mpr ⟨h1, nodup_set h2 hx (fun j z hj hz a ha => k (j + 1) z (by omega) (by simpa using hz) a ha), fun a ha b hb e => ?_⟩
    subst e
    obtain ⟨z, hz, haz⟩ := List.mem_flatten.mp hb
    obtain ⟨j, hj⟩ := List.mem_iff_getElem?.mp hz
    rcases mem_set_of hj with ⟨e1, e2⟩ | hj
    · subst e2
      exact k 0 y (by omega) (by simp) a ha haz
    · exact h3 a ha a (List.mem_flatten.mpr ⟨z, List.mem_of_getElem? hj, haz⟩) rfl
theorem nodup_get {α : Type} : ∀ {l : List (List α)} {i : Nat} {x : List α}, l.flatten.Nodup → l[i]? = some x → x.Nodup
  | [], _, _, _, e => by simp at e
  | y :: l, 0, x, h, e => by
    simp at e; subst e
    rw [List.flatten_cons] at h
    exact (List.nodup_append.mp h).1
  | y :: l, i + 1, x, h, e => by
    rw [List.flatten_cons] at h
    exact nodup_get (i := i) (List.nodup_append.mp h).2.1 (by simpa using e)
theorem nodup_apart {α : Type} : ∀ {l : List (List α)} {i j : Nat} {x y : List α}, l.flatten.Nodup → i ≠ j → l[i]? = some x → l[j]? = some y → ∀ a ∈ x, a ∉ y
  | [], _, _, _, _, _, _, e, _ => by simp at e
  | z :: l, 0, 0, _, _, _, n, _, _ => absurd rfl n
  | z :: l, 0, j + 1, x, y, h, _, e1, e2 => fun a ha hy => by
    simp at e1; subst e1
    rw [List.flatten_cons] at h
    exact (List.nodup_append.mp h).2.2 a ha a (List.mem_flatten.mpr ⟨y, List.mem_of_getElem? (by simpa using e2), hy⟩) rfl
  | z :: l, i + 1, 0, x, y, h, _, e1, e2 => fun a ha hy => by
    simp at e2; subst e2
    rw [List.flatten_cons] at h
    exact (List.nodup_append.mp h).2.2 a hy a (List.mem_flatten.mpr ⟨x, List.mem_of_getElem? (by simpa using e1), ha⟩) rfl
  | z :: l, i + 1, j + 1, x, y, h, n, e1, e2 => by
    rw [List.flatten_cons] at h
    exact nodup_apart (i := i) (j := j) (List.nodup_append.mp h).2.1 (by omega) (by simpa using e1) (by simpa using e2)
/-- a slot takes data -/
theorem Stt.setData (S : Stt E F env σ H) (i : Nat) (r : R E.K F H d v []) : Stt E F (env.set i (some d)) (σ.set i (some v)) H := by
  obtain ⟨fps, q, nd, fr⟩ := S.rep
  refine ⟨S.le0, S.fH, S.keep, S.old, S.ownS, fps.set i [], q.set i r, nodup_set nd List.nodup_nil (fun _ _ _ _ _ _ z => nomatch z), fun j fp hj a ha => ?_⟩
  rcases mem_set_of hj with ⟨_, e⟩ | hj
  · subst e; cases ha
  · exact fr j fp hj a ha
theorem Stt.wipe (S : Stt E F env σ H) (i : Nat) : Stt E F (env.set i none) σ H := by
  obtain ⟨fps, q, nd, fr⟩ := S.rep
  refine ⟨S.le0, S.fH, S.keep, S.old, S.ownS, fps.set i [], q.wipe i, nodup_set nd List.nodup_nil (fun _ _ _ _ _ _ z => nomatch z), fun j fp hj a ha => ?_⟩
  rcases mem_set_of hj with ⟨_, e⟩ | hj
  · subst e; cases ha
  · exact fr j fp hj a ha
theorem Stt.wipe2 (S : Stt E F env σ H) (i : Nat) : Stt E F (env.set i none) (σ.set i none) H := by
  obtain ⟨fps, q, nd, fr⟩ := S.rep
  refine ⟨S.le0, S.fH, S.keep, S.old, S.ownS, fps.set i [], q.wipe2 i, nodup_set nd List.nodup_nil (fun _ _ _ _ _ _ z => nomatch z), fun j fp hj a ha => ?_⟩
  rcases mem_set_of hj with ⟨_, e⟩ | hj
  · subst e; cases ha
  · exact fr j fp hj a ha
/-- a slot takes what is owned and new -/
theorem Stt.setNew (S : Stt E F env σ H) (i : Nat) (r : R E.K F' H' d v fp) (g : Grow F H F' H') (hn : fp.Nodup) (hf : ∀ a ∈ fp, H a = none ∧ F' a = none ∧ E.H0 a = none) : Stt E F' (env.set i (some d)) (σ.set i (some v)) H' := by
  have S' := S.grow g
  obtain ⟨fps, q, nd, fr⟩ := S.rep
  have ks : ∀ fp ∈ fps, ∀ a ∈ fp, H' a = H a := fun fp hf a ha => by
    obtain ⟨o, e⟩ := q.fp_some fp hf a ha
    rw [e, g.h a o e]
  refine ⟨S'.le0, S'.fH, S'.keep, S'.old, S'.ownS, fps.set i fp, (q.mono g.f ks).set i r, nodup_set nd hn (fun j y hj hy a ha z => ?_), fun j fq hj a ha => ?_⟩
  · obtain ⟨o, e⟩ := q.fp_some y (List.mem_of_getElem? hy) a ha
    rw [(hf a z).1] at e; cases e
  · rcases mem_set_of hj with ⟨_, e⟩ | hj
    · subst e; exact ⟨(hf a ha).2.1, .inl (hf a ha).2.2⟩
    · obtain ⟨h1, h2⟩ := fr j fq hj a ha
      obtain ⟨o, e⟩ := q.fp_some fq (List.mem_of_getElem? hj) a ha
      exact ⟨(g.o a o e).trans h1, h2⟩
theorem Stt.fresh (S : Stt E F env σ H) {a : Addr} (h : H a = none) : E.H0 a = none := by
  cases e : E.H0 a with
  | none => rfl
  | some o =>
    refine absurd (S.keep a o e fun i hi => ?_) (by rw [h]; intro z; cases z)
    obtain ⟨o', e'⟩ := S.ownS i a hi
    rw [h] at e'; cases e'
end Z

set_option Elab.async false
set_option linter.all false
set_option maxRecDepth 100000
set_option maxHeartbeats 1000000
namespace Z
open PySem L2

/-! ### what a construct's reading must grant -/
/-- an exception: its class, its own dict -/
def Rx (K : Kx) (F H : Hp) (x : D) (cls : Value) (dd : Option Addr) : Prop := match x with
  | .ob c ns ds => cls = .ref (K.ca c) ∧ ns.length = ds.length ∧ ((ns = [] ∧ dd = none) ∨ ∃ a fs, dd = some a ∧ F a = some (.xd fs) ∧ ∀ (i : Nat) (n : String) (d : D), ns[i]? = some n → ds[i]? = some d → ∃ v, fs.lookup (Str.ofString n) = some v ∧ R K F H d v [])
  | _ => False

section
variable {E : Ent} {W : WX}
def PostE (E : Ent) (W : WX) (F H : Hp) (σ : St) (Q : VK) : Rs D → Prop
  | .ok d => ∀ v fp F' H', Grow F H F' H' → R E.K F' H' d v fp → Q v H'
  | .ex x => ∀ cls dd F' H', Grow F H F' H' → Rx E.K F' H' x cls dd → W cls dd σ H'
  | .un => False
def PostT (E : Ent) (W : WX) (F H : Hp) (σ : St) (Q : Bool → Hp → Prop) : Rs Bool → Prop
  | .ok b => ∀ F' H', Grow F H F' H' → Q b H'
  | .ex x => ∀ cls dd F' H', Grow F H F' H' → Rx E.K F' H' x cls dd → W cls dd σ H'
  | .un => False
def PostA (E : Ent) (W : WX) (F H : Hp) (σ : St) (Q : List V → Hp → Prop) : Rs (List D) → Prop
  | .ok ds => ∀ vs fp F' H', Grow F H F' H' → RL E.K F' H' ds vs fp → Q vs H'
  | .ex x => ∀ cls dd F' H', Grow F H F' H' → Rx E.K F' H' x cls dd → W cls dd σ H'
  | .un => False
/-- a list made anew -/
def PostL (E : Ent) (W : WX) (F H : Hp) (σ : St) (Q : VK) : Rs (List D) → Prop
  | .ok ds => ∀ p vs F' H', Grow F H F' H' → H p = none → F' p = none → H' p = some (.lst vs) → RL E.K F' H' ds vs [] → ds.length ≤ 16777216 → Q (.ref p) H'
  | .ex x => ∀ cls dd F' H', Grow F H F' H' → Rx E.K F' H' x cls dd → W cls dd σ H'
  | .un => False
def OkE (E : Ent) (W : WX) (t : TE) (f : En → Rs D) : Prop := ∀ F σ H env, Stt E F env σ H → ∀ Q, PostE E W F H σ Q (f env) → t σ H Q
def OkT (E : Ent) (W : WX) (t : TT) (f : En → Rs Bool) : Prop := ∀ F σ H env, Stt E F env σ H → ∀ Q, PostT E W F H σ Q (f env) → t σ H Q
def OkA (E : Ent) (W : WX) (t : TA) (f : En → Rs (List D)) : Prop := ∀ F σ H env, Stt E F env σ H → ∀ Q, PostA E W F H σ Q (f env) → t σ H Q
def OkL (E : Ent) (W : WX) (t : TE) (f : En → Rs (List D)) : Prop := ∀ F σ H env, Stt E F env σ H → ∀ Q, PostL E W F H σ Q (f env) → t σ H Q
/-- the expression e means f -/
structure SE (X : Cx) (E : Ent) (W : WX) (e : Expr) (f : En → Rs D) : Prop where
  hK : X.K = E.K.k
  ex : ∃ t, PE X e t ∧ OkE E W t f
structure ST (X : Cx) (E : Ent) (W : WX) (e : Expr) (f : En → Rs Bool) : Prop where
  hK : X.K = E.K.k
  ex : ∃ t, PT X e t ∧ OkT E W t f
structure SW (X : Cx) (E : Ent) (W : WX) (e : Expr) (f : En → Rs Bool) : Prop where
  hK : X.K = E.K.k
  ex : ∃ t, PW X e t ∧ OkT E W t f
structure SA (X : Cx) (E : Ent) (W : WX) (es : List Expr) (f : En → Rs (List D)) : Prop where
  hK : X.K = E.K.k
  ex : ∃ t, PA X es t ∧ OkA E W t f
structure SL (X : Cx) (E : Ent) (W : WX) (e : Expr) (f : En → Rs (List D)) : Prop where
  hK : X.K = E.K.k
  ex : ∃ t, PE X e t ∧ OkL E W t f
end

section
variable {X : Cx} {E : Ent} {W : WX} {e a b : Expr} {f g : En → Rs D} {pos : Pos}
theorem PostE.mono {F H F1 H1 : Hp} {σ : St} {Q : VK} {r : Rs D} (G : Grow F H F1 H1) (h : PostE E W F H σ Q r) : PostE E W F1 H1 σ Q r := by
  cases r with
  | ok d => exact fun v fp F' H' g k => h v fp F' H' (G.trans g) k
  | ex x => exact fun cls dd F' H' g k => h cls dd F' H' (G.trans g) k
  | un => exact h
theorem PostT.mono {F H F1 H1 : Hp} {σ : St} {Q : Bool → Hp → Prop} {r : Rs Bool} (G : Grow F H F1 H1) (h : PostT E W F H σ Q r) : PostT E W F1 H1 σ Q r := by
  cases r with
  | ok d => exact fun F' H' g => h F' H' (G.trans g)
  | ex x => exact fun cls dd F' H' g k => h cls dd F' H' (G.trans g) k
  | un => exact h
theorem PostA.mono {F H F1 H1 : Hp} {σ : St} {Q : List V → Hp → Prop} {r : Rs (List D)} (G : Grow F H F1 H1) (h : PostA E W F H σ Q r) : PostA E W F1 H1 σ Q r := by
  cases r with
  | ok d => exact fun v fp F' H' g k => h v fp F' H' (G.trans g) k
  | ex x => exact fun cls dd F' H' g k => h cls dd F' H' (G.trans g) k
  | un => exact h
theorem same_none {F H : Hp} {a : Addr} (h : Same F H) (e : H a = none) : F a = none := Same.free h e

/-! ### names and constants -/
/-- the thing itself -/
def peel : D → D
  | .bor _ d => d
  | d => d
theorem R.peel {K : Kx} {F H : Hp} {d : D} {v : V} {fp : List Addr} (r : R K F H d v fp) : R K F H (peel d) v fp := by
  cases r with
  | bor r _ _ => exact r
  | _ => first | exact .non | exact .bl _ | exact .int _ | (constructor <;> assumption)
def eVar (i : Nat) : En → Rs D := fun env => match env[i]? with
  | some (some d) => .ok (peel d)
  | _ => .un
theorem SE.var (i : Nat) {x : Str} (hK : X.K = E.K.k := by rfl) (hN : X.N[i]? = some x := by rfl) (hv : Vis X.env.scope x := by first | exact Or.inl rfl | exact Or.inr (Or.inl rfl) | exact Or.inr (Or.inr rfl))
    (hd : (x == ("__debug__" : Str)) = false := by decide) (hcd : (x == ("__classdict__" : Str)) = false := by decide) : SE X E W (.Name x pos) (eVar i) := by
  refine ⟨hK, _, pe_var hN hv hd hcd, fun F σ H env S Q h => ?_⟩
  unfold eVar at h
  cases e : env[i]? with
  | none => rw [e] at h; exact h.elim
  | some o =>
    cases o with
    | none => rw [e] at h; exact h.elim
    | some d =>
      rw [e] at h
      obtain ⟨fps, r, _⟩ := S.rep
      obtain ⟨v, fp, h1, _, h3⟩ := r.get e
      exact ⟨v, h1, h v fp F H (Grow.refl S.fH) h3.peel⟩
def eC (d : D) : En → Rs D := fun _ => .ok d
theorem SE.int {i : Int} {j} (hK : X.K = E.K.k := by rfl) : SE X E W (.Constant (.int i) j pos) (eC (.int i)) := ⟨hK, _, pe_int, fun F σ H env S Q h => h _ [] F H (Grow.refl S.fH) (.int i)⟩
theorem SE.bl {b : Bool} {j} (hK : X.K = E.K.k := by rfl) : SE X E W (.Constant (.bool b) j pos) (eC (.bl b)) := ⟨hK, _, pe_bl, fun F σ H env S Q h => h _ [] F H (Grow.refl S.fH) (.bl b)⟩
theorem SE.non {j} (hK : X.K = E.K.k := by rfl) : SE X E W (.Constant .none j pos) (eC .non) := ⟨hK, _, pe_non, fun F σ H env S Q h => h _ [] F H (Grow.refl S.fH) .non⟩
def strOkB (x : List Nat) : Bool := decide (x.length ≤ 1000000) && x.all fun c => decide (c < 1114112)
theorem strOk_of {x : List Nat} (h : strOkB x = true) : StrOk x := by
  unfold strOkB at h
  rw [Bool.and_eq_true] at h
  refine ⟨Nat.le_trans (of_decide_eq_true h.1) (by decide), fun c hc => ?_⟩
  exact of_decide_eq_true (List.all_eq_true.mp h.2 c hc)
theorem SE.str (cs : List Nat) {x : Str} {j} (hx : x = ⟨cs.toArray⟩ := by rfl) (hs : strOkB cs = true := by decide +kernel) (hK : X.K = E.K.k := by rfl) : SE X E W (.Constant (.str x) j pos) (eC (.str cs)) :=
  ⟨hK, _, pe_str, fun F σ H env S Q h => h _ [] F H (Grow.refl S.fH) (by rw [hx]; exact .str (strOk_of hs))⟩

/-! ### two operands -/
def ofO {α : Type} : Option α → Rs α
  | some a => .ok a
  | none => .un
@[simp] theorem ofO_some {α : Type} (a : α) : ofO (some a) = .ok a := id rfl
@[simp] theorem ofO_none {α : Type} : ofO (none : Option α) = .un := id rfl
/-- what a two-place operation does to data -/
def OpS (X : Cx) (E : Ent) (f : Value → Value → Sem Value) (g : D → D → Option D) : Prop :=
  ∃ r, OpR X f r ∧ ∀ F H x y d1 d2 fp1 fp2 d, Same F H → R E.K F H d1 x fp1 → R E.K F H d2 y fp2 → g d1 d2 = some d → ∀ Q : VK,
    (∀ v fp F' H', Grow F H F' H' → R E.K F' H' d v fp → Q v H') → r x y H Q
def eBin (op : D → D → Option D) (f g : En → Rs D) : En → Rs D := fun env => (f env).bind fun a => (g env).bind fun b => ofO (op a b)
theorem two_ok {ta tb : TE} {r : R2} {op : D → D → Option D} (ha : OkE E W ta f) (hb : OkE E W tb g)
    (hr : ∀ F H x y d1 d2 fp1 fp2 d, Same F H → R E.K F H d1 x fp1 → R E.K F H d2 y fp2 → op d1 d2 = some d → ∀ Q : VK, (∀ v fp F' H', Grow F H F' H' → R E.K F' H' d v fp → Q v H') → r x y H Q) :
    OkE E W (tOp r ta tb) (eBin op f g) := by
  intro F σ H env S Q h
  refine ha F σ H env S _ ?_
  unfold eBin at h
  cases e1 : f env with
  | un => rw [e1] at h; exact h
  | ex x => rw [e1] at h; exact h
  | ok d1 =>
    intro v1 fp1 F1 H1 G1 r1
    refine hb F1 σ H1 env (S.grow G1) _ ?_
    rw [e1, Rs.bind_ok] at h
    cases e2 : g env with
    | un => rw [e2] at h; exact h
    | ex x => rw [e2] at h; exact PostE.mono G1 h
    | ok d2 =>
      intro v2 fp2 F2 H2 G2 r2
      rw [e2, Rs.bind_ok] at h
      cases e3 : op d1 d2 with
      | none => rw [e3] at h; exact h.elim
      | some d =>
        rw [e3] at h
        exact hr F2 H2 v1 v2 d1 d2 fp1 fp2 d G2.fh (r1.grow G2) r2 e3 Q fun v fp F' H' G k => h v fp F' H' ((G1.trans G2).trans G) k
theorem SE.bin {o : Operator} {op : D → D → Option D} (ho : OpS X E (binaryOp o) op) (ha : SE X E W a f) (hb : SE X E W b g) : SE X E W (.BinOp a o b pos) (eBin op f g) := by
  obtain ⟨r, h1, h2⟩ := ho
  obtain ⟨ta, pa, ka⟩ := ha.ex
  obtain ⟨tb, pb, kb⟩ := hb.ex
  exact ⟨ha.hK, _, pe_op h1 pa pb, two_ok ka kb h2⟩
theorem SE.cmp {o : CmpOp} {op : D → D → Option D} (ho : OpS X E (compareOp o) op) (ha : SE X E W a f) (hb : SE X E W b g) (hm : behindInMarks o b = false := by first | exact nomark _ | rfl) : SE X E W (.Compare a [o] [b] pos) (eBin op f g) := by
  obtain ⟨r, h1, h2⟩ := ho
  obtain ⟨ta, pa, ka⟩ := ha.ex
  obtain ⟨tb, pb, kb⟩ := hb.ex
  exact ⟨ha.hK, _, pe_cmpR h1 pa pb hm, two_ok ka kb h2⟩
/-- a bool that was reckoned -/
def asB : Rs D → Rs Bool
  | .ok (.bl b) => .ok b
  | .ex x => .ex x
  | _ => .un
def eB (f : En → Rs D) : En → Rs Bool := fun env => asB (f env)
theorem test_ok {t : TE} (h : OkE E W t f) : OkT E W (tTest t) (eB f) := by
  intro F σ H env S Q q
  refine h F σ H env S _ ?_
  unfold eB at q
  cases e : f env with
  | un => rw [e] at q; exact q
  | ex x => rw [e] at q; exact q
  | ok d =>
    rw [e] at q
    intro v fp F' H' G r
    cases d <;> first | exact q.elim | skip
    cases r
    exact ⟨_, rfl, q F' H' G⟩
theorem ST.cmp {o : CmpOp} {op : D → D → Option D} (ho : OpS X E (compareOp o) op) (ha : SE X E W a f) (hb : SE X E W b g) (hm : behindInMarks o b = false := by first | exact nomark _ | rfl) : ST X E W (.Compare a [o] [b] pos) (eB (eBin op f g)) := by
  obtain ⟨r, h1, h2⟩ := ho
  obtain ⟨ta, pa, ka⟩ := ha.ex
  obtain ⟨tb, pb, kb⟩ := hb.ex
  exact ⟨ha.hK, _, pt_cmpR h1 pa pb hm, test_ok (two_ok ka kb h2)⟩

/-! ### truth -/
def truD : D → Rs Bool
  | .non => .ok false
  | .bl b => .ok b
  | .int i => .ok (i != 0)
  | .str x => .ok (!x.isEmpty)
  | .tup xs => .ok (!xs.isEmpty)
  | .lst xs => .ok (!xs.isEmpty)
  | .olst xs => .ok (!xs.isEmpty)
  | .scr xs => .ok (!xs.isEmpty)
  | _ => .un
def eTru (f : En → Rs D) : En → Rs Bool := fun env => (f env).bind truD
theorem RL.emp {K : Kx} {F H : Hp} {ds : List D} {vs : List V} {fp : List Addr} (h : RL K F H ds vs fp) : vs.isEmpty = ds.isEmpty := by cases h <;> rfl
theorem tru_at {K : Kx} {F H : Hp} {d : D} {v : V} {fp : List Addr} {b : Bool} (hs : Same F H) (r : R K F H d v fp) (e : truD d = .ok b) : TruV K.k v H b := by
  cases r <;> first | (cases e; rfl) | (cases e; done) | skip
  · rename_i x hx
    cases e
    refine ⟨hx.len, ?_⟩
    cases x with
    | nil => rfl
    | cons c cs =>
      show true = (((cs.length + 1 : Nat) : Int) != 0)
      exact (bne_iff_ne.mpr (by omega)).symm
  · rename_i a vs ds h1 h2 hz
    cases e
    exact .inr (.inl ⟨vs, SqT.of (hs _ _ h1), by rw [h2.emp]⟩)
  · rename_i a vs ds h1 h2 hz
    cases e
    exact .inl ⟨vs, SqL.of (hs _ _ h1), by rw [h2.emp]⟩
  · rename_i a ns h1 hz
    cases e
    exact .inl ⟨_, hs.seq h1, by cases ns <;> rfl⟩
  · rename_i a vs ds fp h1 h2 hz
    cases e
    exact .inl ⟨vs, SqL.of h1, by rw [h2.emp]⟩
theorem ST.tru (ha : SE X E W a f) (he : ∀ whole, isTrue a X.env whole = (do let v ← whole; standAt a.pos; holding [v] (truthy v)) := by intro _; rfl) : ST X E W a (eTru f) := by
  obtain ⟨t, p, k⟩ := ha.ex
  refine ⟨ha.hK, _, pt_truth p he, fun F σ H env S Q q => ?_⟩
  refine k F σ H env S _ ?_
  unfold eTru at q
  cases e : f env with
  | un => rw [e] at q; exact q
  | ex x => rw [e] at q; exact q
  | ok d =>
    rw [e, Rs.bind_ok] at q
    intro v fp F' H' G r
    cases e2 : truD d with
    | un => rw [e2] at q; exact q.elim
    | ex x =>
      exfalso
      cases d <;> cases e2
    | ok b =>
      rw [e2] at q
      exact ⟨b, by rw [ha.hK]; exact tru_at G.fh r e2, q F' H' G⟩
/-! ### and, or, not -/
variable {tf tg : En → Rs Bool} {rest : List Expr}
def eAnd (f g : En → Rs Bool) : En → Rs Bool := fun env => (f env).bind fun b => if b then g env else .ok false
def eOr (f g : En → Rs Bool) : En → Rs Bool := fun env => (f env).bind fun b => if b then .ok true else g env
def eNot (f : En → Rs Bool) : En → Rs Bool := fun env => (f env).bind fun b => .ok (!b)
theorem SW.and1 (ha : ST X E W a tf) : SW X E W (.BoolOp .And [a] pos) tf := by
  obtain ⟨t, p, k⟩ := ha.ex
  exact ⟨ha.hK, _, pw_and1 p, k⟩
theorem SW.or1 (ha : ST X E W a tf) : SW X E W (.BoolOp .Or [a] pos) tf := by
  obtain ⟨t, p, k⟩ := ha.ex
  exact ⟨ha.hK, _, pw_or1 p, k⟩
theorem and_ok {t u : TT} (h1 : OkT E W t tf) (h2 : OkT E W u tg) : OkT E W (tAnd t u) (eAnd tf tg) := by
  intro F σ H env S Q q
  refine h1 F σ H env S _ ?_
  unfold eAnd at q
  cases e : tf env with
  | un => rw [e] at q; exact q
  | ex x => rw [e] at q; exact q
  | ok b =>
    rw [e, Rs.bind_ok] at q
    intro F' H' G
    cases b with
    | true => exact h2 F' σ H' env (S.grow G) Q (PostT.mono G q)
    | false => exact q F' H' G
theorem or_ok {t u : TT} (h1 : OkT E W t tf) (h2 : OkT E W u tg) : OkT E W (tOr t u) (eOr tf tg) := by
  intro F σ H env S Q q
  refine h1 F σ H env S _ ?_
  unfold eOr at q
  cases e : tf env with
  | un => rw [e] at q; exact q
  | ex x => rw [e] at q; exact q
  | ok b =>
    rw [e, Rs.bind_ok] at q
    intro F' H' G
    cases b with
    | true => exact q F' H' G
    | false => exact h2 F' σ H' env (S.grow G) Q (PostT.mono G q)
theorem SW.and (ha : ST X E W a tf) (hb : SW X E W (.BoolOp .And (b :: rest) pos) tg) : SW X E W (.BoolOp .And (a :: b :: rest) pos) (eAnd tf tg) := by
  obtain ⟨t, p, k⟩ := ha.ex
  obtain ⟨u, p', k'⟩ := hb.ex
  exact ⟨ha.hK, _, pw_and p p', and_ok k k'⟩
theorem SW.or (ha : ST X E W a tf) (hb : SW X E W (.BoolOp .Or (b :: rest) pos) tg) : SW X E W (.BoolOp .Or (a :: b :: rest) pos) (eOr tf tg) := by
  obtain ⟨t, p, k⟩ := ha.ex
  obtain ⟨u, p', k'⟩ := hb.ex
  exact ⟨ha.hK, _, pw_or p p', or_ok k k'⟩
theorem ST.w (h : SW X E W a tf) : ST X E W a tf := by
  obtain ⟨t, p, k⟩ := h.ex
  exact ⟨h.hK, _, p.pt, k⟩
theorem ST.not (ha : ST X E W a tf) : ST X E W (.UnaryOp .Not a pos) (eNot tf) := by
  obtain ⟨t, p, k⟩ := ha.ex
  refine ⟨ha.hK, _, pt_not p, fun F σ H env S Q q => ?_⟩
  refine k F σ H env S _ ?_
  unfold eNot at q
  cases e : tf env with
  | un => rw [e] at q; exact q
  | ex x => rw [e] at q; exact q
  | ok b =>
    rw [e, Rs.bind_ok] at q
    exact fun F' H' G => q F' H' G
/-- and, or, not as values: bools but the last -/
def eAndV (f : En → Rs D) (g : En → Rs D) : En → Rs D := fun env => (asB (f env)).bind fun b => if b then g env else .ok (.bl false)
def eOrV (f : En → Rs D) (g : En → Rs D) : En → Rs D := fun env => (asB (f env)).bind fun b => if b then .ok (.bl true) else g env
def eNotV (f : En → Rs Bool) : En → Rs D := fun env => (f env).bind fun b => .ok (.bl (!b))
theorem SE.one {op : BoolOp} (ha : SE X E W a f) : SE X E W (.BoolOp op [a] pos) f := by
  obtain ⟨t, p, k⟩ := ha.ex
  exact ⟨ha.hK, _, pe_one p, k⟩
theorem SE.and (ha : SE X E W a f) (hb : SE X E W (.BoolOp .And (b :: rest) pos) g) : SE X E W (.BoolOp .And (a :: b :: rest) pos) (eAndV f g) := by
  obtain ⟨t, p, k⟩ := ha.ex
  obtain ⟨u, p', k'⟩ := hb.ex
  refine ⟨ha.hK, _, pe_and p p', fun F σ H env S Q q => ?_⟩
  refine k F σ H env S _ ?_
  unfold eAndV at q
  cases e : f env with
  | un => rw [e] at q; exact q
  | ex x => rw [e] at q; exact q
  | ok d =>
    rw [e] at q
    intro v fp F' H' G r
    cases d <;> first | exact q.elim | skip
    rename_i b
    cases r
    refine ⟨b, rfl, ?_⟩
    cases b with
    | true => exact k' F' σ H' env (S.grow G) Q (PostE.mono G q)
    | false => exact q _ [] F' H' G (.bl false)
theorem SE.or (ha : SE X E W a f) (hb : SE X E W (.BoolOp .Or (b :: rest) pos) g) : SE X E W (.BoolOp .Or (a :: b :: rest) pos) (eOrV f g) := by
  obtain ⟨t, p, k⟩ := ha.ex
  obtain ⟨u, p', k'⟩ := hb.ex
  refine ⟨ha.hK, _, pe_or p p', fun F σ H env S Q q => ?_⟩
  refine k F σ H env S _ ?_
  unfold eOrV at q
  cases e : f env with
  | un => rw [e] at q; exact q
  | ex x => rw [e] at q; exact q
  | ok d =>
    rw [e] at q
    intro v fp F' H' G r
    cases d <;> first | exact q.elim | skip
    rename_i b
    cases r
    refine ⟨b, rfl, ?_⟩
    cases b with
    | true => exact q _ [] F' H' G (.bl true)
    | false => exact k' F' σ H' env (S.grow G) Q (PostE.mono G q)
def eNotB (f : En → Rs D) : En → Rs D := fun env => (asB (f env)).bind fun b => .ok (.bl (!b))
theorem SE.not (ha : SE X E W a f) : SE X E W (.UnaryOp .Not a pos) (eNotB f) := by
  obtain ⟨t, p, k⟩ := ha.ex
  refine ⟨ha.hK, _, pe_not p, fun F σ H env S Q q => ?_⟩
  refine k F σ H env S _ ?_
  unfold eNotB at q
  cases e : f env with
  | un => rw [e] at q; exact q
  | ex x => rw [e] at q; exact q
  | ok d =>
    rw [e] at q
    intro v fp F' H' G r
    cases d <;> first | exact q.elim | skip
    rename_i b
    cases r
    exact ⟨b, rfl, q _ [] F' H' G (.bl _)⟩
def eIf (c : En → Rs Bool) (f g : En → Rs D) : En → Rs D := fun env => (c env).bind fun b => if b then f env else g env
theorem SE.ite {c : Expr} (hc : ST X E W c tf) (ha : SE X E W a f) (hb : SE X E W b g) : SE X E W (.IfExp c a b pos) (eIf tf f g) := by
  obtain ⟨t, p, k⟩ := hc.ex
  obtain ⟨u, p', k'⟩ := ha.ex
  obtain ⟨u2, p2, k2⟩ := hb.ex
  refine ⟨ha.hK, _, pe_ifExp p p' p2, fun F σ H env S Q q => ?_⟩
  refine k F σ H env S _ ?_
  unfold eIf at q
  cases e : tf env with
  | un => rw [e] at q; exact q
  | ex x => rw [e] at q; exact q
  | ok b =>
    rw [e, Rs.bind_ok] at q
    intro F' H' G
    cases b with
    | true => exact k' F' σ H' env (S.grow G) Q (PostE.mono G q)
    | false => exact k2 F' σ H' env (S.grow G) Q (PostE.mono G q)

/-! ### argument lists, displays -/
def aNil : En → Rs (List D) := fun _ => .ok []
def aCons (f : En → Rs D) (g : En → Rs (List D)) : En → Rs (List D) := fun env => (f env).bind fun d => (g env).bind fun ds => .ok (d :: ds)
theorem SA.nil (hK : X.K = E.K.k := by rfl) : SA X E W [] aNil := ⟨hK, _, pa_nil, fun F σ H env S Q q => q [] [] F H (Grow.refl S.fH) .nil⟩
theorem SA.cons {es : List Expr} {ga : En → Rs (List D)} (ha : SE X E W e f) (hr : SA X E W es ga) (hs : starEach (e :: es) X.env = (false, eval e X.env) :: starEach es X.env := by rfl) : SA X E W (e :: es) (aCons f ga) := by
  obtain ⟨t, p, k⟩ := ha.ex
  obtain ⟨u, p', k'⟩ := hr.ex
  refine ⟨ha.hK, _, pa_cons p p' hs, fun F σ H env S Q q => ?_⟩
  refine k F σ H env S _ ?_
  unfold aCons at q
  cases e : f env with
  | un => rw [e] at q; exact q
  | ex x => rw [e] at q; exact q
  | ok d =>
    rw [e, Rs.bind_ok] at q
    intro v fp F1 H1 G1 r1
    refine k' F1 σ H1 env (S.grow G1) _ ?_
    cases e2 : ga env with
    | un => rw [e2] at q; exact q
    | ex x => rw [e2] at q; exact fun cls dd F' H' g => q cls dd F' H' (G1.trans g)
    | ok ds =>
      rw [e2, Rs.bind_ok] at q
      intro vs fq F2 H2 G2 r2
      exact q _ _ F2 H2 (G1.trans G2) (.cons (r1.grow G2) r2)
/-- all are data -/
def allD (ds : List D) (r : Rs D) : Rs D := if ds.all isData then r else .un
def eTup (g : En → Rs (List D)) : En → Rs D := fun env => (g env).bind fun ds => if ds.all isData && decide (ds.length ≤ 16777216) then .ok (.tup ds) else .un
def eLst (g : En → Rs (List D)) : En → Rs (List D) := fun env => (g env).bind fun ds => if ds.all isData && decide (ds.length ≤ 16777216) then .ok ds else .un
theorem SE.tup {es : List Expr} {ga : En → Rs (List D)} {k1} (h : SA X E W es ga) : SE X E W (.Tuple es k1 pos) (eTup ga) := by
  obtain ⟨t, p, k⟩ := h.ex
  refine ⟨h.hK, _, pe_tup p, fun F σ H env S Q q => ?_⟩
  refine k F σ H env S _ ?_
  unfold eTup at q
  cases e : ga env with
  | un => rw [e] at q; exact q
  | ex x => rw [e] at q; exact q
  | ok ds =>
    rw [e, Rs.bind_ok] at q
    intro vs fp F1 H1 G1 r1
    split at q
    · rename_i hc
      rw [Bool.and_eq_true] at hc
      have r0 := r1.toData hc.1
      refine ⟨by rw [r1.len]; exact of_decide_eq_true hc.2, fun pp hp => ?_⟩
      refine q _ [] _ _ (G1.trans (Grow.new G1.fh hp)) (.tup upd_same (r0.grow (Grow.new G1.fh hp)) (of_decide_eq_true hc.2))
    · exact q.elim
theorem SL.lst {es : List Expr} {ga : En → Rs (List D)} (h : SA X E W es ga) : SL X E W (.List es pos) (eLst ga) := by
  obtain ⟨t, p, k⟩ := h.ex
  refine ⟨h.hK, _, pe_lst p, fun F σ H env S Q q => ?_⟩
  refine k F σ H env S _ ?_
  unfold eLst at q
  cases e : ga env with
  | un => rw [e] at q; exact q
  | ex x => rw [e] at q; exact q
  | ok ds =>
    rw [e, Rs.bind_ok] at q
    intro vs fp F1 H1 G1 r1
    split at q
    · rename_i hc
      rw [Bool.and_eq_true] at hc
      have r0 := r1.toData hc.1
      refine ⟨by rw [r1.len]; exact of_decide_eq_true hc.2, fun pp hp => ?_⟩
      have hp0 : H pp = none := by
        cases q0 : H pp with
        | none => rfl
        | some o => rw [G1.h _ _ q0] at hp; cases hp
      exact q pp vs F1 _ (G1.trans (Grow.own G1.fh hp)) hp0 (same_none G1.fh hp) upd_same (r0.grow (Grow.own G1.fh hp)) (of_decide_eq_true hc.2)
    · exact q.elim
/-- a new list stands still from now on -/
def eOfL (g : En → Rs (List D)) : En → Rs D := fun env => (g env).bind fun ds => .ok (.lst ds)
theorem SE.ofL {ga : En → Rs (List D)} (h : SL X E W e ga) : SE X E W e (eOfL ga) := by
  obtain ⟨t, p, k⟩ := h.ex
  refine ⟨h.hK, _, p, fun F σ H env S Q q => ?_⟩
  refine k F σ H env S _ ?_
  unfold eOfL at q
  cases e : ga env with
  | un => rw [e] at q; exact q
  | ex x => rw [e] at q; exact q
  | ok ds =>
    rw [e, Rs.bind_ok] at q
    intro pp vs F1 H1 G1 hp hF hH r hz
    have gs : Same F1 (upd F1 pp (.lst vs)) := fun b u eb => by rw [upd_ne (ne_of_none eb hF)]; exact eb
    refine q _ [] (upd F1 pp (.lst vs)) H1 ⟨G1.f.trans gs, fun b u eb => ?_, G1.h, fun b u eb => ?_⟩ (.lst upd_same (RL.mono gs ds (fun a z => nomatch z) r) hz)
    · by_cases hb : b = pp
      · subst hb; rw [upd_same] at eb; cases eb; exact hH
      · rw [upd_ne hb] at eb; exact G1.fh b u eb
    · rw [upd_ne (ne_of_none eb hp)]; exact G1.o b u eb
end
end Z

set_option Elab.async false
set_option linter.all false
set_option maxRecDepth 100000
set_option maxHeartbeats 1000000
namespace Z
open PySem L2

section
variable {X : Cx} {E : Ent} {W : WX} {e a b : Expr} {f g : En → Rs D} {pos : Pos}
theorem line_eq : (16777216 : Nat) = sizeLine := sizeLine_eq.symm
theorem StrOk.app {x y : List Nat} (hx : StrOk x) (hy : StrOk y) (h : x.length + y.length ≤ 16777216) : StrOk (x ++ y) :=
  ⟨by rw [List.length_append, ← line_eq]; exact h, fun c hc => (List.mem_append.mp hc).elim (hx.cps c) (hy.cps c)⟩
theorem StrOk.sub {x y : List Nat} (hx : StrOk x) (hl : y.length ≤ x.length) (h : ∀ c ∈ y, c ∈ x) : StrOk y := ⟨Nat.le_trans hl hx.len, fun c hc => hx.cps c (h c hc)⟩
/-- the items of a list that may be copied -/
def listOf : D → Option (List D)
  | .lst xs => some xs
  | .olst xs => if xs.all isData then some xs else none
  | _ => none
theorem listOf_at {K : Kx} {F H : Hp} {d : D} {v : V} {fp : List Addr} {ds : List D} (hs : Same F H) (r : R K F H d v fp) (e : listOf d = some ds) : ∃ a vs, v = .ref a ∧ H a = some (.lst vs) ∧ RL K F H ds vs [] ∧ ds.length ≤ 16777216 := by
  cases r <;> first | (cases e; done) | skip
  · rename_i a vs ds' h1 h2 hz
    cases e
    exact ⟨a, vs, rfl, hs _ _ h1, h2, hz⟩
  · rename_i a vs ds' fp h1 h2 hz
    unfold listOf at e
    dsimp only at e
    split at e
    · rename_i hc
      cases e
      exact ⟨a, vs, rfl, h1, h2.toData hc, hz⟩
    · cases e
/-- the items of what may be gone through -/
def seqOf : D → Option (List D)
  | .tup xs => some xs
  | .lst xs => some xs
  | .olst xs => if xs.all isData then some xs else none
  | .scr ns => some (ns.map .int)
  | _ => none
theorem RL.ints {K : Kx} {F H : Hp} : ∀ ns : List Int, RL K F H (ns.map D.int) (ns.map V.int) []
  | [] => .nil
  | n :: ns => RL.mk0 (.int n) (RL.ints ns)
theorem seqOf_at {K : Kx} {F H : Hp} {d : D} {v : V} {fp : List Addr} {ds : List D} (hs : Same F H) (r : R K F H d v fp) (e : seqOf d = some ds) : ∃ a vs, v = .ref a ∧ (SqL K.k H a vs ∨ SqT K.k H a vs) ∧ RL K F H ds vs [] ∧ ds.length ≤ 16777216 := by
  cases r <;> first | (cases e; done) | skip
  · rename_i a vs ds' h1 h2 hz
    cases e
    exact ⟨a, vs, rfl, .inr (SqT.of (hs _ _ h1)), h2, hz⟩
  · rename_i a vs ds' h1 h2 hz
    cases e
    exact ⟨a, vs, rfl, .inl (SqL.of (hs _ _ h1)), h2, hz⟩
  · rename_i a ns h1 hz
    cases e
    exact ⟨a, _, rfl, .inl (hs.seq h1), RL.ints ns, by rw [List.length_map]; exact hz⟩
  · rename_i a vs ds' fp h1 h2 hz
    unfold seqOf at e
    dsimp only at e
    split at e
    · rename_i hc
      cases e
      exact ⟨a, vs, rfl, .inl (SqL.of h1), h2.toData hc, hz⟩
    · cases e
theorem R.int_inv {K : Kx} {F H : Hp} {i : Int} {v : V} {fp : List Addr} (r : R K F H (.int i) v fp) : v = .int i := by cases r; rfl
theorem R.str_inv {K : Kx} {F H : Hp} {x : List Nat} {v : V} {fp : List Addr} (r : R K F H (.str x) v fp) : v = .str ⟨x.toArray⟩ ∧ StrOk x := by
  cases r with
  | str k => exact ⟨rfl, k⟩
theorem R.tup_inv {K : Kx} {F H : Hp} {ds : List D} {v : V} {fp : List Addr} (r : R K F H (.tup ds) v fp) : ∃ a vs, v = .ref a ∧ SqT K.k F a vs ∧ RL K F H ds vs [] ∧ ds.length ≤ 16777216 := by
  cases r with
  | tup h1 h2 hz => exact ⟨_, _, rfl, SqT.of h1, h2, hz⟩
theorem str_app (x y : List Nat) : (⟨x.toArray⟩ : Str) ++ (⟨y.toArray⟩ : Str) = ⟨(x ++ y).toArray⟩ := by
  show Str.mk (x.toArray ++ y.toArray) = _
  rw [List.append_toArray]

/-! ### + -/
def pAdd : D → D → Option D
  | .int i, .int j => some (.int (i + j))
  | .str x, .str y => if x.length + y.length ≤ 16777216 then some (.str (x ++ y)) else none
  | .tup x, .tup y => if x.length + y.length ≤ 16777216 then some (.tup (x ++ y)) else none
  | x, y => match listOf x, listOf y with
    | some xs, some ys => if xs.length + ys.length ≤ 16777216 then some (.lst (xs ++ ys)) else none
    | _, _ => none
theorem op_int {o : Value → Value → Sem Value} {gg : Int → Int → V} {r : R2} (ho : OpR X o r) : OpR X o r := ho
theorem cat_new {K : Kx} {F H : Hp} {a b : Addr} {vs us : List V} {ds es : List D} {Q : VK} (hz : ds.length + es.length ≤ 16777216) (hs : Same F H) (hl : RL K F H ds vs []) (hr : RL K F H es us [])
    (h : ∀ v fp F' H', Grow F H F' H' → R K F' H' (.lst (ds ++ es)) v fp → Q v H') : ∀ p, H p = none → Q (.ref p) (upd H p (.lst (vs ++ us))) := fun p hp =>
  h _ [] _ _ (Grow.new hs hp) (.lst upd_same ((hl.app0 hr).grow (Grow.new hs hp)) (by rw [List.length_append]; exact hz))
theorem OpS.add (hK : X.K = E.K.k) : OpS X E (binaryOp .Add) pAdd := by
  refine ⟨_, op_add.or (op_add_str.or (op_catA.or op_cat)), fun F H x y d1 d2 fp1 fp2 d hs r1 r2 h Q q => ?_⟩
  have lists : ∀ xs ys, listOf d1 = some xs → listOf d2 = some ys → xs.length + ys.length ≤ 16777216 → d = .lst (xs ++ ys) → rCat x y H Q := by
    intro xs ys e1 e2 hl ed
    obtain ⟨a, vs, rfl, ha, la, _⟩ := listOf_at hs r1 e1
    obtain ⟨b, us, rfl, hb, lb, _⟩ := listOf_at hs r2 e2
    subst ed
    exact ⟨a, b, vs, us, rfl, rfl, ha, hb, by rw [la.len, lb.len, ← line_eq]; exact hl, cat_new (a := a) (b := b) hl hs la lb q⟩
  unfold pAdd at h
  split at h
  · cases r1; cases r2; cases h
    exact .inl ⟨_, _, rfl, rfl, q _ [] F H (Grow.refl hs) (.int _)⟩
  · rename_i x' y'
    split at h
    · rename_i hl
      cases h
      obtain ⟨rfl, k1⟩ := r1.str_inv
      obtain ⟨rfl, k2⟩ := r2.str_inv
      refine .inr (.inl ⟨_, _, rfl, rfl, ?_, ?_⟩)
      · show x'.toArray.size + y'.toArray.size ≤ sizeLine
        rw [List.size_toArray, List.size_toArray, ← line_eq]; exact hl
      · rw [str_app]
        exact q _ [] F H (Grow.refl hs) (.str (k1.app k2 hl))
    · cases h
  · rename_i x' y'
    split at h
    · rename_i hl
      cases h
      obtain ⟨a, vs, rfl, ha, la, _⟩ := r1.tup_inv
      obtain ⟨b, us, rfl, hb, lb, _⟩ := r2.tup_inv
      refine .inr (.inr (.inl ⟨a, b, vs, us, rfl, rfl, ?_, ?_, ?_, fun e0 => ?_, fun _ e0 => ?_, fun _ _ p hp => ?_⟩))
      · rw [hK]; exact same_t hs ha
      · rw [hK]; exact same_t hs hb
      · rw [la.len, lb.len, ← line_eq]; exact hl
      · subst e0
        have : x' = [] := by cases x' with | nil => rfl | cons _ _ => exact absurd la.len (by simp)
        subst this
        exact q _ [] F H (Grow.refl hs) (r2.toData rfl)
      · subst e0
        have : y' = [] := by cases y' with | nil => rfl | cons _ _ => exact absurd lb.len (by simp)
        subst this
        rw [List.append_nil] at q
        exact q _ [] F H (Grow.refl hs) (r1.toData rfl)
      · exact q _ [] _ _ (Grow.new hs hp) (.tup upd_same ((la.app0 lb).grow (Grow.new hs hp)) (by rw [List.length_append]; exact hl))
    · cases h
  · split at h
    · rename_i xs ys e1 e2
      split at h
      · rename_i hl
        cases h
        exact .inr (.inr (.inr (lists xs ys e1 e2 hl rfl)))
      · cases h
    · cases h

/-! ### - * // % ** -/
def pSub : D → D → Option D
  | .int i, .int j => some (.int (i - j))
  | _, _ => none
theorem OpS.sub : OpS X E (binaryOp .Sub) pSub := by
  refine ⟨_, op_sub, fun F H x y d1 d2 fp1 fp2 d hs r1 r2 h Q q => ?_⟩
  unfold pSub at h
  split at h
  · cases r1; cases r2; cases h
    exact ⟨_, _, rfl, rfl, q _ [] F H (Grow.refl hs) (.int _)⟩
  · cases h
def smallI (i : Int) : Bool := decide (-18446744073709551616 < i) && decide (i < 18446744073709551616)
def repS (x : List Nat) (n : Int) : List Nat := (List.replicate n.toNat x).flatten
def pMul : D → D → Option D
  | .int i, .int j => if smallI i || smallI j then some (.int (i * j)) else none
  | .str x, .int n => if x.length * n.toNat ≤ 16777216 ∧ n < 16777216 ∧ -16777216 < n then some (.str (repS x n)) else none
  | _, _ => none
theorem op_mul_str : OpR X (binaryOp .Mult) (fun x y H Q => ∃ z n, x = .str z ∧ y = .int n ∧ MulOk z n ∧ Q (.str (Txt.mul z n)) H) := by
  intro pins s σ H x y v u Q I rx ry h
  obtain ⟨z, n, rfl, rfl, hz, q⟩ := h
  obtain ⟨t, rfl⟩ := rx
  obtain ⟨t', rfl⟩ := ry
  exact PySem.SB.mul hz fun t' tk => ⟨.str _, H, I.tok _, ⟨_, rfl⟩, q⟩
theorem fold_cps : ∀ (n : Nat) (x acc : List Nat), ((List.replicate n x.toArray).foldl (· ++ ·) acc.toArray) = (acc ++ (List.replicate n x).flatten).toArray
  | 0, x, acc => by simp
  | n + 1, x, acc => by
    rw [List.replicate_succ, List.foldl_cons, List.append_toArray, fold_cps n x (acc ++ x), List.replicate_succ, List.flatten_cons, List.append_assoc]
theorem txt_mul (x : List Nat) (n : Int) : Txt.mul ⟨x.toArray⟩ n = ⟨(repS x n).toArray⟩ := by
  unfold Txt.mul repS
  by_cases h : n < 1
  · rw [if_pos h]
    have e : n.toNat = 0 := by omega
    rw [e]
    rfl
  · rw [if_neg h]
    have hl : (⟨x.toArray⟩ : Str).length = x.length := by show x.toArray.size = _; exact List.size_toArray
    split
    · rename_i hc
      rw [Bool.or_eq_true, beq_iff_eq, beq_iff_eq, hl] at hc
      rcases hc with hc | hc
      · subst hc
        simp
      · have : x = [] := List.eq_nil_of_length_eq_zero hc
        subst this
        have : ∀ k : Nat, (List.replicate k ([] : List Nat)).flatten = [] := fun k => by simp
        rw [this]
    · have q := fold_cps n.toNat x []
      show Str.mk ((List.replicate n.toNat x.toArray).foldl (· ++ ·) #[]) = _
      rw [show (#[] : Array Nat) = ([] : List Nat).toArray from rfl, q, List.nil_append]
theorem mul_ok {x : List Nat} {n : Int} (h1 : x.length * n.toNat ≤ 16777216) (h2 : n < 16777216) (h3 : -16777216 < n) : MulOk ⟨x.toArray⟩ n := by
  have hl : (⟨x.toArray⟩ : Str).length = x.length := by show x.toArray.size = _; exact List.size_toArray
  refine ⟨?_, fun hn _ => ?_, fun hn _ => ?_⟩
  · rw [decide_eq_false (by omega), decide_eq_false (by omega)]; rfl
  · rw [hl]
    intro hc
    have hn1 : 0 < n := by omega
    have e : ((x.length : Nat) : Int) * n ≤ 16777216 := by
      have e1 : (n.toNat : Int) = n := by omega
      have e2 : (((x.length * n.toNat : Nat)) : Int) = (x.length : Int) * n := by rw [Int.natCast_mul, e1]
      omega
    have h4 : ((2 : Int) ^ 63 - 1) / n + 1 ≤ (x.length : Int) := by omega
    have h5 : (((2 : Int) ^ 63 - 1) / n + 1) * n ≤ (x.length : Int) * n := Int.mul_le_mul_of_nonneg_right h4 (by omega)
    have h6 := Int.lt_ediv_add_one_mul_self ((2 : Int) ^ 63 - 1) hn1
    omega
  · rw [hl]
    show PySem.Builtin.Str.tooLong _ = false
    unfold PySem.Builtin.Str.tooLong
    exact decide_eq_false (by have := line_eq; omega)
theorem repS_len (x : List Nat) (n : Int) : (repS x n).length = x.length * n.toNat := by
  unfold repS
  rw [List.length_flatten, List.map_replicate, List.sum_replicate_nat, Nat.mul_comm]
theorem StrOk.rep {x : List Nat} {n : Int} (hx : StrOk x) (h : x.length * n.toNat ≤ 16777216) : StrOk (repS x n) := by
  refine ⟨by rw [repS_len, ← line_eq]; exact h, fun c hc => ?_⟩
  unfold repS at hc
  obtain ⟨l, hl, hcl⟩ := List.mem_flatten.mp hc
  rw [List.eq_of_mem_replicate hl] at hcl
  exact hx.cps c hcl
theorem smallI_of {i : Int} (h : smallI i = true) : -(2 ^ 64) < i ∧ i < 2 ^ 64 := by
  unfold smallI at h
  rw [Bool.and_eq_true] at h
  have h1 := of_decide_eq_true h.1
  have h2 := of_decide_eq_true h.2
  omega
theorem OpS.mul : OpS X E (binaryOp .Mult) pMul := by
  refine ⟨_, op_mul.or op_mul_str, fun F H x y d1 d2 fp1 fp2 d hs r1 r2 h Q q => ?_⟩
  unfold pMul at h
  split at h
  · split at h
    · rename_i hc
      cases r1; cases r2; cases h
      rw [Bool.or_eq_true] at hc
      exact .inl ⟨_, _, rfl, rfl, hc.imp smallI_of smallI_of, q _ [] F H (Grow.refl hs) (.int _)⟩
    · cases h
  · split at h
    · rename_i hc
      cases h
      obtain ⟨rfl, k1⟩ := r1.str_inv
      obtain rfl := r2.int_inv
      refine .inr ⟨_, _, rfl, rfl, mul_ok hc.1 hc.2.1 hc.2.2, ?_⟩
      rw [txt_mul]
      exact q _ [] F H (Grow.refl hs) (.str (k1.rep hc.1))
    · cases h
  · cases h
def pDiv : D → D → Option D
  | .int i, .int j => if 0 < j ∧ j < 1073741824 then some (.int (i / j)) else none
  | _, _ => none
theorem OpS.div : OpS X E (binaryOp .FloorDiv) pDiv := by
  refine ⟨_, op_fdiv, fun F H x y d1 d2 fp1 fp2 d hs r1 r2 h Q q => ?_⟩
  unfold pDiv at h
  split at h
  · split at h
    · rename_i hc
      cases r1; cases r2; cases h
      exact ⟨_, _, rfl, rfl, hc, q _ [] F H (Grow.refl hs) (.int _)⟩
    · cases h
  · cases h
def pMod : D → D → Option D
  | .int i, .int j => if 0 < j then some (.int (i % j)) else none
  | _, _ => none
theorem OpS.mod : OpS X E (binaryOp .Mod) pMod := by
  refine ⟨_, op_mod, fun F H x y d1 d2 fp1 fp2 d hs r1 r2 h Q q => ?_⟩
  unfold pMod at h
  split at h
  · split at h
    · rename_i hc
      cases r1; cases r2; cases h
      exact ⟨_, _, rfl, rfl, hc, q _ [] F H (Grow.refl hs) (.int _)⟩
    · cases h
  · cases h
def pPow : D → D → Option D
  | .int i, .int j => if 0 ≤ j ∧ j ≤ 1000000 ∧ i.natAbs < 18446744073709551616 then some (.int (i ^ j.toNat)) else none
  | _, _ => none
theorem OpS.pow : OpS X E (binaryOp .Pow) pPow := by
  refine ⟨_, op_pow, fun F H x y d1 d2 fp1 fp2 d hs r1 r2 h Q q => ?_⟩
  unfold pPow at h
  split at h
  · split at h
    · rename_i hc
      cases r1; cases r2; cases h
      exact ⟨_, _, rfl, rfl, ⟨hc.1, hc.2.1, by have := hc.2.2; omega⟩, q _ [] F H (Grow.refl hs) (.int _)⟩
    · cases h
  · cases h

/-! ### comparisons -/
def ltL : List Nat → List Nat → Bool := fun x y => decide (x < y)
def pLt : D → D → Option D
  | .int i, .int j => some (.bl (decide (i < j)))
  | .str x, .str y => some (.bl (ltL x y))
  | _, _ => none
def pLe : D → D → Option D
  | .int i, .int j => some (.bl (decide (i ≤ j)))
  | .str x, .str y => some (.bl (!ltL y x))
  | _, _ => none
def pGt : D → D → Option D
  | .int i, .int j => some (.bl (decide (j < i)))
  | .str x, .str y => some (.bl (ltL y x))
  | _, _ => none
def pGe : D → D → Option D
  | .int i, .int j => some (.bl (decide (j ≤ i)))
  | .str x, .str y => some (.bl (!ltL x y))
  | _, _ => none
theorem OpS.lt : OpS X E (compareOp .Lt) pLt := by
  refine ⟨_, op_lt.or op_lt_str, fun F H x y d1 d2 fp1 fp2 d hs r1 r2 h Q q => ?_⟩
  unfold pLt at h
  split at h <;> cases h
  · cases r1; cases r2
    exact .inl ⟨_, _, rfl, rfl, q _ [] F H (Grow.refl hs) (.bl _)⟩
  · obtain ⟨rfl, k1⟩ := r1.str_inv
    obtain ⟨rfl, k2⟩ := r2.str_inv
    exact .inr ⟨_, _, rfl, rfl, q _ [] F H (Grow.refl hs) (.bl _)⟩
theorem OpS.le : OpS X E (compareOp .LtE) pLe := by
  refine ⟨_, op_le.or op_le_str, fun F H x y d1 d2 fp1 fp2 d hs r1 r2 h Q q => ?_⟩
  unfold pLe at h
  split at h <;> cases h
  · cases r1; cases r2
    exact .inl ⟨_, _, rfl, rfl, q _ [] F H (Grow.refl hs) (.bl _)⟩
  · obtain ⟨rfl, k1⟩ := r1.str_inv
    obtain ⟨rfl, k2⟩ := r2.str_inv
    exact .inr ⟨_, _, rfl, rfl, q _ [] F H (Grow.refl hs) (.bl _)⟩
theorem OpS.gt : OpS X E (compareOp .Gt) pGt := by
  refine ⟨_, op_gt.or op_gt_str, fun F H x y d1 d2 fp1 fp2 d hs r1 r2 h Q q => ?_⟩
  unfold pGt at h
  split at h <;> cases h
  · cases r1; cases r2
    exact .inl ⟨_, _, rfl, rfl, q _ [] F H (Grow.refl hs) (.bl _)⟩
  · obtain ⟨rfl, k1⟩ := r1.str_inv
    obtain ⟨rfl, k2⟩ := r2.str_inv
    exact .inr ⟨_, _, rfl, rfl, q _ [] F H (Grow.refl hs) (.bl _)⟩
theorem OpS.ge : OpS X E (compareOp .GtE) pGe := by
  refine ⟨_, op_ge.or op_ge_str, fun F H x y d1 d2 fp1 fp2 d hs r1 r2 h Q q => ?_⟩
  unfold pGe at h
  split at h <;> cases h
  · cases r1; cases r2
    exact .inl ⟨_, _, rfl, rfl, q _ [] F H (Grow.refl hs) (.bl _)⟩
  · obtain ⟨rfl, k1⟩ := r1.str_inv
    obtain ⟨rfl, k2⟩ := r2.str_inv
    exact .inr ⟨_, _, rfl, rfl, q _ [] F H (Grow.refl hs) (.bl _)⟩
/-! equality -/
mutual
def eqv : D → D → Bool
  | .non, .non => true
  | .bl a, .bl b => a == b
  | .bl a, .int j => (if a then 1 else 0) == j
  | .int i, .bl b => i == (if b then 1 else 0)
  | .int i, .int j => i == j
  | .str x, .str y => x == y
  | .tup xs, .tup ys => eqvL xs ys
  | .lst xs, .lst ys => eqvL xs ys
  | .lst xs, .olst ys => eqvL xs ys
  | .olst xs, .lst ys => eqvL xs ys
  | .olst xs, .olst ys => eqvL xs ys
  | _, _ => false
def eqvL : List D → List D → Bool
  | [], [] => true
  | x :: xs, y :: ys => eqv x y && eqvL xs ys
  | [], _ :: _ => false
  | _ :: _, [] => false
end
mutual
def toPy : D → PyData
  | .bl b => .bool b
  | .int i => .int i
  | .str x => .str ⟨x.toArray⟩
  | .tup xs => .tuple (toPyL xs)
  | .lst xs => .list (toPyL xs)
  | .olst xs => .list (toPyL xs)
  | _ => .none
def toPyL : List D → List PyData
  | [] => []
  | x :: xs => toPy x :: toPyL xs
end
mutual
/-- may be compared: data of at most n levels -/
def okPy : Nat → D → Bool
  | _, .non => true
  | _, .bl _ => true
  | _, .int _ => true
  | _, .str _ => true
  | n + 1, .tup xs => okPyL n xs
  | n + 1, .lst xs => okPyL n xs
  | n + 1, .olst xs => okPyL n xs
  | _, _ => false
def okPyL : Nat → List D → Bool
  | _, [] => true
  | n, x :: xs => okPy n x && okPyL n xs
end

theorem str_beq (x y : List Nat) : ((⟨x.toArray⟩ : Str) == (⟨y.toArray⟩ : Str)) = (x == y) := by
  by_cases h : x = y
  · subst h; simp
  · have h2 : ¬ ((⟨x.toArray⟩ : Str) = ⟨y.toArray⟩) := fun e => h (by
      have := congrArg Str.cps e
      simpa using this)
    rw [beq_eq_false_iff_ne.mpr h, beq_eq_false_iff_ne.mpr h2]
mutual
theorem eqv_py : ∀ (n : Nat) (a b : D) (m : Nat), okPy n a = true → okPy m b = true → PyData.eqv (toPy a) (toPy b) = eqv a b := by
  intro n a b m h1 h2
  cases a <;> (try (cases n <;> simp [okPy] at h1; done)) <;> cases b <;> (try (cases m <;> simp [okPy] at h2; done)) <;> (try (simp only [toPy, PyData.eqv, eqv]; done)) <;> (try (simp only [toPy, PyData.eqv, eqv, str_beq]; done))
  all_goals
    cases n with
    | zero => cases h1
    | succ n =>
      cases m with
      | zero => cases h2
      | succ m =>
        simp only [toPy, PyData.eqv, eqv]
        exact eqvL_py n _ _ m (by simpa only [okPy] using h1) (by simpa only [okPy] using h2)
theorem eqvL_py : ∀ (n : Nat) (a b : List D) (m : Nat), okPyL n a = true → okPyL m b = true → PyData.eqvAll (toPyL a) (toPyL b) = eqvL a b := by
  intro n a b m h1 h2
  cases a with
  | nil => cases b <;> simp only [toPyL, PyData.eqvAll, eqvL]
  | cons x xs =>
    cases b with
    | nil => simp only [toPyL, PyData.eqvAll, eqvL]
    | cons y ys =>
      simp only [okPyL, Bool.and_eq_true] at h1 h2
      simp only [toPyL, PyData.eqvAll, eqvL]
      rw [eqv_py n x y m h1.1 h2.1, eqvL_py n xs ys m h1.2 h2.2]
end

mutual
theorem R.dp {K : Kx} {F H : Hp} (hs : Same F H) : ∀ (n : Nat) (d : D) {v : V} {fp : List Addr}, okPy n d = true → R K F H d v fp → Dp K.k H v (toPy d) ∧ (toPy d).canLay0 = true ∧ (toPy d).depth ≤ n := by
  intro n d v fp ho r
  cases d <;> (try (cases n <;> simp [okPy] at ho; done))
  · cases r; exact ⟨.non, rfl, Nat.zero_le _⟩
  · cases r; exact ⟨.bl _, rfl, Nat.zero_le _⟩
  · cases r; exact ⟨.int _, rfl, Nat.zero_le _⟩
  · obtain ⟨rfl, k⟩ := r.str_inv
    rename_i x
    refine ⟨.str _, ?_, Nat.zero_le _⟩
    show PySem.PyData.strOk ⟨x.toArray⟩ = true
    unfold PySem.PyData.strOk
    rw [Array.all_eq_true_iff_forall_mem]
    intro c hc
    exact decide_eq_true (k.cps c (by simpa using hc))
  all_goals
    cases n with
    | zero => cases ho
    | succ n =>
      have ho' : okPyL n _ = true := ho
      cases r
      rename_i h1 h2 hz
      obtain ⟨q1, q2, q3⟩ := RL.dp hs n _ ho' h2
      refine ⟨?_, ?_, ?_⟩
      · first
          | exact .tup (SqT.of (hs _ _ h1)) q1
          | exact .lst (SqL.of (hs _ _ h1)) q1
          | exact .lst (SqL.of h1) q1
      · simp only [toPy, PyData.canLay0]; exact q2
      · simp only [toPy, PyData.depth]; omega
theorem RL.dp {K : Kx} {F H : Hp} (hs : Same F H) : ∀ (n : Nat) (ds : List D) {vs : List V} {fp : List Addr}, okPyL n ds = true → RL K F H ds vs fp → DpAll K.k H vs (toPyL ds) ∧ PyData.canLayAll0 (toPyL ds) = true ∧ PyData.depthAll (toPyL ds) ≤ n := by
  intro n ds vs fp ho r
  cases ds with
  | nil => cases r; exact ⟨.nil, rfl, Nat.zero_le _⟩
  | cons d ds =>
    simp only [okPyL, Bool.and_eq_true] at ho
    cases r with
    | cons h1 h2 =>
      obtain ⟨q1, q2, q3⟩ := R.dp hs n d ho.1 h1
      obtain ⟨p1, p2, p3⟩ := RL.dp hs n ds ho.2 h2
      refine ⟨.cons q1 p1, ?_, ?_⟩
      · simp only [toPyL, PyData.canLayAll0, q2, p2, Bool.and_self]
      · simp only [toPyL, PyData.depthAll]; omega
end
theorem shaped_of {d : PyData} {n : Nat} (h : d.canLay0 = true) (hd : d.depth ≤ n) (hn : n ≤ 64) : SeqAt.shaped d = true := by
  unfold SeqAt.shaped
  rw [h, decide_eq_true (Nat.le_trans hd hn)]
  rfl
def pEq (a b : D) : Option D := if okPy 60 a && okPy 60 b then some (.bl (eqv a b)) else none
def pNe (a b : D) : Option D := if okPy 60 a && okPy 60 b then some (.bl (!eqv a b)) else none
theorem OpS.eq (hK : X.K = E.K.k) (hu : X.A.units + 64 < cLine) : OpS X E (compareOp .Eq) pEq := by
  refine ⟨_, op_eqD hu, fun F H x y d1 d2 fp1 fp2 d hs r1 r2 h Q q => ?_⟩
  unfold pEq at h
  split at h
  · rename_i hc
    rw [Bool.and_eq_true] at hc
    cases h
    obtain ⟨q1, q2, q3⟩ := R.dp hs 60 d1 hc.1 r1
    obtain ⟨p1, p2, p3⟩ := R.dp hs 60 d2 hc.2 r2
    refine ⟨_, _, by rw [hK]; exact q1, by rw [hK]; exact p1, shaped_of q2 q3 (by decide), shaped_of p2 p3 (by decide), ?_⟩
    rw [eqv_py 60 d1 d2 60 hc.1 hc.2]
    exact q _ [] F H (Grow.refl hs) (.bl _)
  · cases h
theorem OpS.ne (hK : X.K = E.K.k) (hu : X.A.units + 64 < cLine) : OpS X E (compareOp .NotEq) pNe := by
  refine ⟨_, op_neD hu, fun F H x y d1 d2 fp1 fp2 d hs r1 r2 h Q q => ?_⟩
  unfold pNe at h
  split at h
  · rename_i hc
    rw [Bool.and_eq_true] at hc
    cases h
    obtain ⟨q1, q2, q3⟩ := R.dp hs 60 d1 hc.1 r1
    obtain ⟨p1, p2, p3⟩ := R.dp hs 60 d2 hc.2 r2
    refine ⟨_, _, by rw [hK]; exact q1, by rw [hK]; exact p1, shaped_of q2 q3 (by decide), shaped_of p2 p3 (by decide), ?_⟩
    rw [eqv_py 60 d1 d2 60 hc.1 hc.2]
    exact q _ [] F H (Grow.refl hs) (.bl _)
  · cases h
def isNon : D → Bool
  | .non => true
  | _ => false
def pIs (a b : D) : Option D := match b with
  | .non => some (.bl (isNon a))
  | _ => none
def pIsnt (a b : D) : Option D := match b with
  | .non => some (.bl (!isNon a))
  | _ => none
theorem isNon_at {K : Kx} {F H : Hp} {d : D} {v : V} {fp : List Addr} (r : R K F H d v fp) : decide (v = V.non) = isNon d := by
  cases r <;> first | rfl | skip
  rename_i h _ _
  subst h
  rfl
theorem OpS.is : OpS X E (compareOp .Is) pIs := by
  refine ⟨_, op_isN, fun F H x y d1 d2 fp1 fp2 d hs r1 r2 h Q q => ?_⟩
  unfold pIs at h
  split at h <;> cases h
  cases r2
  refine ⟨rfl, ?_⟩
  rw [isNon_at r1]
  exact q _ [] F H (Grow.refl hs) (.bl _)
theorem OpS.isnt : OpS X E (compareOp .IsNot) pIsnt := by
  refine ⟨_, op_notN, fun F H x y d1 d2 fp1 fp2 d hs r1 r2 h Q q => ?_⟩
  unfold pIsnt at h
  split at h <;> cases h
  cases r2
  refine ⟨rfl, ?_⟩
  rw [isNon_at r1]
  exact q _ [] F H (Grow.refl hs) (.bl _)
/-! in -/
def pIn (a b : D) : Option D := match b with
  | .str y => match a with
    | .str [c] => some (.bl (decide (c ∈ y)))
    | _ => none
  | .tup ys => if okPy 60 a && okPyL 60 ys then some (.bl (ys.any fun z => eqv z a)) else none
  | .lst ys => if okPy 60 a && okPyL 60 ys then some (.bl (ys.any fun z => eqv z a)) else none
  | .olst ys => if okPy 60 a && okPyL 60 ys then some (.bl (ys.any fun z => eqv z a)) else none
  | _ => none
def notO : Option D → Option D
  | some (.bl b) => some (.bl (!b))
  | _ => none
def pNotIn (a b : D) : Option D := notO (pIn a b)
theorem any_py : ∀ (ys : List D) (a : D) (n m : Nat), okPy n a = true → okPyL m ys = true → ((toPyL ys).any fun z => PyData.eqv z (toPy a)) = ys.any fun z => eqv z a
  | [], _, _, _, _, _ => rfl
  | y :: ys, a, n, m, h1, h2 => by
    simp only [okPyL, Bool.and_eq_true] at h2
    simp only [toPyL, List.any_cons]
    rw [eqv_py m y a n h2.1 h1, any_py ys a n m h1 h2.2]

def rInDT (K : PySem.W.Frag) : R2 := fun x y H Q => ∃ d ds, Dp K H x d ∧ Dp K H y (.tuple ds) ∧ SeqAt.shaped d = true ∧ SeqAt.shaped (.tuple ds) = true ∧ Q (.bl (ds.any fun z => PyData.eqv z d)) H
def rNotInDT (K : PySem.W.Frag) : R2 := fun x y H Q => ∃ d ds, Dp K H x d ∧ Dp K H y (.tuple ds) ∧ SeqAt.shaped d = true ∧ SeqAt.shaped (.tuple ds) = true ∧ Q (.bl (!ds.any fun z => PyData.eqv z d)) H
theorem op_inDT (hu : X.A.units + 65 < cLine) : OpR X (compareOp .In) (rInDT X.K) := by
  intro pins s σ H x y v u Q I rx ry h
  obtain ⟨d, ds, hd, he, sd, se, q⟩ := h
  obtain ⟨as, r1⟩ := Dp.reads I d x v hd rx
  obtain ⟨bs, r2⟩ := Dp.reads I (.tuple ds) y u he ry
  exact SeqAt.in_tuple_reads r2 r1 (SeqAt.canLay_of_shaped se) (SeqAt.canLay_of_shaped sd) (PyProof.Rows.room_in_shaped sd hu) ⟨.bl _, H, I, rfl, q⟩
theorem op_notInDT (hu : X.A.units + 65 < cLine) : OpR X (compareOp .NotIn) (rNotInDT X.K) := by
  intro pins s σ H x y v u Q I rx ry h
  obtain ⟨d, ds, hd, he, sd, se, q⟩ := h
  obtain ⟨as, r1⟩ := Dp.reads I d x v hd rx
  obtain ⟨bs, r2⟩ := Dp.reads I (.tuple ds) y u he ry
  exact SeqAt.notIn_tuple_reads r2 r1 (SeqAt.canLay_of_shaped se) (SeqAt.canLay_of_shaped sd) (PyProof.Rows.room_in_shaped sd hu) ⟨.bl _, H, I, rfl, q⟩
theorem dp_list {K : Kx} {F H : Hp} {ys : List D} {v : V} {fp : List Addr} {d : D} (hd : d = .lst ys ∨ d = .olst ys) (hs : Same F H) (ho : okPyL 60 ys = true) (r : R K F H d v fp) : Dp K.k H v (.list (toPyL ys)) ∧ SeqAt.shaped (.list (toPyL ys)) = true := by
  rcases hd with rfl | rfl
  · obtain ⟨q1, q2, q3⟩ := R.dp hs 61 (.lst ys) (by simpa only [okPy] using ho) r
    exact ⟨q1, shaped_of q2 q3 (by decide)⟩
  · obtain ⟨q1, q2, q3⟩ := R.dp hs 61 (.olst ys) (by simpa only [okPy] using ho) r
    exact ⟨q1, shaped_of q2 q3 (by decide)⟩
theorem dp_tup {K : Kx} {F H : Hp} {ys : List D} {v : V} {fp : List Addr} (hs : Same F H) (ho : okPyL 60 ys = true) (r : R K F H (.tup ys) v fp) : Dp K.k H v (.tuple (toPyL ys)) ∧ SeqAt.shaped (.tuple (toPyL ys)) = true := by
  obtain ⟨q1, q2, q3⟩ := R.dp hs 61 (.tup ys) (by simpa only [okPy] using ho) r
  exact ⟨q1, shaped_of q2 q3 (by decide)⟩
theorem OpS.isin (hK : X.K = E.K.k) (hu : X.A.units + 65 < cLine) : OpS X E (compareOp .In) pIn := by
  refine ⟨_, op_in_sign.or ((op_inD hu).or (op_inDT hu)), fun F H x y d1 d2 fp1 fp2 d hs r1 r2 h Q q => ?_⟩
  unfold pIn at h
  split at h
  · split at h <;> cases h
    obtain ⟨rfl, k1⟩ := r1.str_inv
    obtain ⟨rfl, k2⟩ := r2.str_inv
    refine .inl ⟨_, _, rfl, rfl, ?_⟩
    exact q _ [] F H (Grow.refl hs) (.bl _)
  all_goals (try (cases h; done))
  all_goals
    split at h
    · rename_i hc
      rw [Bool.and_eq_true] at hc
      cases h
      obtain ⟨q1, q2, q3⟩ := R.dp hs 60 d1 hc.1 r1
      rw [← any_py _ d1 60 60 hc.1 hc.2] at q
      first
        | (obtain ⟨p1, p2⟩ := dp_tup hs hc.2 r2
           refine .inr (.inr ⟨_, _, by rw [hK]; exact q1, by rw [hK]; exact p1, shaped_of q2 q3 (by decide), p2, ?_⟩)
           exact q _ [] F H (Grow.refl hs) (.bl _))
        | (obtain ⟨p1, p2⟩ := dp_list (.inl rfl) hs hc.2 r2
           refine .inr (.inl ⟨_, _, by rw [hK]; exact q1, by rw [hK]; exact p1, shaped_of q2 q3 (by decide), p2, ?_⟩)
           exact q _ [] F H (Grow.refl hs) (.bl _))
        | (obtain ⟨p1, p2⟩ := dp_list (.inr rfl) hs hc.2 r2
           refine .inr (.inl ⟨_, _, by rw [hK]; exact q1, by rw [hK]; exact p1, shaped_of q2 q3 (by decide), p2, ?_⟩)
           exact q _ [] F H (Grow.refl hs) (.bl _))
    · cases h
theorem OpS.notin (hK : X.K = E.K.k) (hu : X.A.units + 65 < cLine) : OpS X E (compareOp .NotIn) pNotIn := by
  refine ⟨_, op_notIn_sign.or ((op_notInD hu).or (op_notInDT hu)), fun F H x y d1 d2 fp1 fp2 d hs r1 r2 h Q q => ?_⟩
  unfold pNotIn pIn at h
  split at h
  · split at h <;> cases h
    obtain ⟨rfl, k1⟩ := r1.str_inv
    obtain ⟨rfl, k2⟩ := r2.str_inv
    refine .inl ⟨_, _, rfl, rfl, ?_⟩
    exact q _ [] F H (Grow.refl hs) (.bl _)
  all_goals (try (cases h; done))
  all_goals
    split at h
    · rename_i hc
      rw [Bool.and_eq_true] at hc
      cases h
      obtain ⟨q1, q2, q3⟩ := R.dp hs 60 d1 hc.1 r1
      rw [← any_py _ d1 60 60 hc.1 hc.2] at q
      first
        | (obtain ⟨p1, p2⟩ := dp_tup hs hc.2 r2
           refine .inr (.inr ⟨_, _, by rw [hK]; exact q1, by rw [hK]; exact p1, shaped_of q2 q3 (by decide), p2, ?_⟩)
           exact q _ [] F H (Grow.refl hs) (.bl _))
        | (obtain ⟨p1, p2⟩ := dp_list (.inl rfl) hs hc.2 r2
           refine .inr (.inl ⟨_, _, by rw [hK]; exact q1, by rw [hK]; exact p1, shaped_of q2 q3 (by decide), p2, ?_⟩)
           exact q _ [] F H (Grow.refl hs) (.bl _))
        | (obtain ⟨p1, p2⟩ := dp_list (.inr rfl) hs hc.2 r2
           refine .inr (.inl ⟨_, _, by rw [hK]; exact q1, by rw [hK]; exact p1, shaped_of q2 q3 (by decide), p2, ?_⟩)
           exact q _ [] F H (Grow.refl hs) (.bl _))
    · cases h

/-! ### x[i], x[a:b] -/
def pIx (a b : D) : Option D := match b with
  | .int i => match a with
    | .str x => (atI x i).map fun c => .str [c]
    | .tup xs => atI xs i
    | .lst xs => atI xs i
    | .olst xs => (atI xs i).bind fun d => if isData d then some d else none
    | .scr ns => (atI ns i).map D.int
    | _ => none
  | _ => none
theorem atI_ix {α : Type} {xs : List α} {i : Int} {x : α} (h : atI xs i = some x) : ∃ j, ixN xs.length i = some j ∧ xs[j]? = some x := by
  unfold atI at h
  cases e : ixN xs.length i with
  | none => rw [e] at h; cases h
  | some j => rw [e] at h; exact ⟨j, rfl, h⟩
theorem atI_rel {K : Kx} {F H : Hp} {ds : List D} {vs : List V} {i : Int} {d : D} (h : RL K F H ds vs []) (e : atI ds i = some d) : ∃ v, atI vs i = some v ∧ R K F H d v [] := by
  obtain ⟨j, e1, e2⟩ := atI_ix e
  obtain ⟨v, h1, h2⟩ := h.get0 e2
  refine ⟨v, ?_, h2⟩
  unfold atI
  rw [h.len, e1]
  exact h1
theorem RL.get : ∀ {K : Kx} {F H : Hp} {ds : List D} {vs : List V} {fp : List Addr} {i : Nat} {d : D}, RL K F H ds vs fp → ds[i]? = some d → ∃ v fq, vs[i]? = some v ∧ R K F H d v fq
  | _, _, _, _, _, _, _, _, .nil, e => by simp at e
  | _, _, _, _, _, _, 0, _, .cons r _, e => by simp at e; subst e; exact ⟨_, _, rfl, r⟩
  | _, _, _, _, _, _, i + 1, _, .cons _ t, e => by
    obtain ⟨v, fq, h1, h2⟩ := RL.get (i := i) t (by simpa using e)
    exact ⟨v, fq, by simpa using h1, h2⟩
theorem atI_rel2 {K : Kx} {F H : Hp} {ds : List D} {vs : List V} {fp : List Addr} {i : Int} {d : D} (h : RL K F H ds vs fp) (e : atI ds i = some d) : ∃ v fq, atI vs i = some v ∧ R K F H d v fq := by
  obtain ⟨j, e1, e2⟩ := atI_ix e
  obtain ⟨v, fq, h1, h2⟩ := h.get e2
  refine ⟨v, fq, ?_, h2⟩
  unfold atI
  rw [h.len, e1]
  exact h1
/-- what x[i] asks -/
def IxS (X : Cx) (E : Ent) (g : D → D → Option D) : Prop :=
  ∃ r, IxR X r ∧ ∀ F H x y d1 d2 fp1 fp2 d, Same F H → R E.K F H d1 x fp1 → R E.K F H d2 y fp2 → g d1 d2 = some d → ∀ Q : VK,
    (∀ v fp F' H', Grow F H F' H' → R E.K F' H' d v fp → Q v H') → r x y H Q
theorem ixS (hK : X.K = E.K.k) : IxS X E pIx := by
  refine ⟨_, ix_seq, fun F H x y d1 d2 fp1 fp2 d hs r1 r2 h Q q => ?_⟩
  unfold pIx at h
  split at h
  · rename_i dd i
    obtain rfl := r2.int_inv
    split at h
    · rename_i x'
      obtain ⟨rfl, k1⟩ := r1.str_inv
      cases ec : atI x' i with
      | none => rw [ec] at h; cases h
      | some c =>
        rw [ec] at h
        cases h
        refine .inr (.inr ⟨_, _, c, rfl, rfl, ?_, ec, ?_⟩)
        · show x'.toArray.size ≤ sizeLine
          rw [List.size_toArray]; exact k1.len
        · obtain ⟨j, _, e2⟩ := atI_ix ec
          exact q _ [] F H (Grow.refl hs) (.str ⟨by show 1 ≤ sizeLine; decide, fun c' hc => by rw [List.mem_singleton.mp hc]; exact k1.cps c (List.mem_of_getElem? e2)⟩)
    · obtain ⟨p, vs, rfl, hp', hl, _⟩ := r1.tup_inv
      obtain ⟨v, e1, e2⟩ := atI_rel hl h
      exact .inr (.inl ⟨p, vs, _, v, rfl, rfl, by rw [hK]; exact same_t hs hp', e1, q _ [] F H (Grow.refl hs) e2⟩)
    · cases r1 with
      | lst hp' hl =>
        obtain ⟨v, e1, e2⟩ := atI_rel hl h
        exact .inl ⟨_, _, _, v, rfl, rfl, SqL.of (hs _ _ hp'), e1, q _ [] F H (Grow.refl hs) e2⟩
    · cases r1 with
      | olst hp' hl =>
        rename_i xs _ _ _ _
        cases ec : atI xs i with
        | none => rw [ec] at h; cases h
        | some c =>
          rw [ec] at h
          simp only [Option.bind_some] at h
          split at h
          · rename_i hd
            cases h
            obtain ⟨v, fq, e1, e2⟩ := atI_rel2 hl ec
            exact .inl ⟨_, _, _, v, rfl, rfl, SqL.of hp', e1, q _ fq F H (Grow.refl hs) e2⟩
          · cases h
    · cases r1 with
      | scr hp' =>
        rename_i ns _ _
        cases ec : atI ns i with
        | none => rw [ec] at h; cases h
        | some c =>
          rw [ec] at h
          cases h
          have e0 : atI (ns.map D.int) i = some (.int c) := by
            obtain ⟨j, e1, e2⟩ := atI_ix ec
            unfold atI
            rw [List.length_map, e1]
            show (ns.map D.int)[j]? = _
            rw [List.getElem?_map, e2]; rfl
          obtain ⟨v, e1, e2⟩ := atI_rel (K := E.K) (F := F) (H := H) (RL.ints ns) e0
          exact .inl ⟨_, _, _, v, rfl, rfl, by rw [hK]; exact hs.seq hp', e1, q _ [] F H (Grow.refl hs) e2⟩
    · cases h
  · cases h
theorem SE.ix (ha : SE X E W a f) (hb : SE X E W b g) (hp : PlainIx b := by exact fun _ _ => rfl) : SE X E W (.Subscript a b pos) (eBin pIx f g) := by
  obtain ⟨ta, pa, ka⟩ := ha.ex
  obtain ⟨tb, pb, kb⟩ := hb.ex
  obtain ⟨r, h1, h2⟩ := ixS (E := E) ha.hK
  exact ⟨ha.hK, _, pe_ix h1 pa pb hp, two_ok ka kb h2⟩
end
end Z

set_option Elab.async false
set_option linter.all false
set_option maxRecDepth 100000
set_option maxHeartbeats 1000000
namespace Z
open PySem L2
section
variable {X : Cx} {E : Ent} {W : WX} {e a b : Expr} {f g : En → Rs D} {pos : Pos}
/-! ### slices -/
def PostO (E : Ent) (W : WX) (F H : Hp) (σ : St) (Q : Option Int → Hp → Prop) : Rs (Option Int) → Prop
  | .ok o => ∀ F' H', Grow F H F' H' → Q o H'
  | .ex x => ∀ cls dd F' H', Grow F H F' H' → Rx E.K F' H' x cls dd → W cls dd σ H'
  | .un => False
structure SO (X : Cx) (E : Ent) (W : WX) (e : Option Expr) (f : En → Rs (Option Int)) : Prop where
  ex : ∃ t, PO X e t ∧ ∀ F σ H env, Stt E F env σ H → ∀ Q, PostO E W F H σ Q (f env) → t σ H Q
def oNone : En → Rs (Option Int) := fun _ => .ok none
def asI : D → Rs (Option Int)
  | .int i => .ok (some i)
  | _ => .un
def oSome (f : En → Rs D) : En → Rs (Option Int) := fun env => (f env).bind asI
theorem SO.none : SO X E W none oNone := ⟨_, po_none, fun F σ H env S Q q => q F H (Grow.refl S.fH)⟩
theorem SO.some (h : SE X E W e f) : SO X E W (some e) (oSome f) := by
  obtain ⟨t, p, k⟩ := h.ex
  refine ⟨_, po_some p, fun F σ H env S Q q => ?_⟩
  refine k F σ H env S _ ?_
  unfold oSome at q
  cases e : f env with
  | un => rw [e] at q; exact q
  | ex x => rw [e] at q; exact q
  | ok d =>
    rw [e, Rs.bind_ok] at q
    intro v fp F' H' G r
    cases d <;> first | exact q.elim | skip
    cases r
    exact ⟨_, rfl, q F' H' G⟩
def cutL {α : Type} (xs : List α) (lo hi : Option Int) : List α := (xs.drop (HT.sIx xs.length 0 lo)).take (HT.sIx xs.length xs.length hi - HT.sIx xs.length 0 lo)
def pSl (d : D) (lo hi : Option Int) : Option D := match d with
  | .str x => some (.str (cutL x lo hi))
  | .tup xs => some (.tup (cutL xs lo hi))
  | d => (listOf d).map fun xs => .lst (cutL xs lo hi)
def eSl (f : En → Rs D) (lo hi : En → Rs (Option Int)) : En → Rs D := fun env => (f env).bind fun d => (lo env).bind fun l => (hi env).bind fun h => ofO (pSl d l h)
theorem cut_str (x : List Nat) (lo hi : Option Int) : cutS ⟨x.toArray⟩ lo hi = ⟨(cutL x lo hi).toArray⟩ := by
  unfold cutS cutL
  have hl : (⟨x.toArray⟩ : Str).length = x.length := by show x.toArray.size = _; exact List.size_toArray
  rw [hl]
theorem RL.cut {K : Kx} {F H : Hp} {ds : List D} {vs : List V} (h : RL K F H ds vs []) (lo hi : Option Int) : RL K F H (cutL ds lo hi) (cutV vs lo hi) [] := by
  unfold cutL cutV
  rw [h.len]
  exact (h.drop0 _).take0 _
theorem cutL_sub {α : Type} (x : List α) (lo hi : Option Int) : (cutL x lo hi).length ≤ x.length ∧ ∀ c ∈ cutL x lo hi, c ∈ x := by
  unfold cutL
  refine ⟨?_, fun c hc => List.mem_of_mem_drop (List.mem_of_mem_take hc)⟩
  rw [List.length_take, List.length_drop]; omega
theorem cutL_whole {α : Type} {xs : List α} {lo hi : Option Int} (h : HT.sIx xs.length 0 lo = 0 ∧ HT.sIx xs.length xs.length hi = xs.length) : cutL xs lo hi = xs := by
  unfold cutL
  rw [h.1, h.2]
  simp
theorem SlR.or {r r' : V → Option Int → Option Int → Hp → VK → Prop} (h : SlR X r) (h' : SlR X r') : SlR X (fun x l u H Q => r x l u H Q ∨ r' x l u H Q) := by
  intro pins s σ H x v vl vu lo hi sl Q I rx hs pl pu q
  rcases q with q | q
  · exact h pins s σ H x v vl vu lo hi sl Q I rx hs pl pu q
  · exact h' pins s σ H x v vl vu lo hi sl Q I rx hs pl pu q
theorem SE.sl {lo hi : Option Expr} {fl fh : En → Rs (Option Int)} {p2 : Pos} (ha : SE X E W a f) (hl : SO X E W lo fl) (hh : SO X E W hi fh) : SE X E W (.Subscript a (.Slice lo hi none p2) pos) (eSl f fl fh) := by
  obtain ⟨ta, pa, ka⟩ := ha.ex
  obtain ⟨tl, pl, kl⟩ := hl.ex
  obtain ⟨th, ph, kh⟩ := hh.ex
  refine ⟨ha.hK, _, pe_slice (SlR.or sl_str (SlR.or sl_tupA sl_list)) pa pl ph, fun F σ H env S Q q => ?_⟩
  refine ka F σ H env S _ ?_
  unfold eSl at q
  cases e1 : f env with
  | un => rw [e1] at q; exact q
  | ex x => rw [e1] at q; exact q
  | ok d =>
    rw [e1, Rs.bind_ok] at q
    intro v fp F1 H1 G1 r1
    refine kl F1 σ H1 env (S.grow G1) _ ?_
    cases e2 : fl env with
    | un => rw [e2] at q; exact q
    | ex x => rw [e2] at q; exact fun cls dd F' H' g => q cls dd F' H' (G1.trans g)
    | ok l =>
      rw [e2, Rs.bind_ok] at q
      intro F2 H2 G2
      refine kh F2 σ H2 env (S.grow (G1.trans G2)) _ ?_
      cases e3 : fh env with
      | un => rw [e3] at q; exact q
      | ex x => rw [e3] at q; exact fun cls dd F' H' g => q cls dd F' H' ((G1.trans G2).trans g)
      | ok u =>
        rw [e3, Rs.bind_ok] at q
        intro F3 H3 G3
        have G := (G1.trans G2).trans G3
        have r3 := r1.grow (G2.trans G3)
        cases e4 : pSl d l u with
        | none => rw [e4] at q; exact q.elim
        | some z =>
          rw [e4] at q
          unfold pSl at e4
          split at e4
          · cases e4
            obtain ⟨rfl, k⟩ := r3.str_inv
            refine .inl ⟨_, rfl, ?_, ?_⟩
            · show (List.toArray _).size ≤ sizeLine
              rw [List.size_toArray]; exact k.len
            · rw [cut_str]
              exact q _ [] F3 H3 G (.str (k.sub (cutL_sub _ l u).1 (cutL_sub _ l u).2))
          · cases e4
            obtain ⟨p, vs, rfl, hp, hl, hz⟩ := r3.tup_inv
            refine .inr (.inl ⟨p, vs, rfl, by rw [ha.hK]; exact same_t G.fh hp, fun hw => ?_, fun hw pp hpp => ?_⟩)
            · rw [hl.len] at hw
              rw [cutL_whole hw] at q
              exact q _ [] F3 H3 G (r3.toData rfl)
            · exact q _ [] _ _ (G.trans (Grow.new G.fh hpp)) (.tup upd_same ((hl.cut l u).grow (Grow.new G.fh hpp)) (Nat.le_trans (cutL_sub _ l u).1 hz))
          · cases e5 : listOf d with
            | none => rw [e5] at e4; cases e4
            | some xs =>
              rw [e5] at e4
              cases e4
              obtain ⟨p, vs, rfl, hp, hl, hz⟩ := listOf_at G.fh r3 e5
              refine .inr (.inr ⟨p, vs, rfl, SqL.of hp, fun pp hpp => ?_⟩)
              exact q _ [] _ _ (G.trans (Grow.new G.fh hpp)) (.lst upd_same ((hl.cut l u).grow (Grow.new G.fh hpp)) (Nat.le_trans (cutL_sub _ l u).1 hz))

/-! ### calls of built-ins: on a row of values -/
/-- what a built-in does to data -/
def BS (X : Cx) (E : Ent) (fv : Value) (g : List D → Option D) : Prop :=
  ∃ r, CallR X fv r ∧ ∀ F H vs ds fp d, Same F H → RL E.K F H ds vs fp → g ds = some d → ∀ Q : VK, (∀ v fp F' H', Grow F H F' H' → R E.K F' H' d v fp → Q v H') → r vs H Q
def eCall (g : List D → Option D) (fa : En → Rs (List D)) : En → Rs D := fun env => (fa env).bind fun ds => ofO (g ds)
theorem cb_ok {r : List V → Hp → VK → Prop} {t : TA} {fa : En → Rs (List D)} {g : List D → Option D} (ka : OkA E W t fa)
    (hr : ∀ F H vs ds fp d, Same F H → RL E.K F H ds vs fp → g ds = some d → ∀ Q : VK, (∀ v fp F' H', Grow F H F' H' → R E.K F' H' d v fp → Q v H') → r vs H Q) : OkE E W (tCB r t) (eCall g fa) := by
  intro F σ H env S Q q
  refine ka F σ H env S _ ?_
  unfold eCall at q
  cases e1 : fa env with
  | un => rw [e1] at q; exact q
  | ex x => rw [e1] at q; exact q
  | ok ds =>
    rw [e1, Rs.bind_ok] at q
    intro vs fp F1 H1 G1 r1
    cases e2 : g ds with
    | none => rw [e2] at q; exact q.elim
    | some d =>
      rw [e2] at q
      exact hr F1 H1 vs ds fp d G1.fh r1 e2 Q fun v fq F' H' G k => q v fq F' H' (G1.trans G) k
theorem SE.callB {x : Str} {id : String} {p : Pos} {es : List Expr} {fa : En → Rs (List D)} {g : List D → Option D} (hb : BS X E (.builtin id) g) (hm : X.mg x = none) (hv : bootBuiltins x = some (.builtin id)) (ha : SA X E W (e :: es) fa) (hg : Gl X x := by rfl)
    (hn : x ≠ "__name__" := by decide) (hdb : (x == ("__debug__" : Str)) = false := by decide)
    (he : starEach (e :: es) X.env = (false, eval e X.env) :: starEach es X.env := by rfl) (hpl : (backTo pos (starEach es X.env)).any (·.1) = false := by rfl) : SE X E W (.Call (.Name x p) (e :: es) [] pos) (eCall g fa) := by
  obtain ⟨t, pa, ka⟩ := ha.ex
  obtain ⟨r, h1, h2⟩ := hb
  exact ⟨ha.hK, _, pe_callB h1 hg hm hv pa hn hdb he hpl, cb_ok ka h2⟩
theorem SE.callT {x : Str} {T : String} {p : Pos} {es : List Expr} {fa : En → Rs (List D)} {g : List D → Option D} (hb : BS X E (.type T) g) (hm : X.mg x = none) (hv : bootBuiltins x = some (.type T)) (ha : SA X E W (e :: es) fa) (hg : Gl X x := by rfl)
    (hn : x ≠ "__name__" := by decide) (hdb : (x == ("__debug__" : Str)) = false := by decide)
    (he : starEach (e :: es) X.env = (false, eval e X.env) :: starEach es X.env := by rfl) (hpl : (backTo pos (starEach es X.env)).any (·.1) = false := by rfl) : SE X E W (.Call (.Name x p) (e :: es) [] pos) (eCall g fa) := by
  obtain ⟨t, pa, ka⟩ := ha.ex
  obtain ⟨r, h1, h2⟩ := hb
  exact ⟨ha.hK, _, pe_callTy h1 hg hm hv pa hn hdb he hpl, cb_ok ka h2⟩
theorem RL.one {K : Kx} {F H : Hp} {d : D} {vs : List V} {fp : List Addr} (h : RL K F H [d] vs fp) : ∃ v, vs = [v] ∧ R K F H d v fp := by
  cases h with
  | cons r t => cases t; rw [List.append_nil]; exact ⟨_, rfl, r⟩
theorem RL.two {K : Kx} {F H : Hp} {d d' : D} {vs : List V} {fp : List Addr} (h : RL K F H [d, d'] vs fp) : ∃ v v' fq fr, vs = [v, v'] ∧ R K F H d v fq ∧ R K F H d' v' fr := by
  cases h with
  | cons r t => obtain ⟨v', rfl, r'⟩ := t.one; exact ⟨_, v', _, _, rfl, r, r'⟩
/-! len -/
def bLen : List D → Option D
  | [.str x] => some (.int x.length)
  | [.tup x] => some (.int x.length)
  | [.lst x] => some (.int x.length)
  | [.olst x] => some (.int x.length)
  | [.scr x] => some (.int x.length)
  | _ => none
theorem BS.len (hK : X.K = E.K.k) : BS X E (.builtin "len") bLen := by
  refine ⟨_, call_len, fun F H vs ds fp d hs r0 h Q q => ?_⟩
  unfold bLen at h
  split at h <;> cases h <;> obtain ⟨v, rfl, r⟩ := r0.one
  · obtain ⟨rfl, k⟩ := r.str_inv
    refine ⟨_, _, rfl, ⟨?_, rfl⟩, ?_⟩
    · show (List.toArray _).size ≤ sizeLine
      rw [List.size_toArray]; exact k.len
    · rename_i x'
      have e : (⟨x'.toArray⟩ : Str).length = x'.length := by show x'.toArray.size = _; exact List.size_toArray
      rw [e]
      exact q _ [] F H (Grow.refl hs) (.int _)
  · obtain ⟨p, us, rfl, hp, hl, hz⟩ := r.tup_inv
    exact ⟨_, _, rfl, .inr ⟨us, by rw [hK]; exact same_t hs hp, rfl⟩, by rw [hl.len]; exact q _ [] F H (Grow.refl hs) (.int _)⟩
  · cases r with
    | lst hp hl => exact ⟨_, _, rfl, .inl ⟨_, SqL.of (hs _ _ hp), rfl⟩, by rw [hl.len]; exact q _ [] F H (Grow.refl hs) (.int _)⟩
  · cases r with
    | olst hp hl => exact ⟨_, _, rfl, .inl ⟨_, SqL.of hp, rfl⟩, by rw [hl.len]; exact q _ [] F H (Grow.refl hs) (.int _)⟩
  · cases r with
    | scr hp => exact ⟨_, _, rfl, .inl ⟨_, by rw [hK]; exact hs.seq hp, rfl⟩, by rw [List.length_map]; exact q _ [] F H (Grow.refl hs) (.int _)⟩
/-! abs, int, min, max of two -/
def bAbs : List D → Option D
  | [.int i] => some (.int (if i < 0 then -i else i))
  | _ => none
theorem BS.abs : BS X E (.builtin "abs") bAbs := by
  refine ⟨_, call_abs, fun F H vs ds fp d hs r0 h Q q => ?_⟩
  unfold bAbs at h
  split at h <;> cases h
  obtain ⟨v, rfl, r⟩ := r0.one
  cases r
  exact ⟨_, rfl, q _ [] F H (Grow.refl hs) (.int _)⟩
def bInt : List D → Option D
  | [.int i] => some (.int i)
  | [.bl b] => some (.int (if b then 1 else 0))
  | _ => none
theorem BS.int : BS X E (.type "int") bInt := by
  refine ⟨_, call_int1, fun F H vs ds fp d hs r0 h Q q => ?_⟩
  unfold bInt at h
  split at h <;> cases h <;> obtain ⟨v, rfl, r⟩ := r0.one <;> cases r
  · exact .inl ⟨_, rfl, q _ [] F H (Grow.refl hs) (.int _)⟩
  · exact .inr ⟨_, rfl, q _ [] F H (Grow.refl hs) (.int _)⟩
def bMin : List D → Option D
  | [.int i, .int j] => some (.int (if j < i then j else i))
  | _ => none
theorem BS.min (hc : X.calm = true) : BS X E (.builtin "min") bMin := by
  refine ⟨_, call_min2 hc, fun F H vs ds fp d hs r0 h Q q => ?_⟩
  unfold bMin at h
  split at h <;> cases h
  obtain ⟨v, v', _, _, rfl, r1, r2⟩ := r0.two
  cases r1; cases r2
  exact ⟨_, _, rfl, q _ [] F H (Grow.refl hs) (.int _)⟩
def bMax : List D → Option D
  | [.int i, .int j] => some (.int (if j > i then j else i))
  | _ => none
theorem BS.max (hc : X.calm = true) : BS X E (.builtin "max") bMax := by
  refine ⟨_, call_max2 hc, fun F H vs ds fp d hs r0 h Q q => ?_⟩
  unfold bMax at h
  split at h <;> cases h
  obtain ⟨v, v', _, _, rfl, r1, r2⟩ := r0.two
  cases r1; cases r2
  exact ⟨_, _, rfl, q _ [] F H (Grow.refl hs) (.int _)⟩
/-! all, any -/
def blsOf : List D → Option (List Bool)
  | [] => some []
  | .bl b :: ds => (blsOf ds).map (b :: ·)
  | _ => none
theorem blsOf_at {K : Kx} {F H : Hp} : ∀ {ds : List D} {vs : List V} {bs : List Bool}, RL K F H ds vs [] → blsOf ds = some bs → vs = bs.map V.bl
  | [], vs, bs, r, e => by
    cases e
    cases vs with
    | nil => rfl
    | cons _ _ => exact absurd r.len (by simp)
  | d :: ds, vs, bs, r, e => by
    obtain ⟨v, vs', rfl, h1, h2⟩ := r.inv_cons
    cases d <;> first | (cases e; done) | skip
    rename_i b
    have e' : (blsOf ds).map (b :: ·) = some bs := e
    cases q : blsOf ds with
    | none => rw [q] at e'; cases e'
    | some bs' =>
      rw [q] at e'
      cases e'
      cases h1
      rw [blsOf_at h2 q]
      rfl
def bAll : List D → Option D
  | [d] => (listOf d).bind fun xs => (blsOf xs).map fun bs => .bl (bs.all id)
  | _ => none
def bAny : List D → Option D
  | [d] => (listOf d).bind fun xs => (blsOf xs).map fun bs => .bl (bs.any id)
  | _ => none
theorem BS.all (hc : X.calm = true) : BS X E (.builtin "all") bAll := by
  refine ⟨_, cr_all hc, fun F H vs ds fp d hs r0 h Q q => ?_⟩
  unfold bAll at h
  split at h <;> first | (cases h; done) | skip
  rename_i d'
  obtain ⟨v, rfl, r⟩ := r0.one
  cases e1 : listOf d' with
  | none => rw [e1] at h; cases h
  | some xs =>
    rw [e1, Option.bind_some] at h
    cases e2 : blsOf xs with
    | none => rw [e2] at h; cases h
    | some bs =>
      rw [e2] at h
      cases h
      obtain ⟨p, us, rfl, hp, hl, hz⟩ := listOf_at hs r e1
      have e3 := blsOf_at hl e2
      subst e3
      exact ⟨p, bs, rfl, SqL.of hp, q _ [] F H (Grow.refl hs) (.bl _)⟩
theorem BS.any (hc : X.calm = true) : BS X E (.builtin "any") bAny := by
  refine ⟨_, cr_any hc, fun F H vs ds fp d hs r0 h Q q => ?_⟩
  unfold bAny at h
  split at h <;> first | (cases h; done) | skip
  rename_i d'
  obtain ⟨v, rfl, r⟩ := r0.one
  cases e1 : listOf d' with
  | none => rw [e1] at h; cases h
  | some xs =>
    rw [e1, Option.bind_some] at h
    cases e2 : blsOf xs with
    | none => rw [e2] at h; cases h
    | some bs =>
      rw [e2] at h
      cases h
      obtain ⟨p, us, rfl, hp, hl, hz⟩ := listOf_at hs r e1
      have e3 := blsOf_at hl e2
      subst e3
      exact ⟨p, bs, rfl, SqL.of hp, q _ [] F H (Grow.refl hs) (.bl _)⟩
/-! tuple(x) -/
def bTuple : List D → Option D
  | [d] => match d with
    | .tup xs => some (.tup xs)
    | .scr _ => none
    | d => (seqOf d).map D.tup
  | _ => none
theorem BS.tuple (hK : X.K = E.K.k) : BS X E (.type "tuple") bTuple := by
  refine ⟨_, call_tuple_of, fun F H vs ds fp d hs r0 h Q q => ?_⟩
  unfold bTuple at h
  split at h <;> first | (cases h; done) | skip
  rename_i dd
  obtain ⟨v, rfl, r⟩ := r0.one
  split at h
  · cases h
    obtain ⟨p, us, rfl, hp, hl, hz⟩ := r.tup_inv
    exact ⟨p, us, rfl, .inr ⟨by rw [hK]; exact same_t hs hp, q _ [] F H (Grow.refl hs) (r.toData rfl)⟩⟩
  · cases h
  · rename_i n1 n2
    generalize dd = d' at *
    cases e1 : seqOf d' with
    | none => rw [e1] at h; cases h
    | some xs =>
      rw [e1] at h
      cases h
      cases d' <;> first | (cases e1; done) | (exact absurd rfl (n1 _)) | (exact absurd rfl (n2 _)) | skip
      all_goals
        obtain ⟨p, us, rfl, hp, hl, hz⟩ := listOf_at (ds := xs) hs r e1
        exact ⟨p, us, rfl, .inl ⟨SqL.of hp, fun l hl' => q _ [] _ _ (Grow.new hs hl') (.tup upd_same (hl.grow (Grow.new hs hl')) hz)⟩⟩
end
end Z

set_option Elab.async false
set_option linter.all false
set_option maxRecDepth 100000
set_option maxHeartbeats 1000000
namespace Z
open PySem L2
/-! ### statements -/
/-- how a statement ends: on, break, continue, return, raise, nothing known -/
inductive Fl where
  | nx (e : En) | bk (e : En) | ct (e : En) | rt (d : D) (e : En) | xx (x : D) (e : En) | un
def PostS (E : Ent) (W : WX) (F : Hp) (D : Ends) : Fl → Prop
  | .nx e => ∀ F' σ' H', Same F F' → Stt E F' e σ' H' → D.nx σ' H'
  | .bk e => ∀ F' σ' H', Same F F' → Stt E F' e σ' H' → D.bk σ' H'
  | .ct e => ∀ F' σ' H', Same F F' → Stt E F' e σ' H' → D.ct σ' H'
  | .rt d e => ∀ v F' σ' H', Same F F' → Stt E F' e σ' H' → R E.K F' H' d v [] → D.rt v H'
  | .xx x e => ∀ cls dd F' σ' H', Same F F' → Stt E F' e σ' H' → Rx E.K F' H' x cls dd → W cls dd σ' H'
  | .un => False
theorem PostS.mono {E : Ent} {W : WX} {F F1 : Hp} {D : Ends} {r : Fl} (G : Same F F1) (h : PostS E W F D r) : PostS E W F1 D r := by
  cases r with
  | nx e => exact fun F' σ' H' k => h F' σ' H' (G.trans k)
  | bk e => exact fun F' σ' H' k => h F' σ' H' (G.trans k)
  | ct e => exact fun F' σ' H' k => h F' σ' H' (G.trans k)
  | rt d e => exact fun v F' σ' H' k => h v F' σ' H' (G.trans k)
  | xx x e => exact fun cls dd F' σ' H' k => h cls dd F' σ' H' (G.trans k)
  | un => exact h
def OkS (E : Ent) (W : WX) (t : TS) (g : En → Fl) : Prop := ∀ F σ H env, Stt E F env σ H → ∀ D, PostS E W F D (g env) → t D σ H
structure SS (X : Cx) (E : Ent) (W : WX) (s : Stmt) (g : En → Fl) : Prop where
  hK : X.K = E.K.k
  ex : ∃ t, PS X s t ∧ OkS E W t g
structure SB (X : Cx) (E : Ent) (W : WX) (s : List Stmt) (g : En → Fl) : Prop where
  hK : X.K = E.K.k
  ex : ∃ t, PSs X s t ∧ OkS E W t g
section
variable {X : Cx} {E : Ent} {W : WX} {e a b : Expr} {f g : En → Rs D} {pos : Pos} {s : Stmt} {ss : List Stmt} {gs gt : En → Fl}
def sSeq (g h : En → Fl) : En → Fl := fun env => match g env with
  | .nx e => h e
  | r => r
def sPass : En → Fl := fun env => .nx env
theorem SB.nil (hK : X.K = E.K.k := by rfl) : SB X E W [] sPass := ⟨hK, _, pss_nil, fun F σ H env S D q => q F σ H (Same.refl _) S⟩
theorem seq_ok {t u : TS} (h : OkS E W t gs) (k : OkS E W u gt) : OkS E W (tSeq t u) (sSeq gs gt) := by
  intro F σ H env S D q
  refine h F σ H env S _ ?_
  unfold sSeq at q
  cases e1 : gs env <;> rw [e1] at q <;> try exact q
  exact fun F' σ' H' G S' => k F' σ' H' _ S' D (q.mono G)
theorem SB.cons (h : SS X E W s gs) (k : SB X E W ss gt) : SB X E W (s :: ss) (sSeq gs gt) := by
  obtain ⟨t, p, o⟩ := h.ex
  obtain ⟨u, p', o'⟩ := k.ex
  exact ⟨h.hK, _, pss_cons p p', seq_ok o o'⟩
theorem SB.one (h : SS X E W s gs) : SB X E W [s] gs := by
  obtain ⟨t, p, o⟩ := h.ex
  exact ⟨h.hK, _, pss_one p, o⟩
theorem SS.pass (hK : X.K = E.K.k := by rfl) : SS X E W (.Pass pos) sPass := ⟨hK, _, ps_pass, fun F σ H env S D q => q F σ H (Same.refl _) S⟩
/-- slots forgotten ahead of a statement or a block -/
def wipeE (is : List Nat) (env : En) : En := is.foldl (fun e i => e.set i none) env
theorem Stt.wipes {F H : Hp} {σ : St} : ∀ (is : List Nat) {env : En}, Stt E F env σ H → Stt E F (wipeE is env) σ H
  | [], _, S => S
  | i :: is, _, S => Stt.wipes is (S.wipe i)
def sPre (is : List Nat) (g : En → Fl) : En → Fl := fun env => g (wipeE is env)
theorem SS.pre (is : List Nat) (h : SS X E W s gs) : SS X E W s (sPre is gs) := by
  obtain ⟨t, p, o⟩ := h.ex
  exact ⟨h.hK, t, p, fun F σ H env S D q => o F σ H _ (S.wipes is) D q⟩
theorem SB.pre (is : List Nat) (h : SB X E W ss gs) : SB X E W ss (sPre is gs) := by
  obtain ⟨t, p, o⟩ := h.ex
  exact ⟨h.hK, t, p, fun F σ H env S D q => o F σ H _ (S.wipes is) D q⟩

/-! a value is stored -/
def sSet (i : Nat) (f : En → Rs D) : En → Fl := fun env => match f env with
  | .ok d => if isData d then .nx (env.set i (some d)) else .un
  | .ex x => .xx x env
  | .un => .un
theorem set_ok {t : TE} {i : Nat} (k : OkE E W t f) : OkS E W (tAsg t (gName i)) (sSet i f) := by
  intro F σ H env S D q
  refine k F σ H env S _ ?_
  unfold sSet at q
  cases e1 : f env with
  | un => rw [e1] at q; exact q
  | ex x => rw [e1] at q; exact fun cls dd F' H' G r => q cls dd F' σ H' G.f (S.grow G) r
  | ok d =>
    rw [e1] at q
    intro v fp F' H' G r
    dsimp only at q
    split at q
    · rename_i hd
      exact q F' _ H' G.f ((S.grow G).setData i (r.toData hd))
    · exact q.elim
theorem SS.set (i : Nat) {y : Str} {py : Pos} (hf : SE X E W e f) (hN : X.N.Nodup) (hy : X.N[i]? = some y := by rfl) (hl : Loc X.env.scope y := by first | exact Or.inl rfl | exact Or.inr rfl)
    (hs : swapsWith e (some (.Name y py)) pos.line X.env = pure false := by rfl) (hfn : X.fn y = true ∨ X.env.scope.names.lookup y = some .local := by first | exact .inl rfl | exact .inr rfl) : SS X E W (.Assign [.Name y py] e pos) (sSet i f) := by
  obtain ⟨t, p, k⟩ := hf.ex
  exact ⟨hf.hK, _, ps_set hN hy hl p hs hfn, set_ok k⟩
/-- a new list, owned -/
def sSetL (i : Nat) (f : En → Rs (List D)) : En → Fl := fun env => match f env with
  | .ok ds => .nx (env.set i (some (.olst ds)))
  | .ex x => .xx x env
  | .un => .un
theorem setL_ok {t : TE} {i : Nat} {fl : En → Rs (List D)} (k : OkL E W t fl) : OkS E W (tAsg t (gName i)) (sSetL i fl) := by
  intro F σ H env S D q
  refine k F σ H env S _ ?_
  unfold sSetL at q
  cases e1 : fl env with
  | un => rw [e1] at q; exact q
  | ex x => rw [e1] at q; exact fun cls dd F' H' G r => q cls dd F' σ H' G.f (S.grow G) r
  | ok ds =>
    rw [e1] at q
    intro p vs F' H' G hp hF hH r hz
    refine q F' _ H' G.f (S.setNew i (fp := [p]) (.olst hH r hz) G (by simp) fun a ha => ?_)
    rw [List.mem_singleton.mp ha]
    exact ⟨hp, hF, S.fresh hp⟩
theorem SS.setL (i : Nat) {y : Str} {py : Pos} {fl : En → Rs (List D)} (hf : SL X E W e fl) (hN : X.N.Nodup) (hy : X.N[i]? = some y := by rfl) (hl : Loc X.env.scope y := by first | exact Or.inl rfl | exact Or.inr rfl)
    (hs : swapsWith e (some (.Name y py)) pos.line X.env = pure false := by rfl) (hfn : X.fn y = true ∨ X.env.scope.names.lookup y = some .local := by first | exact .inl rfl | exact .inr rfl) : SS X E W (.Assign [.Name y py] e pos) (sSetL i fl) := by
  obtain ⟨t, p, k⟩ := hf.ex
  exact ⟨hf.hK, _, ps_set hN hy hl p hs hfn, setL_ok k⟩

/-! return, a value dropped, if -/
def sRet (f : En → Rs D) : En → Fl := fun env => match f env with
  | .ok d => if isData d then .rt d [] else .un
  | .ex x => .xx x env
  | .un => .un
theorem SS.ret (hf : SE X E W e f) : SS X E W (.Return (some e) pos) (sRet f) := by
  obtain ⟨t, p, k⟩ := hf.ex
  refine ⟨hf.hK, _, ps_ret p, fun F σ H env S D q => ?_⟩
  refine k F σ H env S _ ?_
  unfold sRet at q
  cases e1 : f env with
  | un => rw [e1] at q; exact q
  | ex x => rw [e1] at q; exact fun cls dd F' H' G r => q cls dd F' σ H' G.f (S.grow G) r
  | ok d =>
    rw [e1] at q
    intro v fp F' H' G r
    dsimp only at q
    split at q
    · rename_i hd
      exact q v F' σ H' G.f (S.grow G).nilEnv (r.toData hd)
    · exact q.elim
def sRetN : En → Fl := fun _ => .rt .non []
theorem SS.retN (hK : X.K = E.K.k := by rfl) : SS X E W (.Return none pos) sRetN := ⟨hK, _, ps_retN, fun F σ H env S D q => q _ F σ H (Same.refl _) S.nilEnv .non⟩
def sDrop (f : En → Rs D) : En → Fl := fun env => match f env with
  | .ok _ => .nx env
  | .ex x => .xx x env
  | .un => .un
theorem SS.expr (hf : SE X E W e f) (hs : swapsWith e none pos.line X.env = pure false := by rfl) : SS X E W (.Expr e pos) (sDrop f) := by
  obtain ⟨t, p, k⟩ := hf.ex
  refine ⟨hf.hK, _, ps_expr p hs, fun F σ H env S D q => ?_⟩
  refine k F σ H env S _ ?_
  unfold sDrop at q
  cases e1 : f env with
  | un => rw [e1] at q; exact q
  | ex x => rw [e1] at q; exact fun cls dd F' H' G r => q cls dd F' σ H' G.f (S.grow G) r
  | ok d =>
    rw [e1] at q
    exact fun v fp F' H' G r => q F' σ H' G.f (S.grow G)
def sIf (c : En → Rs Bool) (g h : En → Fl) : En → Fl := fun env => match c env with
  | .ok true => g env
  | .ok false => h env
  | .ex x => .xx x env
  | .un => .un
theorem SS.ite {c : Expr} {tc : En → Rs Bool} {a b : List Stmt} (hc : ST X E W c tc) (ha : SB X E W a gs) (hb : SB X E W b gt) : SS X E W (.If c a b pos) (sIf tc gs gt) := by
  obtain ⟨t, p, k⟩ := hc.ex
  obtain ⟨u, p', k'⟩ := ha.ex
  obtain ⟨u2, p2, k2⟩ := hb.ex
  refine ⟨hc.hK, _, ps_if p p' p2, fun F σ H env S D q => ?_⟩
  refine k F σ H env S _ ?_
  unfold sIf at q
  cases e1 : tc env with
  | un => rw [e1] at q; exact q
  | ex x => rw [e1] at q; exact fun cls dd F' H' G r => q cls dd F' σ H' G.f (S.grow G) r
  | ok b =>
    rw [e1] at q
    intro F' H' G
    cases b with
    | true => exact k' F' σ H' env (S.grow G) D (q.mono G.f)
    | false => exact k2 F' σ H' env (S.grow G) D (q.mono G.f)
def sBreak : En → Fl := fun env => .bk env
def sCont : En → Fl := fun env => .ct env
theorem SS.brk (hK : X.K = E.K.k := by rfl) : SS X E W (.Break pos) sBreak := ⟨hK, _, ps_break, fun F σ H env S D q => q F σ H (Same.refl _) S⟩
theorem SS.cont (hK : X.K = E.K.k := by rfl) : SS X E W (.Continue pos) sCont := ⟨hK, _, ps_continue, fun F σ H env S D q => q F σ H (Same.refl _) S⟩

/-! x += e -/
def sAug (i : Nat) (op : D → D → Option D) (f : En → Rs D) : En → Fl := fun env => match env[i]? with
  | some (some x) => match f env with
    | .ok d => match op x d with
      | some z => if isData z then .nx (env.set i (some z)) else .un
      | none => .un
    | .ex x => .xx x env
    | .un => .un
  | _ => .un
def IpS (X : Cx) (E : Ent) (o : Operator) (g : D → D → Option D) : Prop :=
  ∃ r, PIp X o r ∧ ∀ F H x y d1 d2 fp1 fp2 d, Same F H → R E.K F H d1 x fp1 → R E.K F H d2 y fp2 → g d1 d2 = some d → ∀ Q : VK,
    (∀ v fp F' H', Grow F H F' H' → R E.K F' H' d v fp → Q v H') → r x y H Q
theorem SS.aug (i : Nat) {y : Str} {py : Pos} {o : Operator} {op : D → D → Option D} (ho : IpS X E o op) (hf : SE X E W e f) (hN : X.N.Nodup) (hy : X.N[i]? = some y := by rfl) (hl : Loc X.env.scope y := by first | exact Or.inl rfl | exact Or.inr rfl)
    (hfn : X.fn y = true ∨ X.env.scope.names.lookup y = some .local := by first | exact .inl rfl | exact .inr rfl) : SS X E W (.AugAssign (.Name y py) o e pos) (sAug i op f) := by
  obtain ⟨t, p, k⟩ := hf.ex
  obtain ⟨r, h1, h2⟩ := ho
  refine ⟨hf.hK, _, ps_aug hN hy hl p h1 hfn, fun F σ H env S D q => ?_⟩
  unfold sAug at q
  cases e0 : env[i]? with
  | none => rw [e0] at q; exact q.elim
  | some ox =>
    cases ox with
    | none => rw [e0] at q; exact q.elim
    | some x =>
      rw [e0] at q
      dsimp only at q
      obtain ⟨fps, rs, _⟩ := S.rep
      obtain ⟨v, fp, g1, _, g3⟩ := rs.get e0
      refine ⟨v, g1, k F σ H env S _ ?_⟩
      cases e1 : f env with
      | un => rw [e1] at q; exact q
      | ex x => rw [e1] at q; exact fun cls dd F' H' G r => q cls dd F' σ H' G.f (S.grow G) r
      | ok d =>
        rw [e1] at q
        dsimp only at q
        intro v1 fp1 F1 H1 G1 r1
        cases e2 : op x d with
        | none => rw [e2] at q; exact q.elim
        | some z =>
          rw [e2] at q
          dsimp only at q
          split at q
          · rename_i hz
            refine h2 F1 H1 v v1 x d fp fp1 z G1.fh (g3.grow G1) r1 e2 _ fun v2 fp2 F2 H2 G2 r2 => ?_
            exact q F2 _ H2 (G1.trans G2).f ((S.grow (G1.trans G2)).setData i (r2.toData hz))
          · exact q.elim
def pAddI : D → D → Option D
  | .int i, .int j => some (.int (i + j))
  | _, _ => none
theorem IpS.add : IpS X E .Add pAddI := by
  refine ⟨_, ip_add, fun F H x y d1 d2 fp1 fp2 d hs r1 r2 h Q q => ?_⟩
  unfold pAddI at h
  split at h <;> cases h
  cases r1; cases r2
  exact ⟨_, _, rfl, rfl, q _ [] F H (Grow.refl hs) (.int _)⟩
theorem IpS.sub : IpS X E .Sub pSub := by
  refine ⟨_, ip_sub, fun F H x y d1 d2 fp1 fp2 d hs r1 r2 h Q q => ?_⟩
  unfold pSub at h
  split at h <;> cases h
  cases r1; cases r2
  exact ⟨_, _, rfl, rfl, q _ [] F H (Grow.refl hs) (.int _)⟩

/-! targets -/
def OkG (E : Ent) (is : List Nat) (t : TG) (h : D → En → Option En) : Prop := ∀ F σ H env d v, Stt E F env σ H → R E.K F H d v [] → ∀ Q : St → Hp → Prop,
  (∃ e', h d env = some e' ∧ ∀ σ', Stt E F e' σ' H → (∀ j, j ∉ is → σ'[j]? = σ[j]?) → σ'.length = σ.length → Q σ' H) → t v σ H Q
structure SG (X : Cx) (E : Ent) (tg : Expr) (is : List Nat) (h : D → En → Option En) : Prop where
  ex : ∃ t, PG X tg t ∧ OkG E is t h
def gN (i : Nat) : D → En → Option En := fun d env => some (env.set i (some d))
theorem SG.name (i : Nat) {y : Str} (hN : X.N.Nodup) (hy : X.N[i]? = some y := by rfl) (hl : Loc X.env.scope y := by first | exact Or.inl rfl | exact Or.inr rfl)
    (hfn : X.fn y = true ∨ X.env.scope.names.lookup y = some .local := by first | exact .inl rfl | exact .inr rfl) : SG X E (.Name y pos) [i] (gN i) := by
  refine ⟨_, pg_name hN hy hl hfn, fun F σ H env d v S r Q q => ?_⟩
  obtain ⟨e', he, k⟩ := q
  cases he
  refine k _ (S.setData i r) (fun j hj => ?_) (List.length_set ..)
  have : i ≠ j := fun z => hj (by simp [z])
  rw [List.getElem?_set_ne this]
def OkGs (E : Ent) (is : List Nat) (t : TGs) (h : List D → En → Option En) : Prop := ∀ F σ H env ds vs, Stt E F env σ H → RL E.K F H ds vs [] → ∀ Q : St → Hp → Prop,
  (∃ e', h ds env = some e' ∧ ∀ σ', Stt E F e' σ' H → (∀ j, j ∉ is → σ'[j]? = σ[j]?) → σ'.length = σ.length → Q σ' H) → t vs σ H Q
structure SGs (X : Cx) (E : Ent) (ts : List Expr) (is : List Nat) (h : List D → En → Option En) : Prop where
  ex : ∃ t, PGs X ts t ∧ OkGs E is t h
def gsNil : List D → En → Option En
  | [], env => some env
  | _, _ => none
def gsCons (h : D → En → Option En) (k : List D → En → Option En) : List D → En → Option En
  | d :: ds, env => (h d env).bind fun e => k ds e
  | [], _ => none
theorem SGs.nil : SGs X E [] [] gsNil := by
  refine ⟨_, pgs_nil, fun F σ H env ds vs S r Q q => ?_⟩
  obtain ⟨e', he, k⟩ := q
  cases ds with
  | nil =>
    cases he
    refine ⟨?_, k σ S (fun _ _ => rfl) rfl⟩
    cases vs with
    | nil => rfl
    | cons _ _ => exact absurd r.len (by simp)
  | cons _ _ => cases he
theorem SGs.cons {ts : List Expr} {is js : List Nat} {h : D → En → Option En} {k : List D → En → Option En} (h1 : SG X E e is h) (h2 : SGs X E ts js k)
    (hs : (assignEach (e :: ts) X.env).map (·.2) = assign e X.env :: (assignEach ts X.env).map (·.2) := by rfl) : SGs X E (e :: ts) (is ++ js) (gsCons h k) := by
  obtain ⟨t, p, o⟩ := h1.ex
  obtain ⟨u, p', o'⟩ := h2.ex
  refine ⟨_, pgs_cons p p' hs, fun F σ H env ds vs S r Q q => ?_⟩
  obtain ⟨e', he, kk⟩ := q
  cases ds with
  | nil => cases he
  | cons d ds =>
    obtain ⟨v, vs', rfl, r1, r2⟩ := r.inv_cons
    have he : (h d env).bind (fun e => k ds e) = some e' := he
    cases e1 : h d env with
    | none => rw [e1] at he; cases he
    | some em =>
      rw [e1, Option.bind_some] at he
      refine ⟨v, vs', rfl, o F σ H env d v S r1 _ ⟨em, e1, fun σ1 S1 a1 l1 => ?_⟩⟩
      refine o' F σ1 H em ds vs' S1 r2 Q ⟨e', he, fun σ2 S2 a2 l2 => ?_⟩
      exact kk σ2 S2 (fun j hj => (a2 j fun z => hj (List.mem_append_right _ z)).trans (a1 j fun z => hj (List.mem_append_left _ z))) (l2.trans l1)
def gT (k : List D → En → Option En) : D → En → Option En := fun d env => match d with
  | .tup ds => k ds env
  | _ => none
theorem gs_len : ∀ {ts : List Expr} {is : List Nat} {k : List D → En → Option En}, SGs X E ts is k → True := fun _ => trivial
theorem SG.tup {ts : List Expr} {is : List Nat} {k1 : Nat} {k : List D → En → Option En} (n : Nat) (hc : X.calm = true) (h : SGs X E ts is k) (hn : (assignEach ts X.env).length = n := by rfl) (hst : (assignEach ts X.env).findIdx? (·.1) = none := by rfl) (hK : X.K = E.K.k := by rfl) :
    SG X E (.Tuple ts k1 pos) is (gT fun ds env => if ds.length = n then k ds env else none) := by
  obtain ⟨t, p, o⟩ := h.ex
  refine ⟨_, pg_tup hc p hn hst, fun F σ H env d v S r Q q => ?_⟩
  obtain ⟨e', he, kk⟩ := q
  cases d <;> first | (cases he; done) | skip
  rename_i ds
  obtain ⟨a, vs, rfl, hp, hl, _⟩ := r.tup_inv
  have he : (if ds.length = n then k ds env else none) = some e' := he
  split at he
  · rename_i hln
    exact ⟨a, vs, rfl, by rw [hK]; exact same_t S.fH hp, by rw [hl.len]; exact hln, o F σ H env ds vs S hl Q ⟨e', he, kk⟩⟩
  · cases he
end
end Z

set_option Elab.async false
set_option linter.all false
set_option maxRecDepth 100000
set_option maxHeartbeats 1000000
namespace Z
open PySem L2
/-! ### what is gone through -/
def PostI (E : Ent) (W : WX) (F H : Hp) (σ : St) (Rj : It → Hp → Prop) : Rs (List D) → Prop
  | .ok ds => ∀ (J : It) (G : Hp → Prop) (Y : Nat → Hp → V → Hp → Prop) F' H', Grow F H F' H' → ds.length ≤ 16777216 → Walk J ds.length G Y → (∀ Hc, Same F' Hc → G Hc) →
      (∀ i d, ds[i]? = some d → ∀ Fc Hc v Hn, Same F' Fc → Same Fc Hc → Y i Hc v Hn → ∃ Fn, Grow Fc Hc Fn Hn ∧ R E.K Fn Hn d v []) → Rj J H'
  | .ex x => ∀ cls dd F' H', Grow F H F' H' → Rx E.K F' H' x cls dd → W cls dd σ H'
  | .un => False
def OkI (E : Ent) (W : WX) (wi : TI) (f : En → Rs (List D)) : Prop := ∀ F σ H env, Stt E F env σ H → ∀ Rj, PostI E W F H σ Rj (f env) → wi σ H Rj
structure SI (X : Cx) (E : Ent) (W : WX) (tg iter : Expr) (f : En → Rs (List D)) : Prop where
  hK : X.K = E.K.k
  ex : ∃ wi, PI X tg iter wi ∧ OkI E W wi f
section
variable {X : Cx} {E : Ent} {W : WX} {e a b tg iter : Expr} {f g : En → Rs D} {pos : Pos} {s : Stmt} {ss : List Stmt} {gs gt : En → Fl}
theorem PI.or {w1 w2 : TI} (h1 : PI X tg iter w1) (h2 : PI X tg iter w2) : PI X tg iter (fun σ H Rj => w1 σ H Rj ∨ w2 σ H Rj) := by
  refine ⟨fun pins s σ H R I h => ?_⟩
  rcases h with h | h
  · exact h1.run pins s σ H R I h
  · exact h2.run pins s σ H R I h
/-- the items of a list, a tuple, a text -/
def itemsOf : D → Option (List D)
  | .str x => some (x.map fun c => .str [c])
  | .lst xs => some xs
  | .tup xs => some xs
  | .scr ns => some (ns.map .int)
  | _ => none
def iSeq (f : En → Rs D) : En → Rs (List D) := fun env => (f env).bind fun d => ofO (itemsOf d)
theorem at_map {α β : Type} {f : α → β} {xs : List α} {i : Nat} {y : β} (h : (xs.map f)[i]? = some y) : ∃ x, xs[i]? = some x ∧ f x = y := by
  rw [List.getElem?_map] at h
  cases e : xs[i]? with
  | none => rw [e] at h; cases h
  | some x => rw [e] at h; exact ⟨x, rfl, Option.some.inj h⟩
theorem yat_ok {F' : Hp} {K : Kx} {H' : Hp} {ds : List D} {vs : List V} (hl : RL K F' H' ds vs []) :
    ∀ i d, ds[i]? = some d → ∀ Fc Hc v Hn, Same F' Fc → Same Fc Hc → YAt vs i Hc v Hn → ∃ Fn, Grow Fc Hc Fn Hn ∧ R K Fn Hn d v [] := by
  intro i d hd Fc Hc v Hn h1 h2 y
  obtain ⟨e, ev⟩ := y
  subst e
  obtain ⟨v', e1, r⟩ := hl.get0 hd
  rw [ev] at e1
  cases e1
  exact ⟨Fc, Grow.refl h2, R.mono h1 d (fun a z => nomatch z) r⟩
theorem SI.seq (hf : SE X E W iter f) : SI X E W tg iter (iSeq f) := by
  obtain ⟨t, p, k⟩ := hf.ex
  refine ⟨hf.hK, _, PI.or (pi_list p) (PI.or (pi_tup p) (pi_str p)), fun F σ H env S Rj q => ?_⟩
  unfold iSeq at q
  have hk := hf.hK
  cases e1 : f env with
  | un => rw [e1] at q; exact q.elim
  | ex x =>
    rw [e1] at q
    refine .inl (k F σ H env S _ ?_)
    rw [e1]
    exact q
  | ok d =>
    rw [e1, Rs.bind_ok] at q
    cases e2 : itemsOf d with
    | none => rw [e2] at q; exact q.elim
    | some ds =>
      rw [e2] at q
      cases d <;> first | (cases e2; done) | skip
      · cases e2
        refine .inr (.inr (k F σ H env S _ ?_))
        rw [e1]
        intro v fp F' H' G r
        obtain ⟨rfl, ko⟩ := r.str_inv
        rename_i x
        refine ⟨_, rfl, q (Its ⟨x.toArray⟩) _ _ F' H' G (by rw [List.length_map, line_eq]; exact ko.len) (by rw [List.length_map]; have w := walk_str (z := ⟨x.toArray⟩); rw [show (⟨x.toArray⟩ : Str).cps.size = x.length from List.size_toArray] at w; exact w) (fun _ _ => trivial) ?_⟩
        intro i d hd Fc Hc v Hn h1 h2 y
        obtain ⟨rfl, c, hc, rfl⟩ := y
        obtain ⟨c', e3, rfl⟩ := at_map hd
        have e4 : x[i]? = some c := by simpa using hc
        rw [e4] at e3
        cases e3
        exact ⟨Fc, Grow.refl h2, .str ⟨by show 1 ≤ sizeLine; decide, fun c'' hc'' => by rw [List.mem_singleton.mp hc'']; exact ko.cps c (List.mem_of_getElem? e4)⟩⟩
      · cases e2
        refine .inr (.inl (k F σ H env S _ ?_))
        rw [e1]
        intro v fp F' H' G r
        obtain ⟨p, vs, rfl, hp, hl, hz⟩ := r.tup_inv
        refine ⟨p, rfl, ⟨vs, by rw [hk]; exact same_t G.fh hp⟩, q (Itt X.K p) _ _ F' H' G hz (by rw [← hl.len]; exact walk_tup) (fun Hc h => by rw [hk]; exact same_t h hp) (yat_ok hl)⟩
      · cases e2
        refine .inl (k F σ H env S _ ?_)
        rw [e1]
        intro v fp F' H' G r
        cases r with
        | lst hp hl hz => exact ⟨_, rfl, ⟨_, SqL.of (G.fh _ _ hp)⟩, q (Itl X.K _) _ _ F' H' G hz (by rw [← hl.len]; exact walk_list) (fun Hc h => SqL.of (h _ _ hp)) (yat_ok hl)⟩
      · cases e2
        refine .inl (k F σ H env S _ ?_)
        rw [e1]
        intro v fp F' H' G r
        cases r with
        | scr hp hz =>
          rename_i ns p
          exact ⟨_, rfl, ⟨_, by rw [hk]; exact G.fh.seq hp⟩, q (Itl X.K _) _ _ F' H' G (by rw [List.length_map]; exact hz) (by rw [List.length_map, ← List.length_map (f := V.int)]; exact walk_list) (fun Hc h => by rw [hk]; exact h.seq hp) (yat_ok (H' := H') (RL.ints ns))⟩
/-- range(a), range(a, b) -/
def rngL (lo : Int) (n : Nat) : List D := (List.range n).map fun (i : Nat) => D.int (lo + (i : Int))
def iRng1 : List D → Rs (List D)
  | [.int j] => if -16000000 ≤ j ∧ j ≤ 16000000 then .ok (rngL 0 j.toNat) else .un
  | _ => .un
def iRng2 : List D → Rs (List D)
  | [.int i, .int j] => if -16000000 ≤ i ∧ i ≤ 16000000 ∧ -16000000 ≤ j ∧ j ≤ 16000000 ∧ j - i ≤ 16000000 then .ok (rngL i (j - i).toNat) else .un
  | _ => .un
theorem rng_ok {K : Kx} {F' : Hp} {lo : Int} {n : Nat} : ∀ i d, (rngL lo n)[i]? = some d → ∀ Fc Hc v Hn, Same F' Fc → Same Fc Hc → YFn (fun i => .int (lo + (i : Nat))) i Hc v Hn → ∃ Fn, Grow Fc Hc Fn Hn ∧ R K Fn Hn d v [] := by
  intro i d hd Fc Hc v Hn h1 h2 y
  obtain ⟨rfl, rfl⟩ := y
  obtain ⟨j, e1, rfl⟩ := at_map hd
  obtain ⟨hj, e2⟩ := List.getElem?_eq_some_iff.mp e1
  rw [List.getElem_range] at e2
  subst e2
  exact ⟨Fc, Grow.refl h2, .int _⟩
theorem rngL_len (lo : Int) (n : Nat) : (rngL lo n).length = n := by unfold rngL; rw [List.length_map, List.length_range]
theorem SI.range1 {p : Pos} {fa : En → Rs (List D)} (ha : SA X E W [a] fa) (hm : X.mg "range" = none) (hg : Gl X "range" := by rfl) (hs : starEach [a] X.env = [(false, eval a X.env)] := by rfl) : SI X E W tg (.Call (.Name "range" p) [a] [] pos) (fun env => (fa env).bind iRng1) := by
  obtain ⟨t, pa, ka⟩ := ha.ex
  refine ⟨ha.hK, _, pi_range1 hg hm pa hs, fun F σ H env S Rj q => ?_⟩
  refine ka F σ H env S _ ?_
  dsimp only at q
  cases e1 : fa env with
  | un => rw [e1] at q; exact q
  | ex x => rw [e1] at q; exact q
  | ok ds =>
    rw [e1, Rs.bind_ok] at q
    intro vs fp F' H' G r0
    unfold iRng1 at q
    split at q
    · split at q
      · rename_i hb
        obtain ⟨v, rfl, r⟩ := r0.one
        cases r
        exact ⟨_, rfl, by omega, by omega, q (Itr 0 _) _ _ F' H' G (by rw [rngL_len]; omega) (by rw [rngL_len]; exact walk_range) (fun _ _ => trivial) rng_ok⟩
      · exact q.elim
    · exact q.elim
theorem SI.range2 {p : Pos} {fa : En → Rs (List D)} (ha : SA X E W [a, b] fa) (hm : X.mg "range" = none) (hg : Gl X "range" := by rfl) (hs : starEach [a, b] X.env = [(false, eval a X.env), (false, eval b X.env)] := by rfl) (hs2 : starEach [b] X.env = [(false, eval b X.env)] := by rfl) : SI X E W tg (.Call (.Name "range" p) [a, b] [] pos) (fun env => (fa env).bind iRng2) := by
  obtain ⟨t, pa, ka⟩ := ha.ex
  refine ⟨ha.hK, _, pi_range2 hg hm pa hs hs2, fun F σ H env S Rj q => ?_⟩
  refine ka F σ H env S _ ?_
  dsimp only at q
  cases e1 : fa env with
  | un => rw [e1] at q; exact q
  | ex x => rw [e1] at q; exact q
  | ok ds =>
    rw [e1, Rs.bind_ok] at q
    intro vs fp F' H' G r0
    unfold iRng2 at q
    split at q
    · split at q
      · rename_i hb
        obtain ⟨v, v', _, _, rfl, r1, r2⟩ := r0.two
        cases r1; cases r2
        exact ⟨_, _, rfl, ⟨by omega, by omega, by omega, by omega⟩, q (Itr _ _) _ _ F' H' G (by rw [rngL_len]; omega) (by rw [rngL_len]; exact walk_range) (fun _ _ => trivial) rng_ok⟩
      · exact q.elim
    · exact q.elim
/-! ### for -/
def forL (h : D → En → Option En) (body : En → Fl) (w : List Nat) : List D → En → Fl
  | [], env => .nx env
  | d :: ds, env => match h d env with
    | none => .un
    | some e1 => match body e1 with
      | .nx e2 => forL h body w ds (wipeE w e2)
      | .ct e2 => forL h body w ds (wipeE w e2)
      | .bk e2 => .nx (wipeE w e2)
      | r => r
def sFor (fi : En → Rs (List D)) (h : D → En → Option En) (body : En → Fl) (w : List Nat) : En → Fl := fun env => match fi env with
  | .ok ds => forL h body w ds (wipeE w env)
  | .ex x => .xx x env
  | .un => .un
theorem drop_cons {α : Type} {xs : List α} {i : Nat} (h : i < xs.length) : xs.drop i = xs[i] :: xs.drop (i + 1) := List.drop_eq_getElem_cons h
theorem for_ok {wi : TI} {fi : En → Rs (List D)} {g : TG} {is : List Nat} {h : D → En → Option En} {tb : TS} {body : En → Fl} (w : List Nat) (ki : OkI E W wi fi) (kg : OkG E is g h) (kb : OkS E W tb body) : OkS E W (tFor wi g tb) (sFor fi h body w) := by
  intro F σ H env S D q
  refine ki F σ H env S _ ?_
  unfold sFor at q
  cases e1 : fi env with
  | un => rw [e1] at q; exact q
  | ex x => rw [e1] at q; exact fun cls dd F' H' G r => q cls dd F' σ H' G.f (S.grow G) r
  | ok ds =>
    rw [e1] at q
    dsimp only at q
    intro J G Y F' H' Gr _ wk hG hY
    refine for_it wk (fun i σ1 H1 => ∃ F1 en, Stt E F1 en σ1 H1 ∧ Same F' F1 ∧ PostS E W F1 D (forL h body w (ds.drop i) en)) ?_ ?_ ?_ ?_
    · exact ⟨F', wipeE w env, (S.grow Gr).wipes w, Same.refl _, q.mono Gr.f⟩
    · rintro i σ1 H1 _ ⟨F1, en, S1, le, _⟩
      exact hG H1 (le.trans S1.fH)
    · rintro i v σ1 H1 Hn hi ⟨F1, en, S1, le, q1⟩ hy
      obtain ⟨Fn, Gn, rn⟩ := hY i ds[i] (by simp [hi]) F1 H1 v Hn le S1.fH hy
      rw [drop_cons hi] at q1
      unfold forL at q1
      have Sn := S1.grow Gn
      have len : Same F' Fn := le.trans Gn.f
      cases e2 : h ds[i] en with
      | none => rw [e2] at q1; exact q1.elim
      | some en1 =>
        rw [e2] at q1
        dsimp only at q1
        refine kg Fn σ1 Hn en ds[i] v Sn rn _ ⟨en1, e2, fun σ2 S2 _ _ => ?_⟩
        refine kb Fn σ2 Hn en1 S2 _ ?_
        cases e3 : body en1 with
        | nx e => rw [e3] at q1; exact fun F3 σ3 H3 G3 S3 => ⟨F3, _, S3.wipes w, len.trans G3, q1.mono (Gn.f.trans G3)⟩
        | ct e => rw [e3] at q1; exact fun F3 σ3 H3 G3 S3 => ⟨F3, _, S3.wipes w, len.trans G3, q1.mono (Gn.f.trans G3)⟩
        | bk e => rw [e3] at q1; exact fun F3 σ3 H3 G3 S3 => q1 F3 σ3 H3 (Gn.f.trans G3) (S3.wipes w)
        | rt d e => rw [e3] at q1; exact PostS.mono (r := .rt d e) Gn.f q1
        | xx x e => rw [e3] at q1; exact PostS.mono (r := .xx x e) Gn.f q1
        | un => rw [e3] at q1; exact q1
    · rintro σ1 H1 ⟨F1, en, S1, le, q1⟩
      rw [List.drop_length] at q1
      exact q1 F1 σ1 H1 (Same.refl _) S1
end
/-! what is gone through while only new things come: an owned list too -/
def PostJ (E : Ent) (W : WX) (F H : Hp) (σ : St) (Rj : It → Hp → Prop) : Rs (List D) → Prop
  | .ok ds => ∀ (J : It) (G : Hp → Prop) (Y : Nat → Hp → V → Hp → Prop) F' H', Grow F H F' H' → ds.length ≤ 16777216 → Walk J ds.length G Y → (∀ Hc, Same F' Hc → Same H' Hc → G Hc) →
      (∀ i d, ds[i]? = some d → ∀ Fc Hc v Hn, Same F' Fc → Same Fc Hc → Y i Hc v Hn → ∃ Fn, Grow Fc Hc Fn Hn ∧ R E.K Fn Hn d v []) → Rj J H'
  | .ex x => ∀ cls dd F' H', Grow F H F' H' → Rx E.K F' H' x cls dd → W cls dd σ H'
  | .un => False
def OkJ (E : Ent) (W : WX) (wi : TI) (f : En → Rs (List D)) : Prop := ∀ F σ H env, Stt E F env σ H → ∀ Rj, PostJ E W F H σ Rj (f env) → wi σ H Rj
structure SJ (X : Cx) (E : Ent) (W : WX) (tg iter : Expr) (f : En → Rs (List D)) : Prop where
  hK : X.K = E.K.k
  ex : ∃ wi, PI X tg iter wi ∧ OkJ E W wi f
section
variable {X : Cx} {E : Ent} {W : WX} {tg iter : Expr} {f : En → Rs D}
theorem SJ.of {f : En → Rs (List D)} (h : SI X E W tg iter f) : SJ X E W tg iter f := by
  obtain ⟨wi, p, k⟩ := h.ex
  refine ⟨h.hK, wi, p, fun F σ H env S Rj q => k F σ H env S Rj ?_⟩
  cases e : f env with
  | un => rw [e] at q; exact q
  | ex x => rw [e] at q; exact q
  | ok ds => rw [e] at q; exact fun J G Y F' H' Gr hl wk hG hY => q J G Y F' H' Gr hl wk (fun Hc h _ => hG Hc h) hY
def itemsOfO : D → Option (List D)
  | .olst xs => if xs.all isData then some xs else none
  | d => itemsOf d
def iSeqO (f : En → Rs D) : En → Rs (List D) := fun env => (f env).bind fun d => ofO (itemsOfO d)
theorem SJ.seq (hf : SE X E W iter f) : SJ X E W tg iter (iSeqO f) := by
  obtain ⟨wi, p1, k1⟩ := (SI.seq (tg := tg) hf).ex
  obtain ⟨t, p, k⟩ := hf.ex
  refine ⟨hf.hK, _, PI.or p1 (pi_list p), fun F σ H env S Rj q => ?_⟩
  have hk := hf.hK
  by_cases ho : ∃ xs, f env = .ok (.olst xs)
  · obtain ⟨xs, e⟩ := ho
    refine .inr (k F σ H env S _ ?_)
    unfold iSeqO itemsOfO at q
    rw [e, Rs.bind_ok] at q
    rw [e]
    dsimp only at q
    split at q
    · rename_i hd
      intro v fp F' H' G r
      cases r with
      | olst hp hl hz =>
        rename_i a vs fp0
        exact ⟨_, rfl, ⟨_, SqL.of hp⟩, q (Itl X.K _) _ _ F' H' G hz (by rw [← hl.len]; exact walk_list) (fun Hc _ h => SqL.of (h _ _ hp)) (yat_ok (hl.toData hd))⟩
    · exact q.elim
  · refine .inl (k1 F σ H env S Rj ?_)
    have e : iSeqO f env = iSeq f env := by
      unfold iSeqO iSeq
      cases e1 : f env with
      | un => rfl
      | ex x => rfl
      | ok d =>
        rw [Rs.bind_ok, Rs.bind_ok]
        cases d <;> first | rfl | exact absurd ⟨_, e1⟩ ho
    rw [e] at q
    cases e2 : iSeq f env with
    | un => rw [e2] at q; exact q
    | ex x => rw [e2] at q; exact q
    | ok ds => rw [e2] at q; exact fun J G Y F' H' Gr hl wk hG hY => q J G Y F' H' Gr hl wk (fun Hc h _ => hG Hc h) hY
end
end Z

set_option Elab.async false
set_option linter.all false
set_option maxRecDepth 100000
set_option maxHeartbeats 1000000
namespace Z
open PySem L2
section
variable {X : Cx} {E : Ent} {W : WX} {e a b tg iter : Expr} {f g : En → Rs D} {pos : Pos} {s : Stmt} {ss : List Stmt} {gs gt : En → Fl}
theorem SS.for (w : List Nat) {fi : En → Rs (List D)} {is : List Nat} {h : D → En → Option En} {body : List Stmt} (hp : PassesOwn (model X.prog X.w) X.A X.env X.xe) (hc : X.calm = true) (hi : SI X E W tg iter fi) (hg : SG X E tg is h) (hb : SB X E W body gs)
    (hs : ∀ x, foldedSetIterable iter X.env x = pure x := by intro _; rfl) : SS X E W (.For tg iter body [] pos) (sFor fi h gs w) := by
  obtain ⟨wi, p1, k1⟩ := hi.ex
  obtain ⟨tg', p2, k2⟩ := hg.ex
  obtain ⟨tb, p3, k3⟩ := hb.ex
  exact ⟨hi.hK, _, ps_for hp hc p1 p2 p3 hs, for_ok w k1 k2 k3⟩

/-! ### while -/
def whileL (c : En → Rs Bool) (body : En → Fl) (w : List Nat) : Nat → En → Fl
  | 0, _ => .un
  | n + 1, env => match c env with
    | .ok true => match body env with
      | .nx e => whileL c body w n (wipeE w e)
      | .ct e => whileL c body w n (wipeE w e)
      | .bk e => .nx (wipeE w e)
      | r => r
    | .ok false => .nx env
    | .ex x => .xx x env
    | .un => .un
def sWhile (n : Nat) (c : En → Rs Bool) (body : En → Fl) (w : List Nat) : En → Fl := fun env => whileL c body w n (wipeE w env)
theorem while_ok {tc : TT} {c : En → Rs Bool} {tb : TS} {body : En → Fl} (n : Nat) (w : List Nat) (kc : OkT E W tc c) (kb : OkS E W tb body) : OkS E W (tWhile tc tb) (sWhile n c body w) := by
  intro F σ H env S D q
  refine ⟨fun m σ1 H1 => ∃ F1 en, Stt E F1 en σ1 H1 ∧ PostS E W F1 D (whileL c body w m en), ⟨n, F, wipeE w env, S.wipes w, q⟩, ?_⟩
  rintro m σ1 H1 ⟨F1, en, S1, q1⟩
  refine kc F1 σ1 H1 en S1 _ ?_
  cases m with
  | zero => exact q1.elim
  | succ m =>
    unfold whileL at q1
    cases e1 : c en with
    | un => rw [e1] at q1; exact q1
    | ex x => rw [e1] at q1; exact fun cls dd F' H' G r => q1 cls dd F' σ1 H' G.f (S1.grow G) r
    | ok b =>
      rw [e1] at q1
      intro F' H' G
      cases b with
      | false => exact q1 F' σ1 H' G.f (S1.grow G)
      | true =>
        dsimp only at q1
        refine ⟨fun σ2 H2 => ∃ F2 en2, Stt E F2 en2 σ2 H2 ∧ PostS E W F2 D (whileL c body w m en2), fun σ2 H2 h2 => ⟨m, Nat.lt_succ_self m, h2⟩, ?_⟩
        refine kb F' σ1 H' en (S1.grow G) _ ?_
        cases e2 : body en with
        | nx e => rw [e2] at q1; exact fun F3 σ3 H3 G3 S3 => ⟨F3, _, S3.wipes w, q1.mono (G.f.trans G3)⟩
        | ct e => rw [e2] at q1; exact fun F3 σ3 H3 G3 S3 => ⟨F3, _, S3.wipes w, q1.mono (G.f.trans G3)⟩
        | bk e => rw [e2] at q1; exact fun F3 σ3 H3 G3 S3 => q1 F3 σ3 H3 (G.f.trans G3) (S3.wipes w)
        | rt d e => rw [e2] at q1; exact PostS.mono (r := .rt d e) G.f q1
        | xx x e => rw [e2] at q1; exact PostS.mono (r := .xx x e) G.f q1
        | un => rw [e2] at q1; exact q1
theorem SS.while (n : Nat) (w : List Nat) {c : Expr} {tc : En → Rs Bool} {body : List Stmt} (hp : PassesOwn (model X.prog X.w) X.A X.env X.xe) (hc : ST X E W c tc) (hb : SB X E W body gs) : SS X E W (.While c body [] pos) (sWhile n tc gs w) := by
  obtain ⟨t, p1, k1⟩ := hc.ex
  obtain ⟨tb, p3, k3⟩ := hb.ex
  exact ⟨hc.hK, _, ps_while hp p1 p3, while_ok n w k1 k3⟩

/-! ### x.append(e), x an owned list of the frame -/
def sApp (i : Nat) (f : En → Rs D) : En → Fl := fun env => match env[i]? with
  | some (some (.olst ds)) => match f env with
    | .ok d => if isData d && decide (ds.length < 16777216) then .nx (env.set i (some (.olst (ds ++ [d])))) else .un
    | .ex x => .xx x env
    | .un => .un
  | _ => .un
theorem R.olst_inv {K : Kx} {F H : Hp} {ds : List D} {v : V} {fp : List Addr} (r : R K F H (.olst ds) v fp) : ∃ a vs fp0, v = .ref a ∧ H a = some (.lst vs) ∧ RL K F H ds vs fp0 := by
  cases r with
  | olst h1 h2 hz => exact ⟨_, _, _, rfl, h1, h2⟩
/-- an owned list's items are changed -/
theorem Stt.setOwn {F H : Hp} {env : En} {σ : St} {i : Nat} {ds ds' : List D} {a : Addr} {vs vs' : List V} (S : Stt E F env σ H) (hz : ds'.length ≤ 16777216) (he : env[i]? = some (some (.olst ds))) (hσ : σ[i]? = some (some (.ref a))) (hH : H a = some (.lst vs))
    (hr : ∀ fp, RL E.K F H ds vs fp → RL E.K F H ds' vs' fp) : Stt E F (env.set i (some (.olst ds'))) σ (upd H a (.lst vs')) := by
  obtain ⟨fps, rs, nd, fr⟩ := S.rep
  obtain ⟨v, fp, g1, g2, g3⟩ := rs.get he
  rw [hσ] at g1
  cases g1
  cases g3 with
  | olst h1 h2 =>
    rename_i vs0 fp0 hz0
    rw [hH] at h1
    cases h1
    have hFa : F a = none := (fr i _ g2 a List.mem_cons_self).1
    have hown := (fr i _ g2 a List.mem_cons_self).2
    have hnd : (a :: fp0).Nodup := nodup_get nd g2
    have keepF : ∀ b, F b ≠ none → b ≠ a := fun b hb z => hb (by rw [z]; exact hFa)
    have r2 := hr fp0 h2
    have off : ∀ j fq, j ≠ i → fps[j]? = some fq → ∀ b ∈ fq, upd H a (.lst vs') b = H b := fun j fq hj hq b hb => by
      refine upd_ne fun z => ?_
      subst z
      exact nodup_apart nd hj hq g2 b hb List.mem_cons_self
    have hset : fps.set i (a :: fp0) = fps := by
      apply List.ext_getElem?
      intro j
      by_cases hj : i = j
      · subst hj
        have hl : i < fps.length := (List.getElem?_eq_some_iff.mp g2).1
        rw [List.getElem?_set_self hl, g2]
      · rw [List.getElem?_set_ne hj]
    refine ⟨S.le0, fun b o eb => ?_, fun b o eb n => ?_, S.old, fun j b hb => ?_, fps, ?_, nd, fr⟩
    · rw [upd_ne (keepF b (by rw [eb]; simp))]; exact S.fH b o eb
    · rw [upd_ne fun z => ?_]
      · exact S.keep b o eb n
      · subst z
        rcases hown with h | h
        · rw [h] at eb; cases eb
        · exact n i h
    · by_cases hb' : b = a
      · exact ⟨_, by rw [hb']; exact upd_same⟩
      · obtain ⟨o, ho⟩ := S.ownS j b hb
        exact ⟨o, by rw [upd_ne hb']; exact ho⟩
    · -- the slots
      have key : ∀ (env : En) (σ : St) (fps : List (List Addr)) (i : Nat), RS E.K F H env σ fps → fps[i]? = some (a :: fp0) → σ[i]? = some (some (.ref a)) → (∀ j fq, j ≠ i → fps[j]? = some fq → ∀ b ∈ fq, upd H a (.lst vs') b = H b) → env[i]? = some (some (.olst ds)) →
          RS E.K F (upd H a (.lst vs')) (env.set i (some (.olst ds'))) σ fps := by
        intro env σ fps i rs
        induction rs generalizing i with
        | nil => intro h; simp at h
        | non t ih =>
          intro h1 h2 h3 h4
          cases i with
          | zero => simp at h4
          | succ i => exact .non (ih i (by simpa using h1) (by simpa using h2) (fun j fq hj hq => h3 (j + 1) fq (by omega) (by simpa using hq)) (by simpa using h4))
        | som r t ih =>
          intro h1 h2 h3 h4
          cases i with
          | zero =>
            simp at h1 h2
            subst h2; subst h1
            refine .som (.olst upd_same (RL.mono (Same.refl _) ds' (fun b hb => upd_ne fun z => ?_) r2) hz) (RS.mono (Same.refl _) (fun fq hq b hb => ?_) t)
            · subst z; exact (List.nodup_cons.mp hnd).1 hb
            · obtain ⟨j, hj⟩ := List.mem_iff_getElem?.mp hq
              exact h3 (j + 1) fq (by omega) (by simpa using hj) b hb
          | succ i =>
            refine .som (R.mono (Same.refl _) _ (fun b hb => h3 0 _ (by omega) rfl b hb) r) (ih i (by simpa using h1) (by simpa using h2) (fun j fq hj hq => h3 (j + 1) fq (by omega) (by simpa using hq)) (by simpa using h4))
      exact key env σ fps i rs g2 hσ off he
theorem SS.app (i : Nat) {y : Str} {py apos cpos : Pos} (hf : SE X E W e f) (hN : X.N[i]? = some y := by rfl) (hv : Vis X.env.scope y := by first | exact Or.inl rfl | exact Or.inr (Or.inl rfl) | exact Or.inr (Or.inr rfl))
    (hd : (y == ("__debug__" : Str)) = false := by decide) (hcd : (y == ("__classdict__" : Str)) = false := by decide)
    (hbase : attributeBase (.Name y py) "append" X.env (eval (.Name y py) X.env) = eval (.Name y py) X.env := by rfl)
    (hfew : ((backTo cpos (starEach [e] X.env)).all (fun x => !x.1) && (backToKw cpos (keywordEach [] X.env)).all (fun x => x.1.isSome)
      && decide ([e].length + ([] : List Keyword).length + (if ([] : List Keyword).isEmpty then 0 else 1) < 30)) = true := by rfl)
    (hline : (apos.endLine == cpos.line) = true := by rfl) (hs : starEach [e] X.env = (false, eval e X.env) :: starEach [] X.env := by rfl) (hplain : (backTo cpos (starEach [] X.env)).any (·.1) = false := by rfl)
    (hsw : swapsWith (.Call (.Attribute (.Name y py) "append" apos) [e] [] cpos) none pos.line X.env = pure false := by rfl) :
    SS X E W (.Expr (.Call (.Attribute (.Name y py) "append" apos) [e] [] cpos) pos) (sApp i f) := by
  obtain ⟨t, p, k⟩ := hf.ex
  refine ⟨hf.hK, _, ps_expr (pe_bm PySem.F.plainAttrs_list PySem.F.slot_list_append PySem.F.type_list_append mt_append (pe_var hN hv hd hcd) (pa_cons p pa_nil hs) hbase hfew hline hs hplain) hsw, fun F σ H env S D q => ?_⟩
  unfold sApp at q
  split at q
  · rename_i ds he
    obtain ⟨fps, rs, _⟩ := S.rep
    obtain ⟨v, fp, g1, _, g3⟩ := rs.get he
    · obtain ⟨a, vs, fp0, rfl, h1, h2⟩ := g3.olst_inv
      refine ⟨.ref a, g1, Or.inl ⟨rfl, vs, SqL.of h1⟩, k F σ H env S _ ?_⟩
      cases e1 : f env with
      | un => rw [e1] at q; exact q
      | ex x => rw [e1] at q; exact fun cls dd F' H' G r => q cls dd F' σ H' G.f (S.grow G) r
      | ok d =>
        rw [e1] at q
        dsimp only at q
        split at q
        · rename_i hc
          rw [Bool.and_eq_true] at hc
          intro v1 fp1 F1 H1 G1 r1
          have ha1 : H1 a = some (.lst vs) := G1.h a _ h1
          refine ⟨a, vs, v1, rfl, rfl, ha1, by rw [h2.len, ← line_eq]; exact of_decide_eq_true hc.2, ?_⟩
          have r1' := r1.toData hc.1
          refine q F1 σ _ G1.f ((S.grow G1).setOwn (by rw [List.length_append]; have := of_decide_eq_true hc.2; simp; omega) he g1 ha1 fun fq hq => ?_)
          have := hq.snoc r1'
          rw [List.append_nil] at this
          exact this
        · exact q.elim
  · exact q.elim

/-! ### calls of the program's own defs -/
/-- a def's promise, by its meaning m -/
def PostP (K : Kx) (F H : Hp) (Q : VK) (Ex : XK) : Rs D → Prop
  | .ok d => ∀ v F' H', Grow F H F' H' → R K F' H' d v [] → Q v H'
  | .ex x => ∀ cls dd F' H', Grow F H F' H' → Rx K F' H' x cls dd → Ex cls dd H'
  | .un => False
def spP (K : Kx) (n : Nat) (m : List D → Rs D) : Sp := fun vs H Q Ex => ∃ ds F, Same F H ∧ RL K F H ds vs [] ∧ ds.length = n ∧ PostP K F H Q Ex (m ds)
/-- no exception leaves it -/
def noX : Rs D → Rs D
  | .ok d => .ok d
  | _ => .un
@[simp] theorem noX_ok (d : D) : noX (.ok d) = .ok d := id rfl
def eApp (n : Nat) (m : List D → Rs D) (fa : En → Rs (List D)) : En → Rs D := fun env => (fa env).bind fun ds => if ds.all isData && decide (ds.length = n) then m ds else .un
/-- m raises nothing -/
def NoX (m : List D → Rs D) : Prop := ∀ ds x, m ds ≠ .ex x
theorem SE.call0 {x : Str} {p : Pos} {k n : Nat} {fa_ : Addr} {fd : FuncData} {ps : List Str} {es : List Expr} {m : List D → Rs D} {fa : En → Rs (List D)}
    (F : FnOk X.prog X.w X.K X.mg X.base CX0 k fa_ fd ps (spP E.K n m)) (hx : NoX m) (hr : Room k X.A) (hm : X.mg x = some (.ref fa_)) (hk : PySem.W.keepIn X.K (.ref fa_) = true) (hb : Binds X.K fd ps []) (ha : SA X E W (e :: es) fa) (hg : Gl X x := by rfl)
    (hdb : (x == ("__debug__" : Str)) = false := by decide) (he : starEach (e :: es) X.env = (false, eval e X.env) :: starEach es X.env := by rfl) (hpl : (backTo pos (starEach es X.env)).any (·.1) = false := by rfl) :
    SE X E W (.Call (.Name x p) (e :: es) [] pos) (eApp n m fa) := by
  obtain ⟨t, pa, ka⟩ := ha.ex
  refine ⟨ha.hK, _, pe_call F hr hg hm hk hb .nil pass0 pa hdb he hpl, fun Fz σ H env S Q q => ?_⟩
  refine ka Fz σ H env S _ ?_
  unfold eApp at q
  cases e1 : fa env with
  | un => rw [e1] at q; exact q
  | ex x => rw [e1] at q; exact q
  | ok ds =>
    rw [e1, Rs.bind_ok] at q
    intro vs fp F1 H1 G1 r1
    split at q
    · rename_i hc
      rw [Bool.and_eq_true] at hc
      rw [List.append_nil]
      refine ⟨ds, F1, G1.fh, r1.toData hc.1, of_decide_eq_true hc.2, ?_⟩
      cases e2 : m ds with
      | un => rw [e2] at q; exact q
      | ex x => exact absurd e2 (hx ds x)
      | ok d => rw [e2] at q; exact fun v F' H' G r => q v [] F' H' (G1.trans G) r
    · exact q.elim
theorem SE.call00 {x : Str} {p : Pos} {k : Nat} {fa_ : Addr} {fd : FuncData} {ps : List Str} {m : List D → Rs D}
    (F : FnOk X.prog X.w X.K X.mg X.base CX0 k fa_ fd ps (spP E.K 0 m)) (hx : NoX m) (hr : Room k X.A) (hm : X.mg x = some (.ref fa_)) (hk : PySem.W.keepIn X.K (.ref fa_) = true) (hb : Binds X.K fd ps []) (hg : Gl X x := by rfl)
    (hdb : (x == ("__debug__" : Str)) = false := by decide) (hK : X.K = E.K.k := by rfl) :
    SE X E W (.Call (.Name x p) [] [] pos) (eApp 0 m aNil) := by
  refine ⟨hK, _, pe_call0 F hr hg hm hk hb .nil pass0 hdb, fun Fz σ H env S Q q => ?_⟩
  refine ⟨[], Fz, S.fH, .nil, rfl, ?_⟩
  have q : PostE E W Fz H σ Q (m []) := q
  cases e2 : m [] with
  | un => rw [e2] at q; exact q
  | ex x => exact absurd e2 (hx [] x)
  | ok d => rw [e2] at q; exact fun v F' H' G r => q v [] F' H' G r

/-! ### a def by its body -/
def start0 (n : Nat) (ds : List D) : En := ds.map some ++ List.replicate (n - ds.length) none
def outB : Fl → Rs D
  | .rt d _ => .ok d
  | .nx _ => .ok .non
  | .xx x _ => .ex x
  | _ => .un
/-- the meaning of a def with n names whose body means g -/
def runB (g : En → Fl) (n : Nat) (ds : List D) : Rs D := outB (g (start0 n ds))
def runB0 (g : En → Fl) (n : Nat) (ds : List D) : Rs D := noX (runB g n ds)
theorem runB0_nox {g : En → Fl} {n : Nat} : NoX (runB0 g n) := fun ds x e => by
  unfold runB0 at e
  cases q : runB g n ds <;> rw [q] at e <;> cases e
end
theorem rs_none {K : Kx} {F H : Hp} : ∀ (n : Nat), RS K F H (List.replicate n none) (List.replicate n none) (List.replicate n [])
  | 0 => .nil
  | n + 1 => .non (rs_none n)
theorem rs_start {K : Kx} {F H : Hp} : ∀ {ds : List D} {vs : List V} (n : Nat), RL K F H ds vs [] → RS K F H (ds.map some ++ List.replicate n none) (vs.map some ++ List.replicate n none) (List.replicate (ds.length + n) [])
  | [], vs, n, h => by
    have : vs = [] := by cases vs with | nil => rfl | cons a b => exact absurd h.len (by simp)
    subst this
    rw [List.length_nil, Nat.zero_add]
    exact rs_none n
  | d :: ds, vs, n, h => by
    obtain ⟨v, vs', rfl, h1, h2⟩ := h.inv_cons
    have e : (d :: ds).length + n = (ds.length + n) + 1 := by rw [List.length_cons]; omega
    rw [e]
    exact .som h1 (rs_start n h2)
theorem flat_nil {α : Type} : ∀ n : Nat, (List.replicate n ([] : List α)).flatten = []
  | 0 => rfl
  | n + 1 => by rw [List.replicate_succ, List.flatten_cons, flat_nil n]; rfl
theorem stt_start {K : Kx} {F H : Hp} {ds : List D} {vs : List V} {N : List Str} (hs : Same F H) (h : RL K F H ds vs []) : Stt ⟨K, H, F, fun _ => []⟩ F (start0 N.length ds) (L2.start N vs) H := by
  refine ⟨Same.refl _, hs, fun a o e _ => e, fun a o e _ => rfl, (fun i a ha => nomatch ha), List.replicate (ds.length + (N.length - ds.length)) [], ?_, ?_, ?_⟩
  · unfold start0 L2.start
    rw [h.len]
    exact rs_start _ h
  · rw [flat_nil]; exact List.nodup_nil
  · intro i fp hi a ha
    rw [List.getElem?_replicate] at hi
    split at hi
    · cases hi; cases ha
    · cases hi
theorem stt_end {K : Kx} {F H F' H' : Hp} {env : En} {σ : St} (S : Stt ⟨K, H, F, fun _ => []⟩ F' env σ H') : Grow F H F' H' :=
  ⟨S.le0, S.fH, fun a o e => S.keep a o e (fun _ z => nomatch z), fun a o e => S.old a o e (fun _ z => nomatch z)⟩
section
variable {P : Program} {w : World} {K : Kx} {mg : Str → Option Value} {base : Heap}
abbrev W0 : WX := fun _ _ _ _ => False
/-- a def that raises nothing -/
theorem fn0 {x qual : Str} {st : Stmt} {f : Addr} {fd : FuncData} {N ps : List Str} {k : Nat} {g : En → Fl} (Fn : Fun K.k x qual st f fd) (S : FnScope N ps (defScope st))
    (hb : ∀ (cdv : Value) (A : Around) (outer : List Env) (s : Shared) (H : Hp) (Ex : XK) (F0 : Hp), Room k (A.deeper (PyProof.Rows.envOfC qual (defScope st) s.heap.objs.size f cdv)) →
      SB (cxOf CX0 P w K.k mg base N qual (defScope st) f cdv A outer s H Ex).nox ⟨K, H, F0, fun _ => []⟩ W0 (defBody st) g) : FnOk P w K.k mg base CX0 (k + 1) f fd ps (spP K ps.length (runB0 g N.length)) := by
  refine Fn.ok S (fun vs H Q E h => ?_) (fun cdv A outer s H vs Q Ex hr h => ?_)
  · obtain ⟨ds, F, _, hl, hn, _⟩ := h
    rw [hl.len, hn]
  · obtain ⟨ds, F, hs, hl, hn, q⟩ := h
    obtain ⟨t, p, k⟩ := (hb cdv A outer s H Ex F hr).ex
    refine ⟨t, p, k F _ H _ (stt_start hs hl) _ ?_⟩
    unfold runB0 runB at q
    cases e : g (start0 N.length ds) with
    | nx en => rw [e] at q; exact fun F' σ' H' G S' => q _ F' H' (stt_end S') .non
    | bk en => rw [e] at q; exact q.elim
    | ct en => rw [e] at q; exact q.elim
    | rt d en => rw [e] at q; exact fun v F' σ' H' G S' r => q v F' H' (stt_end S') r
    | xx x en => rw [e] at q; exact q.elim
    | un => rw [e] at q; exact q
end
end Z

set_option Elab.async false
set_option linter.all false
set_option maxRecDepth 100000
set_option maxHeartbeats 1000000
namespace Z
open PySem L2
section
variable {X : Cx} {E : Ent} {W : WX} {e a b tg iter : Expr} {f g : En → Rs D} {pos : Pos} {s : Stmt} {ss : List Stmt} {gs gt : En → Fl}
/-! ### [e for x in xs if c] -/
def wipeR (env : En) : List Nat → En
  | [] => env
  | v :: vs => (wipeR env vs).set v none
def compL (h : D → En → Option En) (c : En → Rs Bool) (f : En → Rs D) (env : En) : List D → Rs (List D)
  | [] => .ok []
  | d :: ds => match h d env with
    | none => .un
    | some e1 => match c e1 with
      | .ok true => match f e1 with
        | .ok y => if isData y then (compL h c f env ds).bind fun ys => .ok (y :: ys) else .un
        | _ => .un
      | .ok false => compL h c f env ds
      | _ => .un
def eComp (fi : En → Rs (List D)) (h : D → En → Option En) (c : En → Rs Bool) (f : En → Rs D) (own : List Nat) : En → Rs (List D) := fun env => (fi env).bind fun ds => match compL h c f (wipeR env own) ds with
  | .ok ys => .ok ys
  | _ => .un
def cYes : En → Rs Bool := fun _ => .ok true
theorem Stt.wipeR {F H : Hp} {env : En} {σ : St} (S : Stt E F env σ H) : ∀ vs : List Nat, Stt E F (Z.wipeR env vs) (L2.wipe σ vs) H
  | [] => S
  | v :: vs => (Stt.wipeR S vs).wipe2 v
theorem wipe_off {σ σ' : St} : ∀ {is vs : List Nat}, (∀ j, j ∉ is → σ'[j]? = σ[j]?) → σ'.length = σ.length → (∀ i ∈ is, i ∈ vs) → wipe σ' vs = wipe σ vs := fun {is vs} h hl hs => by
  apply List.ext_getElem?
  intro j
  by_cases hj : j ∈ vs
  · have key : ∀ (τ : St) (ws : List Nat), j ∈ ws → (wipe τ ws)[j]? = if j < τ.length then some none else none := by
      intro τ ws
      induction ws with
      | nil => intro h; cases h
      | cons w ws ih =>
        intro h
        unfold wipe
        by_cases e : w = j
        · subst e
          by_cases hl : w < τ.length
          · rw [if_pos hl, List.getElem?_set_self (by rw [wipe_length]; exact hl)]
          · rw [if_neg hl, List.getElem?_eq_none (by rw [List.length_set, wipe_length]; omega)]
        · rw [List.getElem?_set_ne e]
          exact ih (by rcases List.mem_cons.mp h with z | z; exact absurd z.symm e; exact z)
    rw [key σ' vs hj, key σ vs hj, hl]
  · rw [wipe_out hj, wipe_out hj]
    exact h j fun z => hj (hs j z)
theorem Grow.updNew {F H F1 H1 : Hp} {p : Addr} {o : HO} (g : Grow F H F1 H1) (hp : H p = none) (hF : F1 p = none) : Grow F H F1 (upd H1 p o) where
  f := g.f
  fh := fun b u eb => by rw [upd_ne (ne_of_none eb hF)]; exact g.fh b u eb
  h := fun b u eb => by rw [upd_ne (ne_of_none eb hp)]; exact g.h b u eb
  o := g.o
/-- the element, the tests, the target in the comprehension's own block -/
structure Blk (X : Cx) (E : Ent) (scope : Scope) (tg : Expr) (ifs : List Expr) (elt : Expr) (is : List Nat) (h : D → En → Option En) (c : En → Rs Bool) (f : En → Rs D) : Prop where
  g : ∃ t, (∀ (s : Shared) (H : Hp) (C : Addr) (cl : List (Str × Addr)) (fp : List Addr), PG (X.blk s H scope (compEnvC scope cl C X.env) fp) tg t) ∧ OkG E is t h
  c : ∃ t, (∀ (s : Shared) (H : Hp) (C : Addr) (cl : List (Str × Addr)) (fp : List Addr), PTs (X.blk s H scope (compEnvC scope cl C X.env) fp) ifs t) ∧ OkT E (fun _ _ _ _ => False) t c
  f : ∃ t, (∀ (s : Shared) (H : Hp) (C : Addr) (cl : List (Str × Addr)) (fp : List Addr), PE (X.blk s H scope (compEnvC scope cl C X.env) fp) elt t) ∧ OkE E (fun _ _ _ _ => False) t f
structure SC (X : Cx) (E : Ent) (ifs : List Expr) (c : En → Rs Bool) : Prop where
  ex : ∃ t, PTs X ifs t ∧ OkT E (fun _ _ _ _ => False) t c
theorem SC.nil : SC X E [] cYes := ⟨_, pts_nil, fun F σ H env S Q q => q F H (Grow.refl S.fH)⟩
theorem SC.one {c : Expr} {tc : En → Rs Bool} (h : ST X E (fun _ _ _ _ => False) c tc) : SC X E [c] tc := by
  obtain ⟨t, p, k⟩ := h.ex
  exact ⟨_, pts_one p, k⟩
theorem Blk.mk' {scope : Scope} {ifs : List Expr} {elt : Expr} {is : List Nat} {h : D → En → Option En} {c : En → Rs Bool}
    (hg : ∀ (s : Shared) (H : Hp) (C : Addr) (cl : List (Str × Addr)) (fp : List Addr), SG (X.blk s H scope (compEnvC scope cl C X.env) fp) E tg is h)
    (hc : ∀ (s : Shared) (H : Hp) (C : Addr) (cl : List (Str × Addr)) (fp : List Addr), SC (X.blk s H scope (compEnvC scope cl C X.env) fp) E ifs c)
    (hf : ∀ (s : Shared) (H : Hp) (C : Addr) (cl : List (Str × Addr)) (fp : List Addr), SE (X.blk s H scope (compEnvC scope cl C X.env) fp) E (fun _ _ _ _ => False) elt f) : Blk X E scope tg ifs elt is h c f := by
  refine ⟨⟨fun v σ H Q => ∀ s H0 C cl fp, (hg s H0 C cl fp).ex.choose v σ H Q, fun s H0 C cl fp => ⟨fun pins s1 σ H v u Q I r q => (hg s H0 C cl fp).ex.choose_spec.1.run pins s1 σ H v u Q I r (q s H0 C cl fp)⟩, fun F σ H env d v S r Q q s H0 C cl fp => (hg s H0 C cl fp).ex.choose_spec.2 F σ H env d v S r Q q⟩,
    ⟨fun σ H Q => ∀ s H0 C cl fp, (hc s H0 C cl fp).ex.choose σ H Q, fun s H0 C cl fp => ⟨fun pins s1 σ H Q I q => (hc s H0 C cl fp).ex.choose_spec.1.run pins s1 σ H Q I (q s H0 C cl fp)⟩, fun F σ H env S Q q s H0 C cl fp => (hc s H0 C cl fp).ex.choose_spec.2 F σ H env S Q q⟩,
    ⟨fun σ H Q => ∀ s H0 C cl fp, (hf s H0 C cl fp).ex.choose σ H Q, fun s H0 C cl fp => ⟨fun pins s1 σ H Q I q => (hf s H0 C cl fp).ex.choose_spec.1.run pins s1 σ H Q I (q s H0 C cl fp)⟩, fun F σ H env S Q q s H0 C cl fp => (hf s H0 C cl fp).ex.choose_spec.2 F σ H env S Q q⟩⟩
theorem comp_ok {wi : TI} {fi : En → Rs (List D)} {tgg : TG} {tt : TT} {te : TE} {is own : List Nat} {h : D → En → Option En} {c : En → Rs Bool} (ki : OkJ E W wi fi) (kg : OkG E is tgg h) (kc : OkT E (fun _ _ _ _ => False) tt c) (kf : OkE E (fun _ _ _ _ => False) te f)
    (hs : ∀ i ∈ is, i ∈ own) : OkL E W (tLc wi tgg tt te own) (eComp fi h c f own) := by
  intro F σ H env S Q q
  refine ki F σ H env S _ ?_
  unfold eComp at q
  cases e1 : fi env with
  | un => rw [e1] at q; exact q
  | ex x => rw [e1] at q; exact q
  | ok ds =>
    rw [e1, Rs.bind_ok] at q
    cases e2 : compL h c f (wipeR env own) ds with
    | un => rw [e2] at q; exact q.elim
    | ex x => rw [e2] at q; exact q.elim
    | ok zs =>
      rw [e2] at q
      intro J G Y F' H1 Gr hlen wk hG hY Dl hD
      have S' : Stt E F' (wipeR env own) (wipe σ own) H1 := (S.grow Gr).wipeR own
      have hDF : F' Dl = none := same_none Gr.fh hD
      refine lc_it wk (fun i Hc => ∃ F1 acc vs ys, Grow F' H1 F1 Hc ∧ F1 Dl = none ∧ Hc Dl = some (.lst vs) ∧ RL E.K F1 Hc acc vs [] ∧ compL h c f (wipeR env own) (ds.drop i) = .ok ys ∧ acc ++ ys = zs ∧ acc.length ≤ i) ?_ ?_ ?_ ?_
      · exact ⟨F', [], [], zs, Grow.own Gr.fh hD, hDF, upd_same, .nil, e2, rfl, Nat.le_refl _⟩
      · rintro i Hc _ ⟨F1, acc, vs, ys, g1, _⟩
        exact hG Hc (g1.f.trans g1.fh) g1.h
      · rintro i v Hc Hn hi ⟨F1, acc, vs, ys, g1, hF1, hDc, hr, hc, hz, hai⟩ hy
        obtain ⟨Fn, Gn, rn⟩ := hY i ds[i] (by simp [hi]) F1 Hc v Hn g1.f g1.fh hy
        rw [drop_cons hi] at hc
        unfold compL at hc
        have g2 := g1.trans Gn
        have Sn : Stt E Fn (wipeR env own) (wipe σ own) Hn := S'.grow g2
        have hFn : Fn Dl = none := (Gn.o Dl _ hDc).trans hF1
        have hDn : Hn Dl = some (.lst vs) := Gn.h _ _ hDc
        have hrn := hr.grow Gn
        cases e3 : h ds[i] (wipeR env own) with
        | none => rw [e3] at hc; cases hc
        | some en1 =>
          rw [e3] at hc
          dsimp only at hc
          refine kg Fn (wipe σ own) Hn _ ds[i] v Sn rn _ ⟨en1, e3, fun σ2 S2 hoff hl2 => ⟨?_, ?_⟩⟩
          · have hw := wipe_off (is := is) (vs := own) hoff hl2 hs
            have hww : ∀ (τ : St) (ws : List Nat), wipe (wipe τ ws) ws = wipe τ ws := by
              intro τ ws
              apply List.ext_getElem?
              intro j
              by_cases hj : j ∈ ws
              · have key : ∀ (τ : St) (vs : List Nat), j ∈ vs → (wipe τ vs)[j]? = if j < τ.length then some none else none := by
                  intro τ vs
                  induction vs with
                  | nil => intro h; cases h
                  | cons w vs ih =>
                    intro h
                    unfold wipe
                    by_cases e : w = j
                    · subst e
                      by_cases hl : w < τ.length
                      · rw [if_pos hl, List.getElem?_set_self (by rw [wipe_length]; exact hl)]
                      · rw [if_neg hl, List.getElem?_eq_none (by rw [List.length_set, wipe_length]; omega)]
                    · rw [List.getElem?_set_ne e]
                      exact ih (by rcases List.mem_cons.mp h with z | z; exact absurd z.symm e; exact z)
                rw [key _ ws hj, key _ ws hj, wipe_length]
              · rw [wipe_out hj]
            rw [hw, hww]
          · refine kc Fn σ2 Hn en1 S2 _ ?_
            cases e4 : c en1 with
            | un => rw [e4] at hc; cases hc
            | ex x => rw [e4] at hc; cases hc
            | ok bb =>
              rw [e4] at hc
              intro F3 H3 G3
              cases bb with
              | false =>
                have g3 := g2.trans G3
                exact ⟨F3, acc, vs, ys, g3, (G3.o Dl _ hDn).trans hFn, G3.h _ _ hDn, hrn.grow G3, hc, hz, by omega⟩
              | true =>
                show te σ2 H3 _
                dsimp only at hc
                refine kf F3 σ2 H3 en1 (S2.grow G3) _ ?_
                cases e5 : f en1 with
                | un => rw [e5] at hc; cases hc
                | ex x => rw [e5] at hc; cases hc
                | ok y =>
                  rw [e5] at hc
                  dsimp only at hc
                  split at hc
                  · rename_i hy
                    cases e6 : compL h c f (wipeR env own) (ds.drop (i + 1)) with
                    | un => rw [e6] at hc; cases hc
                    | ex x => rw [e6] at hc; cases hc
                    | ok ys' =>
                      rw [e6] at hc
                      cases hc
                      intro v5 fp5 F5 H5 G5 r5
                      have g5 := (g2.trans G3).trans G5
                      have hD5 : H5 Dl = some (.lst vs) := G5.h _ _ (G3.h _ _ hDn)
                      have hF5 : F5 Dl = none := (G5.o Dl _ (G3.h _ _ hDn)).trans ((G3.o Dl _ hDn).trans hFn)
                      have hr5 := (hrn.grow G3).grow G5
                      have hal : acc.length < ds.length := by omega
                      refine ⟨vs, hD5, by rw [hr5.len, ← line_eq]; omega, F5, acc ++ [y], vs ++ [v5], ys', g5.updNew hD hF5, hF5, upd_same, ?_, rfl, by rw [List.append_assoc]; exact hz, by rw [List.length_append]; simp; omega⟩
                      have hsn := hr5.snoc (r5.toData hy)
                      rw [List.append_nil] at hsn
                      exact RL.mono (Same.refl _) _ (fun a z => nomatch z) hsn
                  · cases hc
      · rintro Hc ⟨F1, acc, vs, ys, g1, hF1, hDc, hr, hc, hz, hai⟩
        rw [List.drop_length] at hc
        cases hc
        rw [List.append_nil] at hz
        subst hz
        have hD0 : H Dl = none := by
          cases q0 : H Dl with
          | none => rfl
          | some o => rw [Gr.h _ _ q0] at hD; cases hD
        exact q Dl vs F1 Hc (Gr.trans g1) hD0 hF1 hDc hr (by omega)
theorem SL.comp {elt : Expr} {ifs : List Expr} {scope : Scope} {own : List (Str × Nat)} {is : List Nat} {fi : En → Rs (List D)} {h : D → En → Option En} {c : En → Rs Bool} (hc : X.calm = true) (hN : X.N.Nodup) (hi : SJ X E W tg iter fi) (ok : BlkOk X.N X.env.scope scope own)
    (hb : Blk X E scope tg ifs elt is h c f) (hs : ∀ i ∈ is, i ∈ own.map (·.2) := by decide) (hfs : ∀ x, foldedSetIterable iter X.env x = pure x := by intro _; rfl) : SL X E W (.ListComp elt [⟨tg, iter, ifs, 0⟩] scope pos) (eComp fi h c f (own.map (·.2))) := by
  obtain ⟨wi, p1, k1⟩ := hi.ex
  obtain ⟨tg', p2, k2⟩ := hb.g
  obtain ⟨tc', p3, k3⟩ := hb.c
  obtain ⟨te', p4, k4⟩ := hb.f
  exact ⟨hi.hK, _, pe_lc hc hN p1 ok p2 p3 p4 hfs, comp_ok k1 k2 k3 k4 hs⟩
/-- y = [..]: the list is data, or owned -/
theorem ps_ofTE {t : TE} {st : Stmt} {i : Nat} {fl : En → Rs (List D)} (hK : X.K = E.K.k) (p : PS X st (tAsg t (gName i))) (k : OkL E W t fl) : SS X E W st (sSetL i fl) ∧ SS X E W st (sSet i (eOfL fl)) := by
  refine ⟨⟨hK, _, p, setL_ok k⟩, ⟨hK, _, p, set_ok ?_⟩⟩
  intro F σ H env S Q q
  refine k F σ H env S _ ?_
  unfold eOfL at q
  cases e : fl env with
  | un => rw [e] at q; exact q
  | ex x => rw [e] at q; exact q
  | ok ds =>
    rw [e, Rs.bind_ok] at q
    intro pp vs F1 H1 G1 hp hF hH r hz
    have gs : Same F1 (upd F1 pp (.lst vs)) := fun b u eb => by rw [upd_ne (ne_of_none eb hF)]; exact eb
    refine q _ [] (upd F1 pp (.lst vs)) H1 ⟨G1.f.trans gs, fun b u eb => ?_, G1.h, fun b u eb => ?_⟩ (.lst upd_same (RL.mono gs ds (fun a z => nomatch z) r) hz)
    · by_cases hb : b = pp
      · subst hb; rw [upd_same] at eb; cases eb; exact hH
      · rw [upd_ne hb] at eb; exact G1.fh b u eb
    · rw [upd_ne (ne_of_none eb hp)]; exact G1.o b u eb
theorem SS.setC2 (i : Nat) {y : Str} {py spos : Pos} {elt : Expr} {ifs : List Expr} {scope : Scope} {own : List (Str × Nat)} {is : List Nat} {fi : En → Rs (List D)} {h : D → En → Option En} {c : En → Rs Bool} (hc : X.calm = true) (hN : X.N.Nodup) (hi : SJ X E W tg iter fi) (ok : BlkOk X.N X.env.scope scope own)
    (hb : Blk X E scope tg ifs elt is h c f) (hy : X.N[i]? = some y) (hyl : X.env.scope.names.lookup y = some .local) (hsw : swapsWith (.ListComp elt [⟨tg, iter, ifs, 0⟩] scope pos) (some (.Name y py)) spos.line X.env = pure true) (hs : ∀ i ∈ is, i ∈ own.map (·.2)) (hfs : ∀ x, foldedSetIterable iter X.env x = pure x) :
    SS X E W (.Assign [.Name y py] (.ListComp elt [⟨tg, iter, ifs, 0⟩] scope pos) spos) (sSetL i (eComp fi h c f (own.map (·.2)))) ∧ SS X E W (.Assign [.Name y py] (.ListComp elt [⟨tg, iter, ifs, 0⟩] scope pos) spos) (sSet i (eOfL (eComp fi h c f (own.map (·.2))))) := by
  obtain ⟨wi, p1, k1⟩ := hi.ex
  obtain ⟨tg', p2, k2⟩ := hb.g
  obtain ⟨tc', p3, k3⟩ := hb.c
  obtain ⟨te', p4, k4⟩ := hb.f
  exact ps_ofTE hi.hK (ps_setLc hc hN hy hyl hsw p1 ok p2 p3 p4 hfs) (comp_ok k1 k2 k3 k4 hs)
theorem SS.setC (i : Nat) {y : Str} {py spos : Pos} {elt : Expr} {ifs : List Expr} {scope : Scope} {own : List (Str × Nat)} {is : List Nat} {fi : En → Rs (List D)} {h : D → En → Option En} {c : En → Rs Bool} (hc : X.calm = true) (hN : X.N.Nodup) (hi : SJ X E W tg iter fi) (ok : BlkOk X.N X.env.scope scope own)
    (hb : Blk X E scope tg ifs elt is h c f) (hy : X.N[i]? = some y := by rfl) (hyl : X.env.scope.names.lookup y = some .local := by rfl) (hsw : swapsWith (.ListComp elt [⟨tg, iter, ifs, 0⟩] scope pos) (some (.Name y py)) spos.line X.env = pure true := by exact sw_true rfl rfl rfl (by decide +kernel)) (hs : ∀ i ∈ is, i ∈ own.map (·.2) := by decide) (hfs : ∀ x, foldedSetIterable iter X.env x = pure x := by intro _; rfl) :
    SS X E W (.Assign [.Name y py] (.ListComp elt [⟨tg, iter, ifs, 0⟩] scope pos) spos) (sSet i (eOfL (eComp fi h c f (own.map (·.2))))) := (SS.setC2 i hc hN hi ok hb hy hyl hsw hs hfs).2
theorem SS.setCL (i : Nat) {y : Str} {py spos : Pos} {elt : Expr} {ifs : List Expr} {scope : Scope} {own : List (Str × Nat)} {is : List Nat} {fi : En → Rs (List D)} {h : D → En → Option En} {c : En → Rs Bool} (hc : X.calm = true) (hN : X.N.Nodup) (hi : SJ X E W tg iter fi) (ok : BlkOk X.N X.env.scope scope own)
    (hb : Blk X E scope tg ifs elt is h c f) (hy : X.N[i]? = some y := by rfl) (hyl : X.env.scope.names.lookup y = some .local := by rfl) (hsw : swapsWith (.ListComp elt [⟨tg, iter, ifs, 0⟩] scope pos) (some (.Name y py)) spos.line X.env = pure true := by exact sw_true rfl rfl rfl (by decide +kernel)) (hs : ∀ i ∈ is, i ∈ own.map (·.2) := by decide) (hfs : ∀ x, foldedSetIterable iter X.env x = pure x := by intro _; rfl) :
    SS X E W (.Assign [.Name y py] (.ListComp elt [⟨tg, iter, ifs, 0⟩] scope pos) spos) (sSetL i (eComp fi h c f (own.map (·.2)))) := (SS.setC2 i hc hN hi ok hb hy hyl hsw hs hfs).1
end
end Z

set_option Elab.async false
set_option linter.all false
set_option maxRecDepth 100000
set_option maxHeartbeats 2000000
namespace PySem
namespace ZRev
open PySem.W PySem.Calls PyProof.Rows PyProof.V PySem.Spec L2 RT
section
variable {prog : Program} {w : World} {A : Around} {E : Value → Shared → Prop} {s : Shared} {it l : Addr} {items : Array Value}
abbrev revP (items : Array Value) : Nat → Value → Prop := fun i v => items[items.size - 1 - i]? = some v
theorem hint_rev {Q : Bool → Shared → Prop} (hT : s.TypeIs (.ref it) "list_reverseiterator") (h : Q false s) : wpAny (model prog w) A (Builtin.List.listLengthHint (.ref it)) Q E s := by
  unfold Builtin.List.listLengthHint
  refine wpAny_bind (wpAny_specialOf hT nolen_lri ?_)
  show wpAny _ A (specialOf (Value.ref it) (Str.ofString "__length_hint__") >>= _) _ _ _
  refine wpAny_bind (wpAny_specialOf hT hint_lri ?_)
  generalize hid : ("list_reverseiterator.__length_hint__" : String) = id0
  wp_delta
  rw [show splitId id0 = some ("list_reverseiterator", "__length_hint__") from by subst hid; decide +kernel]
  subst hid
  refine wpAny_bind (wpAny_isInstance (b := true) hT (by rw [isSubtype_type]; kernel_rfl) ?_)
  refine wpAny_pure ?_
  exact h
theorem rev_extend {R : Result → Shared → Prop} (hh : A.handled = none) (hit : s.heap.IsRevIter it l ((items.size : Int) - 1)) (hl : s.heap.IsList l items) (hne : l ≠ it) (hn : items.size ≤ sizeLine) (S : Addr) (hSi : S ≠ it) (hSl : S ≠ l) (res : Value) (c0 : Nat)
    (hS : s.heap.get? S = some { cls := .type "list", data := .seq #[] c0 })
    (hR : ∀ h' tk acc' c', (∀ b o, b ≠ S → b ≠ it → s.heap.get? b = some o → h'.get? b = some o) → h'.get? S = some { cls := .type "list", dict := none, data := .seq acc' c', slots := #[] } → ItemsOf (revP items) acc' items.size → R (.ok (.ret res)) { s with heap := h', toks := tk }) :
    wpAny (model prog w) A.in1 (Builtin.List.listExtendWith (.ref S) (.ref it) res)
      (fun fin s' => match fin with | .done f => R (.ok f) s' | .again c' => c'.quiet = true ∧ codeAny (model prog w) A c' R s') (fun e s' => R (.error e) s') s := by
  have W := (Walks.listRev (prog := prog) (w := w) (A := A.in1) hh it l hne items).toS
  have hSf : S ∉ [it, l] := by simp only [List.mem_cons, List.not_mem_nil, or_false, not_or]; exact ⟨hSi, hSl⟩
  have hT : s.TypeIs (.ref it) "list_reverseiterator" := hit.typeIs
  have h1 : Builtin.List.listSameRef (.ref S) (.ref it) = false := by simp [Builtin.List.listSameRef, hSi]
  have e0 : ((items.size : Nat) : Int) - 1 - ((0 : Nat) : Int) = (items.size : Int) - 1 := by omega
  unfold Builtin.List.listExtendWith
  refine wpAny_bind (wpAny_typeOf hT ?_)
  rw [if_neg (by rw [h1]; decide)]
  refine wpAny_bind (wpAny_pyIter_revIter hit ?_)
  refine wpAny_bind (wpAny_holding (hint_rev hT ?_))
  rw [if_neg (by decide)]
  refine wpAny_pure ⟨plainId_quiet F.plain_extend_loop _, codeAny_extend_loopS W hn S hSf res items.size 0 _ _ _ rfl (Nat.zero_le _) ⟨Nat.zero_le _, by rw [e0]; exact hit, hl⟩ hS (ItemsOf.nil _) fun s' acc' c' hm hS' hacc => ?_⟩
  rw [Moved.eq_with hm]
  refine hR s'.heap s'.toks acc' c' (fun b o hb hbi e => hm.heap b o (fun hmem => ?_) e) hS' hacc
  rcases List.mem_cons.mp hmem with e' | hmem
  · exact hb e'
  · exact hbi (List.mem_singleton.mp hmem)
theorem rev_init {R : Result → Shared → Prop} (hh : A.handled = none) (hit : s.heap.IsRevIter it l ((items.size : Int) - 1)) (hl : s.heap.IsList l items) (hne : l ≠ it) (hn : items.size ≤ sizeLine) (S : Addr) (hSi : S ≠ it) (hSl : S ≠ l)
    (hS : s.heap.get? S = some { cls := .type "list", data := .seq #[] })
    (hR : ∀ h' tk acc' c', (∀ b o, b ≠ S → b ≠ it → s.heap.get? b = some o → h'.get? b = some o) → h'.get? S = some { cls := .type "list", dict := none, data := .seq acc' c', slots := #[] } → ItemsOf (revP items) acc' items.size → R (.ok (.ret .none)) { s with heap := h', toks := tk }) :
    wpAny (model prog w) A.in1 (Builtin.«list.__init__» ⟨[.ref S, .ref it], []⟩)
      (fun fin s' => match fin with | .done f => R (.ok f) s' | .again c' => c'.quiet = true ∧ codeAny (model prog w) A c' R s') (fun e s' => R (.error e) s') s := by
  show wpAny _ _ (do let old ← Builtin.List.listItems (.ref S); Builtin.List.listUpdate (.ref S) (fun _ => #[]); letGo old.toList.reverse; Builtin.List.listExtendWith (.ref S) (.ref it) .none) _ _ s
  refine wpAny_bind ?_
  unfold Builtin.List.listItems
  refine wpAny_bind (wpAny_seqItems hS rfl (wpAny_pure ?_))
  show wpAny _ _ (updateSeq S (fun _ => #[]) >>= fun _ => letGo (#[] : Array Value).toList.reverse >>= fun _ => Builtin.List.listExtendWith (.ref S) (.ref it) .none) _ _ s
  refine wpAny_bind (wpAny_updateSeq hS rfl ?_)
  have hS2 := Heap.get?_update_self (Obj.mapSeq (fun _ => (#[] : Array Value))) hS rfl
  have oth : ∀ b o, b ≠ S → s.heap.get? b = some o → (s.heap.update S (Obj.mapSeq (fun _ => (#[] : Array Value)))).get? b = some o := fun b o hb e => (Heap.get?_update_other _ _ (Ne.symm hb)).trans e
  refine wpAny_bind (wpAny_letGo ?_)
  refine rev_extend hh (hit.at fun o e => oth it o hSi.symm e) (hl.at fun o e => oth l o hSl.symm e) hne hn S hSi hSl .none _ hS2 fun h' tk acc' c' hk hS' hacc => ?_
  exact hR h' tk acc' c' (fun b o hb hbi e => hk b o hb hbi (oth b o hb e)) hS' hacc
theorem call_list_rev {Q : Value → Shared → Prop} (hh : A.handled = none) (hit : s.heap.IsRevIter it l ((items.size : Int) - 1)) (hl : s.heap.IsList l items) (hne : l ≠ it) (hn : items.size ≤ sizeLine)
    (hQ : ∀ h' tk acc' c', (∀ b o, b ≠ it → s.heap.get? b = some o → h'.get? b = some o) → h'.get? s.heap.objs.size = some { cls := .type "list", dict := none, data := .seq acc' c', slots := #[] } → ItemsOf (revP items) acc' items.size → Q (.ref s.heap.objs.size) { s with heap := h', toks := tk }) :
    wpAny (model prog w) A (call (.type "list") [.ref it]) Q E s := by
  refine callType_codes (Q₁ := fun obj s₁ => obj = .ref s.heap.objs.size ∧ s₁ = { s with heap := s.heap.push { cls := .type "list", data := .seq #[] } }) PySem.F.called_list (PySem.F.typeCall_list_1 _) PySem.F.entry_list_init
    (code_list_new _ ⟨rfl, rfl⟩) fun obj s1 h1 => ?_
  obtain ⟨rfl, rfl⟩ := h1
  have hS : (s.heap.push { cls := .type "list", data := .seq #[] }).get? s.heap.objs.size = some { cls := .type "list", data := .seq #[] } := Heap.get?_push_size _ rfl
  obtain ⟨oi, hoi, _⟩ := id hit
  obtain ⟨ol, hol, _⟩ := id hl
  refine ⟨⟨_, hS, rfl⟩, PySem.F.args_list_init_2 _ _, rev_init (A := A.in1) hh (hit.at fun o e => Heap.get?_push_of_some _ e) (hl.push _) hne hn _ (Nat.ne_of_gt (Heap.lt_size hoi)) (Nat.ne_of_gt (Heap.lt_size hol)) hS fun h' tk acc' c' hk hS' hacc => ?_⟩
  exact ⟨rfl, hQ h' tk acc' c' (fun b o hb e => hk b o (Nat.ne_of_lt (Heap.lt_size e)) hb (Heap.get?_push_of_some _ e)) hS' hacc⟩
end
end ZRev
end PySem
namespace Z
open PySem L2
section
variable {X : Cx} {E : Ent} {W : WX} {e a b tg iter : Expr} {f g : En → Rs D} {pos : Pos} {s : Stmt} {ss : List Stmt} {gs gt : En → Fl}
/-! ### list(x), list(reversed(x)) -/
def eList (f : En → Rs D) : En → Rs (List D) := fun env => (f env).bind fun d => ofO (seqOf d)
theorem newL_ok {t : TE} {h : D → Option (List D)} (k : OkE E W t f) (hr : ∀ F H v d fp ds, Same F H → R E.K F H d v fp → h d = some ds → ∃ a vs, v = .ref a ∧ (SqL E.K.k H a vs ∨ SqT E.K.k H a vs) ∧ RL E.K F H ds vs [] ∧ ds.length ≤ 16777216)
    {r : V → Hp → VK → Prop} (hq : ∀ v H Q a vs, v = .ref a → (SqL E.K.k H a vs ∨ SqT E.K.k H a vs) → (∀ p, H p = none → Q (.ref p) (upd H p (.lst vs))) → r v H Q) :
    OkL E W (fun σ H Q => t σ H fun v H1 => r v H1 Q) (fun env => (f env).bind fun d => ofO (h d)) := by
  intro F σ H env S Q q
  refine k F σ H env S _ ?_
  dsimp only at q
  cases e1 : f env with
  | un => rw [e1] at q; exact q
  | ex x => rw [e1] at q; exact q
  | ok d =>
    rw [e1, Rs.bind_ok] at q
    intro v fp F1 H1 G1 r1
    cases e2 : h d with
    | none => rw [e2] at q; exact q.elim
    | some ds =>
      rw [e2] at q
      obtain ⟨a, vs, rfl, hs, hl, hz⟩ := hr F1 H1 v d fp ds G1.fh r1 e2
      refine hq _ H1 Q a vs rfl hs fun p hp => ?_
      have hp0 : H p = none := by
        cases q0 : H p with
        | none => rfl
        | some o => rw [G1.h _ _ q0] at hp; cases hp
      exact q p vs F1 _ (G1.trans (Grow.own G1.fh hp)) hp0 (same_none G1.fh hp) upd_same (hl.grow (Grow.own G1.fh hp)) hz
theorem SL.list {p : Pos} (ha : SE X E W a f) (hm : X.mg "list" = none) (hg : Gl X "list" := by rfl) (hs : starEach [a] X.env = (false, eval a X.env) :: starEach [] X.env := by rfl) (hpl : (backTo pos (starEach [] X.env)).any (·.1) = false := by rfl) : SL X E W (.Call (.Name "list" p) [a] [] pos) (eList f) := by
  obtain ⟨t, pa, ka⟩ := ha.ex
  refine ⟨ha.hK, _, pe_callTy call_list_of hg hm (by decide +kernel) (pa_cons pa pa_nil hs) (by decide) (by decide) hs hpl, ?_⟩
  refine newL_ok (r := fun v H Q => ∃ p ys, [v] = [V.ref p] ∧ (SqL X.K H p ys ∨ SqT X.K H p ys) ∧ ∀ l, H l = none → Q (.ref l) (upd H l (.lst ys))) ka (fun F H v d fp ds hs r e => seqOf_at hs r e) ?_
  intro v H Q a vs hv hs q
  exact ⟨a, vs, by rw [hv], by rw [ha.hK]; exact hs, q⟩
end
end Z
namespace L2
open PySem PySem.Spec PyProof.Rows
theorem pe_listRev {X : Cx} {e : Expr} {pos : Pos} {te : TE} {p p2 pos2 : Pos} (hc : X.calm = true) (hg : Gl X "list") (hm : X.mg "list" = none) (hg2 : Gl X "reversed") (hm2 : X.mg "reversed" = none) (he : PE X e te)
    (hs : starEach [e] X.env = (false, eval e X.env) :: starEach [] X.env := by rfl)
    (hs2 : starEach [.Call (.Name "reversed" p2) [e] [] pos2] X.env = (false, eval (.Call (.Name "reversed" p2) [e] [] pos2) X.env) :: starEach [] X.env := by rfl) :
    PE X (.Call (.Name "list" p) [.Call (.Name "reversed" p2) [e] [] pos2] [] pos) (fun σ H Q => te σ H fun v H1 => ∃ (a : Addr) (xs : List V), v = .ref a ∧ SqL X.K H1 a xs ∧ ∀ q, H1 q = none → Q (.ref q) (upd H1 q (.lst xs.reverse))) := by
  refine ⟨fun pins s σ H Q I h => ?_⟩
  have hbl : bootBuiltins "list" = some (.type "list") := by decide +kernel
  refine Call_ (ld_blt I hg hm hbl (PyProof.Rows.callWith_type1 (args_cons (Call_ (ld_blt I hg2 hm2 PyProof.Rows.boot_reversed (PyProof.Rows.callWith_type1 (args_cons (thn (he.run pins s σ H _ I h) fun u s1 ⟨v, H1, I1, r1, q1⟩ => args_nil ?_) hs) hs rfl))) hs2) hs2 rfl))
  obtain ⟨a, xs, ev, hq, q⟩ := q1
  subst ev
  obtain rfl : u = Value.ref a := r1
  obtain ⟨its, rv, p', hz⟩ := I1.list hq
  refine call_reversed_list p'.isList (args_nil ?_)
  have hl := p'.isList
  obtain ⟨ol, hol, _⟩ := id hl
  have hne : a ≠ s1.heap.objs.size := Nat.ne_of_lt (Heap.lt_size hol)
  have hn : its.toArray.size ≤ sizeLine := by rw [List.size_toArray, ← rv.length]; exact hz
  refine PySem.ZRev.call_list_rev (s := { s1 with heap := s1.heap.push (revObj a ((its.toArray.size : Int) - 1)) }) (I1.ok.hd hc) ⟨_, Heap.get?_push_size _ rfl, rfl, rfl⟩ (hl.push _) hne hn fun h' tk acc c' hk hS hi => ?_
  have szp : (s1.heap.push (revObj a ((its.toArray.size : Int) - 1))).objs.size = s1.heap.objs.size + 1 := by simp
  have hfr : H1 (s1.heap.push (revObj a ((its.toArray.size : Int) - 1))).objs.size = none := I1.hok.fresh (by rw [szp]; exact Nat.le_succ _)
  refine ⟨.ref _, upd H1 _ (.lst xs.reverse), I1.laid (t' := tk) (a := (s1.heap.push (revObj a ((its.toArray.size : Int) - 1))).objs.size) (fun b o eb => hk b o (Nat.ne_of_lt (Heap.lt_size eb)) (Heap.get?_push_of_some _ eb)) (by rw [szp]; exact Nat.le_succ _) ?_, rfl, q _ hfr⟩
  exact ⟨by rw [List.length_reverse]; exact hz, acc.toList, c', RT.vals_rev rv hi, by rw [Array.toArray_toList]; exact hS⟩
end L2
namespace Z
open PySem L2
section
variable {X : Cx} {E : Ent} {W : WX} {e a b tg iter : Expr} {f g : En → Rs D} {pos : Pos} {s : Stmt} {ss : List Stmt} {gs gt : En → Fl}
def revOf (d : D) : Option (List D) := (listOf d).map List.reverse
theorem SL.lrev {p p2 pos2 : Pos} (ha : SE X E W a f) (hc : X.calm = true) (hm : X.mg "list" = none) (hm2 : X.mg "reversed" = none) (hg : Gl X "list" := by rfl) (hg2 : Gl X "reversed" := by rfl) (hs : starEach [a] X.env = (false, eval a X.env) :: starEach [] X.env := by rfl)
    (hs2 : starEach [.Call (.Name "reversed" p2) [a] [] pos2] X.env = (false, eval (.Call (.Name "reversed" p2) [a] [] pos2) X.env) :: starEach [] X.env := by rfl) :
    SL X E W (.Call (.Name "list" p) [.Call (.Name "reversed" p2) [a] [] pos2] [] pos) (fun env => (f env).bind fun d => ofO (revOf d)) := by
  obtain ⟨t, pa, ka⟩ := ha.ex
  refine ⟨ha.hK, _, pe_listRev hc hg hm hg2 hm2 pa hs hs2, ?_⟩
  intro F σ H env S Q q
  refine ka F σ H env S _ ?_
  dsimp only at q
  cases e1 : f env with
  | un => rw [e1] at q; exact q
  | ex x => rw [e1] at q; exact q
  | ok d =>
    rw [e1, Rs.bind_ok] at q
    intro v fp F1 H1 G1 r1
    unfold revOf at q
    cases e2 : listOf d with
    | none => rw [e2] at q; exact q.elim
    | some ds =>
      rw [e2] at q
      obtain ⟨a', vs, rfl, hs', hl, hz⟩ := listOf_at G1.fh r1 e2
      refine ⟨a', vs, rfl, SqL.of hs', fun p hp => ?_⟩
      have hp0 : H p = none := by
        cases q0 : H p with
        | none => rfl
        | some o => rw [G1.h _ _ q0] at hp; cases hp
      exact q p _ F1 _ (G1.trans (Grow.own G1.fh hp)) hp0 (same_none G1.fh hp) upd_same (hl.rev0.grow (Grow.own G1.fh hp)) (by rw [List.length_reverse]; exact hz)

/-! ### sep.join(texts) -/
def strsOf : List D → Option (List (List Nat))
  | [] => some []
  | .str x :: ds => (strsOf ds).map (x :: ·)
  | _ => none
theorem strsOf_at {K : Kx} {F H : Hp} : ∀ {ds : List D} {vs : List V} {xs : List (List Nat)}, RL K F H ds vs [] → strsOf ds = some xs → vs = (xs.map fun x => (⟨x.toArray⟩ : Str)).map V.str ∧ ∀ x ∈ xs, StrOk x
  | [], vs, xs, r, e => by
    cases e
    cases vs with
    | nil => exact ⟨rfl, fun _ z => nomatch z⟩
    | cons _ _ => exact absurd r.len (by simp)
  | d :: ds, vs, xs, r, e => by
    obtain ⟨v, vs', rfl, h1, h2⟩ := r.inv_cons
    cases d <;> first | (cases e; done) | skip
    rename_i x
    have e' : (strsOf ds).map (x :: ·) = some xs := e
    cases q : strsOf ds with
    | none => rw [q] at e'; cases e'
    | some xs' =>
      rw [q] at e'
      cases e'
      obtain ⟨rfl, k⟩ := h1.str_inv
      obtain ⟨e1, e2⟩ := strsOf_at h2 q
      refine ⟨by rw [e1]; rfl, fun y hy => ?_⟩
      rcases List.mem_cons.mp hy with z | z
      · rw [z]; exact k
      · exact e2 y z
def joinN (sep : List Nat) : List (List Nat) → List Nat
  | [] => []
  | [x] => x
  | x :: y :: r => x ++ sep ++ joinN sep (y :: r)
theorem join_str (sep : List Nat) : ∀ xs : List (List Nat), Str.join ⟨sep.toArray⟩ (xs.map fun x => (⟨x.toArray⟩ : Str)) = ⟨(joinN sep xs).toArray⟩
  | [] => rfl
  | [x] => rfl
  | x :: y :: r => by
    have ih := join_str sep (y :: r)
    show ((⟨x.toArray⟩ : Str) ++ ⟨sep.toArray⟩) ++ Str.join ⟨sep.toArray⟩ ((y :: r).map fun x => (⟨x.toArray⟩ : Str)) = _
    rw [ih, str_app, str_app]
    rfl
theorem joinN_mem (sep : List Nat) : ∀ (xs : List (List Nat)) (c : Nat), c ∈ joinN sep xs → c ∈ sep ∨ ∃ x ∈ xs, c ∈ x
  | [], c, h => nomatch h
  | [x], c, h => .inr ⟨x, by simp, h⟩
  | x :: y :: r, c, h => by
    have h : c ∈ x ++ sep ++ joinN sep (y :: r) := h
    rcases List.mem_append.mp h with h | h
    · rcases List.mem_append.mp h with h | h
      · exact .inr ⟨x, by simp, h⟩
      · exact .inl h
    · rcases joinN_mem sep (y :: r) c h with h | ⟨z, hz, hc⟩
      · exact .inl h
      · exact .inr ⟨z, List.mem_cons_of_mem _ hz, hc⟩
theorem joinN_len (sep : List Nat) : ∀ xs : List (List Nat), (joinN sep xs).length ≤ (xs.map List.length).sum + xs.length * sep.length
  | [] => by simp [joinN]
  | [x] => by simp [joinN]
  | x :: y :: r => by
    have ih := joinN_len sep (y :: r)
    show (x ++ sep ++ joinN sep (y :: r)).length ≤ _
    rw [List.length_append, List.length_append]
    have e1 : ((x :: y :: r).map List.length).sum = x.length + ((y :: r).map List.length).sum := by simp
    have e2 : (x :: y :: r).length * sep.length = sep.length + (y :: r).length * sep.length := by
      rw [List.length_cons (a := x), Nat.add_mul]; omega
    omega
def pJoin (a b : D) : Option D := match a with
  | .str sep => (seqOf b).bind fun ds => (strsOf ds).bind fun xs => if (xs.map List.length).sum + xs.length * sep.length ≤ 16777216 then some (.str (joinN sep xs)) else none
  | _ => none
theorem m1_ok {t u : TE} {r : V → List V → Hp → VK → Prop} {op : D → D → Option D} (ha : OkE E W t f) (hb : OkE E W u g)
    (hstr : ∀ d1 d2 d, op d1 d2 = some d → ∃ x, d1 = .str x) (hex : ∀ env d1 x, f env = .ok d1 → g env = .ex x → ∃ y, d1 = .str y)
    (hr : ∀ F H x y d1 d2 fp1 fp2 d, Same F H → R E.K F H d1 x fp1 → R E.K F H d2 y fp2 → op d1 d2 = some d → ∀ Q : VK, (∀ v fp F' H', Grow F H F' H' → R E.K F' H' d v fp → Q v H') → r x [y] H Q) :
    OkE E W (tM1 r t u) (eBin op f g) := by
  intro F σ H env S Q h
  refine ha F σ H env S _ ?_
  unfold eBin at h
  cases e1 : f env with
  | un => rw [e1] at h; exact h
  | ex x => rw [e1] at h; exact h
  | ok d1 =>
    intro v1 fp1 F1 H1 G1 r1
    rw [e1, Rs.bind_ok] at h
    cases e2 : g env with
    | un => rw [e2] at h; exact h.elim
    | ex x =>
      rw [e2] at h
      obtain ⟨y, rfl⟩ := hex env d1 x e1 e2
      obtain ⟨rfl, _⟩ := r1.str_inv
      refine ⟨⟨_, rfl⟩, hb F1 σ H1 env (S.grow G1) _ ?_⟩
      rw [e2]; exact PostE.mono G1 h
    | ok d2 =>
      rw [e2, Rs.bind_ok] at h
      cases e3 : op d1 d2 with
      | none => rw [e3] at h; exact h.elim
      | some d =>
        rw [e3] at h
        obtain ⟨y, rfl⟩ := hstr d1 d2 d e3
        have rv := r1.str_inv
        refine ⟨⟨_, rv.1⟩, hb F1 σ H1 env (S.grow G1) _ ?_⟩
        rw [e2]
        intro v2 fp2 F2 H2 G2 r2
        exact hr F2 H2 v1 v2 _ d2 fp1 fp2 d G2.fh (r1.grow G2) r2 e3 Q fun v fp F' H' G k => h v fp F' H' ((G1.trans G2).trans G) k
/-- a written separator -/
theorem SE.join {sep : List Nat} {x : Str} {j : Nat} {p apos : Pos} (hb : SE X E W b g) (hx : x = ⟨sep.toArray⟩ := by rfl) (hso : strOkB sep = true := by decide +kernel) (hs : starEach [b] X.env = [(false, eval b X.env)] := by rfl) (hbase : attributeBase (.Constant (.str x) j p) "join" X.env (eval (.Constant (.str x) j p) X.env) = eval (.Constant (.str x) j p) X.env := by rfl) (hline : (apos.endLine == pos.line) = true := by rfl) :
    SE X E W (.Call (.Attribute (.Constant (.str x) j p) "join" apos) [b] [] pos) (eBin pJoin (eC (.str sep)) g) := by
  obtain ⟨t, pb, kb⟩ := hb.ex
  obtain ⟨u, pa, ka⟩ := (SE.str (W := W) (pos := p) (j := j) sep hx hso hb.hK).ex
  refine ⟨hb.hK, _, pe_join pa pb hs hbase hline, m1_ok ka kb ?_ ?_ ?_⟩
  · intro d1 d2 d h
    unfold pJoin at h
    split at h
    · exact ⟨_, rfl⟩
    · cases h
  · intro env d1 x h _
    cases h
    exact ⟨_, rfl⟩
  · intro F H x y d1 d2 fp1 fp2 d hs r1 r2 h Q q
    unfold pJoin at h
    split at h
    · rename_i sep'
      obtain ⟨rfl, k1⟩ := r1.str_inv
      cases e1 : seqOf d2 with
      | none => rw [e1] at h; cases h
      | some ds =>
        rw [e1, Option.bind_some] at h
        cases e2 : strsOf ds with
        | none => rw [e2] at h; cases h
        | some xs =>
          rw [e2, Option.bind_some] at h
          split at h
          · rename_i hz
            cases h
            obtain ⟨a', vs, rfl, hq, hl, _⟩ := seqOf_at hs r2 e1
            obtain ⟨e3, hok⟩ := strsOf_at hl e2
            subst e3
            refine ⟨_, a', _, rfl, rfl, by rw [hb.hK]; exact hq, ?_, ?_⟩
            · rw [List.map_map, List.length_map]
              have e4 : xs.map ((fun x : Str => x.length) ∘ fun x => (⟨x.toArray⟩ : Str)) = xs.map List.length := List.map_congr_left fun x _ => List.size_toArray
              have e5 : (⟨sep'.toArray⟩ : Str).length = sep'.length := List.size_toArray
              rw [e5]
              have e6 : (xs.map ((·.length) ∘ fun x => (⟨x.toArray⟩ : Str))).sum = (xs.map List.length).sum := congrArg List.sum e4
              rw [e6]
              exact hz
            · have e7 : Txt.join ⟨sep'.toArray⟩ (xs.map fun x => (⟨x.toArray⟩ : Str)) = ⟨(joinN sep' xs).toArray⟩ := by
                unfold Txt.join
                rw [PySem.StrLaws.glued_eq_join]
                exact join_str sep' xs
              rw [e7]
              refine q _ [] F H (Grow.refl hs) (.str ⟨?_, fun c hc => ?_⟩)
              · rw [← line_eq]; exact Nat.le_trans (joinN_len sep' xs) hz
              · rcases joinN_mem sep' xs c hc with h | ⟨z, hz', hc'⟩
                · exact k1.cps c h
                · exact (hok z hz').cps c hc'
          · cases h
    · cases h

/-! ### isinstance(x, T), T a built-in type -/
def tyOf : D → Option String
  | .non => some "NoneType"
  | .bl _ => some "bool"
  | .int _ => some "int"
  | .str _ => some "str"
  | .tup _ => some "tuple"
  | .lst _ => some "list"
  | .olst _ => some "list"
  | _ => none
def isT (t T : String) : Bool := t == T || (t == "bool" && T == "int")
def pIsi (T : String) (d : D) : Option D := (tyOf d).map fun t => .bl (isT t T)
def tyNames : List String := ["NoneType", "bool", "int", "str", "tuple", "list", "dict"]
theorem kit_all : (tyNames.all fun t => ["bool", "int", "str", "tuple", "list", "dict"].all fun T => decide (kitB t T = some (isT t T))) = true := by decide +kernel
theorem kit_of' {t T : String} (h1 : t ∈ tyNames) (h2 : T ∈ (["bool", "int", "str", "tuple", "list", "dict"] : List String)) : kitB t T = some (isT t T) :=
  of_decide_eq_true (List.all_eq_true.mp (List.all_eq_true.mp kit_all t h1) T h2)
theorem tyx_of {K : Kx} {F H : Hp} {d : D} {v : V} {fp : List Addr} {t : String} (hs : Same F H) (r : R K F H d v fp) (e : tyOf d = some t) : TyX K.k H v (.type t) ∧ t ∈ tyNames := by
  cases r <;> first | (cases e; done) | skip
  · cases e; exact ⟨.base .non, by decide⟩
  · cases e; exact ⟨.base (.bl _), by decide⟩
  · cases e; exact ⟨.base (.int _), by decide⟩
  · cases e; exact ⟨.base (.str _), by decide⟩
  · rename_i a vs ds h1 h2 hz
    cases e
    exact ⟨.base (.tup (hs _ _ h1)), by decide⟩
  · rename_i a vs ds h1 h2 hz
    cases e
    exact ⟨.base (.lst (hs _ _ h1)), by decide⟩
  · rename_i a vs ds fp h1 h2 hz
    cases e
    exact ⟨.base (.lst h1), by decide⟩
def eIsi (T : String) (f : En → Rs D) : En → Rs D := fun env => (f env).bind fun d => ofO (pIsi T d)
theorem SE.isi (T : String) {x : Str} {p p2 : Pos} (ha : SE X E W a f) (hm : X.mg "isinstance" = none) (hmT : X.mg x = none) (hv : bootBuiltins x = some (.type T)) (hT : T ∈ (["bool", "int", "str", "tuple", "list", "dict"] : List String) := by decide) (hg : Gl X "isinstance" := by rfl) (hgT : Gl X x := by rfl)
    (hn : x ≠ "__name__" := by decide) (hd : (x == ("__debug__" : Str)) = false := by decide)
    (hs : starEach [a, .Name x p2] X.env = (false, eval a X.env) :: starEach [.Name x p2] X.env := by rfl) (hs2 : starEach [.Name x p2] X.env = (false, eval (.Name x p2) X.env) :: starEach [] X.env := by rfl)
    (hpl : (backTo pos (starEach [.Name x p2] X.env)).any (·.1) = false := by rfl) :
    SE X E W (.Call (.Name "isinstance" p) [a, .Name x p2] [] pos) (eIsi T f) := by
  obtain ⟨t, pa, ka⟩ := ha.ex
  refine ⟨ha.hK, _, pe_callB call_isi hg hm (by decide +kernel) (pa_cons pa (pa_cons (pe_bltn hgT hmT hv (v := .ty T) rfl hn hd) pa_nil hs2) hs) (by decide) (by decide) hs hpl, ?_⟩
  intro F σ H env S Q q
  refine ka F σ H env S _ ?_
  unfold eIsi at q
  cases e1 : f env with
  | un => rw [e1] at q; exact q
  | ex x => rw [e1] at q; exact q
  | ok d =>
    rw [e1, Rs.bind_ok] at q
    intro v fp F1 H1 G1 r1
    unfold pIsi at q
    cases e2 : tyOf d with
    | none => rw [e2] at q; exact q.elim
    | some t =>
      rw [e2] at q
      obtain ⟨h1, h2⟩ := tyx_of G1.fh r1 e2
      refine ⟨v, .ty T, .type t, .type T, isT t T, rfl, .ty T, by rw [ha.hK]; exact h1, kit_ty (kit_of' h2 hT), ?_⟩
      exact q _ [] F1 H1 G1 (.bl _)
end
end Z

set_option Elab.async false
set_option linter.all false
set_option maxRecDepth 100000
set_option maxHeartbeats 2000000
namespace Z
open PySem L2
theorem bo_len : bootBuiltins "len" = some (.builtin "len") := by decide +kernel
theorem bo_abs : bootBuiltins "abs" = some (.builtin "abs") := by decide +kernel
theorem bo_min : bootBuiltins "min" = some (.builtin "min") := by decide +kernel
theorem bo_max : bootBuiltins "max" = some (.builtin "max") := by decide +kernel
theorem bo_all : bootBuiltins "all" = some (.builtin "all") := by decide +kernel
theorem bo_any : bootBuiltins "any" = some (.builtin "any") := by decide +kernel
theorem bo_sorted : bootBuiltins "sorted" = some (.builtin "sorted") := by decide +kernel
theorem bo_isinstance : bootBuiltins "isinstance" = some (.builtin "isinstance") := by decide +kernel
theorem bo_sum : bootBuiltins "sum" = some (.builtin "sum") := by decide +kernel
theorem bo_int : bootBuiltins "int" = some (.type "int") := by decide +kernel
theorem bo_tuple : bootBuiltins "tuple" = some (.type "tuple") := by decide +kernel
theorem bo_list : bootBuiltins "list" = some (.type "list") := by decide +kernel
theorem bo_str : bootBuiltins "str" = some (.type "str") := by decide +kernel
theorem bo_bool : bootBuiltins "bool" = some (.type "bool") := by decide +kernel
theorem bo_dict : bootBuiltins "dict" = some (.type "dict") := by decide +kernel
theorem bo_set : bootBuiltins "set" = some (.type "set") := by decide +kernel
theorem bo_range : bootBuiltins "range" = some (.type "range") := by decide +kernel
theorem bo_enumerate : bootBuiltins "enumerate" = some (.type "enumerate") := by decide +kernel
theorem bo_zip : bootBuiltins "zip" = some (.type "zip") := by decide +kernel
theorem bo_reversed : bootBuiltins "reversed" = some (.type "reversed") := by decide +kernel
section
variable {X : Cx} {E : Ent} {W : WX} {e a b tg iter : Expr} {f g : En → Rs D} {pos : Pos} {s : Stmt} {ss : List Stmt} {gs gt : En → Fl}
theorem u64 {k : Nat} {A : Around} (r : Room k A) : A.units + 64 < cLine := r.units
theorem u65 {k : Nat} {A : Around} (r : Room k A) : A.units + 65 < cLine := by have := r.un; omega
def pNeg : D → Option D
  | .int i => some (.int (-i))
  | _ => none
def eNeg (f : En → Rs D) : En → Rs D := fun env => (f env).bind fun d => ofO (pNeg d)
theorem SE.neg (ha : SE X E W a f) : SE X E W (.UnaryOp .USub a pos) (eNeg f) := by
  obtain ⟨t, p, k⟩ := ha.ex
  refine ⟨ha.hK, _, pe_un un_neg p, fun F σ H env S Q q => ?_⟩
  refine k F σ H env S _ ?_
  unfold eNeg at q
  cases e1 : f env with
  | un => rw [e1] at q; exact q
  | ex x => rw [e1] at q; exact q
  | ok d =>
    rw [e1, Rs.bind_ok] at q
    intro v fp F1 H1 G1 r1
    cases d <;> first | exact q.elim | skip
    cases r1
    exact ⟨_, rfl, q _ [] F1 H1 G1 (.int _)⟩
theorem SE.gstr (cs : List Nat) {x : Str} {t : Tok} (hm : X.mg x = some (.str ⟨cs.toArray⟩ t)) (hg : Gl X x := by rfl) (hs : strOkB cs = true := by decide +kernel) (hd : (x == ("__debug__" : Str)) = false := by decide) (hK : X.K = E.K.k := by rfl) : SE X E W (.Name x pos) (eC (.str cs)) :=
  ⟨hK, _, pe_glob hg hm (v := .str ⟨cs.toArray⟩) ⟨t, rfl⟩ hd, fun F σ H env S Q h => h _ [] F H (Grow.refl S.fH) (.str (strOk_of hs))⟩
theorem SE.gint (i : Int) {x : Str} {t : Tok} (hm : X.mg x = some (.int i t)) (hg : Gl X x := by rfl) (hd : (x == ("__debug__" : Str)) = false := by decide) (hK : X.K = E.K.k := by rfl) : SE X E W (.Name x pos) (eC (.int i)) :=
  ⟨hK, _, pe_glob hg hm (v := .int i) ⟨t, rfl⟩ hd, fun F σ H env S Q h => h _ [] F H (Grow.refl S.fH) (.int i)⟩
/-! a, b = e -/
def sUnp (h : D → En → Option En) (f : En → Rs D) : En → Fl := fun env => match f env with
  | .ok d => if isData d then match h d env with
      | some e => .nx e
      | none => .un
    else .un
  | .ex x => .xx x env
  | .un => .un
theorem SS.unp {is : List Nat} {h : D → En → Option En} (hg : SG X E tg is h) (hf : SE X E W e f) (hs : swapsWithSole [tg] e pos.line X.env = pure false := by rfl) (hw : swappedStores [tg] e X.env = pure none := by rfl)
    (h1 : (assignEach [tg] X.env).map (·.2) = [assign tg X.env] := by rfl) : SS X E W (.Assign [tg] e pos) (sUnp h f) := by
  obtain ⟨t, p, k⟩ := hf.ex
  obtain ⟨u, p', k'⟩ := hg.ex
  refine ⟨hf.hK, _, ps_asg p p' hs hw h1, fun F σ H env S D q => ?_⟩
  refine k F σ H env S _ ?_
  unfold sUnp at q
  cases e1 : f env with
  | un => rw [e1] at q; exact q
  | ex x => rw [e1] at q; exact fun cls dd F' H' G r => q cls dd F' σ H' G.f (S.grow G) r
  | ok d =>
    rw [e1] at q
    dsimp only at q
    intro v fp F1 H1 G1 r1
    split at q
    · rename_i hd
      cases e2 : h d env with
      | none => rw [e2] at q; exact q.elim
      | some en =>
        rw [e2] at q
        exact k' F1 σ H1 env d v (S.grow G1) (r1.toData hd) _ ⟨en, e2, fun σ' S' _ _ => q F1 σ' H1 G1.f S'⟩
    · exact q.elim
/-! an owned list stands still from now on -/
def sFrz (i : Nat) (g : En → Fl) : En → Fl := fun env => match env[i]? with
  | some (some (.olst ds)) => if ds.all isData then g (env.set i (some (.lst ds))) else .un
  | _ => g env
theorem R.olst_inv2 {K : Kx} {F H : Hp} {ds : List D} {v : V} {fp : List Addr} (r : R K F H (.olst ds) v fp) : ∃ a vs fp0, v = .ref a ∧ fp = a :: fp0 ∧ H a = some (.lst vs) ∧ RL K F H ds vs fp0 ∧ ds.length ≤ 16777216 := by
  cases r with
  | olst h1 h2 hz => exact ⟨_, _, _, rfl, rfl, h1, h2, hz⟩
theorem Stt.frz {F H : Hp} {env : En} {σ : St} {i : Nat} {ds : List D} (S : Stt E F env σ H) (ho : E.own i = []) (he : env[i]? = some (some (.olst ds))) (hd : ds.all isData = true) : ∃ F', Same F F' ∧ Stt E F' (env.set i (some (.lst ds))) σ H := by
  obtain ⟨fps, rs, nd, fr⟩ := S.rep
  obtain ⟨v, fp, g1, g2, g3⟩ := rs.get he
  obtain ⟨a, vs, fp0, rfl, rfl, h1, h2, hz⟩ := g3.olst_inv2
  · have h0 := h2.toData hd
    have hFa : F a = none := (fr i _ g2 a List.mem_cons_self).1
    have hH0 : E.H0 a = none := by
      rcases (fr i _ g2 a List.mem_cons_self).2 with h | h
      · exact h
      · rw [ho] at h; cases h
    have le : Same F (upd F a (.lst vs)) := fun b u eb => by rw [upd_ne (ne_of_none eb hFa)]; exact eb
    refine ⟨upd F a (.lst vs), le, S.le0.trans le, fun b u eb => ?_, S.keep, fun b o eb n => ?_, S.ownS, fps.set i [], ?_, nodup_set nd List.nodup_nil (fun _ _ _ _ _ _ z => nomatch z), fun j fq hj b hb => ?_⟩
    · by_cases hb : b = a
      · subst hb; rw [upd_same] at eb; cases eb; exact h1
      · rw [upd_ne hb] at eb; exact S.fH b u eb
    · rw [upd_ne (ne_of_none eb hH0)]; exact S.old b o eb n
    · have rs' : RS E.K (upd F a (.lst vs)) H env σ fps := rs.mono le fun _ _ _ _ => rfl
      have q := rs'.set i (R.lst (F := upd F a (.lst vs)) (H := H) upd_same (RL.mono le ds (fun a z => nomatch z) h0) hz)
      have e1 : σ.set i (some (V.ref a)) = σ := by
        apply List.ext_getElem?
        intro j
        by_cases hj : i = j
        · subst hj
          have hl : i < σ.length := (List.getElem?_eq_some_iff.mp g1).1
          rw [List.getElem?_set_self hl, g1]
        · rw [List.getElem?_set_ne hj]
      rw [e1] at q
      exact q
    · rcases mem_set_of hj with ⟨_, e⟩ | hj'
      · subst e; cases hb
      · obtain ⟨k1, k2⟩ := fr j fq hj' b hb
        refine ⟨?_, k2⟩
        rw [upd_ne fun z => ?_]
        · exact k1
        · subst z
          have hji : j ≠ i := by
            intro z
            subst z
            have hl : j < fps.length := (List.getElem?_eq_some_iff.mp g2).1
            rw [List.getElem?_set_self hl] at hj
            cases hj; cases hb
          exact nodup_apart nd hji hj' g2 b hb List.mem_cons_self
theorem SS.frz (i : Nat) (h : SS X E W s gs) (ho : E.own i = [] := by rfl) : SS X E W s (sFrz i gs) := by
  obtain ⟨t, p, k⟩ := h.ex
  refine ⟨h.hK, t, p, fun F σ H env S D q => ?_⟩
  unfold sFrz at q
  split at q
  · rename_i ds he
    split at q
    · rename_i hd
      obtain ⟨F', le, S'⟩ := S.frz ho he hd
      exact k F' σ H _ S' D (q.mono le)
    · exact q.elim
  · exact k F σ H env S D q
end
/-- a def that raises nothing, its meaning by name -/
theorem fn1 {P : Program} {w : World} {K : Kx} {mg : Str → Option Value} {base : Heap} {x qual : Str} {st : Stmt} {f : Addr} {fd : FuncData} {N ps : List Str} {k np n : Nat} {g : En → Fl} {m : List D → Rs D} (Fn : Fun K.k x qual st f fd) (S : FnScope N ps (defScope st))
    (hm : m = runB0 g n) (hn : N.length = n) (hp : ps.length = np)
    (hb : ∀ (cdv : Value) (A : Around) (outer : List Env) (s : Shared) (H : Hp) (Ex : XK) (F0 : Hp), Room k (A.deeper (PyProof.Rows.envOfC qual (defScope st) s.heap.objs.size f cdv)) →
      SB (cxOf CX0 P w K.k mg base N qual (defScope st) f cdv A outer s H Ex).nox ⟨K, H, F0, fun _ => []⟩ W0 (defBody st) g) : FnOk P w K.k mg base CX0 (k + 1) f fd ps (spP K np m) := by
  subst hm hn hp
  exact fn0 Fn S hb
/-! ### the law -/
def spLaw (K : PySem.W.Frag) : Sp := fun vs H Q _ => ∃ (a : Addr) (ns : List Int), vs = [.ref a] ∧ Only H ∧ SqL K H a (ns.map V.int) ∧ ns.length ≤ 63 ∧ ∀ H', Q (.bl true) H'
theorem law_of {P : Program} {w : World} {K : PySem.W.Frag} {mg : Str → Option Value} {base : Heap} {k : Nat} {f : Addr} {fd : FuncData} {m : List D → Rs D} (F : FnOk P w K mg base CX0 k f fd ["script"] (spP ⟨K, fun _ => 0, fun _ => 0⟩ 1 m))
    (h : ∀ ns : List Int, ns.length ≤ 63 → m [.scr ns] = .ok (.bl true)) : FnOk P w K mg base CX0 k f fd ["script"] (spLaw K) := by
  refine F.imp fun vs H Q E q => ?_
  obtain ⟨a, ns, rfl, _, hs, hl, k⟩ := q
  refine ⟨[.scr ns], H, Same.refl _, RL.mk0 (.scr hs (by omega)) .nil, rfl, ?_⟩
  rw [h ns hl]
  intro v F' H' G r
  cases r
  exact k H'
theorem walk {k : Nat} {l : PySem.W.OpenLaw} {q : Program} {loose : List Str} {XP : (Str → Option Value) → Heap → Prop} {YP : World → Heap → Prop} {d : DefRec} {K : Params → PySem.W.Frag} (hn : l.most = some 63) (hdf : d.params.defaults = []) (hr : Room k callerA)
    (hY : ∀ (w : World) (h : Heap), YP w h → (K w.params).In h)
    (F : ∀ (w : World) (mg : Str → Option Value) (fa : Addr) (h : Heap), (K w.params).In h → h.Ns mainGlobals mg → mg d.name = some (.ref fa) →
      ∃ fd : FuncData, (∀ (s : Shared) (u : Value), BindsTo s fd ⟨[u], []⟩ [("script", u)]) ∧ ∀ base : Heap, (K w.params).In base → base.Ns mainGlobals mg → FnOk l.prog w (K w.params) mg base CX0 k fa fd ["script"] (spLaw (K w.params))) :
    PySem.W.WalkO q loose XP YP l.row.toRowW d [] (fun f vs => PySem.call f vs) :=
  L2.walk_of (n := 63) (k := k) (x := "script") (CX := fun _ => CX0) (sp := fun w => spLaw (K w.params)) hn (by decide) hdf hr hY F (fun _ _ a ns hl ho hS => ⟨a, ns, rfl, ho, hS, hl, fun _ => rfl⟩) fun _ _ _ _ _ z => z
end Z

set_option Elab.async false
set_option linter.all false
set_option maxRecDepth 100000
/-! ZP: plain reckoning with the meanings: how each combinator answers, and rules for loops. No program in sight. -/
namespace Z
open PySem L2
section
variable {env : En} {f g : En → Rs D} {fa : En → Rs (List D)} {c d' : En → Rs Bool} {d e : D} {b : Bool} {i j : Int} {n : Nat}
@[simp] theorem eVar_z {d : D} {en : En} : eVar 0 (some d :: en) = .ok (peel d) := id rfl
@[simp] theorem peel_data {d : D} (h : isData d = true) : peel d = d := by
  cases d <;> first | rfl | cases h
@[simp] theorem peel_olst {x : List D} : peel (.olst x) = .olst x := id rfl
@[simp] theorem peel_odic {t : Bool} {x y : List D} : peel (.odic t x y) = .odic t x y := id rfl
@[simp] theorem peel_oob {c : Nat} {x : List String} {y : List D} : peel (.oob c x y) = .oob c x y := id rfl
@[simp] theorem peel_bor {t : Nat} {d : D} : peel (.bor t d) = d := id rfl
@[simp] theorem isData_dic {t : Bool} {x y : List D} : isData (.dic t x y) = true := id rfl
@[simp] theorem isData_ob {c : Nat} {x : List String} {y : List D} : isData (.ob c x y) = true := id rfl
@[simp] theorem eVar_s {o : Option D} {en : En} {k : Nat} : eVar (k + 1) (o :: en) = eVar k en := id rfl
@[simp] theorem eC_e : eC d env = .ok d := id rfl
@[simp] theorem eBin_e {op : D → D → Option D} : eBin op f g env = (f env).bind fun a => (g env).bind fun b => ofO (op a b) := id rfl
@[simp] theorem asB_bl : asB (.ok (.bl b)) = .ok b := id rfl
@[simp] theorem eB_e : eB f env = asB (f env) := id rfl
@[simp] theorem eTru_e : eTru f env = (f env).bind truD := id rfl
@[simp] theorem truD_bl : truD (.bl b) = .ok b := id rfl
@[simp] theorem eAnd_e : eAnd c d' env = (c env).bind fun b => if b then d' env else .ok false := id rfl
@[simp] theorem eOr_e : eOr c d' env = (c env).bind fun b => if b then .ok true else d' env := id rfl
@[simp] theorem eNot_e : eNot c env = (c env).bind fun b => .ok (!b) := id rfl
@[simp] theorem eAndV_e : eAndV f g env = (asB (f env)).bind fun b => if b then g env else .ok (.bl false) := id rfl
@[simp] theorem eOrV_e : eOrV f g env = (asB (f env)).bind fun b => if b then .ok (.bl true) else g env := id rfl
@[simp] theorem eNotB_e : eNotB f env = (asB (f env)).bind fun b => .ok (.bl (!b)) := id rfl
@[simp] theorem eNotV_e : eNotV c env = (c env).bind fun b => .ok (.bl (!b)) := id rfl
@[simp] theorem eIf_e : eIf c f g env = (c env).bind fun b => if b then f env else g env := id rfl
@[simp] theorem aNil_e : aNil env = .ok [] := id rfl
@[simp] theorem aCons_e : aCons f fa env = (f env).bind fun d => (fa env).bind fun ds => .ok (d :: ds) := id rfl
theorem small16 {n : Nat} (h : n ≤ 16777216) : decide (n ≤ 16777216) = true := decide_eq_true h
@[simp] theorem eTup_e : eTup fa env = (fa env).bind fun ds => if ds.all isData && decide (ds.length ≤ 16777216) then .ok (.tup ds) else .un := id rfl
@[simp] theorem eLst_e : eLst fa env = (fa env).bind fun ds => if ds.all isData && decide (ds.length ≤ 16777216) then .ok ds else .un := id rfl
@[simp] theorem eOfL_e : eOfL fa env = (fa env).bind fun ds => .ok (.lst ds) := id rfl
@[simp] theorem eCall_e {h : List D → Option D} : eCall h fa env = (fa env).bind fun ds => ofO (h ds) := id rfl
@[simp] theorem eApp_e {m : List D → Rs D} {k : Nat} : eApp k m fa env = (fa env).bind fun ds => if ds.all isData && decide (ds.length = k) then m ds else .un := id rfl
@[simp] theorem eNeg_e : eNeg f env = (f env).bind fun d => ofO (pNeg d) := id rfl
@[simp] theorem eIsi_e {T : String} : eIsi T f env = (f env).bind fun d => ofO (pIsi T d) := id rfl
@[simp] theorem pNeg_int : pNeg (.int i) = some (.int (-i)) := id rfl
@[simp] theorem eSl_e {lo hi : En → Rs (Option Int)} : eSl f lo hi env = (f env).bind fun d => (lo env).bind fun l => (hi env).bind fun h => ofO (pSl d l h) := id rfl
@[simp] theorem oNone_e : oNone env = .ok none := id rfl
@[simp] theorem oSome_e : oSome f env = (f env).bind asI := id rfl
@[simp] theorem asI_int : asI (.int i) = .ok (some i) := id rfl
@[simp] theorem isData_non : isData .non = true := id rfl
@[simp] theorem isData_bl : isData (.bl b) = true := id rfl
@[simp] theorem isData_int : isData (.int i) = true := id rfl
@[simp] theorem isData_str {x : List Nat} : isData (.str x) = true := id rfl
@[simp] theorem isData_tup {x : List D} : isData (.tup x) = true := id rfl
@[simp] theorem isData_lst {x : List D} : isData (.lst x) = true := id rfl
@[simp] theorem isData_scr {x : List Int} : isData (.scr x) = true := id rfl
/-! operations -/
@[simp] theorem pAdd_int : pAdd (.int i) (.int j) = some (.int (i + j)) := id rfl
@[simp] theorem pAddI_int : pAddI (.int i) (.int j) = some (.int (i + j)) := id rfl
@[simp] theorem pSub_int : pSub (.int i) (.int j) = some (.int (i - j)) := id rfl
@[simp] theorem pMul_int (h : (smallI i || smallI j) = true) : pMul (.int i) (.int j) = some (.int (i * j)) := by
  show (if _ then _ else _) = _
  rw [if_pos h]
@[simp] theorem pDiv_int (h : 0 < j ∧ j < 1073741824) : pDiv (.int i) (.int j) = some (.int (i / j)) := by
  show (if _ then _ else _) = _
  rw [if_pos h]
@[simp] theorem pMod_int (h : 0 < j) : pMod (.int i) (.int j) = some (.int (i % j)) := by
  show (if _ then _ else _) = _
  rw [if_pos h]
@[simp] theorem pPow_int (h : 0 ≤ j ∧ j ≤ 1000000 ∧ i.natAbs < 18446744073709551616) : pPow (.int i) (.int j) = some (.int (i ^ j.toNat)) := by
  show (if _ then _ else _) = _
  rw [if_pos h]
@[simp] theorem pAdd_str {x y : List Nat} (h : x.length + y.length ≤ 16777216) : pAdd (.str x) (.str y) = some (.str (x ++ y)) := by
  show (if _ then _ else _) = _
  rw [if_pos h]
@[simp] theorem pAdd_lst {x y : List D} (h : x.length + y.length ≤ 16777216) : pAdd (.lst x) (.lst y) = some (.lst (x ++ y)) := by
  show (if _ then _ else _) = _
  rw [if_pos h]
@[simp] theorem pAdd_tup {x y : List D} (h : x.length + y.length ≤ 16777216) : pAdd (.tup x) (.tup y) = some (.tup (x ++ y)) := by
  show (if _ then _ else _) = _
  rw [if_pos h]
@[simp] theorem pLt_int : pLt (.int i) (.int j) = some (.bl (decide (i < j))) := id rfl
@[simp] theorem pLe_int : pLe (.int i) (.int j) = some (.bl (decide (i ≤ j))) := id rfl
@[simp] theorem pGt_int : pGt (.int i) (.int j) = some (.bl (decide (j < i))) := id rfl
@[simp] theorem pGe_int : pGe (.int i) (.int j) = some (.bl (decide (j ≤ i))) := id rfl
theorem beq_dec {α : Type} [BEq α] [LawfulBEq α] [DecidableEq α] (a b : α) : (a == b) = decide (a = b) := by
  by_cases h : a = b
  · subst h; simp
  · rw [decide_eq_false h]; exact beq_eq_false_iff_ne.mpr h
@[simp] theorem pEq_int : pEq (.int i) (.int j) = some (.bl (decide (i = j))) := by rw [← beq_dec]; rfl
@[simp] theorem pNe_int : pNe (.int i) (.int j) = some (.bl (!decide (i = j))) := by rw [← beq_dec]; rfl
@[simp] theorem pEq_str {x y : List Nat} : pEq (.str x) (.str y) = some (.bl (decide (x = y))) := by rw [← beq_dec]; rfl
@[simp] theorem pNe_str {x y : List Nat} : pNe (.str x) (.str y) = some (.bl (!decide (x = y))) := by rw [← beq_dec]; rfl
@[simp] theorem pIs_non : pIs d .non = some (.bl (isNon d)) := id rfl
@[simp] theorem pIsnt_non : pIsnt d .non = some (.bl (!isNon d)) := id rfl
@[simp] theorem isNon_non : isNon .non = true := id rfl
@[simp] theorem isNon_tup {x : List D} : isNon (.tup x) = false := id rfl
@[simp] theorem isNon_str {x : List Nat} : isNon (.str x) = false := id rfl
@[simp] theorem isNon_int : isNon (.int i) = false := id rfl
@[simp] theorem isNon_lst {x : List D} : isNon (.lst x) = false := id rfl
@[simp] theorem isNon_bl : isNon (.bl b) = false := id rfl
@[simp] theorem bLen_str {x : List Nat} : bLen [.str x] = some (.int x.length) := id rfl
@[simp] theorem bLen_tup {x : List D} : bLen [.tup x] = some (.int x.length) := id rfl
@[simp] theorem bLen_lst {x : List D} : bLen [.lst x] = some (.int x.length) := id rfl
@[simp] theorem bLen_olst {x : List D} : bLen [.olst x] = some (.int x.length) := id rfl
@[simp] theorem bLen_scr {x : List Int} : bLen [.scr x] = some (.int x.length) := id rfl
@[simp] theorem bInt_int : bInt [.int i] = some (.int i) := id rfl
@[simp] theorem bInt_bl : bInt [.bl b] = some (.int (if b then 1 else 0)) := id rfl
@[simp] theorem bAbs_int : bAbs [.int i] = some (.int (if i < 0 then -i else i)) := id rfl
@[simp] theorem bMin_int : bMin [.int i, .int j] = some (.int (if j < i then j else i)) := id rfl
@[simp] theorem bMax_int : bMax [.int i, .int j] = some (.int (if j > i then j else i)) := id rfl
/-! statements -/
variable {gs gt : En → Fl} {E1 : En}
@[simp] theorem sSet_e {k : Nat} : sSet k f env = match f env with
  | .ok d => if isData d then .nx (env.set k (some d)) else .un
  | .ex x => .xx x env
  | .un => .un := id rfl
@[simp] theorem sSetL_e {k : Nat} {fl : En → Rs (List D)} : sSetL k fl env = match fl env with
  | .ok ds => .nx (env.set k (some (.olst ds)))
  | .ex x => .xx x env
  | .un => .un := id rfl
@[simp] theorem sRet_e : sRet f env = match f env with
  | .ok d => if isData d then .rt d [] else .un
  | .ex x => .xx x env
  | .un => .un := id rfl
@[simp] theorem sRetN_e : sRetN env = .rt .non [] := id rfl
@[simp] theorem sPass_e : sPass env = .nx env := id rfl
@[simp] theorem sBreak_e : sBreak env = .bk env := id rfl
@[simp] theorem sCont_e : sCont env = .ct env := id rfl
@[simp] theorem sPre_e {is : List Nat} : sPre is gs env = gs (wipeE is env) := id rfl
def seqR (r : Fl) (h : En → Fl) : Fl := match r with
  | .nx e => h e
  | r => r
@[simp] theorem sSeq_e : sSeq gs gt env = seqR (gs env) gt := id rfl
@[simp] theorem seqR_nx {en : En} : seqR (.nx en) gt = gt en := id rfl
@[simp] theorem seqR_bk {en : En} : seqR (.bk en) gt = .bk en := id rfl
@[simp] theorem seqR_ct {en : En} : seqR (.ct en) gt = .ct en := id rfl
@[simp] theorem seqR_rt {en : En} : seqR (.rt d en) gt = .rt d en := id rfl
@[simp] theorem seqR_xx {en : En} : seqR (.xx d en) gt = .xx d en := id rfl
def ifR (r : Rs Bool) (env : En) (x y : Unit → Fl) : Fl := match r with
  | .ok true => x ()
  | .ok false => y ()
  | .ex d => .xx d env
  | .un => .un
@[simp] theorem sIf_e : sIf c gs gt env = ifR (c env) env (fun _ => gs env) (fun _ => gt env) := id rfl
@[simp] theorem ifR_t {x y : Unit → Fl} : ifR (.ok true) env x y = x () := id rfl
@[simp] theorem ifR_f {x y : Unit → Fl} : ifR (.ok false) env x y = y () := id rfl
@[simp] theorem outB_rt {en : En} : outB (.rt d en) = .ok d := id rfl
@[simp] theorem outB_nx {en : En} : outB (.nx en) = .ok .non := id rfl
@[simp] theorem outB_xx {en : En} : outB (.xx d en) = .ex d := id rfl
@[simp] theorem wipeE_nil : wipeE [] env = env := id rfl
@[simp] theorem wipeE_cons {k : Nat} {ks : List Nat} : wipeE (k :: ks) env = wipeE ks (env.set k none) := id rfl
@[simp] theorem wipeR_nil : wipeR env [] = env := id rfl
@[simp] theorem wipeR_cons {k : Nat} {ks : List Nat} : wipeR env (k :: ks) = (wipeR env ks).set k none := id rfl
@[simp] theorem gN_e {k : Nat} : gN k d env = some (env.set k (some d)) := id rfl
@[simp] theorem gsNil_e : gsNil [] env = some env := id rfl
@[simp] theorem gsCons_e {h : D → En → Option En} {k : List D → En → Option En} {ds : List D} : gsCons h k (d :: ds) env = (h d env).bind fun e => k ds e := id rfl
@[simp] theorem gT_e {k : List D → En → Option En} {ds : List D} : gT k (.tup ds) env = k ds env := id rfl
@[simp] theorem sUnp_e {h : D → En → Option En} : sUnp h f env = match f env with
  | .ok d => if isData d then match h d env with
      | some e => .nx e
      | none => .un
    else .un
  | .ex x => .xx x env
  | .un => .un := id rfl
@[simp] theorem sAug_e {k : Nat} {op : D → D → Option D} : sAug k op f env = match env[k]? with
  | some (some x) => match f env with
    | .ok d => match op x d with
      | some z => if isData z then .nx (env.set k (some z)) else .un
      | none => .un
    | .ex x => .xx x env
    | .un => .un
  | _ => .un := id rfl
@[simp] theorem sApp_e {k : Nat} : sApp k f env = match env[k]? with
  | some (some (.olst ds)) => match f env with
    | .ok d => if isData d && decide (ds.length < 16777216) then .nx (env.set k (some (.olst (ds ++ [d])))) else .un
    | .ex x => .xx x env
    | .un => .un
  | _ => .un := id rfl
@[simp] theorem sFrz_e {k : Nat} : sFrz k gs env = match env[k]? with
  | some (some (.olst ds)) => if ds.all isData then gs (env.set k (some (.lst ds))) else .un
  | _ => gs env := id rfl
theorem all_ints (xs : List Int) : (xs.map D.int).all isData = true := by simp
theorem sFor_ok {fi : En → Rs (List D)} {h : D → En → Option En} {w : List Nat} {ds : List D} (e : fi env = .ok ds) : sFor fi h gs w env = forL h gs w ds (wipeE w env) := by
  unfold sFor; rw [e]
@[simp] theorem iSeq_e : iSeq f env = (f env).bind fun d => ofO (itemsOf d) := id rfl
@[simp] theorem itemsOf_lst {x : List D} : itemsOf (.lst x) = some x := id rfl
@[simp] theorem itemsOf_tup {x : List D} : itemsOf (.tup x) = some x := id rfl
@[simp] theorem itemsOf_str {x : List Nat} : itemsOf (.str x) = some (x.map fun c => .str [c]) := id rfl
@[simp] theorem iRng1_nat {n : Nat} (h : n ≤ 16000000) : iRng1 [.int n] = .ok (rngL 0 n) := by
  show (if _ then _ else _) = _
  rw [if_pos (by omega)]
  rfl
theorem rng_at {lo : Int} {n k : Nat} {d : D} (h : (rngL lo n)[k]? = some d) : k < n ∧ d = .int (lo + k) := by
  unfold rngL at h
  rw [List.getElem?_map] at h
  cases e : (List.range n)[k]? with
  | none => rw [e] at h; cases h
  | some x =>
    rw [e] at h
    obtain ⟨hk, e2⟩ := List.getElem?_eq_some_iff.mp e
    rw [List.getElem_range] at e2
    subst e2
    exact ⟨by simpa using hk, (Option.some.inj h).symm⟩
/-! loops -/
def SoP (o : Option En) (p : En → Prop) : Prop := match o with
  | some e => p e
  | none => False
@[simp] theorem SoP_some {en : En} {p : En → Prop} : SoP (some en) p = p en := id rfl
/-- what a loop's body leaves: p if the loop goes on, q if it ends here -/
def LpP (w : List Nat) (r : Fl) (p : En → Prop) (q : Fl → Prop) : Prop := match r with
  | .nx e => p (wipeE w e)
  | .ct e => p (wipeE w e)
  | .bk e => q (.nx (wipeE w e))
  | r => q r
@[simp] theorem LpP_nx {w : List Nat} {en : En} {p : En → Prop} {q : Fl → Prop} : LpP w (.nx en) p q = p (wipeE w en) := id rfl
@[simp] theorem LpP_ct {w : List Nat} {en : En} {p : En → Prop} {q : Fl → Prop} : LpP w (.ct en) p q = p (wipeE w en) := id rfl
@[simp] theorem LpP_bk {w : List Nat} {en : En} {p : En → Prop} {q : Fl → Prop} : LpP w (.bk en) p q = q (.nx (wipeE w en)) := id rfl
@[simp] theorem LpP_rt {w : List Nat} {d : D} {en : En} {p : En → Prop} {q : Fl → Prop} : LpP w (.rt d en) p q = q (.rt d en) := id rfl
@[simp] theorem LpP_xx {w : List Nat} {d : D} {en : En} {p : En → Prop} {q : Fl → Prop} : LpP w (.xx d en) p q = q (.xx d en) := id rfl
theorem forL_gen {h : D → En → Option En} {body : En → Fl} {w : List Nat} (P : Nat → En → Prop) (Q : Fl → Prop) : ∀ (ds : List D) (k : Nat) (env : En), P k env →
    (∀ i d e, ds[i]? = some d → P (k + i) e → SoP (h d e) fun e1 => LpP w (body e1) (P (k + i + 1)) Q) → (∀ e, P (k + ds.length) e → Q (.nx e)) → Q (forL h body w ds env)
  | [], k, env, h0, hs, he => he env h0
  | d :: ds, k, env, h0, hs, he => by
    have h1 := hs 0 d env rfl h0
    have ih := fun en (p : P (k + 1) en) => forL_gen P Q ds (k + 1) en p (fun i d e a b => by
      have := hs (i + 1) d e a (by rw [show k + (i + 1) = k + 1 + i from by omega]; exact b)
      rw [show k + (i + 1) = k + 1 + i from by omega] at this
      exact this) (fun e p => he e (by rw [List.length_cons, show k + (ds.length + 1) = k + 1 + ds.length from by omega]; exact p))
    unfold forL
    generalize h d env = o at h1
    cases o with
    | none => exact h1.elim
    | some e1 =>
      rw [SoP_some] at h1
      dsimp only
      generalize body e1 = r at h1
      cases r with
      | nx e2 => exact ih _ h1
      | ct e2 => exact ih _ h1
      | bk e2 => exact h1
      | rt _ _ => exact h1
      | xx _ _ => exact h1
      | un => exact h1
/-- a loop without break, return or exception -/
theorem forL_inv {h : D → En → Option En} {body : En → Fl} {w : List Nat} {ds : List D} {env : En} (P : Nat → En → Prop) (h0 : P 0 env)
    (hs : ∀ i d e, ds[i]? = some d → P i e → SoP (h d e) fun e1 => LpP w (body e1) (P (i + 1)) fun _ => False) : ∃ e, forL h body w ds env = .nx e ∧ P ds.length e := by
  refine forL_gen P (fun r => ∃ e, r = .nx e ∧ P ds.length e) ds 0 env h0 (fun i d e a b => ?_) (fun e p => ⟨e, rfl, by rw [Nat.zero_add] at p; exact p⟩)
  rw [Nat.zero_add] at b ⊢
  have h1 := hs i d e a b
  generalize h d e = o at h1
  cases o with
  | none => exact h1
  | some e1 =>
    rw [SoP_some] at h1 ⊢
    generalize body e1 = r at h1
    cases r <;> first | exact h1 | exact h1.elim
/-- a test, then what follows -/
def TsP (r : Rs Bool) (p q : Prop) : Prop := match r with
  | .ok true => p
  | .ok false => q
  | _ => False
@[simp] theorem TsP_t {p q : Prop} : TsP (.ok true) p q = p := id rfl
@[simp] theorem TsP_f {p q : Prop} : TsP (.ok false) p q = q := id rfl
theorem TsP_b {b : Bool} {p q : Prop} (h1 : b = true → p) (h2 : b = false → q) : TsP (.ok b) p q := by
  cases b with
  | true => exact h1 rfl
  | false => exact h2 rfl
theorem whileL_gen {c : En → Rs Bool} {body : En → Fl} {w : List Nat} (P : Nat → En → Prop) (Q : Fl → Prop) : ∀ (n : Nat) (env : En) (m : Nat), P m env → m < n →
    (∀ k e, P k e → TsP (c e) (LpP w (body e) (fun e2 => ∃ k', k' < k ∧ P k' e2) Q) (Q (.nx e))) → Q (whileL c body w n env)
  | 0, _, _, _, h, _ => absurd h (Nat.not_lt_zero _)
  | n + 1, env, m, h0, hm, hs => by
    have h1 := hs m env h0
    unfold whileL
    generalize c env = r at h1
    cases r with
    | un => exact h1.elim
    | ex x => exact h1.elim
    | ok b =>
      cases b with
      | false => exact h1
      | true =>
        rw [TsP_t] at h1
        dsimp only
        generalize body env = r at h1
        cases r with
        | nx e2 => obtain ⟨k', h2, h3⟩ := h1; exact whileL_gen P Q n _ k' h3 (by omega) hs
        | ct e2 => obtain ⟨k', h2, h3⟩ := h1; exact whileL_gen P Q n _ k' h3 (by omega) hs
        | bk e2 => exact h1
        | rt _ _ => exact h1
        | xx _ _ => exact h1
        | un => exact h1
theorem compL_map {h : D → En → Option En} {c : En → Rs Bool} {f : En → Rs D} {env : En} (φ : D → D) : ∀ ds : List D, (∀ d ∈ ds, ∃ e1, h d env = some e1 ∧ c e1 = .ok true ∧ f e1 = .ok (φ d) ∧ isData (φ d) = true) → compL h c f env ds = .ok (ds.map φ)
  | [], _ => rfl
  | d :: ds, k => by
    obtain ⟨e1, h1, h2, h3, h4⟩ := k d List.mem_cons_self
    unfold compL
    rw [h1]
    dsimp only
    rw [h2]
    dsimp only
    rw [h3]
    dsimp only
    rw [if_pos h4, compL_map φ ds fun d m => k d (List.mem_cons_of_mem _ m)]
    rfl
theorem compL_filter {h : D → En → Option En} {c : En → Rs Bool} {f : En → Rs D} {env : En} (φ : D → D) (χ : D → Bool) : ∀ ds : List D, (∀ d ∈ ds, ∃ e1, h d env = some e1 ∧ c e1 = .ok (χ d) ∧ (χ d = true → f e1 = .ok (φ d) ∧ isData (φ d) = true)) → compL h c f env ds = .ok ((ds.filter χ).map φ)
  | [], _ => rfl
  | d :: ds, k => by
    obtain ⟨e1, h1, h2, h3⟩ := k d List.mem_cons_self
    unfold compL
    rw [h1]
    dsimp only
    rw [h2]
    have ih := compL_filter φ χ ds fun d m => k d (List.mem_cons_of_mem _ m)
    cases e : χ d with
    | false => rw [List.filter_cons_of_neg (by rw [e]; decide)]; exact ih
    | true =>
      obtain ⟨h4, h5⟩ := h3 e
      dsimp only
      rw [h4]
      dsimp only
      rw [if_pos h5, ih, List.filter_cons_of_pos e]
      rfl
end
/-! reading at a place, cutting -/
theorem ix_nat {n k : Nat} (h : k < n) : ixN n (k : Int) = some k := by
  unfold ixN
  rw [if_pos (by omega), if_pos (by omega)]
  rfl
theorem atI_nat0 {α : Type} {xs : List α} {k : Nat} : atI xs (k : Int) = xs[k]? := by
  cases e : xs[k]? with
  | some x => exact L2.atI_nat e
  | none =>
    unfold atI ixN
    have : xs.length ≤ k := List.getElem?_eq_none_iff.mp e
    rw [if_pos (by omega), if_neg (by omega)]
    rfl
theorem pIx_str {x : List Nat} {k : Nat} : pIx (.str x) (.int k) = (x[k]?).map fun c => .str [c] := by
  show (atI x _).map _ = _
  rw [atI_nat0]
theorem pIx_tup {x : List D} {k : Nat} : pIx (.tup x) (.int k) = x[k]? := atI_nat0
theorem pIx_lst {x : List D} {k : Nat} : pIx (.lst x) (.int k) = x[k]? := atI_nat0
theorem pIx_scr {x : List Int} {k : Nat} : pIx (.scr x) (.int k) = (x[k]?).map .int := by
  show (atI x _).map _ = _
  rw [atI_nat0]
/-! the places that are given by a numeral -/
@[simp] theorem pIx_tup0 {d : D} {x : List D} : pIx (.tup (d :: x)) (.int 0) = some d := pIx_tup (k := 0)
@[simp] theorem pIx_tup1 {d e : D} {x : List D} : pIx (.tup (d :: e :: x)) (.int 1) = some e := pIx_tup (k := 1)
@[simp] theorem pIx_tup2 {d e f : D} {x : List D} : pIx (.tup (d :: e :: f :: x)) (.int 2) = some f := pIx_tup (k := 2)
theorem pSl_from {x : List Nat} {k : Nat} : pSl (.str x) (some (k : Int)) none = some (.str (x.drop k)) := by
  show some (D.str (cutL x _ _)) = _
  unfold cutL
  rw [HT.sIx_none, HT.sIx_nat, List.take_of_length_le (by rw [List.length_drop]; omega)]
  rcases Nat.le_total k x.length with h | h
  · rw [Nat.min_eq_left h]
  · rw [Nat.min_eq_right h, List.drop_of_length_le (Nat.le_refl _), List.drop_of_length_le h]
theorem pSl_to {x : List Nat} {k : Nat} : pSl (.str x) none (some (k : Int)) = some (.str (x.take k)) := by
  show some (D.str (cutL x _ _)) = _
  unfold cutL
  rw [HT.sIx_none, HT.sIx_nat, List.drop_zero, Nat.sub_zero]
  rcases Nat.le_total k x.length with h | h
  · rw [Nat.min_eq_left h]
  · rw [Nat.min_eq_right h, List.take_of_length_le (Nat.le_refl _), List.take_of_length_le h]
theorem strsOf_map {α : Type} (g : α → List Nat) : ∀ xs : List α, strsOf (xs.map fun x => .str (g x)) = some (xs.map g)
  | [] => rfl
  | x :: xs => by
    show (strsOf (xs.map fun x => .str (g x))).map (g x :: ·) = _
    rw [strsOf_map g xs]
    rfl
theorem joinN_nil : ∀ xs : List (List Nat), joinN [] xs = xs.flatten
  | [] => rfl
  | [x] => by simp [joinN]
  | x :: y :: r => by
    show x ++ [] ++ joinN [] (y :: r) = _
    rw [joinN_nil (y :: r)]
    simp
theorem flat_single {α : Type} (g : α → Nat) : ∀ xs : List α, (xs.map fun x => [g x]).flatten = xs.map g
  | [] => rfl
  | x :: xs => by simp [flat_single g xs]
theorem sum_single {α : Type} (g : α → Nat) : ∀ xs : List α, ((xs.map fun x => [g x]).map List.length).sum = xs.length
  | [] => rfl
  | x :: xs => by
    have := sum_single g xs
    rw [List.map_cons, List.map_cons, List.sum_cons, this]
    simp [Nat.add_comm]
/-- a text joined of single signs -/
theorem pJoin_single {α : Type} (g : α → Nat) (xs : List α) (h : xs.length ≤ 16777216) : pJoin (.str []) (.lst (xs.map fun x => .str [g x])) = some (.str (xs.map g)) := by
  show (strsOf (xs.map fun x => D.str [g x])).bind _ = _
  rw [strsOf_map (fun x => [g x]) xs, Option.bind_some, if_pos (by rw [sum_single]; simpa using h), joinN_nil, flat_single]
theorem eComp_e {fi : En → Rs (List D)} {h : D → En → Option En} {c : En → Rs Bool} {f : En → Rs D} {own : List Nat} {env : En} {ds ys : List D} (h1 : fi env = .ok ds) (h2 : compL h c f (wipeR env own) ds = .ok ys) : eComp fi h c f own env = .ok ys := by
  unfold eComp
  rw [h1, Rs.bind_ok, h2]
/-! the longest common beginning -/
def lcp : List Nat → List Nat → Nat
  | a :: x, b :: y => if a = b then lcp x y + 1 else 0
  | _, _ => 0
theorem lcp_of : ∀ (x y : List Nat) (k : Nat), (∀ j, j < k → x[j]? = y[j]? ∧ j < x.length ∧ j < y.length) → (k = x.length ∨ k = y.length ∨ (k < x.length ∧ k < y.length ∧ x[k]? ≠ y[k]?)) → k ≤ x.length → k ≤ y.length → lcp x y = k
  | [], y, k, _, _, hx, _ => by
    have : k = 0 := by simpa using hx
    subst this
    cases y <;> rfl
  | a :: x, [], k, _, _, _, hy => by
    have : k = 0 := by simpa using hy
    subst this
    rfl
  | a :: x, b :: y, 0, _, h, _, _ => by
    rcases h with h | h | ⟨_, _, h⟩
    · simp at h
    · simp at h
    · have : a ≠ b := fun e => h (by rw [e]; rfl)
      unfold lcp
      rw [if_neg this]
  | a :: x, b :: y, k + 1, hk, h, hx, hy => by
    have e := (hk 0 (by omega)).1
    have e : a = b := by simpa using e
    unfold lcp
    rw [if_pos e, lcp_of x y k (fun j hj => by
      have := hk (j + 1) (by omega)
      simpa using this) (by simpa using h) (by simpa using hx) (by simpa using hy)]
theorem lcp_le : ∀ x y : List Nat, lcp x y ≤ x.length ∧ lcp x y ≤ y.length
  | [], y => ⟨Nat.zero_le _, Nat.zero_le _⟩
  | a :: x, [] => ⟨Nat.zero_le _, Nat.zero_le _⟩
  | a :: x, b :: y => by
    unfold lcp
    have := lcp_le x y
    split
    · simp; omega
    · exact ⟨Nat.zero_le _, Nat.zero_le _⟩
/-- what one side has ahead of the other, none if both have -/
def gapD (x y : List Nat) : D := if lcp x y < x.length ∧ lcp x y < y.length then .non else .tup [.str (x.drop (lcp x y)), .str (y.drop (lcp x y))]
theorem lcp_app : ∀ (x y a b : List Nat), (lcp x y < x.length ∧ lcp x y < y.length → lcp (x ++ a) (y ++ b) = lcp x y) ∧
    (¬ (lcp x y < x.length ∧ lcp x y < y.length) → lcp (x ++ a) (y ++ b) = lcp x y + lcp (x.drop (lcp x y) ++ a) (y.drop (lcp x y) ++ b))
  | [], y, a, b => by
    refine ⟨fun h => absurd h.1 (Nat.not_lt_zero _), fun _ => ?_⟩
    show _ = 0 + _
    rw [Nat.zero_add]
    rfl
  | c :: x, [], a, b => by
    refine ⟨fun h => absurd h.2 (Nat.not_lt_zero _), fun _ => ?_⟩
    show _ = 0 + _
    rw [Nat.zero_add]
    rfl
  | c :: x, d :: y, a, b => by
    have ih := lcp_app x y a b
    by_cases e : c = d
    · have e1 : ∀ u v, lcp (c :: u) (d :: v) = lcp u v + 1 := fun u v => by
        show (if c = d then _ else _) = _
        rw [if_pos e]
      rw [List.cons_append, List.cons_append, e1, e1]
      refine ⟨fun h => ?_, fun h => ?_⟩
      · rw [ih.1 (by simpa using h)]
      · rw [ih.2 (by simpa using h), List.drop_succ_cons, List.drop_succ_cons]; omega
    · have e1 : ∀ u v, lcp (c :: u) (d :: v) = 0 := fun u v => by
        show (if c = d then _ else _) = _
        rw [if_neg e]
      rw [List.cons_append, List.cons_append, e1, e1]
      exact ⟨fun _ => rfl, fun h => absurd ⟨by simp, by simp⟩ h⟩
end Z

set_option Elab.async false
set_option linter.all false
set_option maxRecDepth 100000
set_option maxHeartbeats 1000000
/-! ZB: defs with *v; calls by a positional promise -/
namespace Z
open PySem L2
section
variable {X : Cx} {CX : CXT} {k : Nat} {f : Addr} {sp : Sp} {E : XK} {x : Str} {e : Expr} {es : List Expr} {t : TA} {p pos : Pos}
/-- x(e, ..) by a positional promise -/
theorem pe_callR (F : FnR X.prog X.w X.K X.mg X.base CX k f sp) (hr : Room k X.A) (hk : PySem.W.keepIn X.K (.ref f) = true) (hg : Gl X x) (hm : X.mg x = some (.ref f)) (hx : Passes CX X E) (ha : PA X (e :: es) t) (hd : (x == ("__debug__" : Str)) = false := by decide)
    (he : starEach (e :: es) X.env = (false, eval e X.env) :: starEach es X.env := by rfl) (hpl : (backTo pos (starEach es X.env)).any (·.1) = false := by rfl) :
    PE X (.Call (.Name x p) (e :: es) [] pos) (fun σ H Q => t σ H fun vs H1 => sp vs H1 Q E) := by
  refine ⟨fun pins s σ H Q I h => ?_⟩
  refine wpAny_Call_Name_kw (ld_glob I hg hm ?_ hd)
  refine PySem.W.callWith_K (h₀ := X.base) I.ok.mod.kin hk (thn (ha.run pos pins s σ H _ I h) fun us s1 ⟨vs, H1, I1, r, q⟩ => ⟨I1.kIn, ?_⟩) he hpl
  exact wpAny_call (run_fnR F hr hx I1 r q)
theorem pe_callR0 (F : FnR X.prog X.w X.K X.mg X.base CX k f sp) (hr : Room k X.A) (hk : PySem.W.keepIn X.K (.ref f) = true) (hg : Gl X x) (hm : X.mg x = some (.ref f)) (hx : Passes CX X E) (hd : (x == ("__debug__" : Str)) = false := by decide) :
    PE X (.Call (.Name x p) [] [] pos) (fun σ H Q => sp [] H Q E) := by
  refine ⟨fun pins s σ H Q I h => ?_⟩
  refine wpAny_Call_Name_kw (ld_glob I hg hm ?_ hd)
  exact PySem.W.callWith_K0 I.kIn hk (wpAny_call (run_fnR (us := []) F hr hx I .nil h))
end
/-- the promise of def f( *v) -/
def spS (K : Kx) (m : List D → Rs D) : Sp := fun vs H Q Ex => ∃ ds F, Same F H ∧ RL K F H ds vs [] ∧ ds.length ≤ 16777216 ∧ PostP K F H Q Ex (m [.tup ds])
def eAppS (m : List D → Rs D) (fa : En → Rs (List D)) : En → Rs D := fun env => (fa env).bind fun ds => if ds.all isData && decide (ds.length ≤ 16777216) then m [.tup ds] else .un
@[simp] theorem eAppS_e {m : List D → Rs D} {fa : En → Rs (List D)} {env : En} : eAppS m fa env = (fa env).bind fun ds => if ds.all isData && decide (ds.length ≤ 16777216) then m [.tup ds] else .un := id rfl
section
variable {X : Cx} {E : Ent} {W : WX} {e a b : Expr} {pos : Pos}
theorem SE.callS {x : Str} {p : Pos} {k : Nat} {fa_ : Addr} {es : List Expr} {m : List D → Rs D} {fa : En → Rs (List D)}
    (F : FnR X.prog X.w X.K X.mg X.base CX0 k fa_ (spS E.K m)) (hx : NoX m) (hr : Room k X.A) (hm : X.mg x = some (.ref fa_)) (hk : PySem.W.keepIn X.K (.ref fa_) = true) (ha : SA X E W (e :: es) fa) (hg : Gl X x := by rfl)
    (hdb : (x == ("__debug__" : Str)) = false := by decide) (he : starEach (e :: es) X.env = (false, eval e X.env) :: starEach es X.env := by rfl) (hpl : (backTo pos (starEach es X.env)).any (·.1) = false := by rfl) :
    SE X E W (.Call (.Name x p) (e :: es) [] pos) (eAppS m fa) := by
  obtain ⟨t, pa, ka⟩ := ha.ex
  refine ⟨ha.hK, _, pe_callR F hr hk hg hm pass0 pa hdb he hpl, fun Fz σ H env S Q q => ?_⟩
  refine ka Fz σ H env S _ ?_
  unfold eAppS at q
  cases e1 : fa env with
  | un => rw [e1] at q; exact q
  | ex x => rw [e1] at q; exact q
  | ok ds =>
    rw [e1, Rs.bind_ok] at q
    intro vs fp F1 H1 G1 r1
    split at q
    · rename_i hc
      rw [Bool.and_eq_true] at hc
      refine ⟨ds, F1, G1.fh, r1.toData hc.1, of_decide_eq_true hc.2, ?_⟩
      cases e2 : m [.tup ds] with
      | un => rw [e2] at q; exact q
      | ex x => exact absurd e2 (hx [.tup ds] x)
      | ok d => rw [e2] at q; exact fun v F' H' G r => q v [] F' H' (G1.trans G) r
    · exact q.elim
theorem SE.callS0 {x : Str} {p : Pos} {k : Nat} {fa_ : Addr} {m : List D → Rs D}
    (F : FnR X.prog X.w X.K X.mg X.base CX0 k fa_ (spS E.K m)) (hx : NoX m) (hr : Room k X.A) (hm : X.mg x = some (.ref fa_)) (hk : PySem.W.keepIn X.K (.ref fa_) = true) (hg : Gl X x := by rfl)
    (hdb : (x == ("__debug__" : Str)) = false := by decide) (hK : X.K = E.K.k := by rfl) :
    SE X E W (.Call (.Name x p) [] [] pos) (eAppS m aNil) := by
  refine ⟨hK, _, pe_callR0 F hr hk hg hm pass0 hdb, fun Fz σ H env S Q q => ?_⟩
  refine ⟨[], Fz, S.fH, .nil, Nat.zero_le _, ?_⟩
  have q : PostE E W Fz H σ Q (m [.tup []]) := q
  cases e2 : m [.tup []] with
  | un => rw [e2] at q; exact q
  | ex x => exact absurd e2 (hx [.tup []] x)
  | ok d => rw [e2] at q; exact fun v F' H' G r => q v [] F' H' G r
end
theorem PostP.grow {K : Kx} {F H F' H' : Hp} {Q : VK} {Ex : XK} {r : Rs D} (G : Grow F H F' H') (h : PostP K F H Q Ex r) : PostP K F' H' Q Ex r := by
  cases r with
  | ok d => exact fun v F1 H1 G1 k => h v F1 H1 (G.trans G1) k
  | ex x => exact fun cls dd F1 H1 G1 k => h cls dd F1 H1 (G.trans G1) k
  | un => exact h
/-- def f( *v) that raises nothing -/
theorem fnS {P : Program} {w : World} {K : Kx} {mg : Str → Option Value} {base : Heap} {x qual pv : Str} {st : Stmt} {f : Addr} {fd : FuncData} {N : List Str} {k n : Nat} {g : En → Fl} {m : List D → Rs D} (Fn : Fun K.k x qual st f fd) (S : FnScope N [pv] (defScope st))
    (hbi : ∀ (kV doc pm cdv ct : Value) (an : Option Addr) (rest : List Value), bindArgs (PySem.W.fnOf x qual (defArgs st) (defBody st) (defScope st) .none kV doc pm an cdv ct) ⟨rest, []⟩ = (newTuple rest >>= fun t => pure [(pv, t)]))
    (hm : m = runB0 g n) (hn : N.length = n)
    (hb : ∀ (cdv : Value) (A : Around) (outer : List Env) (s : Shared) (H : Hp) (Ex : XK) (F0 : Hp), Room k (A.deeper (PyProof.Rows.envOfC qual (defScope st) s.heap.objs.size f cdv)) →
      SB (cxOf CX0 P w K.k mg base N qual (defScope st) f cdv A outer s H Ex).nox ⟨K, H, F0, fun _ => []⟩ W0 (defBody st) g) : FnR P w K.k mg base CX0 (k + 1) f (spS K m) := by
  subst hm hn
  obtain ⟨oc, od, kV, doc, pm, an, cdv, ct, osl, rfl, lk, hcd⟩ := Fn.ex
  refine FnR.imp (StX.fn_star (ps := []) (pv := pv) (sp := spP K 1 (runB0 g N.length)) lk hcd S StX.cxUp_none (fun us rest hl => ?_) fun A outer s H vs Q Ex hr h => ?_) fun vs H Q Ex h => ?_
  · obtain rfl : us = [] := List.eq_nil_of_length_eq_zero hl
    exact hbi kV doc pm cdv ct an rest
  · obtain ⟨ds, F, hs, hl, hn, q⟩ := h
    obtain ⟨t, p, k⟩ := (hb cdv A outer s H Ex F hr).ex
    refine ⟨t, p.nox, k F _ H _ (stt_start hs hl) _ ?_⟩
    unfold runB0 runB at q
    cases e : g (start0 N.length ds) with
    | nx en => rw [e] at q; exact fun F' σ' H' G S' => q _ F' H' (stt_end S') .non
    | bk en => rw [e] at q; exact q.elim
    | ct en => rw [e] at q; exact q.elim
    | rt d en => rw [e] at q; exact fun v F' σ' H' G S' r => q v F' H' (stt_end S') r
    | xx x en => rw [e] at q; exact q.elim
    | un => rw [e] at q; exact q
  · obtain ⟨ds, F, hs, hl, hn, q⟩ := h
    refine ⟨[], vs, rfl, rfl, by rw [hl.len, ← line_eq]; exact hn, fun p hp => ?_⟩
    have G := Grow.new (o := .tup vs) hs hp
    exact ⟨[.tup ds], _, G.fh, RL.mk0 (.tup upd_same (hl.grow G) hn) .nil, rfl, q.grow G⟩
/-! more plain rules -/
theorem rngL_mem {lo : Int} {n : Nat} {d : D} (h : d ∈ rngL lo n) : ∃ k : Nat, k < n ∧ d = .int (lo + k) := by
  unfold rngL at h
  obtain ⟨k, hk, rfl⟩ := List.mem_map.mp h
  exact ⟨k, List.mem_range.mp hk, rfl⟩
theorem iRng2_nat {a b : Nat} (h : b ≤ 16000000) (ha : a ≤ 16000000) : iRng2 [.int a, .int b] = .ok (rngL a (b - a)) := by
  show (if _ then _ else _) = _
  rw [if_pos (by omega)]
  congr 2
  omega
theorem pMul_str {x : List Nat} {k : Nat} (h : x.length * k ≤ 16777216) (hk : k < 16777216) : pMul (.str x) (.int k) = some (.str (List.replicate k x).flatten) := by
  show (if _ then _ else _) = _
  rw [if_pos ⟨by rw [Int.toNat_natCast]; exact h, by omega, by omega⟩]
  rfl
@[simp] theorem pEq_bl {a b : Bool} : pEq (.bl a) (.bl b) = some (.bl (decide (a = b))) := by rw [← beq_dec]; rfl
@[simp] theorem pNe_bl {a b : Bool} : pNe (.bl a) (.bl b) = some (.bl (!decide (a = b))) := by rw [← beq_dec]; rfl
theorem blsOf_map {α : Type} (g : α → Bool) : ∀ xs : List α, blsOf (xs.map fun x => .bl (g x)) = some (xs.map g)
  | [] => rfl
  | x :: xs => by
    show (blsOf (xs.map fun x => .bl (g x))).map (g x :: ·) = _
    rw [blsOf_map g xs]
    rfl
theorem bAll_map {α : Type} (g : α → Bool) (xs : List α) : bAll [.lst (xs.map fun x => .bl (g x))] = some (.bl (xs.all g)) := by
  show (blsOf _).map _ = _
  rw [blsOf_map]
  simp [List.all_map]
theorem bAny_map {α : Type} (g : α → Bool) (xs : List α) : bAny [.lst (xs.map fun x => .bl (g x))] = some (.bl (xs.any g)) := by
  show (blsOf _).map _ = _
  rw [blsOf_map]
  simp [List.any_map]
section
variable {a b c d e f : D} {x : List D}
@[simp] theorem pIx_l0 : pIx (.lst (a :: x)) (.int 0) = some a := pIx_lst (k := 0)
@[simp] theorem pIx_l1 : pIx (.lst (a :: b :: x)) (.int 1) = some b := pIx_lst (k := 1)
@[simp] theorem pIx_l2 : pIx (.lst (a :: b :: c :: x)) (.int 2) = some c := pIx_lst (k := 2)
@[simp] theorem pIx_l3 : pIx (.lst (a :: b :: c :: d :: x)) (.int 3) = some d := pIx_lst (k := 3)
@[simp] theorem pIx_l4 : pIx (.lst (a :: b :: c :: d :: e :: x)) (.int 4) = some e := pIx_lst (k := 4)
@[simp] theorem pIx_l5 : pIx (.lst (a :: b :: c :: d :: e :: f :: x)) (.int 5) = some f := pIx_lst (k := 5)
end
@[simp] theorem itemsOf_scr {x : List Int} : itemsOf (.scr x) = some (x.map .int) := id rfl
theorem all_strs (xs : List (List Nat)) : (xs.map D.str).all isData = true := by simp
@[simp] theorem eList_e {f : En → Rs D} {env : En} : eList f env = (f env).bind fun d => ofO (seqOf d) := id rfl
@[simp] theorem revOf_lst {x : List D} : revOf (.lst x) = some x.reverse := id rfl
end Z

set_option Elab.async false
set_option linter.all false
set_option maxRecDepth 100000
set_option maxHeartbeats 1000000
/-! ZC: owned things within owned things: freezing, and changing one through a path -/
namespace Z
open PySem L2
mutual
def frzD : D → D
  | .olst xs => .lst (frzL xs)
  | .odic t ks vs => .dic t ks (frzL vs)
  | .oob c ns vs => .ob c ns (frzL vs)
  | .bor _ d => frzD d
  | d => d
def frzL : List D → List D
  | [] => []
  | x :: xs => frzD x :: frzL xs
end
theorem frzL_len : ∀ xs : List D, (frzL xs).length = xs.length
  | [] => rfl
  | x :: xs => congrArg (· + 1) (frzL_len xs)
section
variable {K : Kx} {F G F' H H' : Hp} {d e : D} {ds : List D} {v : V} {vs : List V} {fp : List Addr}
mutual
theorem R.frz (e : Same F G) : ∀ (d : D) {v : V} {fp : List Addr}, (∀ a ∈ fp, G a = H a) → R K F H d v fp → R K G H (frzD d) v []
  | .non, _, _, _, h => by cases h; exact .non
  | .bl _, _, _, _, h => by cases h; exact .bl _
  | .int _, _, _, _, h => by cases h; exact .int _
  | .str _, _, _, _, h => by
    cases h with
    | str k => exact .str k
  | .tup ds, _, _, _, h => R.mono e _ (fun a z => by cases h; cases z) (by cases h with | tup a b c => exact .tup a b c)
  | .lst ds, _, _, _, h => R.mono e _ (fun a z => by cases h; cases z) (by cases h with | lst a b c => exact .lst a b c)
  | .olst ds, _, _, k, h => by
    cases h with
    | olst hs hl hz => exact .lst (by rw [k _ List.mem_cons_self]; exact hs) (RL.frz e ds (fun a z => k a (List.mem_cons_of_mem _ z)) hl) (by rw [frzL_len]; exact hz)
  | .dic t ks ds, _, _, _, h => R.mono e _ (fun a z => by cases h <;> cases z) (by
      cases h with
      | dicK a b c d => exact .dicK a b c d
      | dicT a b c d => exact .dicT a b c d)
  | .odic t ks ds, _, _, k, h => by
    cases h with
    | odicK hs hl hz hn => exact .dicK (by rw [k _ List.mem_cons_self]; exact hs) (RL.frz e ds (fun a z => k a (List.mem_cons_of_mem _ z)) hl) (by rw [frzL_len]; exact hz) hn
    | odicT hs hl hz hn => exact .dicT (by rw [k _ List.mem_cons_self]; exact hs) (RL.frz e ds (fun a z => k a (List.mem_cons_of_mem _ z)) hl) (by rw [frzL_len]; exact hz) hn
  | .set _, _, _, _, h => nomatch h
  | .oset _, _, _, _, h => nomatch h
  | .ob c ns ds, _, _, _, h => R.mono e _ (fun a z => by cases h; cases z) (by cases h with | ob a b c d => exact .ob a b c d)
  | .oob c ns ds, _, _, k, h => by
    cases h with
    | oob hs hd hl hz => exact .ob (by rw [k _ List.mem_cons_self]; exact hs) (by rw [k _ (List.mem_cons_of_mem _ List.mem_cons_self)]; exact hd) (RL.frz e ds (fun a z => k a (List.mem_cons_of_mem _ (List.mem_cons_of_mem _ z))) hl) (by rw [frzL_len]; exact hz)
  | .scr _, _, _, _, h => by
    cases h with
    | scr a b => exact .scr (e.seq a) b
  | .bor t d, _, _, k, h => by
    cases h with
    | bor h e1 hn => exact R.frz e d k h
  | .exn _ _ _ _ _ _, _, _, _, h => R.mono e _ (fun a z => by cases h; cases z) (by cases h with | exn a b c => exact .exn a b c)
theorem RL.frz (e : Same F G) : ∀ (ds : List D) {vs : List V} {fp : List Addr}, (∀ a ∈ fp, G a = H a) → RL K F H ds vs fp → RL K G H (frzL ds) vs []
  | [], _, _, _, h => by cases h; exact .nil
  | d :: ds, _, _, k, h => by
    cases h with
    | cons h1 h2 => exact RL.cons (fp := []) (fq := []) (R.frz e d (fun a z => k a (List.mem_append_left _ z)) h1) (RL.frz e ds (fun a z => k a (List.mem_append_right _ z)) h2)
end
end
/-! ### a part of an owned thing -/
def kid : D → Nat → Option D
  | .olst xs, i => xs[i]?
  | .odic _ _ vs, i => vs[i]?
  | .oob _ _ vs, i => vs[i]?
  | .bor _ d, i => kid d i
  | _, _ => none
def putKid : D → Nat → D → D
  | .olst xs, i, e => .olst (xs.set i e)
  | .odic t ks vs, i, e => .odic t ks (vs.set i e)
  | .oob c ns vs, i, e => .oob c ns (vs.set i e)
  | .bor t d, i, e => .bor t (putKid d i e)
  | d, _, _ => d
def subD (d : D) : List Nat → Option D
  | [] => some (peel d)
  | i :: p => (kid d i).bind fun k => subD k p
def putRoot : D → D → D
  | .bor t _, e => .bor t e
  | _, e => e
def putD (d : D) : List Nat → D → D
  | [], e => putRoot d e
  | i :: p, e => match kid d i with
    | some k => putKid d i (putD k p e)
    | none => d
/-- the value at a place within a value -/
def kidV : Option HO → Nat → Option V
  | some (.lst xs), i => xs[i]?
  | some (.ins _ _ fs), i => fs[i]?.map Prod.snd
  | some (.dK kvs), i => kvs[i]?.map Prod.snd
  | some (.dT kvs), i => kvs[i]?.map Prod.snd
  | _, _ => none
def AtV (H : Hp) : V → List Nat → V → Prop
  | v, [], u => v = u
  | .ref a, i :: p, u => ∃ w, kidV (H a) i = some w ∧ AtV H w p u
  | _, _ :: _, _ => False
theorem AtV.det {H : Hp} : ∀ {p : List Nat} {v u w : V}, AtV H v p u → AtV H v p w → u = w
  | [], _, _, _, h1, h2 => h1.symm.trans h2
  | i :: p, .ref a, u, w, h1, h2 => by
    obtain ⟨x, e1, k1⟩ := h1
    obtain ⟨y, e2, k2⟩ := h2
    rw [e1] at e2
    cases e2
    exact k1.det k2
theorem kidV_mono {o o' : Option HO} {i : Nat} {u : V} (h : ∀ x, o = some x → o' = some x) (k : kidV o i = some u) : kidV o' i = some u := by
  cases o with
  | none => cases k
  | some x => rw [h x rfl]; exact k
theorem AtV.mono {H H' : Hp} (s : Same H H') : ∀ {p : List Nat} {v u : V}, AtV H v p u → AtV H' v p u
  | [], _, _, h => h
  | i :: p, .ref a, u, h => by
    obtain ⟨w, e, k⟩ := h
    exact ⟨w, kidV_mono (fun x hx => s a x hx) e, k.mono s⟩
theorem zip_snd {α : Type} : ∀ (ks : List α) (vs : List V) (i : Nat), ks.length = vs.length → ((ks.zip vs)[i]?).map Prod.snd = vs[i]?
  | [], [], i, _ => by simp
  | [], _ :: _, _, h => by simp at h
  | _ :: _, [], _, h => by simp at h
  | k :: ks, v :: vs, 0, _ => rfl
  | k :: ks, v :: vs, i + 1, h => by
    rw [List.zip_cons_cons, List.getElem?_cons_succ, List.getElem?_cons_succ]
    exact zip_snd ks vs i (by simpa using h)
section
variable {K : Kx} {F G F' H H' : Hp} {d e : D} {ds : List D} {v : V} {vs : List V} {fp : List Addr}
theorem RL.lens : ∀ {ds : List D} {vs : List V} {fp : List Addr} {i : Nat} {e : D}, RL K F H ds vs fp → ds[i]? = some e → ∃ u pre fq post, fp = pre ++ (fq ++ post) ∧ vs[i]? = some u ∧ R K F H e u fq ∧
    ∀ (F' H' : Hp) (e' : D) (fq' : List Addr), Same F F' → (∀ a ∈ pre ++ post, H' a = H a) → R K F' H' e' u fq' → RL K F' H' (ds.set i e') vs (pre ++ (fq' ++ post))
  | _, _, _, _, _, .nil, h => by simp at h
  | _, _, _, 0, _, .cons (fq := fq) h t, z => by
    simp at z; subst z
    refine ⟨_, [], _, fq, rfl, rfl, h, fun F' H' e' fq' s k r => ?_⟩
    exact RL.cons (fp := fq') (fq := fq) r (RL.mono s _ (fun a z => k a (by simpa using z)) t)
  | _, _, _, i + 1, _, .cons (fp := f0) h t, z => by
    obtain ⟨u, pre, fq, post, e1, ev, r, k⟩ := RL.lens (i := i) t (by simpa using z)
    refine ⟨u, f0 ++ pre, fq, post, by rw [e1, List.append_assoc], by simpa using ev, r, fun F' H' e' fq' s kk r' => ?_⟩
    rw [List.append_assoc]
    refine .cons (R.mono s _ (fun a z => kk a (by simp [z])) h) (k F' H' e' fq' s (fun a z => kk a ?_) r')
    rcases List.mem_append.mp z with z | z
    · simp [z]
    · simp [z]
theorem R.kid {i : Nat} : ∀ {d : D} {v : V} {fp : List Addr}, R K F H d v fp → kid d i = some e → ∃ u pre fq post, fp = pre ++ (fq ++ post) ∧ pre ≠ [] ∧ (∃ a, v = .ref a ∧ kidV (H a) i = some u) ∧ R K F H e u fq ∧
    ∀ (F' H' : Hp) (e' : D) (fq' : List Addr), Same F F' → (∀ a ∈ pre ++ post, H' a = H a) → R K F' H' e' u fq' → R K F' H' (putKid d i e') v (pre ++ (fq' ++ post)) := by
  intro d
  induction d using D.rec (motive_2 := fun _ => True) with
  | olst xs _ =>
    intro v fp r h
    cases r with
    | olst hs hl hz =>
      rename_i a ws f0
      obtain ⟨u, pre, fq, post, e1, ev, r, k⟩ := hl.lens h
      refine ⟨u, a :: pre, fq, post, by rw [e1]; rfl, List.cons_ne_nil _ _, ⟨a, rfl, by rw [hs]; exact ev⟩, r, fun F' H' e' fq' s kk r' => ?_⟩
      exact .olst (by rw [kk a (by simp)]; exact hs) (k F' H' e' fq' s (fun a z => kk a (List.mem_cons_of_mem _ z)) r') (by rw [List.length_set]; exact hz)
  | odic t ks ws _ _ =>
    intro v fp r h
    cases r with
    | odicK hs hl hz hnn =>
      rename_i a ks0 ws f0
      obtain ⟨u, pre, fq, post, e1, ev, r, k⟩ := hl.lens h
      refine ⟨u, a :: pre, fq, post, by rw [e1]; rfl, List.cons_ne_nil _ _, ⟨a, rfl, by rw [hs]; exact (zip_snd _ _ _ (hz.trans hl.len.symm)).trans ev⟩, r, fun F' H' e' fq' s kk r' => ?_⟩
      exact .odicK (by rw [kk a (by simp)]; exact hs) (k F' H' e' fq' s (fun a z => kk a (List.mem_cons_of_mem _ z)) r') (by rw [List.length_set]; exact hz) hnn
    | odicT hs hl hz hnn =>
      rename_i a ks0 ws f0
      obtain ⟨u, pre, fq, post, e1, ev, r, k⟩ := hl.lens h
      refine ⟨u, a :: pre, fq, post, by rw [e1]; rfl, List.cons_ne_nil _ _, ⟨a, rfl, by rw [hs]; exact (zip_snd _ _ _ (hz.trans hl.len.symm)).trans ev⟩, r, fun F' H' e' fq' s kk r' => ?_⟩
      exact .odicT (by rw [kk a (by simp)]; exact hs) (k F' H' e' fq' s (fun a z => kk a (List.mem_cons_of_mem _ z)) r') (by rw [List.length_set]; exact hz) hnn
  | oob c ns ws _ =>
    intro v fp r h
    cases r with
    | oob hs hd hl hz =>
      rename_i a dx us f0
      obtain ⟨u, pre, fq, post, e1, ev, r, k⟩ := hl.lens h
      refine ⟨u, a :: dx :: pre, fq, post, by rw [e1]; rfl, List.cons_ne_nil _ _, ⟨a, rfl, by rw [hs]; exact (zip_snd _ _ _ (by rw [List.length_map]; exact hz.trans hl.len.symm)).trans ev⟩, r, fun F' H' e' fq' s kk r' => ?_⟩
      exact .oob (by rw [kk a (by simp)]; exact hs) (by rw [kk dx (by simp)]; exact hd) (k F' H' e' fq' s (fun a z => kk a (List.mem_cons_of_mem _ (List.mem_cons_of_mem _ z))) r') (by rw [List.length_set]; exact hz)
  | bor t d ih =>
    intro v fp r h
    cases r with
    | bor r e1 hn =>
      obtain ⟨u, pre, fq, post, e2, np, av, r', k⟩ := ih r h
      exact ⟨u, pre, fq, post, e2, np, av, r', fun F' H' e' fq' s kk r'' => .bor (k F' H' e' fq' s kk r'') e1 (by simp [np])⟩
  | nil => trivial
  | cons => trivial
  | _ => intro v fp r h; cases h
theorem R.lens : ∀ (p : List Nat) {d : D} {v : V} {fp : List Addr}, R K F H d v fp → subD d p = some e → ∃ u pre fq post, fp = pre ++ (fq ++ post) ∧ R K F H e u fq ∧ (p = [] → u = v) ∧ AtV H v p u ∧
    ∀ (F' H' : Hp) (e' : D) (fq' : List Addr), Same F F' → (∀ a ∈ pre ++ post, H' a = H a) → fq' ≠ [] → R K F' H' e' u fq' → R K F' H' (putD d p e') v (pre ++ (fq' ++ post))
  | [], d, v, fp, r, h => by
    cases h
    refine ⟨v, [], fp, [], by simp, r.peel, fun _ => rfl, rfl, fun F' H' e' fq' s kk hn r' => ?_⟩
    rw [List.append_nil, List.nil_append]
    cases r with
    | bor r e1 _ => exact .bor r' e1 hn
    | _ => exact r'
  | i :: p, d, v, fp, r, h => by
    unfold subD at h
    cases e1 : Z.kid d i with
    | none => rw [e1] at h; cases h
    | some k =>
      rw [e1, Option.bind_some] at h
      obtain ⟨u, pre, fq, post, e2, np, ⟨a, ea, kv⟩, r1, k1⟩ := r.kid e1
      obtain ⟨u2, pre2, fq2, post2, e3, r2, _, av, k2⟩ := R.lens p r1 h
      refine ⟨u2, pre ++ pre2, fq2, post2 ++ post, by rw [e2, e3]; simp, r2, (fun z => nomatch z), by subst ea; exact ⟨u, kv, av⟩, fun F' H' e' fq' s kk hn r' => ?_⟩
      have q := k1 F' H' (putD k p e') (pre2 ++ (fq' ++ post2)) s (fun a z => kk a (by
        rcases List.mem_append.mp z with z | z <;> simp [z])) (k2 F' H' e' fq' s (fun a z => kk a (by
        rcases List.mem_append.mp z with z | z <;> simp [z])) hn r')
      have e4 : putD d (i :: p) e' = putKid d i (putD k p e') := by
        show (match Z.kid d i with | some k => putKid d i (putD k p e') | none => d) = _
        rw [e1]
      rw [e4]
      have e5 : pre ++ pre2 ++ (fq' ++ (post2 ++ post)) = pre ++ (pre2 ++ (fq' ++ post2) ++ post) := by simp
      rw [e5]
      exact q
end
/-- a change of the owned addresses fq to fq' -/
structure Chg (F H F' H' : Hp) (fq fq' : List Addr) : Prop where
  f : Same F F'
  fh : Same F' H'
  keep : ∀ a o, H a = some o → a ∉ fq → H' a = some o
  old : ∀ a o, H a = some o → a ∉ fq → F' a = F a
  live : ∀ a ∈ fq, ∃ o, H' a = some o
  new : ∀ a ∈ fq', F' a = none ∧ (a ∈ fq ∨ H a = none)
  nd : fq'.Nodup
theorem Stt.chg {E : Ent} {F H : Hp} {env : En} {σ : St} {i : Nat} {d e : D} {p : List Nat} (S : Stt E F env σ H) (he : env[i]? = some (some d)) (hp : subD d p = some e) :
    ∃ v u fq, σ[i]? = some (some v) ∧ R E.K F H e u fq ∧ fq.Nodup ∧ (∀ a ∈ fq, F a = none) ∧ (p = [] → u = v) ∧ AtV H v p u ∧ ∀ (F' H' : Hp) (e' : D) (fq' : List Addr), Chg F H F' H' fq fq' → fq' ≠ [] → R E.K F' H' e' u fq' → Stt E F' (env.set i (some (putD d p e'))) σ H' := by
  obtain ⟨fps, rs, nd, fr⟩ := S.rep
  obtain ⟨v, fp, g1, g2, g3⟩ := rs.get he
  obtain ⟨u, pre, fq, post, e1, r, hroot, hatv, k⟩ := R.lens p g3 hp
  have hnd : (pre ++ (fq ++ post)).Nodup := by rw [← e1]; exact nodup_get nd g2
  obtain ⟨n1, n2, n3⟩ := List.nodup_append.mp hnd
  obtain ⟨n4, n5, n6⟩ := List.nodup_append.mp n2
  have hin : ∀ a ∈ fq, a ∈ fp := fun a z => by rw [e1]; simp [z]
  refine ⟨v, u, fq, g1, r, n4, fun a z => (fr i fp g2 a (hin a z)).1, hroot, hatv, fun F' H' e' fq' C hn r' => ?_⟩
  · have some_of : ∀ j f, fps[j]? = some f → ∀ a ∈ f, ∃ o, H a = some o := fun j f hj a ha => rs.fp_some f (List.mem_of_getElem? hj) a ha
    have kp : ∀ a, (∃ o, H a = some o) → a ∉ fq → H' a = H a := fun a ⟨o, ho⟩ hna => by rw [ho]; exact C.keep a o ho hna
    refine ⟨S.le0.trans C.f, C.fh, fun a o eo hno => ?_, fun a o eo hno => ?_, fun j a ha => ?_, fps.set i (pre ++ (fq' ++ post)), ?_, ?_, ?_⟩
    · have h1 := S.keep a o eo hno
      refine C.keep a o h1 fun hq => ?_
      rcases (fr i fp g2 a (hin a hq)).2 with h | h
      · rw [h] at eo; cases eo
      · exact hno i h
    · refine (C.old a o (S.keep a o eo hno) fun hq => ?_).trans (S.old a o eo hno)
      rcases (fr i fp g2 a (hin a hq)).2 with h | h
      · rw [h] at eo; cases eo
      · exact hno i h
    · obtain ⟨o, ho⟩ := S.ownS j a ha
      by_cases hq : a ∈ fq
      · exact C.live a hq
      · exact ⟨o, C.keep a o ho hq⟩
    · have rw1 := (rs.wipe i)
      have rm : RS E.K F' H' (env.set i none) σ (fps.set i []) := rw1.mono C.f fun f hf a ha => by
        obtain ⟨j, hj⟩ := List.mem_iff_getElem?.mp hf
        rcases mem_set_of hj with ⟨_, e⟩ | hj'
        · subst e; cases ha
        · refine kp a (some_of j f hj' a ha) fun hq => ?_
          by_cases hji : j = i
          · subst hji
            have hl : j < fps.length := (List.getElem?_eq_some_iff.mp g2).1
            rw [List.getElem?_set_self hl] at hj
            cases hj; cases ha
          · exact nodup_apart nd hji hj' g2 a ha (hin a hq)
      have q := rm.set i (k F' H' e' fq' C.f (fun a z => kp a (some_of i fp g2 a (by
        rw [e1]
        rcases List.mem_append.mp z with z | z <;> simp [z])) fun hq => by
        rcases List.mem_append.mp z with z | z
        · exact n3 a z a (by simp [hq]) rfl
        · exact n6 a hq a z rfl) hn r')
      have e1 : σ.set i (some v) = σ := by
        apply List.ext_getElem?
        intro j
        by_cases hj : i = j
        · subst hj
          have hl : i < σ.length := (List.getElem?_eq_some_iff.mp g1).1
          rw [List.getElem?_set_self hl, g1]
        · rw [List.getElem?_set_ne hj]
      rw [e1, List.set_set, List.set_set] at q
      exact q
    · have off : ∀ a ∈ pre ++ post, a ∉ fq' := fun a z hq => by
        rcases (C.new a hq).2 with h | h
        · rcases List.mem_append.mp z with z | z
          · exact n3 a z a (by simp [h]) rfl
          · exact n6 a h a z rfl
        · obtain ⟨o, ho⟩ := some_of i fp g2 a (by rw [e1]; rcases List.mem_append.mp z with z | z <;> simp [z])
          rw [ho] at h; cases h
      refine nodup_set nd ?_ fun j y hj hy a ha hq => ?_
      · refine List.nodup_append.mpr ⟨n1, List.nodup_append.mpr ⟨C.nd, n5, fun a ha b hb e => ?_⟩, fun a ha b hb e => ?_⟩
        · subst e; exact off a (by simp [hb]) ha
        · subst e
          rcases List.mem_append.mp hb with hb | hb
          · exact off a (by simp [ha]) hb
          · exact n3 a ha a (by simp [hb]) rfl
      · have na := nodup_apart nd hj hy g2 a ha
        rw [e1] at na
        rcases List.mem_append.mp hq with hq | hq
        · exact na (by simp [hq])
        · rcases List.mem_append.mp hq with hq | hq
          · rcases (C.new a hq).2 with h | h
            · exact na (by simp [h])
            · obtain ⟨o, ho⟩ := some_of j y hy a ha
              rw [ho] at h; cases h
          · exact na (by simp [hq])
    · intro j f hj a ha
      by_cases hji : j = i
      · subst hji
        have hl : j < fps.length := (List.getElem?_eq_some_iff.mp g2).1
        rw [List.getElem?_set_self hl] at hj
        cases hj
        have inpp : a ∈ pre ++ post → F' a = none ∧ (E.H0 a = none ∨ a ∈ E.own j) := fun z => by
          have hm : a ∈ fp := by rw [e1]; rcases List.mem_append.mp z with z | z <;> simp [z]
          obtain ⟨h1, h2⟩ := fr j fp g2 a hm
          obtain ⟨o, ho⟩ := some_of j fp g2 a hm
          refine ⟨(C.old a o ho fun hq => ?_).trans h1, h2⟩
          rcases List.mem_append.mp z with z | z
          · exact n3 a z a (by simp [hq]) rfl
          · exact n6 a hq a z rfl
        rcases List.mem_append.mp ha with z | z
        · exact inpp (by simp [z])
        · rcases List.mem_append.mp z with z | z
          · refine ⟨(C.new a z).1, ?_⟩
            rcases (C.new a z).2 with h | h
            · exact (fr j fp g2 a (hin a h)).2
            · refine .inl ?_
              cases q : E.H0 a with
              | none => rfl
              | some o =>
                exfalso
                by_cases hno : ∀ i, a ∉ E.own i
                · have := S.keep a o q hno
                  rw [h] at this; cases this
                · have : ∃ i, a ∈ E.own i := Classical.byContradiction fun z => hno fun i hi => z ⟨i, hi⟩
                  obtain ⟨j, hj⟩ := this
                  obtain ⟨o', ho'⟩ := S.ownS j a hj
                  rw [h] at ho'; cases ho'
          · exact inpp (by simp [z])
      · have hj' : fps[j]? = some f := by
          rcases mem_set_of hj with ⟨e, _⟩ | h
          · exact absurd e.symm hji
          · exact h
        obtain ⟨h1, h2⟩ := fr j f hj' a ha
        obtain ⟨o, ho⟩ := some_of j f hj' a ha
        exact ⟨(C.old a o ho fun hq => nodup_apart nd hji hj' g2 a ha (hin a hq)).trans h1, h2⟩
end Z

set_option Elab.async false
set_option linter.all false
set_option maxRecDepth 100000
set_option maxHeartbeats 1000000
/-! ZD: instances: attributes read and set, freezing of any owned thing -/
namespace Z
open PySem L2
theorem toNat_inj : ∀ {a b : List Char}, a.map Char.toNat = b.map Char.toNat → a = b
  | [], [], _ => rfl
  | [], _ :: _, h => by simp at h
  | _ :: _, [], h => by simp at h
  | x :: a, y :: b, h => by
    simp only [List.map_cons, List.cons.injEq] at h
    rw [toNat_inj h.2]
    have : x = y := Char.ext (UInt32.toNat_inj.mp h.1)
    rw [this]
theorem ofString_inj {a b : String} (h : Str.ofString a = Str.ofString b) : a = b := by
  rw [Str.ofString_eq_toList, Str.ofString_eq_toList] at h
  have := congrArg (fun s => s.cps.toList) h
  exact String.toList_inj.mp (toNat_inj (by simpa using this))
/-! ### what a slot owns stands still from now on -/
theorem Stt.frzAny {E : Ent} {F H : Hp} {env : En} {σ : St} {i : Nat} {d : D} (S : Stt E F env σ H) (ho : E.own i = []) (he : env[i]? = some (some d)) : ∃ F', Same F F' ∧ Stt E F' (env.set i (some (frzD d))) σ H := by
  obtain ⟨fps, rs, nd, fr⟩ := S.rep
  obtain ⟨v, fp, g1, g2, g3⟩ := rs.get he
  let F' : Hp := fun a => if a ∈ fp then H a else F a
  have hin : ∀ a ∈ fp, F' a = H a := fun a z => if_pos z
  have hout : ∀ a, a ∉ fp → F' a = F a := fun a z => if_neg z
  have hF : ∀ a ∈ fp, F a = none := fun a z => (fr i fp g2 a z).1
  have hH0 : ∀ a ∈ fp, E.H0 a = none := fun a z => by
    rcases (fr i fp g2 a z).2 with h | h
    · exact h
    · rw [ho] at h; cases h
  have le : Same F F' := fun b u eb => by
    rw [hout b fun z => ?_]
    · exact eb
    · rw [hF b z] at eb; cases eb
  refine ⟨F', le, S.le0.trans le, fun b u eb => ?_, S.keep, fun b o eb n => ?_, S.ownS, fps.set i [], ?_, nodup_set nd List.nodup_nil (fun _ _ _ _ _ _ z => nomatch z), fun j fq hj b hb => ?_⟩
  · by_cases hb : b ∈ fp
    · rw [hin b hb] at eb; exact eb
    · rw [hout b hb] at eb; exact S.fH b u eb
  · rw [hout b fun z => ?_]
    · exact S.old b o eb n
    · rw [hH0 b z] at eb; cases eb
  · have rs' : RS E.K F' H env σ fps := rs.mono le fun _ _ _ _ => rfl
    have q := rs'.set i (R.frz le d hin g3)
    have e1 : σ.set i (some v) = σ := by
      apply List.ext_getElem?
      intro j
      by_cases hj : i = j
      · subst hj
        have hl : i < σ.length := (List.getElem?_eq_some_iff.mp g1).1
        rw [List.getElem?_set_self hl, g1]
      · rw [List.getElem?_set_ne hj]
    rw [e1] at q
    exact q
  · have hji : j ≠ i := by
      intro z
      subst z
      have hl : j < fps.length := (List.getElem?_eq_some_iff.mp g2).1
      rw [List.getElem?_set_self hl] at hj
      cases hj; cases hb
    rcases mem_set_of hj with ⟨e, _⟩ | hj'
    · exact absurd e.symm hji
    · obtain ⟨k1, k2⟩ := fr j fq hj' b hb
      exact ⟨by rw [hout b (nodup_apart nd hji hj' g2 b hb)]; exact k1, k2⟩
section
variable {X : Cx} {E : Ent} {W : WX} {e a b : Expr} {f g : En → Rs D} {pos : Pos} {s : Stmt} {ss : List Stmt} {gs gt : En → Fl}
def sFz (i : Nat) (g : En → Fl) : En → Fl := fun env => match env[i]? with
  | some (some d) => g (env.set i (some (frzD d)))
  | _ => g env
theorem SS.fz (i : Nat) (h : SS X E W s gs) (ho : E.own i = [] := by rfl) : SS X E W s (sFz i gs) := by
  obtain ⟨t, p, k⟩ := h.ex
  refine ⟨h.hK, t, p, fun F σ H env S D q => ?_⟩
  unfold sFz at q
  split at q
  · rename_i d he
    obtain ⟨F', le, S'⟩ := S.frzAny ho he
    exact k F' σ H _ S' D (q.mono le)
  · exact k F σ H env S D q
/-! ### an attribute read -/
def posOf (f : String) : List String → Option Nat
  | [] => none
  | n :: ns => if n = f then some 0 else (posOf f ns).map (· + 1)
/-- the attribute f of an instance of one of the classes cs -/
def pFld (cs : List Nat) (f : String) : D → Option D
  | .ob c ns vs => if c ∈ cs then (posOf f ns).bind fun i => vs[i]? else none
  | .oob c ns vs => if c ∈ cs then (posOf f ns).bind fun i => vs[i]? else none
  | _ => none
def eFld (cs : List Nat) (f : String) (fe : En → Rs D) : En → Rs D := fun env => (fe env).bind fun d => ofO (pFld cs f d)
theorem posOf_lookup (f : String) : ∀ (ns : List String) (ws : List V) (i : Nat) (v : V), posOf f ns = some i → ws[i]? = some v → (nmS ns ws).lookup (Str.ofString f) = some v
  | [], _, _, _, h, _ => by cases h
  | n :: ns, [], i, v, _, h => by simp at h
  | n :: ns, w :: ws, i, v, h, hv => by
    unfold posOf at h
    show List.lookup (Str.ofString f) ((Str.ofString n, w) :: nmS ns ws) = some v
    by_cases hn : n = f
    · rw [if_pos hn] at h
      cases h
      subst hn
      simp at hv
      rw [List.lookup_cons, beq_self_eq_true, hv]
    · rw [if_neg hn] at h
      have hne : (Str.ofString f == Str.ofString n) = false := beq_eq_false_iff_ne.mpr fun z => hn (ofString_inj z).symm
      cases hp : posOf f ns with
      | none => rw [hp] at h; cases h
      | some j =>
        rw [hp] at h
        cases h
        rw [List.lookup_cons, hne]
        exact posOf_lookup f ns ws j v hp (by simpa using hv)
/-- what is known of the classes cs and the attribute f -/
def FldOk (K : Kx) (cs : List Nat) (f : String) : Prop := ∀ c ∈ cs, Cls K.k (K.ca c) ∧ NoAttr K.k (K.ca c) (Str.ofString f)
theorem SE.fld (cs : List Nat) (f : String) (hf : FldOk E.K cs f) (ha : SE X E W a g) (hb : attributeBase a (Str.ofString f) X.env (eval a X.env) = eval a X.env := by rfl) : SE X E W (.Attribute a (Str.ofString f) pos) (eFld cs f g) := by
  obtain ⟨t, p, k⟩ := ha.ex
  refine ⟨ha.hK, _, pe_fld p hb, fun F σ H env S Q q => ?_⟩
  refine k F σ H env S _ ?_
  unfold eFld at q
  cases e1 : g env with
  | un => rw [e1] at q; exact q
  | ex x => rw [e1] at q; exact q
  | ok d =>
    rw [e1, Rs.bind_ok] at q
    intro v fp F1 H1 G1 r1
    cases e2 : pFld cs f d with
    | none => rw [e2] at q; exact q.elim
    | some z =>
      rw [e2] at q
      cases d <;> first | (cases e2; done) | skip
      · rename_i c ns vs
        unfold pFld at e2
        dsimp only at e2
        split at e2
        · rename_i hc
          cases hp : posOf f ns with
          | none => rw [hp] at e2; cases e2
          | some i =>
            rw [hp, Option.bind_some] at e2
            cases r1 with
            | ob h1 h2 h3 h4 =>
              rename_i a0 dx ws
              obtain ⟨u, hu, ru⟩ := h3.get0 e2
              obtain ⟨c1, c2⟩ := hf c hc
              exact ⟨a0, E.K.ca c, dx, nmS ns ws, u, rfl, G1.fh _ _ h1, by rw [ha.hK]; exact c1, by rw [ha.hK]; exact c2, posOf_lookup f ns ws i u hp hu, q u [] F1 H1 G1 ru⟩
        · cases e2
      · rename_i c ns vs
        unfold pFld at e2
        dsimp only at e2
        split at e2
        · rename_i hc
          cases hp : posOf f ns with
          | none => rw [hp] at e2; cases e2
          | some i =>
            rw [hp, Option.bind_some] at e2
            cases r1 with
            | oob h1 h2 h3 h4 =>
              rename_i a0 dx ws f0
              obtain ⟨u, fq, hu, ru⟩ := h3.get e2
              obtain ⟨c1, c2⟩ := hf c hc
              exact ⟨a0, E.K.ca c, dx, nmS ns ws, u, rfl, h1, by rw [ha.hK]; exact c1, by rw [ha.hK]; exact c2, posOf_lookup f ns ws i u hp hu, q u fq F1 H1 G1 ru⟩
        · cases e2
theorem nodup1 (p : Addr) : [p].Nodup := by simp
/-! ### a thing that is data, or owned and new -/
def PostN (E : Ent) (W : WX) (F H : Hp) (σ : St) (Q : VK) : Rs D → Prop
  | .ok d => ∀ v fp F' H', Grow F H F' H' → R E.K F' H' d v fp → fp.Nodup → (∀ a ∈ fp, H a = none ∧ F' a = none) → Q v H'
  | .ex x => ∀ cls dd F' H', Grow F H F' H' → Rx E.K F' H' x cls dd → W cls dd σ H'
  | .un => False
def OkN (E : Ent) (W : WX) (t : TE) (f : En → Rs D) : Prop := ∀ F σ H env, Stt E F env σ H → ∀ Q, PostN E W F H σ Q (f env) → t σ H Q
structure SN (X : Cx) (E : Ent) (W : WX) (e : Expr) (f : En → Rs D) : Prop where
  hK : X.K = E.K.k
  ex : ∃ t, PE X e t ∧ OkN E W t f
def eDat (f : En → Rs D) : En → Rs D := fun env => (f env).bind fun d => if isData d then .ok d else .un
theorem SN.dat (h : SE X E W e f) : SN X E W e (eDat f) := by
  obtain ⟨t, p, k⟩ := h.ex
  refine ⟨h.hK, t, p, fun F σ H env S Q q => k F σ H env S Q ?_⟩
  unfold eDat at q
  cases e1 : f env with
  | un => rw [e1] at q; exact q
  | ex x => rw [e1] at q; exact q
  | ok d =>
    rw [e1, Rs.bind_ok] at q
    split at q
    · rename_i hd
      exact fun v fp F' H' G r => q v [] F' H' G (r.toData hd) List.nodup_nil fun a z => nomatch z
    · exact q.elim
def eNewL (f : En → Rs (List D)) : En → Rs D := fun env => (f env).bind fun ds => .ok (.olst ds)
theorem SN.lst {fl : En → Rs (List D)} (h : SL X E W e fl) : SN X E W e (eNewL fl) := by
  obtain ⟨t, p, k⟩ := h.ex
  refine ⟨h.hK, t, p, fun F σ H env S Q q => k F σ H env S Q ?_⟩
  unfold eNewL at q
  cases e1 : fl env with
  | un => rw [e1] at q; exact q
  | ex x => rw [e1] at q; exact q
  | ok ds =>
    rw [e1, Rs.bind_ok] at q
    exact fun p vs F' H' G hp hF hH r hz => q _ [p] F' H' G (.olst hH r hz) (nodup1 p) fun a z => by
      rw [List.mem_singleton.mp z]; exact ⟨hp, hF⟩
/-- an empty dict; t: its keys will be tuples -/
def eNewD (t : Bool) : En → Rs D := fun _ => .ok (.odic t [] [])
theorem SN.dicK (hK : X.K = E.K.k := by rfl) : SN X E W (.Dict [] [] pos) (eNewD false) := ⟨hK, _, pe_dnewK, fun F σ H env S Q q p hp =>
  q _ [p] F (upd H p (.dK [])) (Grow.own S.fH hp) (.odicK (ks := []) (vs := []) (ds := []) upd_same .nil rfl List.nodup_nil) (nodup1 p) fun a z => by
    rw [List.mem_singleton.mp z]
    exact ⟨hp, S.fH.free hp⟩⟩
theorem SN.dicT (hK : X.K = E.K.k := by rfl) : SN X E W (.Dict [] [] pos) (eNewD true) := ⟨hK, _, pe_dnewT, fun F σ H env S Q q p hp =>
  q _ [p] F (upd H p (.dT [])) (Grow.own S.fH hp) (.odicT (ks := []) (vs := []) (ds := []) upd_same .nil rfl List.nodup_nil) (nodup1 p) fun a z => by
    rw [List.mem_singleton.mp z]
    exact ⟨hp, S.fH.free hp⟩⟩
/-- x = a new thing -/
def sSetN (i : Nat) (f : En → Rs D) : En → Fl := fun env => match f env with
  | .ok d => .nx (env.set i (some d))
  | .ex x => .xx x env
  | .un => .un
theorem Stt.h0_none {F H : Hp} {env : En} {σ : St} (S : Stt E F env σ H) {a : Addr} (h : H a = none) : E.H0 a = none := by
  cases q : E.H0 a with
  | none => rfl
  | some o =>
    exfalso
    by_cases hno : ∀ i, a ∉ E.own i
    · have := S.keep a o q hno
      rw [h] at this; cases this
    · have : ∃ i, a ∈ E.own i := Classical.byContradiction fun z => hno fun i hi => z ⟨i, hi⟩
      obtain ⟨j, hj⟩ := this
      obtain ⟨o', ho'⟩ := S.ownS j a hj
      rw [h] at ho'; cases ho'
theorem SS.setN (i : Nat) {y : Str} {py : Pos} (hf : SN X E W e f) (hN : X.N.Nodup) (hy : X.N[i]? = some y := by rfl) (hl : Loc X.env.scope y := by first | exact Or.inl rfl | exact Or.inr rfl)
    (hs : swapsWith e (some (.Name y py)) pos.line X.env = pure false := by rfl) (hfn : X.fn y = true ∨ X.env.scope.names.lookup y = some .local := by first | exact .inl rfl | exact .inr rfl) : SS X E W (.Assign [.Name y py] e pos) (sSetN i f) := by
  obtain ⟨t, p, k⟩ := hf.ex
  refine ⟨hf.hK, _, ps_set hN hy hl p hs hfn, ?_⟩
  intro F σ H env S D q
  refine k F σ H env S _ ?_
  unfold sSetN at q
  cases e1 : f env with
  | un => rw [e1] at q; exact q
  | ex x => rw [e1] at q; exact fun cls dd F' H' G r => q cls dd F' σ H' G.f (S.grow G) r
  | ok d =>
    rw [e1] at q
    exact fun v fp F' H' G r hn hf => q F' _ H' G.f (S.setNew i r G hn fun a ha => ⟨(hf a ha).1, (hf a ha).2, S.h0_none (hf a ha).1⟩)
/-! ### an attribute set: self.f = e, self the variable i -/
def putN (f : String) (d : D) (ns : List String) (vs : List D) : List String × List D := match posOf f ns with
  | some i => (ns, vs.set i d)
  | none => (ns ++ [f], vs ++ [d])
theorem putF_set (f : String) (y : V) : ∀ (ns : List String) (ws : List V) (i : Nat), posOf f ns = some i → ns.length = ws.length → putF (Str.ofString f) y (nmS ns ws) = nmS ns (ws.set i y)
  | [], _, _, h, _ => by cases h
  | n :: ns, [], _, _, h => by simp at h
  | n :: ns, w :: ws, i, h, hl => by
    unfold posOf at h
    show putF (Str.ofString f) y ((Str.ofString n, w) :: nmS ns ws) = _
    unfold putF
    by_cases hn : n = f
    · rw [if_pos hn] at h
      cases h
      subst hn
      rw [if_pos rfl]
      rfl
    · rw [if_neg hn] at h
      rw [if_neg fun z => hn (ofString_inj z)]
      cases hp : posOf f ns with
      | none => rw [hp] at h; cases h
      | some j =>
        rw [hp] at h
        cases h
        rw [putF_set f y ns ws j hp (by simpa using hl)]
        rfl
theorem putF_new (f : String) (y : V) : ∀ (ns : List String) (ws : List V), posOf f ns = none → ns.length = ws.length → putF (Str.ofString f) y (nmS ns ws) = nmS (ns ++ [f]) (ws ++ [y])
  | [], [], _, _ => rfl
  | [], _ :: _, _, h => by simp at h
  | n :: ns, [], _, h => by simp at h
  | n :: ns, w :: ws, h, hl => by
    unfold posOf at h
    show putF (Str.ofString f) y ((Str.ofString n, w) :: nmS ns ws) = _
    unfold putF
    by_cases hn : n = f
    · rw [if_pos hn] at h; cases h
    · rw [if_neg hn] at h
      rw [if_neg fun z => hn (ofString_inj z)]
      cases hp : posOf f ns with
      | some j => rw [hp] at h; cases h
      | none =>
        rw [putF_new f y ns ws hp (by simpa using hl)]
        rfl
def sSetF (cs : List Nat) (i : Nat) (f : String) (fe : En → Rs D) : En → Fl := fun env => match fe env with
  | .ok d => match env[i]? with
    | some (some d0) => match peel d0 with
      | .oob c ns vs => if c ∈ cs ∧ ns.length < 900 then .nx (env.set i (some (putRoot d0 (.oob c (putN f d ns vs).1 (putN f d ns vs).2)))) else .un
      | _ => .un
    | _ => .un
  | .ex x => .xx x env
  | .un => .un
theorem RL.put : ∀ {K : Kx} {F H : Hp} {ds : List D} {ws : List V} {fp : List Addr} {i : Nat}, RL K F H ds ws fp → i < ds.length → ∃ pre fq post, fp = pre ++ (fq ++ post) ∧
    ∀ (F' H' : Hp) (d : D) (v : V) (fq' : List Addr), Same F F' → (∀ a ∈ pre ++ post, H' a = H a) → R K F' H' d v fq' → RL K F' H' (ds.set i d) (ws.set i v) (pre ++ (fq' ++ post))
  | _, _, _, _, _, _, _, .nil, h => by simp at h
  | _, _, _, _, _, _, 0, .cons (fp := f0) (fq := fq) h t, _ =>
    ⟨[], f0, fq, rfl, fun F' H' d v fq' s k r => RL.cons (fp := fq') (fq := fq) r (RL.mono s _ (fun a z => k a (by simpa using z)) t)⟩
  | _, _, _, _, _, _, i + 1, .cons (fp := f0) h t, z => by
    obtain ⟨pre, fq, post, e1, k⟩ := RL.put (i := i) t (by simpa using z)
    refine ⟨f0 ++ pre, fq, post, by rw [e1, List.append_assoc], fun F' H' d v fq' s kk r' => ?_⟩
    rw [List.append_assoc]
    refine .cons (R.mono s _ (fun a z => kk a (by simp [z])) h) (k F' H' d v fq' s (fun a z => kk a ?_) r')
    rcases List.mem_append.mp z with z | z
    · simp [z]
    · simp [z]
theorem posOf_lt (f : String) : ∀ (ns : List String) (i : Nat), posOf f ns = some i → i < ns.length
  | [], _, h => by cases h
  | n :: ns, i, h => by
    unfold posOf at h
    split at h
    · cases h; simp
    · cases hp : posOf f ns with
      | none => rw [hp] at h; cases h
      | some j =>
        rw [hp] at h; cases h
        have := posOf_lt f ns j hp
        simp; omega
theorem nmS_len (ns : List String) (ws : List V) : (nmS ns ws).length ≤ ns.length := by
  unfold nmS
  rw [List.length_zip, List.length_map]
  omega
/-- the instance with an attribute put: its children -/
theorem RL.putN {K : Kx} {F H : Hp} {ns : List String} {vs : List D} {ws : List V} {f0 : List Addr} (f : String) (h : RL K F H vs ws f0) (hl : ns.length = vs.length) :
    ∃ keepA : List Addr, (∀ a ∈ keepA, a ∈ f0) ∧ keepA.Sublist f0 ∧ ∀ (F' H' : Hp) (d : D) (v : V) (fq : List Addr), Same F F' → (∀ a ∈ f0, H' a = H a) → fq.Nodup → f0.Nodup → (∀ a ∈ fq, a ∉ f0) → R K F' H' d v fq →
      ∃ fr, RL K F' H' (Z.putN f d ns vs).2 (match posOf f ns with | some i => ws.set i v | none => ws ++ [v]) fr ∧ fr.Nodup ∧ (∀ a ∈ fr, a ∈ f0 ∨ a ∈ fq) ∧ (Z.putN f d ns vs).1.length = (Z.putN f d ns vs).2.length ∧
        putF (Str.ofString f) v (nmS ns ws) = nmS (Z.putN f d ns vs).1 (match posOf f ns with | some i => ws.set i v | none => ws ++ [v]) := by
  refine ⟨f0, fun _ z => z, List.Sublist.refl _, fun F' H' d v fq s kk hn hn0 hx r => ?_⟩
  have hw : ns.length = ws.length := hl.trans h.len.symm
  unfold Z.putN
  cases hp : posOf f ns with
  | some i =>
    obtain ⟨pre, fm, post, e1, k⟩ := h.put (i := i) (by rw [← hl]; exact posOf_lt f ns i hp)
    have hin : ∀ a, a ∈ pre ++ post → a ∈ f0 := fun a z => by rw [e1]; rcases List.mem_append.mp z with z | z <;> simp [z]
    refine ⟨_, k F' H' d v fq s (fun a z => kk a (hin a z)) r, ?_, fun a z => ?_, by dsimp only; rw [List.length_set, hl], putF_set f v ns ws i hp hw⟩
    · rw [e1] at hn0
      obtain ⟨n1, n2, n3⟩ := List.nodup_append.mp hn0
      obtain ⟨n4, n5, n6⟩ := List.nodup_append.mp n2
      refine List.nodup_append.mpr ⟨n1, List.nodup_append.mpr ⟨hn, n5, fun a ha b hb e => ?_⟩, fun a ha b hb e => ?_⟩
      · subst e; exact hx a ha (hin a (by simp [hb]))
      · subst e
        rcases List.mem_append.mp hb with hb | hb
        · exact hx a hb (hin a (by simp [ha]))
        · exact n3 a ha a (by simp [hb]) rfl
    · rcases List.mem_append.mp z with z | z
      · exact .inl (hin a (by simp [z]))
      · rcases List.mem_append.mp z with z | z
        · exact .inr z
        · exact .inl (hin a (by simp [z]))
  | none =>
    refine ⟨f0 ++ fq, (RL.mono s _ kk h).snoc r, ?_, fun a z => List.mem_append.mp z, by simp [hl], putF_new f v ns ws hp hw⟩
    refine List.nodup_append.mpr ⟨hn0, hn, fun a ha b hb e => ?_⟩
    subst e
    exact hx a hb ha
theorem SS.setF (cs : List Nat) (i : Nat) (f : String) {y : Str} {py p' : Pos} (hc : FldOk E.K cs f) (hf : SN X E W e g) (hN : X.N[i]? = some y := by rfl) (hv : Vis X.env.scope y := by first | exact Or.inl rfl | exact Or.inr (Or.inl rfl) | exact Or.inr (Or.inr rfl))
    (hd : (y == ("__debug__" : Str)) = false := by decide) (hcd : (y == ("__classdict__" : Str)) = false := by decide) (hs : swapsWith e (some (.Attribute (.Name y py) (Str.ofString f) p')) pos.line X.env = pure false := by rfl) :
    SS X E W (.Assign [.Attribute (.Name y py) (Str.ofString f) p'] e pos) (sSetF cs i f g) := by
  obtain ⟨t, p, k⟩ := hf.ex
  refine ⟨hf.hK, _, ps_fld (pe_var hN hv hd hcd) p hs, fun F σ H env S D q => ?_⟩
  refine k F σ H env S _ ?_
  unfold sSetF at q
  cases e1 : g env with
  | un => rw [e1] at q; exact q
  | ex x => rw [e1] at q; exact fun cls dd F' H' G r => q cls dd F' σ H' G.f (S.grow G) r
  | ok d =>
    rw [e1] at q
    dsimp only at q
    intro v fp F1 H1 G1 r1 hn hfr
    split at q
    · rename_i d0 he
      split at q
      · rename_i c ns vs hpe
        split at q
        · rename_i hcl
          obtain ⟨v0, u, fq, g1, r2, n2, f2, hr, hatv, kk⟩ := S.chg (p := []) he (show subD d0 [] = some (.oob c ns vs) by rw [← hpe]; rfl)
          obtain rfl := hr rfl
          obtain ⟨c1, c2⟩ := hc c hcl.1
          cases r2 with
          | oob h1 h2 h3 h4 =>
            rename_i a dx ws f0
            refine ⟨.ref a, g1, a, E.K.ca c, dx, nmS ns ws, rfl, G1.h _ _ h1, by rw [hf.hK]; exact c1, by rw [hf.hK]; exact c2, ?_, ?_⟩
            · have := nmS_len ns ws; omega
            · obtain ⟨m1, m2⟩ := List.nodup_cons.mp n2
              obtain ⟨m3, m4⟩ := List.nodup_cons.mp m2
              have hda : dx ≠ a := fun z => m1 (by rw [z]; exact List.mem_cons_self)
              have hf0a : ∀ b ∈ f0, b ≠ a := fun b hb z => m1 (by rw [← z]; exact List.mem_cons_of_mem _ hb)
              have hH : ∀ b ∈ f0, ∃ o, H b = some o := fun b hb => h3.fp_some _ b hb
              have hx : ∀ b ∈ fp, b ∉ a :: dx :: f0 := fun b hb z => by
                have hnone := (hfr b hb).1
                rcases List.mem_cons.mp z with z | z
                · rw [z, h1] at hnone; cases hnone
                · rcases List.mem_cons.mp z with z | z
                  · rw [z, h2] at hnone; cases hnone
                  · obtain ⟨o, ho⟩ := hH b z
                    rw [ho] at hnone; cases hnone
              have hfpa : ∀ b ∈ fp, b ≠ a := fun b hb z => hx b hb (by rw [z]; exact List.mem_cons_self)
              obtain ⟨_, _, _, kp⟩ := RL.putN f h3 h4
              obtain ⟨fr, q1, q2, q3, q4, q5⟩ := kp F1 (upd H1 a (.ins (E.K.ca c) dx (putF (Str.ofString f) v (nmS ns ws)))) d v fp G1.f (fun b hb => by
                obtain ⟨o, ho⟩ := hH b hb
                rw [upd_ne (hf0a b hb), ho, G1.h b o ho]) hn m4 (fun b hb z => hx b hb (by simp [z])) (R.mono (Same.refl _) _ (fun b hb => upd_ne (hfpa b hb)) r1)
              have hF1 : ∀ b ∈ a :: dx :: f0, F1 b = none := fun b hb => by
                have hs : ∃ o, H b = some o := by
                  rcases List.mem_cons.mp hb with z | z
                  · rw [z]; exact ⟨_, h1⟩
                  · rcases List.mem_cons.mp z with z | z
                    · rw [z]; exact ⟨_, h2⟩
                    · exact hH b z
                obtain ⟨o, ho⟩ := hs
                rw [G1.o b o ho]
                exact f2 b hb
              refine q F1 σ _ G1.f (kk F1 _ _ (a :: dx :: fr) ⟨G1.f, fun b o hb => ?_, fun b o hb hnb => ?_, fun b o hb _ => G1.o b o hb, fun b hb => ?_, fun b hb => ?_, ?_⟩ (List.cons_ne_nil _ _) (.oob (by rw [upd_same, q5]) ?_ q1 q4))
              · rw [upd_ne fun z => ?_]
                · exact G1.fh b o hb
                · rw [z, hF1 a List.mem_cons_self] at hb; cases hb
              · rw [upd_ne fun z => hnb (by rw [z]; exact List.mem_cons_self)]
                exact G1.h b o hb
              · by_cases hba : b = a
                · exact ⟨_, by rw [hba]; exact upd_same⟩
                · rw [upd_ne hba]
                  rcases List.mem_cons.mp hb with z | z
                  · exact absurd z hba
                  · rcases List.mem_cons.mp z with z | z
                    · rw [z]; exact ⟨_, G1.h _ _ h2⟩
                    · obtain ⟨o, ho⟩ := hH b z
                      exact ⟨o, G1.h b o ho⟩
              · rcases List.mem_cons.mp hb with z | z
                · rw [z]; exact ⟨hF1 a List.mem_cons_self, .inl List.mem_cons_self⟩
                · rcases List.mem_cons.mp z with z | z
                  · rw [z]; exact ⟨hF1 dx (by simp), .inl (by simp)⟩
                  · rcases q3 b z with z | z
                    · exact ⟨hF1 b (by simp [z]), .inl (by simp [z])⟩
                    · exact ⟨(hfr b z).2, .inr (hfr b z).1⟩
              · have inn : ∀ b ∈ fr, b ∈ f0 ∨ b ∈ fp := q3
                refine List.nodup_cons.mpr ⟨fun z => ?_, List.nodup_cons.mpr ⟨fun z => ?_, q2⟩⟩
                · rcases List.mem_cons.mp z with z | z
                  · exact hda z.symm
                  · rcases inn a z with z | z
                    · exact hf0a a z rfl
                    · exact hfpa a z rfl
                · rcases inn dx z with z | z
                  · exact m3 z
                  · exact hx dx z (by simp)
              · rw [upd_ne hda]
                exact G1.h _ _ h2
        · exact q.elim
      · exact q.elim
    · exact q.elim
end
end Z

set_option Elab.async false
set_option linter.all false
set_option maxRecDepth 100000
set_option maxHeartbeats 1000000
/-! ZE: calls by positional promises whose exceptions are taken by the slots as they stand; instances made -/
namespace Z
open PySem L2
/-- what a callee may let out is taken, the slots as they are at the call -/
def PassW (CX : CXT) (X : Cx) (W : WX) : Prop := ∀ (pins : List (Addr × Obj)) (σ : St) (H : Hp) (s : Shared) (e : Value) (s' : Shared), Inv X pins σ H s → CX X.stack H s (fun c d H' => W c d σ H') e s' → X.xe e s'
section
variable {X : Cx} {CX : CXT} {k : Nat} {f C : Addr} {sp : Sp} {W : WX} {x : Str} {e o : Expr} {es : List Expr} {t : TA} {ta : TE} {p pos apos : Pos}
theorem run_fnW {pins : List (Addr × Obj)} {σ : L2.St} {H : Hp} {s : Shared} {Q : VK} {us : List Value} {vs : List V} (F : FnR X.prog X.w X.K X.mg X.base CX k f sp) (hr : Room k X.A) (hx : PassW CX X W) (I : Inv X pins σ H s) (r : Vals vs us) (h : sp vs H Q (fun c d H' => W c d σ H')) :
    codeAny (model X.prog X.w) X.A (.call (.ref f) ⟨us, []⟩) (fun r s' => match r with | .ok (.ret v) => EP X pins σ Q v s' | .ok _ => False | .error e => X.xe e s') s := by
  refine codeAny_mono (F X.A X.stack s H us vs Q _ hr I.env0 r h) fun r s' hq => ?_
  cases r with
  | error e => exact hx pins σ H s e s' I hq
  | ok fl =>
    cases fl with
    | ret u => exact I.after hq
    | next => exact False.elim hq
    | brk => exact False.elim hq
    | cont => exact False.elim hq
theorem pe_callW (F : FnR X.prog X.w X.K X.mg X.base CX k f sp) (hr : Room k X.A) (hk : PySem.W.keepIn X.K (.ref f) = true) (hg : Gl X x) (hm : X.mg x = some (.ref f)) (hx : PassW CX X W) (ha : PA X (e :: es) t) (hd : (x == ("__debug__" : Str)) = false := by decide)
    (he : starEach (e :: es) X.env = (false, eval e X.env) :: starEach es X.env := by rfl) (hpl : (backTo pos (starEach es X.env)).any (·.1) = false := by rfl) :
    PE X (.Call (.Name x p) (e :: es) [] pos) (fun σ H Q => t σ H fun vs H1 => sp vs H1 Q (fun c d H' => W c d σ H')) := by
  refine ⟨fun pins s σ H Q I h => ?_⟩
  refine wpAny_Call_Name_kw (ld_glob I hg hm ?_ hd)
  refine PySem.W.callWith_K (h₀ := X.base) I.ok.mod.kin hk (thn (ha.run pos pins s σ H _ I h) fun us s1 ⟨vs, H1, I1, r, q⟩ => ⟨I1.kIn, ?_⟩) he hpl
  exact wpAny_call (run_fnW F hr hx I1 r q)
theorem pe_callW0 (F : FnR X.prog X.w X.K X.mg X.base CX k f sp) (hr : Room k X.A) (hk : PySem.W.keepIn X.K (.ref f) = true) (hg : Gl X x) (hm : X.mg x = some (.ref f)) (hx : PassW CX X W) (hd : (x == ("__debug__" : Str)) = false := by decide) :
    PE X (.Call (.Name x p) [] [] pos) (fun σ H Q => sp [] H Q (fun c d H' => W c d σ H')) := by
  refine ⟨fun pins s σ H Q I h => ?_⟩
  refine wpAny_Call_Name_kw (ld_glob I hg hm ?_ hd)
  exact PySem.W.callWith_K0 I.kIn hk (wpAny_call (run_fnW (us := []) F hr hx I .nil h))
/-- C(e, ..): a new instance, then __init__ -/
theorem run_makeW {pins : List (Addr × Obj)} {σ : L2.St} {H : Hp} {s : Shared} {Q : VK} {us : List Value} {vs : List V} (M : Mk X.K C f) (F : FnR X.prog X.w X.K X.mg X.base CX k f sp) (hr : Room (k + 1) X.A) (hx : PassW CX X W) (I : Inv X pins σ H s) (r : Vals vs us)
    (h : ∀ x dx, H x = Option.none → H dx = Option.none → dx ≠ x → sp (V.ref x :: vs) (upd (upd H dx (.own x)) x (.ins C dx [])) (fun v H2 => v = .non ∧ Q (.ref x) H2) (fun c d H' => W c d σ H')) :
    wpAny (model X.prog X.w) X.A (call (.ref C) us) (EP X pins σ Q) X.xe s := by
  have hq := h (s.heap.objs.size + 1) s.heap.objs.size (I.hok.fresh (Nat.le_succ _)) (I.hok.fresh (Nat.le_refl _)) (Nat.ne_of_lt (Nat.lt_succ_self _))
  have I2 := Inv.made (C := C) I
  have r2 : Vals (V.ref (s.heap.objs.size + 1) :: vs) (Value.ref (s.heap.objs.size + 1) :: us) := .cons rfl r
  refine wpAny_call (make_map (f := f) I.kIn M.makes M.init (beq_iff_eq.mp M.fn) (codeAny_mono (F _ X.stack _ _ (Value.ref (s.heap.objs.size + 1) :: us) _ _ _ (hr.make C us []) (I2.env0.make C us []) r2 hq) fun r s' hq' => ?_))
  cases r with
  | error e => exact hx pins σ _ _ e s' I2 hq'
  | ok fl =>
    cases fl with
    | ret u =>
      obtain ⟨v, H', I3, rv, ev, q3⟩ := I2.after hq'
      subst ev
      exact ⟨rv, ⟨V.ref (s.heap.objs.size + 1), H', I3, rfl, q3⟩⟩
    | next => exact False.elim hq'
    | brk => exact False.elim hq'
    | cont => exact False.elim hq'
theorem pe_makeW (M : Mk X.K C f) (F : FnR X.prog X.w X.K X.mg X.base CX k f sp) (hr : Room (k + 1) X.A) (hg : Gl X x) (hm : X.mg x = some (.ref C)) (hx : PassW CX X W) (ha : PA X (e :: es) t) (hdb : (x == ("__debug__" : Str)) = false := by decide)
    (he : starEach (e :: es) X.env = (false, eval e X.env) :: starEach es X.env := by rfl) (hpl : (backTo pos (starEach es X.env)).any (·.1) = false := by rfl) :
    PE X (.Call (.Name x p) (e :: es) [] pos) (fun σ H Q => t σ H fun vs H1 => ∀ x dx, H1 x = Option.none → H1 dx = Option.none → dx ≠ x →
      sp (V.ref x :: vs) (upd (upd H1 dx (.own x)) x (.ins C dx [])) (fun v H2 => v = .non ∧ Q (.ref x) H2) (fun c d H' => W c d σ H')) := by
  refine ⟨fun pins s σ H Q I h => ?_⟩
  refine wpAny_Call_Name_kw (ld_glob I hg hm ?_ hdb)
  refine PySem.W.callWith_K (h₀ := X.base) I.ok.mod.kin M.kp (thn (ha.run pos pins s σ H _ I h) fun us s1 ⟨vs, H1, I1, r, q⟩ => ⟨I1.kIn, ?_⟩) he hpl
  exact run_makeW M F hr hx I1 r q
end
/-- by HandS.Exc: what a wish W takes -/
theorem passW_of {X : Cx} {W : WX} (tk : Takes X W) : PassW (L2.CX X.prog X.w) X W := fun _ σ _ _ _ _ I c => tk _ _ (XE.of_call I (fun _ _ _ h => h) c)
theorem passW0 {X : Cx} {W : WX} : PassW CX0 X W := fun _ _ _ _ _ _ _ h => h.elim
/-! ### data does not ask what was lent -/
mutual
theorem R.reK {K K' : Kx} {F H : Hp} (hk : K'.k = K.k) (hc : K'.ca = K.ca) : ∀ (d : D) {v : V} {fp : List Addr}, fp = [] → R K F H d v fp → R K' F H d v []
  | .non, _, _, _, h => by cases h; exact .non
  | .bl _, _, _, _, h => by cases h; exact .bl _
  | .int _, _, _, _, h => by cases h; exact .int _
  | .str _, _, _, _, h => by
    cases h with
    | str k => exact .str k
  | .tup ds, _, _, _, h => by
    cases h with
    | tup hs hl hz => exact .tup hs (RL.reK hk hc ds rfl hl) hz
  | .lst ds, _, _, _, h => by
    cases h with
    | lst hs hl hz => exact .lst hs (RL.reK hk hc ds rfl hl) hz
  | .olst ds, _, _, z, h => by cases h; cases z
  | .dic t ks ds, _, _, _, h => by
    cases h with
    | dicK hs hl hz hn => exact .dicK hs (RL.reK hk hc ds rfl hl) hz hn
    | dicT hs hl hz hn => exact .dicT hs (RL.reK hk hc ds rfl hl) hz hn
  | .odic _ _ _, _, _, z, h => by cases h <;> cases z
  | .set _, _, _, _, h => nomatch h
  | .oset _, _, _, _, h => nomatch h
  | .ob c ns ds, _, _, _, h => by
    cases h with
    | ob hs hd hl hz => exact .ob (by rw [hc]; exact hs) hd (RL.reK hk hc ds rfl hl) hz
  | .oob _ _ _, _, _, z, h => by cases h; cases z
  | .scr _, _, _, _, h => by
    cases h with
    | scr a b => exact .scr (by rw [hk]; exact a) b
  | .bor _ _, _, _, z, h => by
    cases h with
    | bor _ _ n => exact absurd z n
  | .exn _ _ _ _ _ _, _, _, _, h => by
    cases h with
    | exn a b c => rw [← hc]; exact .exn a (RL.reK hk hc _ rfl b) c
theorem RL.reK {K K' : Kx} {F H : Hp} (hk : K'.k = K.k) (hc : K'.ca = K.ca) : ∀ (ds : List D) {vs : List V} {fp : List Addr}, fp = [] → RL K F H ds vs fp → RL K' F H ds vs []
  | [], _, _, _, h => by cases h; exact .nil
  | d :: ds, _, _, z, h => by
    cases h with
    | cons h1 h2 =>
      obtain ⟨e1, e2⟩ := List.append_eq_nil_iff.mp z
      exact RL.mk0 (R.reK hk hc d e1 h1) (RL.reK hk hc ds e2 h2)
end
end Z

set_option Elab.async false
set_option linter.all false
set_option maxRecDepth 100000
set_option maxHeartbeats 1000000
/-! ZF: defs that may raise; __init__ -/
namespace Z
open PySem L2
section
variable {P : Program} {w : World} {K : Kx} {mg : Str → Option Value} {base : Heap}
/-- a def that may raise: its meaning is runB g n -/
theorem fnX {x qual : Str} {st : Stmt} {f : Addr} {fd : FuncData} {N ps : List Str} {k np n : Nat} {g : En → Fl} {m : List D → Rs D} (Fn : Fun K.k x qual st f fd) (S : FnScope N ps (defScope st))
    (hm : m = runB g n) (hn : N.length = n) (hp : ps.length = np)
    (hb : ∀ (cdv : Value) (A : Around) (outer : List Env) (s : Shared) (H : Hp) (Ex : XK) (F0 : Hp), Room k (A.deeper (PyProof.Rows.envOfC qual (defScope st) s.heap.objs.size f cdv)) →
      SB (cxOf (L2.CX P w) P w K.k mg base N qual (defScope st) f cdv A outer s H Ex) ⟨K, H, F0, fun _ => []⟩ (fun c d _ H' => Ex c d H') (defBody st) g) : FnOk P w K.k mg base (L2.CX P w) (k + 1) f fd ps (spP K np m) := by
  subst hm hn hp
  refine Fn.okX S (fun vs H Q E h => ?_) (fun cdv A outer s H vs Q Ex hr h => ?_)
  · obtain ⟨ds, F, _, hl, hn, _⟩ := h
    rw [hl.len, hn]
  · obtain ⟨ds, F, hs, hl, hn, q⟩ := h
    obtain ⟨t, p, k⟩ := (hb cdv A outer s H Ex F hr).ex
    refine ⟨t, p, k F _ H _ (stt_start hs hl) _ ?_⟩
    unfold runB at q
    cases e : g (start0 N.length ds) with
    | nx en => rw [e] at q; exact fun F' σ' H' G S' => q _ F' H' (stt_end S') .non
    | bk en => rw [e] at q; exact q.elim
    | ct en => rw [e] at q; exact q.elim
    | rt d en => rw [e] at q; exact fun v F' σ' H' G S' r => q v F' H' (stt_end S') r
    | xx x en => rw [e] at q; exact fun cls dd F' σ' H' G S' r => q cls dd F' H' (stt_end S') r
    | un => rw [e] at q; exact q
/-- the promise of __init__: m from the arguments to the instance, which stands still behind it -/
def PostIn (K : Kx) (F H : Hp) (a dx : Addr) (Q : VK) (Ex : XK) : Rs D → Prop
  | .ok d => ∀ F' H', Same F F' → Same F' H' → (∀ b o, H b = some o → b ≠ a → b ≠ dx → H' b = some o ∧ F' b = F b) → R K F' H' d (.ref a) [] → Q .non H'
  | .ex x => ∀ cls dd F' H', Same F F' → Same F' H' → (∀ b o, H b = some o → b ≠ a → b ≠ dx → H' b = some o ∧ F' b = F b) → Rx K F' H' x cls dd → Ex cls dd H'
  | .un => False
def spI (K : Kx) (c n : Nat) (m : List D → Rs D) : Sp := fun vs H Q Ex => ∃ ds F a dx ws, vs = .ref a :: ws ∧ Same F H ∧ H a = some (.ins (K.ca c) dx []) ∧ H dx = some (.own a) ∧ a ≠ dx ∧ F a = none ∧ F dx = none ∧ RL K F H ds ws [] ∧ ds.length + 1 = n ∧ PostIn K F H a dx Q Ex (m ds)
/-- what the body leaves in the slot 0 -/
def outI : Fl → Rs D
  | .nx e => match e[0]? with
    | some (some (D.bor 0 d)) => .ok (frzD d)
    | _ => .un
  | .xx x _ => .ex x
  | _ => .un
def runI (c : Nat) (g : En → Fl) (n : Nat) (ds : List D) : Rs D := outI (g (start0 n (.bor 0 (.oob c [] []) :: ds)))
theorem Rx.reK {K K' : Kx} {F H : Hp} {x : D} {cls : Value} {dd : Option Addr} (hk : K'.k = K.k) (hc : K'.ca = K.ca) (h : Rx K F H x cls dd) : Rx K' F H x cls dd := by
  cases x <;> first | exact h | exact h.elim | skip
  obtain ⟨h1, h2, h3⟩ := h
  refine ⟨by rw [hc]; exact h1, h2, ?_⟩
  rcases h3 with h3 | ⟨a, fs, e1, e2, k⟩
  · exact .inl h3
  · exact .inr ⟨a, fs, e1, e2, fun i n d q1 q2 => by
      obtain ⟨v, l, r⟩ := k i n d q1 q2
      exact ⟨v, l, R.reK hk hc d rfl r⟩⟩
theorem fnI {x qual : Str} {st : Stmt} {f : Addr} {fd : FuncData} {N ps : List Str} {k np n c : Nat} {g : En → Fl} {m : List D → Rs D} (Fn : Fun K.k x qual st f fd) (S : FnScope N ps (defScope st))
    (hm : m = runI c g n) (hn : N.length = n) (hp : ps.length = np)
    (hb : ∀ (cdv : Value) (A : Around) (outer : List Env) (s : Shared) (H : Hp) (Ex : XK) (F0 : Hp) (a dx : Addr), Room k (A.deeper (PyProof.Rows.envOfC qual (defScope st) s.heap.objs.size f cdv)) →
      SB (cxOf (L2.CX P w) P w K.k mg base N qual (defScope st) f cdv A outer s H Ex) ⟨⟨K.k, K.ca, fun _ => a⟩, H, F0, fun i => if i = 0 then [a, dx] else []⟩ (fun c d _ H' => Ex c d H') (defBody st) g) : FnOk P w K.k mg base (L2.CX P w) (k + 1) f fd ps (spI K c np m) := by
  subst hm hn hp
  refine Fn.okX S (fun vs H Q E h => ?_) (fun cdv A outer s H vs Q Ex hr h => ?_)
  · obtain ⟨ds, F, a, dx, ws, rfl, _, _, _, _, _, _, hl, hn, _⟩ := h
    rw [List.length_cons, hl.len, hn]
  · obtain ⟨ds, F, a, dx, ws, rfl, hs, ha, hdx, hne, hFa, hFd, hl, hn, q⟩ := h
    obtain ⟨t, p, k⟩ := (hb cdv A outer s H Ex F a dx hr).ex
    have hl' : RL ⟨K.k, K.ca, fun _ => a⟩ F H ds ws [] := RL.reK (K := K) (K' := ⟨K.k, K.ca, fun _ => a⟩) rfl rfl ds rfl hl
    have r0 : R ⟨K.k, K.ca, fun _ => a⟩ F H (.bor 0 (.oob c [] [])) (.ref a) [a, dx] := .bor (.oob (vs := []) ha hdx .nil rfl) rfl (List.cons_ne_nil _ _)
    have st0 : Stt ⟨⟨K.k, K.ca, fun _ => a⟩, H, F, fun i => if i = 0 then [a, dx] else []⟩ F (start0 N.length (.bor 0 (.oob c [] []) :: ds)) (L2.start N (.ref a :: ws)) H := by
      refine ⟨Same.refl _, hs, fun b o e _ => e, fun b o e _ => rfl, fun i b hb => ?_, [a, dx] :: List.replicate (ds.length + (N.length - (ds.length + 1))) [], ?_, ?_, ?_⟩
      · have hb : b ∈ (if i = 0 then [a, dx] else ([] : List Addr)) := hb
        split at hb
        · rcases List.mem_cons.mp hb with z | z
          · rw [z]; exact ⟨_, ha⟩
          · rw [List.mem_singleton.mp z]; exact ⟨_, hdx⟩
        · cases hb
      · unfold start0 L2.start
        rw [List.length_cons, List.length_cons, hl.len]
        exact .som r0 (rs_start _ hl')
      · rw [List.flatten_cons, flat_nil, List.append_nil]
        exact List.nodup_cons.mpr ⟨fun z => hne (List.mem_singleton.mp z), nodup1 _⟩
      · intro i fp hi b hb
        cases i with
        | zero =>
          simp at hi
          subst hi
          rcases List.mem_cons.mp hb with z | z
          · rw [z]; exact ⟨hFa, .inr (by simp)⟩
          · rw [List.mem_singleton.mp z]; exact ⟨hFd, .inr (by simp)⟩
        | succ i =>
          rw [List.getElem?_cons_succ, List.getElem?_replicate] at hi
          split at hi
          · cases hi; cases hb
          · cases hi
    refine ⟨t, p, k F _ H _ st0 _ ?_⟩
    have keep : ∀ {F' H' : Hp} {e : En} {σ' : L2.St}, Stt ⟨⟨K.k, K.ca, fun _ => a⟩, H, F, fun i => if i = 0 then [a, dx] else []⟩ F' e σ' H' → ∀ b o, H b = some o → b ≠ a → b ≠ dx → H' b = some o ∧ F' b = F b := fun {F' H' e σ'} S' b o hb h1 h2 => by
      have hno : ∀ i, b ∉ (fun i => if i = 0 then [a, dx] else ([] : List Addr)) i := fun i z => by
        dsimp only at z
        split at z
        · rcases List.mem_cons.mp z with z | z
          · exact h1 z
          · exact h2 (List.mem_singleton.mp z)
        · cases z
      exact ⟨S'.keep b o hb hno, S'.old b o hb hno⟩
    unfold runI at q
    cases e : g (start0 N.length (.bor 0 (.oob c [] []) :: ds)) with
    | nx en =>
      rw [e] at q
      intro F' σ' H' G S'
      unfold outI at q
      dsimp only at q
      split at q
      · rename_i d he
        obtain ⟨fps, rs, nd, fr⟩ := S'.rep
        obtain ⟨v, fp, g1, g2, g3⟩ := rs.get he
        cases g3 with
        | bor r ev hnn =>
          let F2 : Hp := fun b => if b ∈ fp then H' b else F' b
          have hF : ∀ b ∈ fp, F' b = none := fun b z => (fr 0 fp g2 b z).1
          have le : Same F' F2 := fun b u eb => by
            show (if b ∈ fp then H' b else F' b) = some u
            rw [if_neg fun z => by rw [hF b z] at eb; cases eb]
            exact eb
          have fh : Same F2 H' := fun b u eb => by
            have eb : (if b ∈ fp then H' b else F' b) = some u := eb
            by_cases hb : b ∈ fp
            · rw [if_pos hb] at eb; exact eb
            · rw [if_neg hb] at eb; exact S'.fH b u eb
          have r2 := R.frz le d (fun b z => if_pos z) r
          rw [ev] at r2
          refine q F2 H' (S'.le0.trans le) fh (fun b o hb h1 h2 => ?_) (R.reK (K := ⟨K.k, K.ca, fun _ => a⟩) (K' := K) rfl rfl _ rfl r2)
          obtain ⟨k1, k2⟩ := keep S' b o hb h1 h2
          refine ⟨k1, ?_⟩
          rw [← k2]
          show (if b ∈ fp then H' b else F' b) = F' b
          refine if_neg fun z => ?_
          rcases (fr 0 fp g2 b z).2 with h | h
          · rw [show H b = none from h] at hb; cases hb
          · have h : b ∈ [a, dx] := h
            rcases List.mem_cons.mp h with h | h
            · exact h1 h
            · exact h2 (List.mem_singleton.mp h)
      · exact q.elim
    | bk en => rw [e] at q; exact q.elim
    | ct en => rw [e] at q; exact q.elim
    | rt d en => rw [e] at q; exact q.elim
    | xx x en =>
      rw [e] at q
      exact fun cls dd F' σ' H' G S' r => q cls dd F' H' S'.le0 S'.fH (keep S') (Rx.reK (K := ⟨K.k, K.ca, fun _ => a⟩) (K' := K) rfl rfl r)
    | un => rw [e] at q; exact q
end
section
variable {X : Cx} {E : Ent} {W : WX} {e : Expr} {es : List Expr} {pos p : Pos} {fa : En → Rs (List D)}
/-- x(e, ..) that may raise -/
theorem SE.callX {x : Str} {k n : Nat} {fa_ : Addr} {fd : FuncData} {ps : List Str} {m : List D → Rs D} (tk : Takes X W)
    (F : FnOk X.prog X.w X.K X.mg X.base (L2.CX X.prog X.w) k fa_ fd ps (spP E.K n m)) (hr : Room k X.A) (hm : X.mg x = some (.ref fa_)) (hk : PySem.W.keepIn X.K (.ref fa_) = true) (hb : Binds X.K fd ps []) (ha : SA X E W (e :: es) fa) (hg : Gl X x := by rfl)
    (hdb : (x == ("__debug__" : Str)) = false := by decide) (he : starEach (e :: es) X.env = (false, eval e X.env) :: starEach es X.env := by rfl) (hpl : (backTo pos (starEach es X.env)).any (·.1) = false := by rfl) :
    SE X E W (.Call (.Name x p) (e :: es) [] pos) (eApp n m fa) := by
  obtain ⟨t, pa, ka⟩ := ha.ex
  refine ⟨ha.hK, _, pe_callW (W := W) (F.raw hb .nil) hr hk hg hm (passW_of tk) pa hdb he hpl, fun Fz σ H env S Q q => ?_⟩
  refine ka Fz σ H env S _ ?_
  unfold eApp at q
  cases e1 : fa env with
  | un => rw [e1] at q; exact q
  | ex x => rw [e1] at q; exact q
  | ok ds =>
    rw [e1, Rs.bind_ok] at q
    intro vs fp F1 H1 G1 r1
    split at q
    · rename_i hc
      rw [Bool.and_eq_true] at hc
      rw [List.append_nil]
      refine ⟨ds, F1, G1.fh, r1.toData hc.1, of_decide_eq_true hc.2, ?_⟩
      cases e2 : m ds with
      | un => rw [e2] at q; exact q
      | ex x => rw [e2] at q; exact fun cls dd F' H' G r => q cls dd F' H' (G1.trans G) r
      | ok d => rw [e2] at q; exact fun v F' H' G r => q v [] F' H' (G1.trans G) r
    · exact q.elim
/-- C(e, ..): the instance, standing still -/
theorem SE.make {x : Str} {k n c : Nat} {fI : Addr} {fd : FuncData} {ps : List Str} {m : List D → Rs D} (tk : Takes X W) (M : Mk X.K (E.K.ca c) fI)
    (F : FnOk X.prog X.w X.K X.mg X.base (L2.CX X.prog X.w) k fI fd ps (spI E.K c (n + 1) m)) (hr : Room (k + 1) X.A) (hm : X.mg x = some (.ref (E.K.ca c))) (hb : Binds X.K fd ps []) (ha : SA X E W (e :: es) fa) (hg : Gl X x := by rfl)
    (hdb : (x == ("__debug__" : Str)) = false := by decide) (he : starEach (e :: es) X.env = (false, eval e X.env) :: starEach es X.env := by rfl) (hpl : (backTo pos (starEach es X.env)).any (·.1) = false := by rfl) :
    SE X E W (.Call (.Name x p) (e :: es) [] pos) (eApp n m fa) := by
  obtain ⟨t, pa, ka⟩ := ha.ex
  refine ⟨ha.hK, _, pe_makeW (W := W) M (F.raw hb .nil) hr hg hm (passW_of tk) pa hdb he hpl, fun Fz σ H env S Q q => ?_⟩
  refine ka Fz σ H env S _ ?_
  unfold eApp at q
  cases e1 : fa env with
  | un => rw [e1] at q; exact q
  | ex x => rw [e1] at q; exact q
  | ok ds =>
    rw [e1, Rs.bind_ok] at q
    intro vs fp F1 H1 G1 r1 a dx hna hnd hne
    split at q
    · rename_i hc
      rw [Bool.and_eq_true] at hc
      rw [List.append_nil]
      have off : ∀ b o, H1 b = some o → b ≠ a ∧ b ≠ dx := fun b o hb => ⟨(fun z => by rw [z, hna] at hb; exact nomatch hb), (fun z => by rw [z, hnd] at hb; exact nomatch hb)⟩
      have at0 : ∀ b o, H1 b = some o → upd (upd H1 dx (.own a)) a (.ins (E.K.ca c) dx []) b = some o := fun b o hb => by
        rw [upd_ne (off b o hb).1, upd_ne (off b o hb).2]; exact hb
      have grow : ∀ {F' H' : Hp}, Same F1 F' → Same F' H' → (∀ b o, upd (upd H1 dx (.own a)) a (.ins (E.K.ca c) dx []) b = some o → b ≠ a → b ≠ dx → H' b = some o ∧ F' b = F1 b) → Grow F1 H1 F' H' := fun s1 s2 kp =>
        ⟨s1, s2, fun b o hb => (kp b o (at0 b o hb) (off b o hb).1 (off b o hb).2).1, fun b o hb => (kp b o (at0 b o hb) (off b o hb).1 (off b o hb).2).2⟩
      have f0 : ∀ b, H1 b = none → F1 b = none := fun b hb => G1.fh.free hb
      refine ⟨ds, F1, a, dx, vs, rfl, fun b o hb => at0 b o (G1.fh b o hb), upd_same, by rw [upd_ne hne, upd_same], fun z => hne z.symm, f0 a hna, f0 dx hnd, RL.mono (Same.refl _) ds (fun _ z => nomatch z) (r1.toData hc.1), by rw [of_decide_eq_true hc.2], ?_⟩
      cases e2 : m ds with
      | un => rw [e2] at q; exact q
      | ex x => rw [e2] at q; exact fun cls dd F' H' s1 s2 kp r => q cls dd F' H' (G1.trans (grow s1 s2 kp)) r
      | ok d => rw [e2] at q; exact fun F' H' s1 s2 kp r => ⟨rfl, q _ [] F' H' (G1.trans (grow s1 s2 kp)) r⟩
    · exact q.elim
end
end Z

set_option Elab.async false
set_option linter.all false
set_option maxRecDepth 100000
set_option maxHeartbeats 1000000
/-! ZG: methods of instances that stand still -/
namespace Z
open PySem L2
theorem posOf_none (f : String) : ∀ (ns : List String) (ws : List V), posOf f ns = none → (nmS ns ws).lookup (Str.ofString f) = none
  | [], _, _ => rfl
  | n :: ns, [], _ => rfl
  | n :: ns, w :: ws, h => by
    unfold posOf at h
    show List.lookup (Str.ofString f) ((Str.ofString n, w) :: nmS ns ws) = none
    by_cases hn : n = f
    · rw [if_pos hn] at h; cases h
    · rw [if_neg hn] at h
      have hne : (Str.ofString f == Str.ofString n) = false := beq_eq_false_iff_ne.mpr fun z => hn (ofString_inj z).symm
      rw [List.lookup_cons, hne]
      cases hp : posOf f ns with
      | some j => rw [hp] at h; cases h
      | none => exact posOf_none f ns ws hp
/-- the instance o of class c has no attribute named m, so that the method is meant -/
def isOb (c : Nat) (m : String) : D → Bool
  | .ob c' ns _ => decide (c' = c) && (posOf m ns).isNone
  | _ => false
def eMeth (c : Nat) (mn : String) (n : Nat) (m : List D → Rs D) (fo : En → Rs D) (fa : En → Rs (List D)) : En → Rs D := fun env => (fo env).bind fun d => if isOb c mn d then (fa env).bind fun ds => if ds.all isData && decide (ds.length = n) then m (d :: ds) else .un else .un
section
variable {X : Cx} {E : Ent} {W : WX} {o e : Expr} {es : List Expr} {pos apos : Pos} {fo : En → Rs D} {fa : En → Rs (List D)}
theorem meth_ok {c n : Nat} {mn : String} {m : List D → Rs D} {ta : TE} {t : TA} {Ex : XK} {sp : Sp} (hsp : sp = spP E.K (n + 1) m) (ko : OkE E W ta fo) (ka : OkA E W t fa) (hx : NoX m) : OkE E W (tMeth (E.K.ca c) (Str.ofString mn) sp [] Ex ta t) (eMeth c mn n m fo fa) := by
  subst hsp
  intro F σ H env S Q q
  refine ko F σ H env S _ ?_
  unfold eMeth at q
  cases e1 : fo env with
  | un => rw [e1] at q; exact q
  | ex x => rw [e1] at q; exact q
  | ok d =>
    rw [e1, Rs.bind_ok] at q
    intro v fp F1 H1 G1 r1
    split at q
    · rename_i hob
      cases d <;> first | (cases hob; done) | skip
      rename_i c' ns vs
      have hob : (decide (c' = c) && (posOf mn ns).isNone) = true := hob
      rw [Bool.and_eq_true] at hob
      obtain rfl := of_decide_eq_true hob.1
      have hnone : posOf mn ns = none := Option.isNone_iff_eq_none.mp hob.2
      have r0 := r1.toData rfl
      cases r0 with
      | ob h1 h2 h3 h4 =>
        rename_i a dx ws
        refine ⟨a, dx, nmS ns ws, rfl, G1.fh _ _ h1, posOf_none mn ns ws hnone, ?_⟩
        refine ka F1 σ H1 env (S.grow G1) _ ?_
        cases e2 : fa env with
        | un => rw [e2] at q; exact q
        | ex x => rw [e2] at q; exact fun cls dd F' H' G r => q cls dd F' H' (G1.trans G) r
        | ok ds =>
          rw [e2, Rs.bind_ok] at q
          intro us fq F2 H2 G2 r2
          split at q
          · rename_i hc
            rw [Bool.and_eq_true] at hc
            rw [List.append_nil]
            refine ⟨.ob c' ns vs :: ds, F2, G2.fh, RL.mk0 ((R.ob h1 h2 h3 h4).grow G2) (r2.toData hc.1), by rw [List.length_cons, of_decide_eq_true hc.2], ?_⟩
            cases e3 : m (.ob c' ns vs :: ds) with
            | un => rw [e3] at q; exact q
            | ex x => exact absurd e3 (hx _ x)
            | ok d => rw [e3] at q; exact fun v F' H' G r => q v [] F' H' ((G1.trans G2).trans G) r
          · exact q.elim
    · exact q.elim
theorem SE.meth {k n c : Nat} {mn : String} {f : Addr} {fd : FuncData} {ps : List Str} {m : List D → Rs D} {pl : Sem Bool} (ho : SE X E W o fo) (hc : Cls X.K (E.K.ca c)) (hm : Meth X.K (E.K.ca c) (Str.ofString mn) f)
    (F : FnOk X.prog X.w X.K X.mg X.base CX0 k f fd ps (spP E.K (n + 1) m)) (hx : NoX m) (hr : Room k X.A) (hb : Binds X.K fd ps []) (ha : SA X E W (e :: es) fa)
    (hst : starEach (e :: es) X.env = (false, eval e X.env) :: starEach es X.env := by rfl) (hpl : (backTo pos (starEach es X.env)).any (·.1) = false := by rfl)
    (ht : eval (.Call (.Attribute o (Str.ofString mn) apos) (e :: es) [] pos) X.env = (do
      let ov ← eval o X.env
      standAt apos.atName
      let (f, first) ← holding [ov] (getMethod ov (Str.ofString mn) pl)
      callWith pos f first (backTo pos (starEach (e :: es) X.env)) (backToKw pos (keywordEach [] X.env))) := by rfl) :
    SE X E W (.Call (.Attribute o (Str.ofString mn) apos) (e :: es) [] pos) (eMeth c mn n m fo fa) := by
  obtain ⟨t1, p1, k1⟩ := ho.ex
  obtain ⟨t2, p2, k2⟩ := ha.ex
  exact ⟨ho.hK, _, pe_meth p1 hc hm F hr hb .nil pass0 p2 hst hpl ht, meth_ok rfl k1 k2 hx⟩
theorem SE.meth0 {k c : Nat} {mn : String} {f : Addr} {fd : FuncData} {ps : List Str} {m : List D → Rs D} {pl : Sem Bool} (ho : SE X E W o fo) (hc : Cls X.K (E.K.ca c)) (hm : Meth X.K (E.K.ca c) (Str.ofString mn) f)
    (F : FnOk X.prog X.w X.K X.mg X.base CX0 k f fd ps (spP E.K 1 m)) (hx : NoX m) (hr : Room k X.A) (hb : Binds X.K fd ps [])
    (ht : eval (.Call (.Attribute o (Str.ofString mn) apos) [] [] pos) X.env = (do
      let ov ← eval o X.env
      standAt apos.atName
      let (f, first) ← holding [ov] (getMethod ov (Str.ofString mn) pl)
      callWith pos f first (backTo pos (starEach [] X.env)) (backToKw pos (keywordEach [] X.env))) := by rfl) :
    SE X E W (.Call (.Attribute o (Str.ofString mn) apos) [] [] pos) (eMeth c mn 0 m fo aNil) := by
  obtain ⟨t1, p1, k1⟩ := ho.ex
  exact ⟨ho.hK, _, pe_meth0 p1 hc hm F hr hb .nil pass0 ht, meth_ok (n := 0) rfl k1 (fun F σ H env S Q q => q [] [] F H (Grow.refl S.fH) .nil) hx⟩
end
end Z

set_option Elab.async false
set_option linter.all false
set_option maxRecDepth 100000
set_option maxHeartbeats 1000000
/-! ZH: exceptions of own classes with one or two fields, raised -/
namespace Z
open PySem L2
/-- __init__(self, y): self.f = y -/
def spX1 (C : Addr) (f : Str) : Sp := fun vs H Q _ => ∃ a y, vs = [.ref a, y] ∧ H a = some (exo a C none) ∧ ∀ dx, H dx = none → dx ≠ a → Q .non (upd (upd H dx (exd dx [(f, y)])) a (exo a C (some dx)))
theorem fnE1 {P : Program} {w : World} {K : PySem.W.Frag} {mg : Str → Option Value} {base : Heap} {x qual : Str} {st : Stmt} {fa : Addr} {fd : FuncData} {sf p fl : Str} {C : Addr} {q1 q2 q3 q4 : Pos} (Fn : Fun K x qual st fa fd) (S : FnScope [sf, p] [sf, p] (defScope st))
    (hbody : defBody st = [.Assign [.Attribute (.Name sf q1) fl q2] (.Name p q3) q4]) (T : OexC K C) (hno : PySem.W.findIn K (.ref C) fl = some none)
    (hv1 : Vis (defScope st) sf) (hv2 : Vis (defScope st) p) (hd1 : (sf == ("__debug__" : Str)) = false) (hd2 : (p == ("__debug__" : Str)) = false) (hc1 : (sf == ("__classdict__" : Str)) = false) (hc2 : (p == ("__classdict__" : Str)) = false)
    (hsw : ∀ env : Env, swapsWith (.Name p q3) (some (.Attribute (.Name sf q1) fl q2)) q4.line env = pure false) : FnOk P w K mg base CX0 1 fa fd [sf, p] (spX1 C fl) := by
  refine Fn.ok S (fun vs H Q E h => ?_) (fun cdv A outer s H vs Q Ex hr h => ?_)
  · obtain ⟨a, y, rfl, _⟩ := h
    rfl
  · obtain ⟨a, y, rfl, ha, hq⟩ := h
    rw [hbody]
    refine ⟨_, pss_one (ps_ost (pe_var (i := 0) rfl hv1 hd1 hc1) (pe_var (i := 1) rfl hv2 hd2 hc2) (hsw _)), ?_⟩
    exact ⟨y, rfl, .ref a, rfl, a, C, rfl, T, hno, .inl ⟨ha, fun dx h1 h2 => hq dx h1 h2⟩⟩
def sRaise1 (c : Nat) (f : String) (fa : En → Rs (List D)) : En → Fl := fun env => match fa env with
  | .ok [d] => if isData d then .xx (.ob c [f] [d]) env else .un
  | .ok _ => .un
  | .ex x => .xx x env
  | .un => .un
section
variable {X : Cx} {E : Ent} {W : WX} {e : Expr} {pos p p0 : Pos} {fa : En → Rs (List D)}
theorem SS.raise1 (c : Nat) (f : String) {x : Str} {fI : Addr} {k : Nat} {fd : FuncData} {ps : List Str} (tk : Takes X W) (hcm : X.calm = true) (T : OexC X.K (E.K.ca c)) (iC : PySem.W.findIn X.K (.ref (E.K.ca c)) "__init__" = some (some (.ref fI))) (tI : PySem.W.typeIn X.K (.ref fI) = some (.type "function"))
    (F1 : FnOk X.prog X.w X.K X.mg X.base CX0 k fI fd ps (spX1 (E.K.ca c) (Str.ofString f))) (hr : Room (k + 1) X.A) (hb : Binds X.K fd ps []) (hm : X.mg x = some (.ref (E.K.ca c))) (ha : SA X E W [e] fa) (hg : Gl X x := by rfl)
    (hdb : (x == ("__debug__" : Str)) = false := by decide) (he : starEach [e] X.env = (false, eval e X.env) :: starEach [] X.env := by rfl) (hpl : (backTo p (starEach [] X.env)).any (·.1) = false := by rfl) :
    SS X E W (.Raise (some (.Call (.Name x p0) [e] [] p)) none pos) (sRaise1 c f fa) := by
  obtain ⟨t, pa, ka⟩ := ha.ex
  refine ⟨ha.hK, _, ps_raise hcm tk (pmk_oex T iC tI F1 hr hb .nil pass0 hg hm pa hdb he hpl), fun F σ H env S D q => ?_⟩
  refine ka F σ H env S _ ?_
  unfold sRaise1 at q
  cases e1 : fa env with
  | un => rw [e1] at q; exact q
  | ex z => rw [e1] at q; exact fun cls dd F' H' G r => q cls dd F' σ H' G.f (S.grow G) r
  | ok ds =>
    rw [e1] at q
    intro vs fp F1' H1 G1 r1
    match ds, q, r1 with
    | [d], q, r1 =>
      dsimp only at q
      split at q
      · rename_i hd
        obtain ⟨v, rfl, r⟩ := r1.one
        have r := r.toData hd
        refine ⟨by simp, fun a hna => ?_⟩
        refine ⟨a, v, rfl, upd_same, fun dx hdx hne => ⟨rfl, dx, [(Str.ofString f, v)], upd_same, by rw [upd_ne hne, upd_same], ?_, ?_⟩⟩
        · rw [upd_ne hne] at hdx; exact hdx
        · have hdx1 : H1 dx = none := by rw [upd_ne hne] at hdx; exact hdx
          have eH : upd (del (upd (upd (upd H1 a (exo a (E.K.ca c) none)) dx (exd dx [(Str.ofString f, v)])) a (exo a (E.K.ca c) (some dx))) a) dx (.xd [(Str.ofString f, v)]) = upd H1 dx (.xd [(Str.ofString f, v)]) := by
            funext b
            by_cases hb : b = dx
            · rw [hb, upd_same, upd_same]
            · rw [upd_ne hb, upd_ne hb]
              by_cases hba : b = a
              · rw [hba, del_same, hna]
              · rw [del_ne hba, upd_ne hba, upd_ne hb, upd_ne hba]
          rw [eH]
          have G2 : Grow F1' H1 (upd F1' dx (.xd [(Str.ofString f, v)])) (upd H1 dx (.xd [(Str.ofString f, v)])) := Grow.new G1.fh hdx1
          refine q (.ref (E.K.ca c)) (some dx) _ σ _ (G1.f.trans G2.f) (S.grow (G1.trans G2)) ⟨rfl, rfl, .inr ⟨dx, _, rfl, upd_same, fun i n z h1 h2 => ?_⟩⟩
          match i, h1, h2 with
          | 0, h1, h2 =>
            simp at h1 h2
            subst h1; subst h2
            exact ⟨v, by rw [List.lookup_cons, beq_self_eq_true], r.grow G2⟩
          | i + 1, h1, _ => simp at h1
      · exact q.elim
    | [], q, _ => exact q.elim
    | _ :: _ :: _, q, _ => exact q.elim
end
end Z

set_option Elab.async false
set_option linter.all false
set_option maxRecDepth 100000
set_option maxHeartbeats 1000000
/-! ZI: sorted of any alike data (lists and tuples), shifts, list.index -/
namespace PySem.ZSrt
open PySem PySem.W PySem.Calls PyProof.Rows PySem.SeqAt
section
variable {prog : Program} {w : World} {A : Around} {E : Value → Shared → Prop} {s : Shared}
/-- the items of a tuple, put into a new list -/
theorem gather_tup {t : Addr} {vs : List Value} {Q : List Value → Shared → Prop} (ht : s.heap.IsTuple t vs.toArray) (hz : vs.length ≤ sizeLine)
    (q : Q vs { s with heap := (s.heap.push (seqObj "list" #[] 0)).update s.heap.objs.size (Obj.mapSeq (· ++ vs.toArray)) }) : wpAny (model prog w) A (collect (.ref t)) Q E s := by
  obtain ⟨ob, hob, hcl, m, hdt⟩ := id ht
  have old : (s.heap.push (seqObj "list" #[] 0)).get? t = some ob := Heap.get?_push_of_some _ hob
  have new : (s.heap.push (seqObj "list" #[] 0)).get? s.heap.objs.size = some (seqObj "list" #[] 0) := Heap.get?_push_size _ rfl
  have fits : (#[] ++ vs.toArray).size ≤ sizeLine + 1 := by simp only [Array.size_append, List.size_toArray, List.length_nil]; omega
  unfold collect
  refine wpAny_bind (wpAny_runValue (codeAny_builtin entry_proto_collect' ?_))
  show wpAny _ _ (do again (.builtin "list.__iadd__" ⟨[← newList [], .ref t], []⟩)) _ _ s
  refine wpAny_bind (wpAny_newList (wpAny_pure ⟨Code.quiet_builtin _ (by decide +kernel), codeAny_builtin entry_list_iadd' ?body⟩))
  case body =>
    show wpAny (model prog w) _ (Builtin.List.listExtendWith (.ref s.heap.objs.size) (.ref t) (.ref s.heap.objs.size)) _ _ { s with heap := s.heap.push (seqObj "list" #[] 0) }
    unfold Builtin.List.listExtendWith
    refine wpAny_bind (wpAny_typeOf (T := "tuple") ⟨ob, old, hcl⟩ ?_)
    rw [if_pos (by rw [show (Value.type "tuple" == Value.type "tuple") = true from rfl, Bool.or_true])]
    refine wpAny_bind (listItems_at old hdt (wpAny_bind (listItems_at (xs := #[]) (n := 0) new rfl ?_)))
    rw [if_neg (by simp)]
    refine wpAny_bind (listUpdate_at (xs := #[]) (n := 0) new rfl (wpAny_pure ?_) (Nat.zero_le _) fits)
    show wpAny (model prog w) A (load s.heap.objs.size >>= fun o => match o.data with
      | .seq xs _ => pure xs.toList
      | _ => unsupported "internal:collect") Q E { s with heap := (s.heap.push (seqObj "list" #[] 0)).update s.heap.objs.size (Obj.mapSeq (· ++ vs.toArray)) }
    refine wpAny_bind (wpAny_load (get?_update_seq new _) ?_)
    show wpAny (model prog w) A (pure ((#[] : Array Value) ++ vs.toArray).toList) Q E _
    have e0 : ((#[] : Array Value) ++ vs.toArray).toList = vs := by simp
    rw [e0]
    exact wpAny_pure q
/-- sorted(t), t a tuple -/
theorem sorted_tup_vals {κ : PyProof.Rows.KeyKind} {t : Addr} {vs : List Value} {Q : Value → Shared → Prop} (ht : s.heap.IsTuple t vs.toArray) (hz : vs.length ≤ sizeLine) (S : SortsAt prog w A.in1.in1 { s with heap := sortingHeap (copyHeap s.heap vs) (s.heap.objs.size + 1) vs } κ vs)
    (q : Q (.ref (s.heap.objs.size + 1)) { s with heap := sortedAll s.heap vs (sortVals κ false vs vs).toArray }) : wpAny (model prog w) A (call (.builtin "sorted") [.ref t]) Q E s := by
  have size1 : ((s.heap.push (seqObj "list" #[] 0)).update s.heap.objs.size (Obj.mapSeq (· ++ vs.toArray))).objs.size = s.heap.objs.size + 1 := by rw [Heap.size_update, size_push']
  refine call_function_entry_kw kind_sorted plain_sorted entry_sorted (args_sorted1 _) ?_
  unfold Builtin.«sorted»
  refine wpAny_bind (m := checkCount "sorted" 1 1 _) (wpAny_pure (wpAny_bind (gather_tup ht hz (wpAny_bind (wpAny_newList ?_ hz)))))
  show wpAny _ _ _ _ _ { s with heap := copyHeap s.heap vs }
  rw [size1]
  refine wpAny_bind (wpAny_holding (wpAny_call_entry_kw slot_list_sort ⟨_, copyHeap_at s.heap vs, rfl⟩ entry_list_sort ?sort (args_list_sort _)))
  case sort =>
    refine wpAny_mono (list_sort_vals (s := { s with heap := copyHeap s.heap vs }) (P := fun f s' => f = .done (.ret .none) ∧ Q (.ref (s.heap.objs.size + 1)) s') (copyHeap_at s.heap vs) S hz ⟨rfl, q⟩) (fun f s' hf => ?_) fun _ _ e => e
    obtain ⟨ef, hq⟩ := hf
    subst ef
    exact ⟨_, rfl, wpAny_pure ⟨_, rfl, hq⟩⟩
end
end PySem.ZSrt
namespace L2
open PySem PySem.W PySem.Spec PyProof.Rows
/-- sorted(x), x a list or a tuple of alike data -/
def rSortAny (K : PySem.W.Frag) : List V → Hp → VK → Prop := fun us H Q => ∃ (a : Addr) (xs : List V) (ds : List PyData), us = [V.ref a] ∧ (SqL K H a xs ∨ SqT K H a xs) ∧ DpAll K H xs ds ∧ AllAlike ds ∧ Sortable ds ∧ PyData.depthAll ds ≤ 60 ∧
  ∀ p, H p = none → Q (.ref p) (upd H p (.lst (((xs.zip ds).mergeSort (dataLe false Prod.snd)).map Prod.fst)))
theorem each_of {s : Heap} : ∀ {xs : List V} {its : List Value} {ds : List PyData} {as : List Addr}, Vals xs its → ReadsAll s its ds as → EachIs (fun v (b : V × PyData) => RelV b.1 v) its (xs.zip ds) ∧ EachIs (fun v (b : V × PyData) => ∃ as, Reads s v b.2 as) its (xs.zip ds) ∧ (xs.zip ds).map Prod.snd = ds ∧ xs.length = ds.length
  | _, _, _, _, .nil, r => by
    cases r
    exact ⟨.nil, .nil, rfl, rfl⟩
  | _, _, _, _, .cons h t, r => by
    cases r with
    | cons r1 r2 =>
      obtain ⟨a, b, c, d⟩ := each_of t r2
      exact ⟨.cons h a, .cons ⟨_, r1⟩ b, by rw [List.zip_cons_cons, List.map_cons, c], by rw [List.length_cons, List.length_cons, d]⟩
theorem vals_each : ∀ {bs : List (V × PyData)} {out : List Value}, EachIs (fun v (b : V × PyData) => RelV b.1 v) out bs → Vals (bs.map Prod.fst) out
  | _, _, .nil => .nil
  | _, _, .cons h t => .cons h (vals_each t)
theorem depth_le_all : ∀ {ds : List PyData} {d : PyData}, d ∈ ds → d.depth ≤ PyData.depthAll ds
  | e :: ds, d, h => by
    simp only [PyData.depthAll]
    rcases List.mem_cons.mp h with z | z
    · subst z; omega
    · have := depth_le_all z; omega
theorem call_sortedAny {X : Cx} (hu : X.A.units + 64 < cLine) : CallR X (.builtin "sorted") (rSortAny X.K) := by
  intro pins s σ H vs us Q I r h
  obtain ⟨a, xs, ds, rfl, hs, hd, hal, hk, hdep, q⟩ := h
  rw [Vals.ref1 r]
  obtain ⟨its, rv, hl, hz⟩ : ∃ its, Vals xs its ∧ (s.heap.IsList a its.toArray ∨ s.heap.IsTuple a its.toArray) ∧ its.length ≤ sizeLine := by
    rcases hs with hs | hs
    · obtain ⟨its, rv, hl, hz⟩ := I.list hs
      exact ⟨its, rv, .inl hl.isList, by rw [← rv.length]; exact hz⟩
    · obtain ⟨its, rv, hl, hz⟩ := I.tuple hs
      exact ⟨its, rv, .inr hl, by rw [← rv.length]; exact hz⟩
  obtain ⟨as, hr⟩ := Dp.readsAll I ds xs its hd rv
  obtain ⟨e1, e2, e3, e4⟩ := each_of rv hr
  have hal' : AllAlike ((xs.zip ds).map Prod.snd) := by rw [e3]; exact hal
  have hk' : Sortable ((xs.zip ds).map Prod.snd) := by rw [e3]; exact hk
  have room : ∀ b ∈ xs.zip ds, X.A.units + 2 + b.2.depth < cLine := fun b hb => by
    have hm : b.2 ∈ ds := by rw [← e3]; exact List.mem_map.mpr ⟨b, hb, rfl⟩
    have := depth_le_all hm
    omega
  have er' : EachIs (fun v (b : V × PyData) => ∃ as, Reads (sortingHeap (copyHeap s.heap its) (s.heap.objs.size + 1) its) v b.2 as) its (xs.zip ds) := e2.mono fun _ _ ⟨as, r⟩ => ⟨as, PyProof.Rows.Reads.keeps (fun _ _ => sorting_copy_old) r⟩
  have S : SortsAt X.prog X.w X.A.in1.in1 { s with heap := sortingHeap (copyHeap s.heap its) (s.heap.objs.size + 1) its } (dataKind (sortingHeap (copyHeap s.heap its) (s.heap.objs.size + 1) its) ((xs.zip ds).map Prod.snd)) its :=
    SortsAt.data (s := { s with heap := sortingHeap (copyHeap s.heap its) (s.heap.objs.size + 1) its }) (each_map (R := fun v d => ∃ as, Reads (sortingHeap (copyHeap s.heap its) (s.heap.objs.size + 1) its) v d as) Prod.snd er') hal' hk' (bound_map room)
  have out := sortVals_data false e1 er' hal'
  have fin : EP X pins σ Q (.ref (s.heap.objs.size + 1)) { s with heap := PyProof.Rows.sortedAll s.heap its (sortVals (dataKind (sortingHeap (copyHeap s.heap its) (s.heap.objs.size + 1) its) ((xs.zip ds).map Prod.snd)) false its its).toArray } := by
    obtain ⟨ep, he⟩ := PyProof.Rows.sortedAll_at s.heap its (sortVals (dataKind (sortingHeap (copyHeap s.heap its) (s.heap.objs.size + 1) its) ((xs.zip ds).map Prod.snd)) false its its).toArray
    have hlen : (((xs.zip ds).mergeSort (dataLe false Prod.snd)).map Prod.fst).length ≤ sizeLine := by
      rw [List.length_map, List.length_mergeSort, List.length_zip, e4, Nat.min_self, ← e4, rv.length]; exact hz
    exact ⟨.ref _, upd H (s.heap.objs.size + 1) (.lst (((xs.zip ds).mergeSort (dataLe false Prod.snd)).map Prod.fst)), I.laid (t' := s.toks) (fun _ _ => PyProof.Rows.sortedAll_old) (Nat.le_succ _) ⟨hlen, _, ep, vals_each out, he⟩, rfl, q _ (I.hok.fresh (Nat.le_succ _))⟩
  rcases hl with hl | hl
  · exact sorted_vals hl S hz fin
  · exact PySem.ZSrt.sorted_tup_vals hl hz S fin
end L2
namespace Z
open PySem L2
section
variable {X : Cx} {E : Ent} {W : WX} {e a b : Expr} {f g : En → Rs D} {pos : Pos}
theorem toPyL_map : ∀ xs : List D, toPyL xs = xs.map toPy
  | [] => rfl
  | x :: xs => by rw [toPyL, List.map_cons, toPyL_map xs]
def leD (a b : D) : Bool := PySem.W.dataLe false toPy a b
def alikeB (xs : List D) : Bool := xs.all fun a => xs.all fun b => PySem.W.alike (toPy a) (toPy b)
def srt1 : D → Bool
  | .tup (_ :: _) => true
  | _ => false
def srt2 : D → Bool
  | .bl _ => true
  | .int _ => true
  | .str _ => true
  | .lst _ => true
  | .olst _ => true
  | _ => false
def srtB (xs : List D) : Bool := xs.all srt1 || xs.all srt2
def pSorted (d : D) : Option (List D) := (seqOf d).bind fun xs => if okPyL 60 xs && alikeB xs && srtB xs then some (xs.mergeSort leD) else none
theorem allAlike_of {xs : List D} (h : alikeB xs = true) : PySem.W.AllAlike (toPyL xs) := by
  rw [toPyL_map]
  intro d hd d' hd'
  obtain ⟨x, hx, rfl⟩ := List.mem_map.mp hd
  obtain ⟨y, hy, rfl⟩ := List.mem_map.mp hd'
  exact List.all_eq_true.mp (List.all_eq_true.mp h x hx) y hy
theorem sortable_of {xs : List D} (h : srtB xs = true) : PySem.W.Sortable (toPyL xs) := by
  rw [toPyL_map]
  unfold srtB at h
  rw [Bool.or_eq_true] at h
  rcases h with h | h
  · refine .inl fun d hd => ?_
    obtain ⟨x, hx, rfl⟩ := List.mem_map.mp hd
    have := List.all_eq_true.mp h x hx
    cases x <;> first | (cases this; done) | skip
    rename_i ys
    cases ys with
    | nil => cases this
    | cons y ys => exact ⟨toPy y, toPyL ys, by simp only [toPy, toPyL]⟩
  · refine .inr fun d hd => ?_
    obtain ⟨x, hx, rfl⟩ := List.mem_map.mp hd
    have := List.all_eq_true.mp h x hx
    cases x <;> first | (cases this; done) | skip
    all_goals exact ⟨by simp [toPy], fun xs => by simp [toPy]⟩
theorem RL.of_zip {K : Kx} {F H : Hp} : ∀ {l : List (V × D)}, (∀ p ∈ l, R K F H p.2 p.1 []) → RL K F H (l.map Prod.snd) (l.map Prod.fst) []
  | [], _ => .nil
  | p :: l, h => RL.mk0 (h p List.mem_cons_self) (RL.of_zip fun q hq => h q (List.mem_cons_of_mem _ hq))
theorem RL.zip_mem {K : Kx} {F H : Hp} : ∀ {ds : List D} {vs : List V}, RL K F H ds vs [] → ∀ p ∈ vs.zip ds, R K F H p.2 p.1 []
  | [], vs, h, p, hp => by simp at hp
  | d :: ds, vs, h, p, hp => by
    obtain ⟨v, vs', rfl, h1, h2⟩ := h.inv_cons
    rw [List.zip_cons_cons] at hp
    rcases List.mem_cons.mp hp with z | z
    · subst z; exact h1
    · exact RL.zip_mem h2 p z
theorem RL.sorted {K : Kx} {F H : Hp} {ds : List D} {vs : List V} (h : RL K F H ds vs []) : RL K F H (ds.mergeSort leD) (((vs.zip (toPyL ds)).mergeSort (PySem.W.dataLe false Prod.snd)).map Prod.fst) [] := by
  have hl := h.len
  let le2 : V × D → V × D → Bool := fun p q => leD p.2 q.2
  have e1 : vs.zip (toPyL ds) = (vs.zip ds).map fun p => (p.1, toPy p.2) := by
    rw [toPyL_map, List.zip_map_right]
    rfl
  have e2 : ((vs.zip ds).mergeSort le2).map (fun p => (p.1, toPy p.2)) = ((vs.zip ds).map fun p => (p.1, toPy p.2)).mergeSort (PySem.W.dataLe false Prod.snd) :=
    List.map_mergeSort fun a _ b _ => rfl
  have e3 : ((vs.zip ds).mergeSort le2).map Prod.snd = ((vs.zip ds).map Prod.snd).mergeSort leD := List.map_mergeSort fun a _ b _ => rfl
  have e4 : (vs.zip ds).map Prod.snd = ds := List.map_snd_zip (by omega)
  rw [e1, ← e2, List.map_map]
  rw [e4] at e3
  rw [← e3]
  have e5 : ((vs.zip ds).mergeSort le2).map (Prod.fst ∘ fun p : V × D => (p.1, toPy p.2)) = ((vs.zip ds).mergeSort le2).map Prod.fst := rfl
  rw [e5]
  exact RL.of_zip fun p hp => h.zip_mem p (List.mem_mergeSort.mp hp)
theorem SL.sorted {p : Pos} (ha : SE X E W a f) (hm : X.mg "sorted" = none) (hu : X.A.units + 64 < cLine) (hg : Gl X "sorted" := by rfl) (hs : starEach [a] X.env = (false, eval a X.env) :: starEach [] X.env := by rfl) (hpl : (backTo pos (starEach [] X.env)).any (·.1) = false := by rfl) : SL X E W (.Call (.Name "sorted" p) [a] [] pos) (fun env => (f env).bind fun d => ofO (pSorted d)) := by
  obtain ⟨t, pa, ka⟩ := ha.ex
  refine ⟨ha.hK, _, pe_callB (call_sortedAny hu) hg hm bo_sorted (pa_cons pa pa_nil hs) (by decide) (by decide) hs hpl, ?_⟩
  intro F σ H env S Q q
  refine ka F σ H env S _ ?_
  dsimp only at q
  cases e1 : f env with
  | un => rw [e1] at q; exact q
  | ex x => rw [e1] at q; exact q
  | ok d =>
    rw [e1, Rs.bind_ok] at q
    intro v fp F1 H1 G1 r1
    unfold pSorted at q
    cases e2 : seqOf d with
    | none => rw [e2] at q; exact q.elim
    | some xs =>
      rw [e2, Option.bind_some] at q
      split at q
      · rename_i hc
        rw [Bool.and_eq_true, Bool.and_eq_true] at hc
        obtain ⟨a', vs, rfl, hs', hl, hz⟩ := seqOf_at G1.fh r1 e2
        obtain ⟨q1, q2, q3⟩ := RL.dp G1.fh 60 xs hc.1.1 hl
        refine ⟨a', vs, toPyL xs, rfl, by rw [ha.hK]; exact hs', by rw [ha.hK]; exact q1, allAlike_of hc.1.2, sortable_of hc.2, q3, fun p hp => ?_⟩
        have hp0 : H p = none := by
          cases q0 : H p with
          | none => rfl
          | some o => rw [G1.h _ _ q0] at hp; cases hp
        exact q p _ F1 _ (G1.trans (Grow.own G1.fh hp)) hp0 (same_none G1.fh hp) upd_same (hl.sorted.grow (Grow.own G1.fh hp)) (by rw [List.length_mergeSort]; exact hz)
      · exact q.elim
theorem okPyL_mem {n : Nat} : ∀ {xs : List D} {x : D}, okPyL n xs = true → x ∈ xs → okPy n x = true
  | y :: ys, x, h, hx => by
    simp only [okPyL, Bool.and_eq_true] at h
    rcases List.mem_cons.mp hx with z | z
    · subst z; exact h.1
    · exact okPyL_mem h.2 z
/-! ### shifts and masks -/
def pShl : D → D → Option D
  | .int i, .int j => if i = 1 ∧ 0 ≤ j ∧ j ≤ 1000 then some (.int (2 ^ j.toNat)) else none
  | _, _ => none
theorem OpS.shl : OpS X E (binaryOp .LShift) pShl := by
  refine ⟨_, op_oneShl, fun F H x y d1 d2 fp1 fp2 d hs r1 r2 h Q q => ?_⟩
  unfold pShl at h
  split at h
  · split at h
    · rename_i i j hc
      obtain ⟨rfl, h0, h1⟩ := hc
      cases r1; cases r2; cases h
      exact ⟨j.toNat, rfl, by rw [Int.toNat_of_nonneg h0], by omega, q _ [] F H (Grow.refl hs) (.int _)⟩
    · cases h
  · cases h
def pShr : D → D → Option D
  | .int i, .int j => if 0 ≤ j then some (.int (i / 2 ^ j.toNat)) else none
  | _, _ => none
theorem OpS.shr : OpS X E (binaryOp .RShift) pShr := by
  refine ⟨_, op_shrN, fun F H x y d1 d2 fp1 fp2 d hs r1 r2 h Q q => ?_⟩
  unfold pShr at h
  split at h
  · split at h
    · rename_i i j h0
      cases r1; cases r2; cases h
      exact ⟨i, j.toNat, rfl, by rw [Int.toNat_of_nonneg h0], q _ [] F H (Grow.refl hs) (.int _)⟩
    · cases h
  · cases h
def pAnd : D → D → Option D
  | .int i, .int j => if 0 ≤ i ∧ j = 1 then some (.int (i % 2)) else none
  | _, _ => none
theorem OpS.and : OpS X E (binaryOp .BitAnd) pAnd := by
  refine ⟨_, op_odd, fun F H x y d1 d2 fp1 fp2 d hs r1 r2 h Q q => ?_⟩
  unfold pAnd at h
  split at h
  · split at h
    · rename_i i j hc
      obtain ⟨h0, rfl⟩ := hc
      cases r1; cases r2; cases h
      refine ⟨i.toNat, by rw [Int.toNat_of_nonneg h0], rfl, ?_⟩
      have e : ((i.toNat % 2 : Nat) : Int) = i % 2 := by omega
      rw [e]
      exact q _ [] F H (Grow.refl hs) (.int _)
    · cases h
  · cases h
/-! ### xs.index(y) -/
def pIndex (a b : D) : Option D := (listOf a).bind fun xs => if okPy 60 b && okPyL 60 xs then (xs.findIdx? fun z => eqv z b).map fun j => .int (j : Nat) else none
def eIndex (f g : En → Rs D) : En → Rs D := fun env => (f env).bind fun d => match listOf d with
  | some _ => (g env).bind fun y => ofO (pIndex d y)
  | none => .un
theorem SE.index {apos : Pos} (ha : SE X E W a f) (hb : SE X E W b g) (hu : X.A.units + 65 < cLine) (hbase : attributeBase a "index" X.env (eval a X.env) = eval a X.env := by rfl)
    (hfew : ((backTo pos (starEach [b] X.env)).all (fun x => !x.1) && (backToKw pos (keywordEach [] X.env)).all (fun x => x.1.isSome)
      && decide ([b].length + ([] : List Keyword).length + (if ([] : List Keyword).isEmpty then 0 else 1) < 30)) = true := by rfl)
    (hline : (apos.endLine == pos.line) = true := by rfl) (hs : starEach [b] X.env = (false, eval b X.env) :: starEach [] X.env := by rfl) (hplain : (backTo pos (starEach [] X.env)).any (·.1) = false := by rfl) :
    SE X E W (.Call (.Attribute a "index" apos) [b] [] pos) (eIndex f g) := by
  obtain ⟨t, p, k⟩ := ha.ex
  obtain ⟨u, p', k'⟩ := hb.ex
  refine ⟨ha.hK, _, pe_bm PySem.F.plainAttrs_list PySem.F.slot_list_index PySem.F.type_list_index (mt_indexD hu) p (pa_cons p' pa_nil hs) hbase hfew hline hs hplain, fun F σ H env S Q q => ?_⟩
  refine k F σ H env S _ ?_
  unfold eIndex at q
  cases e1 : f env with
  | un => rw [e1] at q; exact q
  | ex x => rw [e1] at q; exact q
  | ok d =>
    rw [e1, Rs.bind_ok] at q
    intro v fp F1 H1 G1 r1
    cases e2 : listOf d with
    | none => rw [e2] at q; exact q.elim
    | some xs =>
      rw [e2] at q
      dsimp only at q
      obtain ⟨a', vs, rfl, h1, hl, hz⟩ := listOf_at G1.fh r1 e2
      refine ⟨Or.inl ⟨rfl, vs, SqL.of h1⟩, k' F1 σ H1 env (S.grow G1) _ ?_⟩
      cases e3 : g env with
      | un => rw [e3] at q; exact q
      | ex x => rw [e3] at q; exact fun cls dd F' H' G r => q cls dd F' H' (G1.trans G) r
      | ok y =>
        rw [e3, Rs.bind_ok] at q
        intro v2 fp2 F2 H2 G2 r2
        unfold pIndex at q
        rw [e2, Option.bind_some] at q
        split at q
        · rename_i hc
          rw [Bool.and_eq_true] at hc
          cases e4 : xs.findIdx? fun z => eqv z y with
          | none => rw [e4] at q; exact q.elim
          | some j =>
            rw [e4] at q
            obtain ⟨q1, q2, q3⟩ := R.dp G2.fh 60 y hc.1 r2
            have hl2 := hl.grow G2
            obtain ⟨p1, p2, p3⟩ := RL.dp G2.fh 60 xs hc.2 hl2
            obtain ⟨hj, hj2, hj3⟩ := List.findIdx?_eq_some_iff_getElem.mp e4
            have ep : ∀ m (hm : m < xs.length), PyData.eqv (toPy xs[m]) (toPy y) = eqv xs[m] y := fun m hm => by
              have hok : okPy 60 xs[m] = true := Z.okPyL_mem hc.2 (List.getElem_mem hm)
              exact eqv_py 60 _ _ 60 hok hc.1
            refine ⟨a', v2, toPy y, toPyL xs, j, toPy xs[j], rfl, rfl, .lst (SqL.of (G2.h _ _ h1)) (by rw [ha.hK]; exact p1), by rw [ha.hK]; exact q1, shaped_of (n := 61) (by simp only [PyData.canLay0]; exact p2) (by simp only [PyData.depth]; omega) (by decide), shaped_of q2 q3 (by decide), ?_, ?_, ?_, ?_⟩
            · rw [toPyL_map, List.getElem?_map, List.getElem?_eq_getElem hj]; rfl
            · rw [ep]; exact hj2
            · intro m z' hm hz'
              have hml : m < xs.length := by omega
              rw [toPyL_map, List.getElem?_map, List.getElem?_eq_getElem hml] at hz'
              cases hz'
              rw [ep]
              exact Bool.eq_false_iff.mpr (hj3 m hm)
            · exact q _ [] F2 H2 (G1.trans G2) (.int _)
        · exact q.elim
end
end Z

set_option Elab.async false
set_option linter.all false
set_option maxRecDepth 100000
set_option maxHeartbeats 1000000
/-! ZJ: expressions that change what the frame owns: f : En → Fv D, the value is data -/
namespace Z
open PySem L2
inductive Fv (α : Type) where
  | ok (a : α) (e : En) | ex (x : D) (e : En) | un
def Fv.bind {α β : Type} (r : Fv α) (f : α → En → Fv β) : Fv β := match r with
  | .ok a e => f a e
  | .ex x e => .ex x e
  | .un => .un
@[simp] theorem Fv.bind_ok {α β : Type} (a : α) (e : En) (f : α → En → Fv β) : Fv.bind (.ok a e) f = f a e := id rfl
@[simp] theorem Fv.bind_ex {α β : Type} (x : D) (e : En) (f : α → En → Fv β) : Fv.bind (.ex x e) f = .ex x e := id rfl
@[simp] theorem Fv.bind_un {α β : Type} (f : α → En → Fv β) : Fv.bind .un f = .un := id rfl
/-- a pure value in its place -/
def toFv {α : Type} (env : En) : Rs α → Fv α
  | .ok a => .ok a env
  | .ex x => .ex x env
  | .un => .un
@[simp] theorem toFv_ok {α : Type} (env : En) (a : α) : toFv env (.ok a) = .ok a env := id rfl
@[simp] theorem toFv_ex {α : Type} (env : En) (x : D) : toFv env (.ex x : Rs α) = .ex x env := id rfl
@[simp] theorem toFv_un {α : Type} (env : En) : toFv env (.un : Rs α) = .un := id rfl
/-- only data -/
def datV (env : En) (d : D) : Fv D := if isData d then .ok d env else .un
def optV (env : En) : Option D → Fv D
  | some d => datV env d
  | none => .un
/-- an argument: data, or what a slot owns -/
inductive Arg where
  | d (d : D) | s (j : Nat)
inductive RA (K : Kx) (F H : Hp) (σ : St) : List Arg → List V → Prop
  | nil : RA K F H σ [] []
  | d {d : D} {v : V} {as : List Arg} {vs : List V} : R K F H d v [] → RA K F H σ as vs → RA K F H σ (.d d :: as) (v :: vs)
  | s {j : Nat} {v : V} {as : List Arg} {vs : List V} : σ[j]? = some (some v) → RA K F H σ as vs → RA K F H σ (.s j :: as) (v :: vs)
theorem RA.mono {K : Kx} {F H F' H' : Hp} {σ : St} (g : Same F F') : ∀ {as : List Arg} {vs : List V}, RA K F H σ as vs → RA K F' H' σ as vs
  | _, _, .nil => .nil
  | _, _, .d r t => .d (R.mono g _ (fun a z => nomatch z) r) (RA.mono g t)
  | _, _, .s h t => .s h (RA.mono g t)
def datsOf : List Arg → Option (List D)
  | [] => some []
  | .d d :: as => (datsOf as).map (d :: ·)
  | .s _ :: _ => none
@[simp] theorem datsOf_nil : datsOf [] = some [] := id rfl
@[simp] theorem datsOf_d (d : D) (as : List Arg) : datsOf (.d d :: as) = (datsOf as).map (d :: ·) := id rfl
/-- the one slot at place t -/
def lentOf : Nat → List Arg → Option (List D × Nat × List D)
  | 0, .s j :: as => (datsOf as).map fun ds => ([], j, ds)
  | t + 1, .d d :: as => (lentOf t as).map fun p => (d :: p.1, p.2)
  | _, _ => none
@[simp] theorem lentOf_0 (j : Nat) (as : List Arg) : lentOf 0 (.s j :: as) = (datsOf as).map fun ds => ([], j, ds) := id rfl
@[simp] theorem lentOf_s (t : Nat) (d : D) (as : List Arg) : lentOf (t + 1) (.d d :: as) = (lentOf t as).map fun p => (d :: p.1, p.2) := id rfl
theorem datsOf_at {K : Kx} {F H : Hp} {σ : St} : ∀ {as : List Arg} {vs : List V} {ds : List D}, RA K F H σ as vs → datsOf as = some ds → RL K F H ds vs []
  | _, _, _, .nil, e => by cases e; exact .nil
  | _, _, _, .s _ _, e => nomatch e
  | .d d :: as, _, ds, .d r t, e => by
    have e : (datsOf as).map (d :: ·) = some ds := e
    cases q : datsOf as with
    | none => rw [q] at e; cases e
    | some ds' =>
      rw [q] at e
      cases e
      exact RL.mk0 r (datsOf_at t q)
theorem lentOf_at {K : Kx} {F H : Hp} {σ : St} : ∀ {t : Nat} {as : List Arg} {vs : List V} {ds1 ds2 : List D} {j : Nat}, RA K F H σ as vs → lentOf t as = some (ds1, j, ds2) →
    ∃ v ws1 ws2, vs = ws1 ++ v :: ws2 ∧ σ[j]? = some (some v) ∧ RL K F H ds1 ws1 [] ∧ RL K F H ds2 ws2 [] ∧ ds1.length = t
  | 0, .s j' :: as, _, ds1, ds2, j, .s h t, e => by
    have e : (datsOf as).map (fun ds => (([] : List D), j', ds)) = some (ds1, j, ds2) := e
    cases q : datsOf as with
    | none => rw [q] at e; cases e
    | some ds' =>
      rw [q] at e
      cases e
      exact ⟨_, [], _, rfl, h, .nil, datsOf_at t q, rfl⟩
  | t + 1, .d d :: as, _, ds1, ds2, j, .d r tl, e => by
    have e : (lentOf t as).map (fun p => (d :: p.1, p.2)) = some (ds1, j, ds2) := e
    cases q : lentOf t as with
    | none => rw [q] at e; cases e
    | some p =>
      obtain ⟨p1, p2, p3⟩ := p
      rw [q] at e
      cases e
      obtain ⟨v, ws1, ws2, e1, e2, e3, e4, e5⟩ := lentOf_at tl q
      exact ⟨v, _ :: ws1, ws2, by rw [e1]; rfl, e2, RL.mk0 r e3, e4, by rw [List.length_cons, e5]⟩
  | 0, [], _, _, _, _, _, e => by cases e
  | 0, .d _ :: _, _, _, _, _, _, e => by cases e
  | _ + 1, [], _, _, _, _, _, e => by cases e
  | _ + 1, .s _ :: _, _, _, _, _, _, e => by cases e
section
variable {E : Ent} {W : WX}
def PostX (E : Ent) (W : WX) (F : Hp) (σ : St) (Q : VK) : Fv D → Prop
  | .ok d e => ∀ v F' H', Same F F' → Stt E F' e σ H' → R E.K F' H' d v [] → Q v H'
  | .ex x e => ∀ cls dd F' H', Same F F' → Stt E F' e σ H' → Rx E.K F' H' x cls dd → W cls dd σ H'
  | .un => False
def PostXT (E : Ent) (W : WX) (F : Hp) (σ : St) (Q : Bool → Hp → Prop) : Fv Bool → Prop
  | .ok b e => ∀ F' H', Same F F' → Stt E F' e σ H' → Q b H'
  | .ex x e => ∀ cls dd F' H', Same F F' → Stt E F' e σ H' → Rx E.K F' H' x cls dd → W cls dd σ H'
  | .un => False
def PostXA (E : Ent) (W : WX) (F : Hp) (σ : St) (Q : List V → Hp → Prop) : Fv (List Arg) → Prop
  | .ok as e => ∀ vs F' H', Same F F' → Stt E F' e σ H' → RA E.K F' H' σ as vs → Q vs H'
  | .ex x e => ∀ cls dd F' H', Same F F' → Stt E F' e σ H' → Rx E.K F' H' x cls dd → W cls dd σ H'
  | .un => False
/-- a list made anew -/
def PostXL (E : Ent) (W : WX) (F H : Hp) (σ : St) (Q : VK) : Fv (List D) → Prop
  | .ok ds e => ∀ p vs F' H', Same F F' → Stt E F' e σ H' → E.H0 p = none → F' p = none → (∀ fps, RS E.K F' H' e σ fps → ∀ fp ∈ fps, p ∉ fp) → H' p = some (.lst vs) → RL E.K F' H' ds vs [] → ds.length ≤ 16777216 → Q (.ref p) H'
  | .ex x e => ∀ cls dd F' H', Same F F' → Stt E F' e σ H' → Rx E.K F' H' x cls dd → W cls dd σ H'
  | .un => False
theorem PostX.mono {F F1 : Hp} {σ : St} {Q : VK} {r : Fv D} (G : Same F F1) (h : PostX E W F σ Q r) : PostX E W F1 σ Q r := by
  cases r with
  | ok d e => exact fun v F' H' g => h v F' H' (G.trans g)
  | ex x e => exact fun cls dd F' H' g => h cls dd F' H' (G.trans g)
  | un => exact h
theorem PostXT.mono {F F1 : Hp} {σ : St} {Q : Bool → Hp → Prop} {r : Fv Bool} (G : Same F F1) (h : PostXT E W F σ Q r) : PostXT E W F1 σ Q r := by
  cases r with
  | ok d e => exact fun F' H' g => h F' H' (G.trans g)
  | ex x e => exact fun cls dd F' H' g => h cls dd F' H' (G.trans g)
  | un => exact h
theorem PostXA.mono {F F1 : Hp} {σ : St} {Q : List V → Hp → Prop} {r : Fv (List Arg)} (G : Same F F1) (h : PostXA E W F σ Q r) : PostXA E W F1 σ Q r := by
  cases r with
  | ok d e => exact fun vs F' H' g => h vs F' H' (G.trans g)
  | ex x e => exact fun cls dd F' H' g => h cls dd F' H' (G.trans g)
  | un => exact h
def OkX (E : Ent) (W : WX) (t : TE) (f : En → Fv D) : Prop := ∀ F σ H env, Stt E F env σ H → ∀ Q, PostX E W F σ Q (f env) → t σ H Q
def OkXT (E : Ent) (W : WX) (t : TT) (f : En → Fv Bool) : Prop := ∀ F σ H env, Stt E F env σ H → ∀ Q, PostXT E W F σ Q (f env) → t σ H Q
def OkXA (E : Ent) (W : WX) (t : TA) (f : En → Fv (List Arg)) : Prop := ∀ F σ H env, Stt E F env σ H → ∀ Q, PostXA E W F σ Q (f env) → t σ H Q
structure SX (X : Cx) (E : Ent) (W : WX) (e : Expr) (f : En → Fv D) : Prop where
  hK : X.K = E.K.k
  ex : ∃ t, PE X e t ∧ OkX E W t f
structure SXT (X : Cx) (E : Ent) (W : WX) (e : Expr) (f : En → Fv Bool) : Prop where
  hK : X.K = E.K.k
  ex : ∃ t, PT X e t ∧ OkXT E W t f
structure SXW (X : Cx) (E : Ent) (W : WX) (e : Expr) (f : En → Fv Bool) : Prop where
  hK : X.K = E.K.k
  ex : ∃ t, PW X e t ∧ OkXT E W t f
structure SXA (X : Cx) (E : Ent) (W : WX) (es : List Expr) (f : En → Fv (List Arg)) : Prop where
  hK : X.K = E.K.k
  ex : ∃ t, PA X es t ∧ OkXA E W t f
end
section
variable {X : Cx} {E : Ent} {W : WX} {e a b : Expr} {f g : En → Rs D} {fx gx : En → Fv D} {tx ux : En → Fv Bool} {pos : Pos}
def xDat (f : En → Rs D) : En → Fv D := fun env => (toFv env (f env)).bind fun d e => datV e d
theorem SX.dat (h : SE X E W e f) : SX X E W e (xDat f) := by
  obtain ⟨t, p, k⟩ := h.ex
  refine ⟨h.hK, t, p, fun F σ H env S Q q => k F σ H env S Q ?_⟩
  unfold xDat at q
  cases e1 : f env with
  | un => rw [e1] at q; exact q
  | ex x => rw [e1] at q; exact fun cls dd F' H' G r => q cls dd F' H' G.f (S.grow G) r
  | ok d =>
    rw [e1, toFv_ok, Fv.bind_ok] at q
    unfold datV at q
    split at q
    · rename_i hd
      exact fun v fp F' H' G r => q v F' H' G.f (S.grow G) (r.toData hd)
    · exact q.elim
def xTst (f : En → Rs Bool) : En → Fv Bool := fun env => toFv env (f env)
theorem SXT.dat {f : En → Rs Bool} (h : ST X E W e f) : SXT X E W e (xTst f) := by
  obtain ⟨t, p, k⟩ := h.ex
  refine ⟨h.hK, t, p, fun F σ H env S Q q => k F σ H env S Q ?_⟩
  unfold xTst at q
  cases e1 : f env with
  | un => rw [e1] at q; exact q
  | ex x => rw [e1] at q; exact fun cls dd F' H' G r => q cls dd F' H' G.f (S.grow G) r
  | ok d => rw [e1] at q; exact fun F' H' G => q F' H' G.f (S.grow G)
def xBin (op : D → D → Option D) (f g : En → Fv D) : En → Fv D := fun env => (f env).bind fun a e => (g e).bind fun b e2 => optV e2 (op a b)
theorem two_okX {ta tb : TE} {r : R2} {op : D → D → Option D} (ha : OkX E W ta fx) (hb : OkX E W tb gx)
    (hr : ∀ F H x y d1 d2 fp1 fp2 d, Same F H → R E.K F H d1 x fp1 → R E.K F H d2 y fp2 → op d1 d2 = some d → ∀ Q : VK, (∀ v fp F' H', Grow F H F' H' → R E.K F' H' d v fp → Q v H') → r x y H Q) :
    OkX E W (tOp r ta tb) (xBin op fx gx) := by
  intro F σ H env S Q h
  refine ha F σ H env S _ ?_
  unfold xBin at h
  cases e1 : fx env with
  | un => rw [e1] at h; exact h
  | ex x e => rw [e1] at h; exact h
  | ok d1 e =>
    rw [e1, Fv.bind_ok] at h
    intro v1 F1 H1 G1 S1 r1
    refine hb F1 σ H1 e S1 _ ?_
    cases e2 : gx e with
    | un => rw [e2] at h; exact h
    | ex x e' => rw [e2] at h; exact PostX.mono (r := .ex x e') G1 h
    | ok d2 e' =>
      rw [e2, Fv.bind_ok] at h
      intro v2 F2 H2 G2 S2 r2
      cases e3 : op d1 d2 with
      | none => rw [e3] at h; exact h.elim
      | some d =>
        rw [e3] at h
        have h : PostX E W F σ Q (if isData d then .ok d e' else .un) := h
        split at h
        · rename_i hd
          exact hr F2 H2 v1 v2 d1 d2 [] [] d S2.fH (R.mono G2 _ (fun a z => nomatch z) r1) r2 e3 Q fun v fp F' H' G k => h v F' H' ((G1.trans G2).trans G.f) (S2.grow G) (k.toData hd)
        · exact h.elim
theorem SX.bin {o : Operator} {op : D → D → Option D} (ho : OpS X E (binaryOp o) op) (ha : SX X E W a fx) (hb : SX X E W b gx) : SX X E W (.BinOp a o b pos) (xBin op fx gx) := by
  obtain ⟨r, h1, h2⟩ := ho
  obtain ⟨ta, pa, ka⟩ := ha.ex
  obtain ⟨tb, pb, kb⟩ := hb.ex
  exact ⟨ha.hK, _, pe_op h1 pa pb, two_okX ka kb h2⟩
theorem SX.cmp {o : CmpOp} {op : D → D → Option D} (ho : OpS X E (compareOp o) op) (ha : SX X E W a fx) (hb : SX X E W b gx) (hm : behindInMarks o b = false := by first | exact nomark _ | rfl) : SX X E W (.Compare a [o] [b] pos) (xBin op fx gx) := by
  obtain ⟨r, h1, h2⟩ := ho
  obtain ⟨ta, pa, ka⟩ := ha.ex
  obtain ⟨tb, pb, kb⟩ := hb.ex
  exact ⟨ha.hK, _, pe_cmpR h1 pa pb hm, two_okX ka kb h2⟩
def asBV (env : En) : D → Fv Bool
  | .bl b => .ok b env
  | _ => .un
def xB (f : En → Fv D) : En → Fv Bool := fun env => (f env).bind fun d e => asBV e d
theorem testX_ok {t : TE} (h : OkX E W t fx) : OkXT E W (tTest t) (xB fx) := by
  intro F σ H env S Q q
  refine h F σ H env S _ ?_
  unfold xB at q
  cases e : fx env with
  | un => rw [e] at q; exact q
  | ex x e' => rw [e] at q; exact q
  | ok d e' =>
    rw [e, Fv.bind_ok] at q
    intro v F' H' G S' r
    cases d <;> first | exact q.elim | skip
    cases r
    exact ⟨_, rfl, q F' H' G S'⟩
theorem SXT.cmp {o : CmpOp} {op : D → D → Option D} (ho : OpS X E (compareOp o) op) (ha : SX X E W a fx) (hb : SX X E W b gx) (hm : behindInMarks o b = false := by first | exact nomark _ | rfl) : SXT X E W (.Compare a [o] [b] pos) (xB (xBin op fx gx)) := by
  obtain ⟨r, h1, h2⟩ := ho
  obtain ⟨ta, pa, ka⟩ := ha.ex
  obtain ⟨tb, pb, kb⟩ := hb.ex
  exact ⟨ha.hK, _, pt_cmpR h1 pa pb hm, testX_ok (two_okX ka kb h2)⟩
def xTru (f : En → Fv D) : En → Fv Bool := fun env => (f env).bind fun d e => toFv e (truD d)
theorem SXT.tru (ha : SX X E W a fx) (he : ∀ whole, isTrue a X.env whole = (do let v ← whole; standAt a.pos; holding [v] (truthy v)) := by intro _; rfl) : SXT X E W a (xTru fx) := by
  obtain ⟨t, p, k⟩ := ha.ex
  refine ⟨ha.hK, _, pt_truth p he, fun F σ H env S Q q => ?_⟩
  refine k F σ H env S _ ?_
  unfold xTru at q
  cases e : fx env with
  | un => rw [e] at q; exact q
  | ex x e' => rw [e] at q; exact q
  | ok d e' =>
    rw [e, Fv.bind_ok] at q
    intro v F' H' G S' r
    cases e2 : truD d with
    | un => rw [e2] at q; exact q.elim
    | ex x =>
      exfalso
      cases d <;> cases e2
    | ok b =>
      rw [e2] at q
      exact ⟨b, by rw [ha.hK]; exact tru_at S'.fH r e2, q F' H' G S'⟩
variable {rest : List Expr}
def xAnd (f g : En → Fv Bool) : En → Fv Bool := fun env => (f env).bind fun b e => if b then g e else .ok false e
def xOr (f g : En → Fv Bool) : En → Fv Bool := fun env => (f env).bind fun b e => if b then .ok true e else g e
def xNot (f : En → Fv Bool) : En → Fv Bool := fun env => (f env).bind fun b e => .ok (!b) e
theorem SXW.and1 (ha : SXT X E W a tx) : SXW X E W (.BoolOp .And [a] pos) tx := by
  obtain ⟨t, p, k⟩ := ha.ex
  exact ⟨ha.hK, _, pw_and1 p, k⟩
theorem SXW.or1 (ha : SXT X E W a tx) : SXW X E W (.BoolOp .Or [a] pos) tx := by
  obtain ⟨t, p, k⟩ := ha.ex
  exact ⟨ha.hK, _, pw_or1 p, k⟩
theorem SXW.and (ha : SXT X E W a tx) (hb : SXW X E W (.BoolOp .And (b :: rest) pos) ux) : SXW X E W (.BoolOp .And (a :: b :: rest) pos) (xAnd tx ux) := by
  obtain ⟨t, p, k⟩ := ha.ex
  obtain ⟨u, p', k'⟩ := hb.ex
  refine ⟨ha.hK, _, pw_and p p', fun F σ H env S Q q => ?_⟩
  refine k F σ H env S _ ?_
  unfold xAnd at q
  cases e : tx env with
  | un => rw [e] at q; exact q
  | ex x e' => rw [e] at q; exact q
  | ok b e' =>
    rw [e, Fv.bind_ok] at q
    intro F' H' G S'
    cases b with
    | true => exact k' F' σ H' e' S' Q (PostXT.mono G q)
    | false => exact q F' H' G S'
theorem SXW.or (ha : SXT X E W a tx) (hb : SXW X E W (.BoolOp .Or (b :: rest) pos) ux) : SXW X E W (.BoolOp .Or (a :: b :: rest) pos) (xOr tx ux) := by
  obtain ⟨t, p, k⟩ := ha.ex
  obtain ⟨u, p', k'⟩ := hb.ex
  refine ⟨ha.hK, _, pw_or p p', fun F σ H env S Q q => ?_⟩
  refine k F σ H env S _ ?_
  unfold xOr at q
  cases e : tx env with
  | un => rw [e] at q; exact q
  | ex x e' => rw [e] at q; exact q
  | ok b e' =>
    rw [e, Fv.bind_ok] at q
    intro F' H' G S'
    cases b with
    | true => exact q F' H' G S'
    | false => exact k' F' σ H' e' S' Q (PostXT.mono G q)
theorem SXT.w (h : SXW X E W a tx) : SXT X E W a tx := by
  obtain ⟨t, p, k⟩ := h.ex
  exact ⟨h.hK, _, p.pt, k⟩
theorem SXT.not (ha : SXT X E W a tx) : SXT X E W (.UnaryOp .Not a pos) (xNot tx) := by
  obtain ⟨t, p, k⟩ := ha.ex
  refine ⟨ha.hK, _, pt_not p, fun F σ H env S Q q => ?_⟩
  refine k F σ H env S _ ?_
  unfold xNot at q
  cases e : tx env with
  | un => rw [e] at q; exact q
  | ex x e' => rw [e] at q; exact q
  | ok b e' =>
    rw [e, Fv.bind_ok] at q
    exact fun F' H' G S' => q F' H' G S'
def xIf (c : En → Fv Bool) (f g : En → Fv D) : En → Fv D := fun env => (c env).bind fun b e => if b then f e else g e
theorem SX.ite {c : Expr} (hc : SXT X E W c tx) (ha : SX X E W a fx) (hb : SX X E W b gx) : SX X E W (.IfExp c a b pos) (xIf tx fx gx) := by
  obtain ⟨t, p, k⟩ := hc.ex
  obtain ⟨u, p', k'⟩ := ha.ex
  obtain ⟨u2, p2, k2⟩ := hb.ex
  refine ⟨ha.hK, _, pe_ifExp p p' p2, fun F σ H env S Q q => ?_⟩
  refine k F σ H env S _ ?_
  unfold xIf at q
  cases e : tx env with
  | un => rw [e] at q; exact q
  | ex x e' => rw [e] at q; exact q
  | ok b e' =>
    rw [e, Fv.bind_ok] at q
    intro F' H' G S'
    cases b with
    | true => exact k' F' σ H' e' S' Q (PostX.mono G q)
    | false => exact k2 F' σ H' e' S' Q (PostX.mono G q)
def xAndV (f g : En → Fv D) : En → Fv D := fun env => (f env).bind fun d e => (asBV e d).bind fun b e => if b then g e else .ok (.bl false) e
def xOrV (f g : En → Fv D) : En → Fv D := fun env => (f env).bind fun d e => (asBV e d).bind fun b e => if b then .ok (.bl true) e else g e
def xNotB (f : En → Fv D) : En → Fv D := fun env => (f env).bind fun d e => (asBV e d).bind fun b e => .ok (.bl (!b)) e
theorem SX.one {op : BoolOp} (ha : SX X E W a fx) : SX X E W (.BoolOp op [a] pos) fx := by
  obtain ⟨t, p, k⟩ := ha.ex
  exact ⟨ha.hK, _, pe_one p, k⟩
theorem SX.and (ha : SX X E W a fx) (hb : SX X E W (.BoolOp .And (b :: rest) pos) gx) : SX X E W (.BoolOp .And (a :: b :: rest) pos) (xAndV fx gx) := by
  obtain ⟨t, p, k⟩ := ha.ex
  obtain ⟨u, p', k'⟩ := hb.ex
  refine ⟨ha.hK, _, pe_and p p', fun F σ H env S Q q => ?_⟩
  refine k F σ H env S _ ?_
  unfold xAndV at q
  cases e : fx env with
  | un => rw [e] at q; exact q
  | ex x e' => rw [e] at q; exact q
  | ok d e' =>
    rw [e, Fv.bind_ok] at q
    intro v F' H' G S' r
    cases d <;> first | exact q.elim | skip
    rename_i b
    cases r
    have q : PostX E W F σ Q (if b then gx e' else .ok (.bl false) e') := q
    refine ⟨b, rfl, ?_⟩
    cases b with
    | true => exact k' F' σ H' e' S' Q (PostX.mono G q)
    | false => exact q _ F' H' G S' (.bl false)
theorem SX.or (ha : SX X E W a fx) (hb : SX X E W (.BoolOp .Or (b :: rest) pos) gx) : SX X E W (.BoolOp .Or (a :: b :: rest) pos) (xOrV fx gx) := by
  obtain ⟨t, p, k⟩ := ha.ex
  obtain ⟨u, p', k'⟩ := hb.ex
  refine ⟨ha.hK, _, pe_or p p', fun F σ H env S Q q => ?_⟩
  refine k F σ H env S _ ?_
  unfold xOrV at q
  cases e : fx env with
  | un => rw [e] at q; exact q
  | ex x e' => rw [e] at q; exact q
  | ok d e' =>
    rw [e, Fv.bind_ok] at q
    intro v F' H' G S' r
    cases d <;> first | exact q.elim | skip
    rename_i b
    cases r
    have q : PostX E W F σ Q (if b then .ok (.bl true) e' else gx e') := q
    refine ⟨b, rfl, ?_⟩
    cases b with
    | true => exact q _ F' H' G S' (.bl true)
    | false => exact k' F' σ H' e' S' Q (PostX.mono G q)
theorem SX.not (ha : SX X E W a fx) : SX X E W (.UnaryOp .Not a pos) (xNotB fx) := by
  obtain ⟨t, p, k⟩ := ha.ex
  refine ⟨ha.hK, _, pe_not p, fun F σ H env S Q q => ?_⟩
  refine k F σ H env S _ ?_
  unfold xNotB at q
  cases e : fx env with
  | un => rw [e] at q; exact q
  | ex x e' => rw [e] at q; exact q
  | ok d e' =>
    rw [e, Fv.bind_ok] at q
    intro v F' H' G S' r
    cases d <;> first | exact q.elim | skip
    rename_i b
    cases r
    exact ⟨b, rfl, q _ F' H' G S' (.bl _)⟩
theorem SX.ix (ha : SX X E W a fx) (hb : SX X E W b gx) (hp : PlainIx b := by exact fun _ _ => rfl) : SX X E W (.Subscript a b pos) (xBin pIx fx gx) := by
  obtain ⟨ta, pa, ka⟩ := ha.ex
  obtain ⟨tb, pb, kb⟩ := hb.ex
  obtain ⟨r, h1, h2⟩ := ixS (E := E) ha.hK
  exact ⟨ha.hK, _, pe_ix h1 pa pb hp, two_okX ka kb h2⟩
end
end Z

set_option Elab.async false
set_option linter.all false
set_option maxRecDepth 100000
set_option maxHeartbeats 1000000
/-! ZK: what is lent to a callee and comes back changed -/
namespace Z
open PySem L2
mutual
def noBor : D → Bool
  | .olst xs => noBorL xs
  | .odic _ _ vs => noBorL vs
  | .oob _ _ vs => noBorL vs
  | .bor _ _ => false
  | _ => true
def noBorL : List D → Bool
  | [] => true
  | x :: xs => noBor x && noBorL xs
end
theorem noBor_data : ∀ {d : D}, isData d = true → noBor d = true := by
  intro d h
  cases d <;> first | rfl | (cases h; done)
theorem noBorL_data : ∀ {ds : List D}, ds.all isData = true → noBorL ds = true
  | [], _ => by simp [noBorL]
  | d :: ds, h => by
    rw [List.all_cons, Bool.and_eq_true] at h
    simp only [noBorL, noBor_data h.1, noBorL_data h.2, Bool.and_self]
mutual
theorem R.reL {K K' : Kx} {F H : Hp} (hk : K'.k = K.k) (hc : K'.ca = K.ca) : ∀ (d : D) {v : V} {fp : List Addr}, noBor d = true → R K F H d v fp → R K' F H d v fp
  | .non, _, _, _, h => by cases h; exact .non
  | .bl _, _, _, _, h => by cases h; exact .bl _
  | .int _, _, _, _, h => by cases h; exact .int _
  | .str _, _, _, _, h => by
    cases h with
    | str k => exact .str k
  | .tup ds, _, _, _, h => R.reK hk hc _ (h.data rfl) h |> fun r => by have e := h.data rfl; rw [e]; exact r
  | .lst ds, _, _, _, h => R.reK hk hc _ (h.data rfl) h |> fun r => by have e := h.data rfl; rw [e]; exact r
  | .olst ds, _, _, z, h => by
    have z : noBorL ds = true := by simpa only [noBor] using z
    cases h with
    | olst a b c => exact .olst a (RL.reL hk hc ds z b) c
  | .dic t ks ds, _, _, _, h => R.reK hk hc _ (h.data rfl) h |> fun r => by have e := h.data rfl; rw [e]; exact r
  | .odic t ks ds, _, _, z, h => by
    have z : noBorL ds = true := by simpa only [noBor] using z
    cases h with
    | odicK a b c d => exact .odicK a (RL.reL hk hc ds z b) c d
    | odicT a b c d => exact .odicT a (RL.reL hk hc ds z b) c d
  | .set _, _, _, _, h => nomatch h
  | .oset _, _, _, _, h => nomatch h
  | .ob c ns ds, _, _, _, h => R.reK hk hc _ (h.data rfl) h |> fun r => by have e := h.data rfl; rw [e]; exact r
  | .oob c ns ds, _, _, z, h => by
    have z : noBorL ds = true := by simpa only [noBor] using z
    cases h with
    | oob a b c d => exact .oob (by rw [hc]; exact a) b (RL.reL hk hc ds z c) d
  | .scr _, _, _, _, h => R.reK hk hc _ (h.data rfl) h |> fun r => by have e := h.data rfl; rw [e]; exact r
  | .bor _ _, _, _, z, h => by simp [noBor] at z
  | .exn _ _ _ _ _ _, _, _, _, h => by
    cases h with
    | exn a b c => rw [← hc]; exact .exn a (RL.reK hk hc _ rfl b) c
theorem RL.reL {K K' : Kx} {F H : Hp} (hk : K'.k = K.k) (hc : K'.ca = K.ca) : ∀ (ds : List D) {vs : List V} {fp : List Addr}, noBorL ds = true → RL K F H ds vs fp → RL K' F H ds vs fp
  | [], _, _, _, h => by cases h; exact .nil
  | d :: ds, _, _, z, h => by
    have z : noBor d = true ∧ noBorL ds = true := by simpa only [noBorL, Bool.and_eq_true] using z
    cases h with
    | cons h1 h2 => exact .cons (R.reL hk hc d z.1 h1) (RL.reL hk hc ds z.2 h2)
end
/-- the outcome of a callee with one thing lent: the value and the thing behind it -/
inductive Fw where
  | ok (r d : D) | ex (x d : D) | un
def PostW (K : Kx) (F H : Hp) (v : V) (fp : List Addr) (Q : VK) (Ex : XK) : Fw → Prop
  | .ok r d => ∀ u F' H' fp', Chg F H F' H' fp fp' → fp' ≠ [] → noBor d = true → R K F' H' d v fp' → R K F' H' r u [] → Q u H'
  | .ex x d => ∀ cls dd F' H' fp', Chg F H F' H' fp fp' → fp' ≠ [] → noBor d = true → R K F' H' d v fp' → Rx K F' H' x cls dd → Ex cls dd H'
  | .un => False
def spL (K : Kx) (n t : Nat) (m : List D → Fw) : Sp := fun vs H Q Ex => ∃ ds1 d ds2 F ws1 a ws2 fp, vs = ws1 ++ .ref a :: ws2 ∧ Same F H ∧ RL K F H ds1 ws1 [] ∧ RL K F H ds2 ws2 [] ∧ R K F H d (.ref a) fp ∧ fp ≠ [] ∧ fp.Nodup ∧ (∀ b ∈ fp, F b = none) ∧
  noBor d = true ∧ ds1.length = t ∧ ds1.length + 1 + ds2.length = n ∧ PostW K F H (.ref a) fp Q Ex (m (ds1 ++ d :: ds2))
def lendT (k : Nat) : Nat → List D → List D
  | _, [] => []
  | 0, d :: ds => .bor k d :: ds
  | t + 1, d :: ds => d :: lendT k t ds
def backL (t : Nat) (e : En) (k : D → Fw) : Fw := match e[t]? with
  | some (some (.bor t' d)) => if t' = t ∧ noBor d = true then k d else .un
  | _ => .un
def outL (t : Nat) : Fl → Fw
  | .rt r e => backL t e fun d => .ok r d
  | .nx e => backL t e fun d => .ok .non d
  | .xx x e => backL t e fun d => .ex x d
  | _ => .un
def runL (g : En → Fl) (n t : Nat) (ds : List D) : Fw := outL t (g (start0 n (lendT t t ds)))
theorem lendT_app (k : Nat) (d : D) (ds2 : List D) : ∀ ds1 : List D, lendT k ds1.length (ds1 ++ d :: ds2) = ds1 ++ .bor k d :: ds2
  | [] => rfl
  | x :: ds1 => congrArg (x :: ·) (lendT_app k d ds2 ds1)
/-- no exception leaves it -/
def noXL : Fw → Fw
  | .ok r d => .ok r d
  | _ => .un
@[simp] theorem noXL_ok (r d : D) : noXL (.ok r d) = .ok r d := id rfl
def runL0 (g : En → Fl) (n t : Nat) (ds : List D) : Fw := noXL (runL g n t ds)
def NoXL (m : List D → Fw) : Prop := ∀ ds x d, m ds ≠ .ex x d
theorem runL0_nox {g : En → Fl} {n t : Nat} : NoXL (runL0 g n t) := fun ds x d e => by
  unfold runL0 at e
  cases q : runL g n t ds <;> rw [q] at e <;> cases e
/-! ### the return that keeps the slots -/
section
variable {X : Cx} {E : Ent} {W : WX} {e : Expr} {f : En → Rs D} {fx : En → Fv D} {pos : Pos}
def sRetX (f : En → Fv D) : En → Fl := fun env => match f env with
  | .ok d e => .rt d e
  | .ex x e => .xx x e
  | .un => .un
theorem SS.retX (hf : SX X E W e fx) : SS X E W (.Return (some e) pos) (sRetX fx) := by
  obtain ⟨t, p, k⟩ := hf.ex
  refine ⟨hf.hK, _, ps_ret p, fun F σ H env S D q => ?_⟩
  refine k F σ H env S _ ?_
  unfold sRetX at q
  cases e1 : fx env with
  | un => rw [e1] at q; exact q
  | ex x e' => rw [e1] at q; exact fun cls dd F' H' G S' r => q cls dd F' σ H' G S' r
  | ok d e' => rw [e1] at q; exact fun v F' H' G S' r => q v F' σ H' G S' r
def sRetNX : En → Fl := fun e => .rt .non e
theorem SS.retNX (hK : X.K = E.K.k := by rfl) : SS X E W (.Return none pos) sRetNX := ⟨hK, _, ps_retN, fun F σ H env S D q => q _ F σ H (Same.refl _) S .non⟩
def sExprX (f : En → Fv D) : En → Fl := fun env => match f env with
  | .ok _ e => .nx e
  | .ex x e => .xx x e
  | .un => .un
theorem SS.exprX (hf : SX X E W e fx) (hs : swapsWith e none pos.line X.env = pure false := by rfl) : SS X E W (.Expr e pos) (sExprX fx) := by
  obtain ⟨t, p, k⟩ := hf.ex
  refine ⟨hf.hK, _, ps_expr p hs, fun F σ H env S D q => ?_⟩
  refine k F σ H env S _ ?_
  unfold sExprX at q
  cases e1 : fx env with
  | un => rw [e1] at q; exact q
  | ex x e' => rw [e1] at q; exact fun cls dd F' H' G S' r => q cls dd F' σ H' G S' r
  | ok d e' => rw [e1] at q; exact fun v F' H' G S' r => q F' σ H' G S'
def sSetX (i : Nat) (f : En → Fv D) : En → Fl := fun env => match f env with
  | .ok d e => .nx (e.set i (some d))
  | .ex x e => .xx x e
  | .un => .un
theorem SS.setX (i : Nat) {y : Str} {py : Pos} (hf : SX X E W e fx) (hN : X.N.Nodup) (hy : X.N[i]? = some y := by rfl) (hl : Loc X.env.scope y := by first | exact Or.inl rfl | exact Or.inr rfl)
    (hs : swapsWith e (some (.Name y py)) pos.line X.env = pure false := by rfl) (hfn : X.fn y = true ∨ X.env.scope.names.lookup y = some .local := by first | exact .inl rfl | exact .inr rfl) : SS X E W (.Assign [.Name y py] e pos) (sSetX i fx) := by
  obtain ⟨t, p, k⟩ := hf.ex
  refine ⟨hf.hK, _, ps_set hN hy hl p hs hfn, fun F σ H env S D q => ?_⟩
  refine k F σ H env S _ ?_
  unfold sSetX at q
  cases e1 : fx env with
  | un => rw [e1] at q; exact q
  | ex x e' => rw [e1] at q; exact fun cls dd F' H' G S' r => q cls dd F' σ H' G S' r
  | ok d e' => rw [e1] at q; exact fun v F' H' G S' r => q F' _ H' G (S'.setData i r)
def sIfX (c : En → Fv Bool) (g h : En → Fl) : En → Fl := fun env => match c env with
  | .ok true e => g e
  | .ok false e => h e
  | .ex x e => .xx x e
  | .un => .un
theorem SS.iteX {c : Expr} {tc : En → Fv Bool} {a b : List Stmt} {gs gt : En → Fl} (hc : SXT X E W c tc) (ha : SB X E W a gs) (hb : SB X E W b gt) : SS X E W (.If c a b pos) (sIfX tc gs gt) := by
  obtain ⟨t, p, k⟩ := hc.ex
  obtain ⟨u, p', k'⟩ := ha.ex
  obtain ⟨u2, p2, k2⟩ := hb.ex
  refine ⟨hc.hK, _, ps_if p p' p2, fun F σ H env S D q => ?_⟩
  refine k F σ H env S _ ?_
  unfold sIfX at q
  cases e1 : tc env with
  | un => rw [e1] at q; exact q
  | ex x e' => rw [e1] at q; exact fun cls dd F' H' G S' r => q cls dd F' σ H' G S' r
  | ok b e' =>
    rw [e1] at q
    intro F' H' G S'
    cases b with
    | true => exact k' F' σ H' e' S' D (q.mono G)
    | false => exact k2 F' σ H' e' S' D (q.mono G)
def sUnpX (h : D → En → Option En) (f : En → Fv D) : En → Fl := fun env => match f env with
  | .ok d e => match h d e with
      | some e => .nx e
      | none => .un
  | .ex x e => .xx x e
  | .un => .un
theorem SS.unpX {tg : Expr} {is : List Nat} {h : D → En → Option En} (hg : SG X E tg is h) (hf : SX X E W e fx) (hs : swapsWithSole [tg] e pos.line X.env = pure false := by rfl) (hw : swappedStores [tg] e X.env = pure none := by rfl)
    (h1 : (assignEach [tg] X.env).map (·.2) = [assign tg X.env] := by rfl) : SS X E W (.Assign [tg] e pos) (sUnpX h fx) := by
  obtain ⟨t, p, k⟩ := hf.ex
  obtain ⟨u, p', k'⟩ := hg.ex
  refine ⟨hf.hK, _, ps_asg p p' hs hw h1, fun F σ H env S D q => ?_⟩
  refine k F σ H env S _ ?_
  unfold sUnpX at q
  cases e1 : fx env with
  | un => rw [e1] at q; exact q
  | ex x e' => rw [e1] at q; exact fun cls dd F' H' G S' r => q cls dd F' σ H' G S' r
  | ok d e' =>
    rw [e1] at q
    dsimp only at q
    intro v F1 H1 G1 S1 r1
    cases e2 : h d e' with
    | none => rw [e2] at q; exact q.elim
    | some en =>
      rw [e2] at q
      exact k' F1 σ H1 e' d v S1 r1 _ ⟨en, e2, fun σ' S' _ _ => q F1 σ' H1 G1 S'⟩
/-! ### arguments -/
def xaNil : En → Fv (List Arg) := fun env => .ok [] env
def xaD (f : En → Fv D) (g : En → Fv (List Arg)) : En → Fv (List Arg) := fun env => (f env).bind fun d e => (g e).bind fun as e => .ok (.d d :: as) e
def xaS (j : Nat) (g : En → Fv (List Arg)) : En → Fv (List Arg) := fun env => match env[j]? with
  | some (some _) => (g env).bind fun as e => .ok (.s j :: as) e
  | _ => .un
theorem SXA.nil (hK : X.K = E.K.k := by rfl) : SXA X E W [] xaNil := ⟨hK, _, pa_nil, fun F σ H env S Q q => q [] F H (Same.refl _) S .nil⟩
theorem SXA.d {es : List Expr} {ga : En → Fv (List Arg)} (ha : SX X E W e fx) (hr : SXA X E W es ga) (hs : starEach (e :: es) X.env = (false, eval e X.env) :: starEach es X.env := by rfl) : SXA X E W (e :: es) (xaD fx ga) := by
  obtain ⟨t, p, k⟩ := ha.ex
  obtain ⟨u, p', k'⟩ := hr.ex
  refine ⟨ha.hK, _, pa_cons p p' hs, fun F σ H env S Q q => ?_⟩
  refine k F σ H env S _ ?_
  unfold xaD at q
  cases e1 : fx env with
  | un => rw [e1] at q; exact q
  | ex x e' => rw [e1] at q; exact q
  | ok d e' =>
    rw [e1, Fv.bind_ok] at q
    intro v F1 H1 G1 S1 r1
    refine k' F1 σ H1 e' S1 _ ?_
    cases e2 : ga e' with
    | un => rw [e2] at q; exact q
    | ex x e2' => rw [e2] at q; exact PostXA.mono (r := .ex x e2') G1 q
    | ok as e2' =>
      rw [e2, Fv.bind_ok] at q
      intro vs F2 H2 G2 S2 r2
      exact q _ F2 H2 (G1.trans G2) S2 (.d (R.mono G2 _ (fun a z => nomatch z) r1) r2)
theorem SXA.s {es : List Expr} {ga : En → Fv (List Arg)} (j : Nat) {x : Str} {p : Pos} (hr : SXA X E W es ga) (hN : X.N[j]? = some x := by rfl) (hv : Vis X.env.scope x := by first | exact Or.inl rfl | exact Or.inr (Or.inl rfl) | exact Or.inr (Or.inr rfl))
    (hd : (x == ("__debug__" : Str)) = false := by decide) (hcd : (x == ("__classdict__" : Str)) = false := by decide) (hs : starEach (.Name x p :: es) X.env = (false, eval (.Name x p) X.env) :: starEach es X.env := by rfl) : SXA X E W (.Name x p :: es) (xaS j ga) := by
  obtain ⟨u, p', k'⟩ := hr.ex
  refine ⟨hr.hK, _, pa_cons (pe_var hN hv hd hcd) p' hs, fun F σ H env S Q q => ?_⟩
  unfold xaS at q
  split at q
  · rename_i d he
    obtain ⟨fps, rs, _⟩ := S.rep
    obtain ⟨v, fp, h1, _, _⟩ := rs.get he
    refine ⟨v, h1, k' F σ H env S _ ?_⟩
    cases e2 : ga env with
    | un => rw [e2] at q; exact q
    | ex x e2' => rw [e2] at q; exact q
    | ok as e2' =>
      rw [e2, Fv.bind_ok] at q
      exact fun vs F2 H2 G2 S2 r2 => q _ F2 H2 G2 S2 (.s h1 r2)
  · exact q.elim
/-! ### calls -/
def xCallB (g : List D → Option D) (fa : En → Fv (List Arg)) : En → Fv D := fun env => (fa env).bind fun as e => match datsOf as with
  | some ds => optV e (g ds)
  | none => .un
theorem cb_okX {r : List V → Hp → VK → Prop} {t : TA} {fa : En → Fv (List Arg)} {g : List D → Option D} (ka : OkXA E W t fa)
    (hr : ∀ F H vs ds fp d, Same F H → RL E.K F H ds vs fp → g ds = some d → ∀ Q : VK, (∀ v fp F' H', Grow F H F' H' → R E.K F' H' d v fp → Q v H') → r vs H Q) : OkX E W (tCB r t) (xCallB g fa) := by
  intro F σ H env S Q q
  refine ka F σ H env S _ ?_
  unfold xCallB at q
  cases e1 : fa env with
  | un => rw [e1] at q; exact q
  | ex x e' => rw [e1] at q; exact q
  | ok as e' =>
    rw [e1, Fv.bind_ok] at q
    intro vs F1 H1 G1 S1 r1
    cases e2 : datsOf as with
    | none => rw [e2] at q; exact q.elim
    | some ds =>
      rw [e2] at q
      dsimp only at q
      cases e3 : g ds with
      | none => rw [e3] at q; exact q.elim
      | some d =>
        rw [e3] at q
        have q : PostX E W F σ Q (if isData d then .ok d e' else .un) := q
        split at q
        · rename_i hd
          exact hr F1 H1 vs ds [] d S1.fH (datsOf_at r1 e2) e3 Q fun v fq F' H' G k => q v F' H' (G1.trans G.f) (S1.grow G) (k.toData hd)
        · exact q.elim
theorem SX.callB {x : Str} {id : String} {p : Pos} {es : List Expr} {fa : En → Fv (List Arg)} {g : List D → Option D} (hb : BS X E (.builtin id) g) (hm : X.mg x = none) (hv : bootBuiltins x = some (.builtin id)) (ha : SXA X E W (e :: es) fa) (hg : Gl X x := by rfl)
    (hn : x ≠ "__name__" := by decide) (hdb : (x == ("__debug__" : Str)) = false := by decide)
    (he : starEach (e :: es) X.env = (false, eval e X.env) :: starEach es X.env := by rfl) (hpl : (backTo pos (starEach es X.env)).any (·.1) = false := by rfl) : SX X E W (.Call (.Name x p) (e :: es) [] pos) (xCallB g fa) := by
  obtain ⟨t, pa, ka⟩ := ha.ex
  obtain ⟨r, h1, h2⟩ := hb
  exact ⟨ha.hK, _, pe_callB h1 hg hm hv pa hn hdb he hpl, cb_okX ka h2⟩
theorem SX.callT {x : Str} {T : String} {p : Pos} {es : List Expr} {fa : En → Fv (List Arg)} {g : List D → Option D} (hb : BS X E (.type T) g) (hm : X.mg x = none) (hv : bootBuiltins x = some (.type T)) (ha : SXA X E W (e :: es) fa) (hg : Gl X x := by rfl)
    (hn : x ≠ "__name__" := by decide) (hdb : (x == ("__debug__" : Str)) = false := by decide)
    (he : starEach (e :: es) X.env = (false, eval e X.env) :: starEach es X.env := by rfl) (hpl : (backTo pos (starEach es X.env)).any (·.1) = false := by rfl) : SX X E W (.Call (.Name x p) (e :: es) [] pos) (xCallB g fa) := by
  obtain ⟨t, pa, ka⟩ := ha.ex
  obtain ⟨r, h1, h2⟩ := hb
  exact ⟨ha.hK, _, pe_callTy h1 hg hm hv pa hn hdb he hpl, cb_okX ka h2⟩
def xTup (fa : En → Fv (List Arg)) : En → Fv D := fun env => (fa env).bind fun as e => match datsOf as with
  | some ds => if ds.length ≤ 16777216 then .ok (.tup ds) e else .un
  | none => .un
theorem SX.tup {es : List Expr} {fa : En → Fv (List Arg)} {k1} (h : SXA X E W es fa) : SX X E W (.Tuple es k1 pos) (xTup fa) := by
  obtain ⟨t, p, k⟩ := h.ex
  refine ⟨h.hK, _, pe_tup p, fun F σ H env S Q q => ?_⟩
  refine k F σ H env S _ ?_
  unfold xTup at q
  cases e1 : fa env with
  | un => rw [e1] at q; exact q
  | ex x e' => rw [e1] at q; exact q
  | ok as e' =>
    rw [e1, Fv.bind_ok] at q
    intro vs F1 H1 G1 S1 r1
    cases e2 : datsOf as with
    | none => rw [e2] at q; exact q.elim
    | some ds =>
      rw [e2] at q
      dsimp only at q
      split at q
      · rename_i hl
        have r0 := datsOf_at r1 e2
        refine ⟨by rw [r0.len]; exact hl, fun pp hp => ?_⟩
        exact q _ _ _ (G1.trans (Grow.new S1.fH hp).f) (S1.grow (Grow.new S1.fH hp)) (.tup upd_same (r0.grow (Grow.new S1.fH hp)) hl)
      · exact q.elim
/-- a call of a def of the program that lends nothing -/
def xApp (n : Nat) (m : List D → Rs D) (fa : En → Fv (List Arg)) : En → Fv D := fun env => (fa env).bind fun as e => match datsOf as with
  | some ds => if ds.length = n then (toFv e (m ds)).bind fun d e => datV e d else .un
  | none => .un
theorem SX.callX {x : Str} {p : Pos} {es : List Expr} {k n : Nat} {fa_ : Addr} {fd : FuncData} {ps : List Str} {m : List D → Rs D} {fa : En → Fv (List Arg)} (tk : Takes X W)
    (F : FnOk X.prog X.w X.K X.mg X.base (L2.CX X.prog X.w) k fa_ fd ps (spP E.K n m)) (hr : Room k X.A) (hm : X.mg x = some (.ref fa_)) (hk : PySem.W.keepIn X.K (.ref fa_) = true) (hb : Binds X.K fd ps []) (ha : SXA X E W (e :: es) fa) (hg : Gl X x := by rfl)
    (hdb : (x == ("__debug__" : Str)) = false := by decide) (he : starEach (e :: es) X.env = (false, eval e X.env) :: starEach es X.env := by rfl) (hpl : (backTo pos (starEach es X.env)).any (·.1) = false := by rfl) :
    SX X E W (.Call (.Name x p) (e :: es) [] pos) (xApp n m fa) := by
  obtain ⟨t, pa, ka⟩ := ha.ex
  refine ⟨ha.hK, _, pe_callW (W := W) (F.raw hb .nil) hr hk hg hm (passW_of tk) pa hdb he hpl, fun Fz σ H env S Q q => ?_⟩
  refine ka Fz σ H env S _ ?_
  unfold xApp at q
  cases e1 : fa env with
  | un => rw [e1] at q; exact q
  | ex x e' => rw [e1] at q; exact q
  | ok as e' =>
    rw [e1, Fv.bind_ok] at q
    intro vs F1 H1 G1 S1 r1
    cases e2 : datsOf as with
    | none => rw [e2] at q; exact q.elim
    | some ds =>
      rw [e2] at q
      dsimp only at q
      split at q
      · rename_i hl
        rw [List.append_nil]
        refine ⟨ds, F1, S1.fH, datsOf_at r1 e2, hl, ?_⟩
        cases e3 : m ds with
        | un => rw [e3] at q; exact q
        | ex x => rw [e3] at q; exact fun cls dd F' H' G r => q cls dd F' H' (G1.trans G.f) (S1.grow G) r
        | ok d =>
          rw [e3] at q
          have q : PostX E W Fz σ Q (if isData d then .ok d e' else .un) := q
          split at q
          · exact fun v F' H' G r => q v F' H' (G1.trans G.f) (S1.grow G) r
          · exact q.elim
      · exact q.elim
theorem SX.call0 {x : Str} {p : Pos} {es : List Expr} {k n : Nat} {fa_ : Addr} {fd : FuncData} {ps : List Str} {m : List D → Rs D} {fa : En → Fv (List Arg)}
    (F : FnOk X.prog X.w X.K X.mg X.base CX0 k fa_ fd ps (spP E.K n m)) (hx : NoX m) (hr : Room k X.A) (hm : X.mg x = some (.ref fa_)) (hk : PySem.W.keepIn X.K (.ref fa_) = true) (hb : Binds X.K fd ps []) (ha : SXA X E W (e :: es) fa) (hg : Gl X x := by rfl)
    (hdb : (x == ("__debug__" : Str)) = false := by decide) (he : starEach (e :: es) X.env = (false, eval e X.env) :: starEach es X.env := by rfl) (hpl : (backTo pos (starEach es X.env)).any (·.1) = false := by rfl) :
    SX X E W (.Call (.Name x p) (e :: es) [] pos) (xApp n m fa) := by
  obtain ⟨t, pa, ka⟩ := ha.ex
  refine ⟨ha.hK, _, pe_call F hr hg hm hk hb .nil pass0 pa hdb he hpl, fun Fz σ H env S Q q => ?_⟩
  refine ka Fz σ H env S _ ?_
  unfold xApp at q
  cases e1 : fa env with
  | un => rw [e1] at q; exact q
  | ex x e' => rw [e1] at q; exact q
  | ok as e' =>
    rw [e1, Fv.bind_ok] at q
    intro vs F1 H1 G1 S1 r1
    cases e2 : datsOf as with
    | none => rw [e2] at q; exact q.elim
    | some ds =>
      rw [e2] at q
      dsimp only at q
      split at q
      · rename_i hl
        rw [List.append_nil]
        refine ⟨ds, F1, S1.fH, datsOf_at r1 e2, hl, ?_⟩
        cases e3 : m ds with
        | un => rw [e3] at q; exact q
        | ex x => exact absurd e3 (hx ds x)
        | ok d =>
          rw [e3] at q
          have q : PostX E W Fz σ Q (if isData d then .ok d e' else .un) := q
          split at q
          · exact fun v F' H' G r => q v F' H' (G1.trans G.f) (S1.grow G) r
          · exact q.elim
      · exact q.elim
/-- owned things -/
def isOwn : D → Bool
  | .olst _ => true
  | .odic _ _ _ => true
  | .oob _ _ _ => true
  | _ => false
theorem R.own_ref {K : Kx} {F H : Hp} {d : D} {v : V} {fp : List Addr} (r : R K F H d v fp) (h : isOwn d = true) : ∃ a, v = .ref a ∧ fp ≠ [] := by
  cases r <;> first | (cases h; done) | exact ⟨_, rfl, List.cons_ne_nil _ _⟩
/-- a call that lends the slot's thing as argument number t -/
def xLend (n t : Nat) (m : List D → Fw) (fa : En → Fv (List Arg)) : En → Fv D := fun env => (fa env).bind fun as e => match lentOf t as with
  | some (ds1, j, ds2) => match e[j]? with
    | some (some d0) => if isOwn (peel d0) = true ∧ noBor (peel d0) = true ∧ ds1.length + 1 + ds2.length = n then
        match m (ds1 ++ peel d0 :: ds2) with
        | .ok r d => datV (e.set j (some (putRoot d0 d))) r
        | .ex x d => .ex x (e.set j (some (putRoot d0 d)))
        | .un => .un
      else .un
    | _ => .un
  | none => .un
theorem lend_ok {t : TA} {n pt : Nat} {m : List D → Fw} {fa : En → Fv (List Arg)} (ka : OkXA E W t fa) :
    OkX E W (fun σ H Q => t σ H fun vs H1 => spL E.K n pt m vs H1 Q (fun c d H' => W c d σ H')) (xLend n pt m fa) := by
  intro F σ H env S Q q
  refine ka F σ H env S _ ?_
  unfold xLend at q
  cases e1 : fa env with
  | un => rw [e1] at q; exact q
  | ex x e' => rw [e1] at q; exact q
  | ok as e' =>
    rw [e1, Fv.bind_ok] at q
    intro vs F1 H1 G1 S1 r1
    cases e2 : lentOf pt as with
    | none => rw [e2] at q; exact q.elim
    | some p =>
      obtain ⟨ds1, j, ds2⟩ := p
      rw [e2] at q
      dsimp only at q
      obtain ⟨v, ws1, ws2, ev, hs, rl1, rl2, hlt⟩ := lentOf_at r1 e2
      split at q
      · rename_i d0 he
        split at q
        · rename_i hc
          obtain ⟨v0, u, fq, g1, r2, n2, f2, hroot, hatv, kk⟩ := S1.chg (p := []) he (show subD d0 [] = some (peel d0) from rfl)
          obtain rfl := hroot rfl
          rw [hs] at g1
          cases g1
          obtain ⟨a, rfl, hne⟩ := r2.own_ref hc.1
          refine ⟨ds1, peel d0, ds2, F1, ws1, a, ws2, fq, ev, S1.fH, rl1, rl2, r2, hne, n2, f2, hc.2.1, hlt, hc.2.2, ?_⟩
          cases e3 : m (ds1 ++ peel d0 :: ds2) with
          | un => rw [e3] at q; exact q
          | ex x d => rw [e3] at q; exact fun cls dd F' H' fp' C hn hb r rx => q cls dd F' H' (G1.trans C.f) (kk F' H' d fp' C hn r) rx
          | ok r d =>
            rw [e3] at q
            have q : PostX E W F σ Q (if isData r then .ok r (e'.set j (some (putRoot d0 d))) else .un) := q
            split at q
            · exact fun w F' H' fp' C hn hb r2 rr => q w F' H' (G1.trans C.f) (kk F' H' d fp' C hn r2) rr
            · exact q.elim
        · exact q.elim
      · exact q.elim
theorem SX.lendX {x : Str} {p : Pos} {es : List Expr} {k n t : Nat} {fa_ : Addr} {fd : FuncData} {ps : List Str} {m : List D → Fw} {fa : En → Fv (List Arg)} (tk : Takes X W)
    (F : FnOk X.prog X.w X.K X.mg X.base (L2.CX X.prog X.w) k fa_ fd ps (spL E.K n t m)) (hr : Room k X.A) (hm : X.mg x = some (.ref fa_)) (hk : PySem.W.keepIn X.K (.ref fa_) = true) (hb : Binds X.K fd ps []) (ha : SXA X E W (e :: es) fa) (hg : Gl X x := by rfl)
    (hdb : (x == ("__debug__" : Str)) = false := by decide) (he : starEach (e :: es) X.env = (false, eval e X.env) :: starEach es X.env := by rfl) (hpl : (backTo pos (starEach es X.env)).any (·.1) = false := by rfl) :
    SX X E W (.Call (.Name x p) (e :: es) [] pos) (xLend n t m fa) := by
  obtain ⟨u, pa, ka⟩ := ha.ex
  have q := pe_callW (W := W) (p := p) (F.raw hb .nil) hr hk hg hm (passW_of tk) pa hdb he hpl
  simp only [List.append_nil] at q
  exact ⟨ha.hK, _, q, lend_ok ka⟩
theorem SX.lend0 {x : Str} {p : Pos} {es : List Expr} {k n t : Nat} {fa_ : Addr} {fd : FuncData} {ps : List Str} {m : List D → Fw} {fa : En → Fv (List Arg)}
    (F : FnOk X.prog X.w X.K X.mg X.base CX0 k fa_ fd ps (spL E.K n t m)) (hr : Room k X.A) (hm : X.mg x = some (.ref fa_)) (hk : PySem.W.keepIn X.K (.ref fa_) = true) (hb : Binds X.K fd ps []) (ha : SXA X E W (e :: es) fa) (hg : Gl X x := by rfl)
    (hdb : (x == ("__debug__" : Str)) = false := by decide) (he : starEach (e :: es) X.env = (false, eval e X.env) :: starEach es X.env := by rfl) (hpl : (backTo pos (starEach es X.env)).any (·.1) = false := by rfl) :
    SX X E W (.Call (.Name x p) (e :: es) [] pos) (xLend n t m fa) := by
  obtain ⟨u, pa, ka⟩ := ha.ex
  have q := pe_callW (W := W) (p := p) (F.raw hb .nil) hr hk hg hm passW0 pa hdb he hpl
  simp only [List.append_nil] at q
  exact ⟨ha.hK, _, q, lend_ok ka⟩
end
end Z

set_option Elab.async false
set_option linter.all false
set_option maxRecDepth 100000
set_option maxHeartbeats 1000000
/-! ZL: defs with a lent parameter; comprehensions whose parts change what the frame owns -/
namespace Z
open PySem L2
theorem rs_app {K : Kx} {F H : Hp} {env : En} {σ : St} {fps : List (List Addr)} : ∀ {ds : List D} {vs : List V}, RL K F H ds vs [] → RS K F H env σ fps → RS K F H (ds.map some ++ env) (vs.map some ++ σ) (List.replicate ds.length [] ++ fps)
  | [], vs, h, r => by
    have : vs = [] := by cases vs with | nil => rfl | cons a b => exact absurd h.len (by simp)
    subst this
    exact r
  | d :: ds, vs, h, r => by
    obtain ⟨v, vs', rfl, h1, h2⟩ := h.inv_cons
    rw [List.length_cons, List.replicate_succ]
    exact .som h1 (rs_app h2 r)
section
variable {P : Program} {w : World} {K : Kx} {mg : Str → Option Value} {base : Heap}
theorem lent_start {F H : Hp} {ds1 ds2 : List D} {d : D} {ws1 ws2 : List V} {a : Addr} {fp : List Addr} {N : List Str} (hs : Same F H) (h1 : RL K F H ds1 ws1 []) (h2 : RL K F H ds2 ws2 []) (r : R K F H d (.ref a) fp) (hne : fp ≠ []) (hnd : fp.Nodup) (hF : ∀ b ∈ fp, F b = none) (hb : noBor d = true) :
    Stt ⟨⟨K.k, K.ca, fun _ => a⟩, H, F, fun i => if i = ds1.length then fp else []⟩ F (start0 N.length (ds1 ++ .bor ds1.length d :: ds2)) (L2.start N (ws1 ++ .ref a :: ws2)) H := by
  have r' : R ⟨K.k, K.ca, fun _ => a⟩ F H (.bor ds1.length d) (.ref a) fp := .bor (R.reL (K := K) (K' := ⟨K.k, K.ca, fun _ => a⟩) rfl rfl d hb r) rfl hne
  have l1 : RL ⟨K.k, K.ca, fun _ => a⟩ F H ds1 ws1 [] := RL.reK (K := K) (K' := ⟨K.k, K.ca, fun _ => a⟩) rfl rfl ds1 rfl h1
  have l2 : RL ⟨K.k, K.ca, fun _ => a⟩ F H ds2 ws2 [] := RL.reK (K := K) (K' := ⟨K.k, K.ca, fun _ => a⟩) rfl rfl ds2 rfl h2
  have hsome := r.fp_some d
  refine ⟨Same.refl _, hs, fun b o e _ => e, fun b o e _ => rfl, fun i b hb => ?_, List.replicate ds1.length [] ++ fp :: List.replicate (ds2.length + (N.length - (ds1.length + (ds2.length + 1)))) [], ?_, ?_, ?_⟩
  · have hb : b ∈ (if i = ds1.length then fp else ([] : List Addr)) := hb
    split at hb
    · exact hsome b hb
    · cases hb
  · unfold start0 L2.start
    rw [List.length_append, List.length_append, List.length_cons, List.length_cons, h1.len, h2.len, List.map_append, List.map_append, List.append_assoc, List.append_assoc]
    exact rs_app l1 (.som r' (rs_start _ l2))
  · rw [List.flatten_append, List.flatten_cons, flat_nil, flat_nil, List.append_nil, List.nil_append]
    exact hnd
  · intro i fq hi b hbq
    by_cases hlt : i < ds1.length
    · rw [List.getElem?_append_left (by rw [List.length_replicate]; exact hlt), List.getElem?_replicate, if_pos hlt] at hi
      cases hi; cases hbq
    · rw [List.getElem?_append_right (by rw [List.length_replicate]; omega), List.length_replicate] at hi
      cases hk : i - ds1.length with
      | zero =>
        rw [hk] at hi
        cases hi
        exact ⟨hF b hbq, .inr (by show b ∈ (if i = ds1.length then fp else ([] : List Addr)); rw [if_pos (by omega)]; exact hbq)⟩
      | succ k =>
        rw [hk, List.getElem?_cons_succ, List.getElem?_replicate] at hi
        split at hi
        · cases hi; cases hbq
        · cases hi
theorem lent_end {F H F' H' : Hp} {t : Nat} {a : Addr} {fp : List Addr} {env : En} {σ : L2.St} (S : Stt ⟨⟨K.k, K.ca, fun _ => a⟩, H, F, fun i => if i = t then fp else []⟩ F' env σ H') {d : D} (he : env[t]? = some (some (.bor t d))) (hb : noBor d = true) :
    ∃ fp', Chg F H F' H' fp fp' ∧ fp' ≠ [] ∧ R K F' H' d (.ref a) fp' := by
  obtain ⟨fps, rs, nd, fr⟩ := S.rep
  obtain ⟨v, fp', g1, g2, g3⟩ := rs.get he
  have off : ∀ b, b ∉ fp → ∀ i, b ∉ (fun i => if i = t then fp else ([] : List Addr)) i := fun b hb i z => by
    dsimp only at z
    split at z
    · exact hb z
    · cases z
  cases g3 with
  | bor r ev hn =>
    subst ev
    refine ⟨fp', ⟨S.le0, S.fH, fun b o e hq => S.keep b o e (off b hq), fun b o e hq => S.old b o e (off b hq), fun b hq => S.ownS t b (by show b ∈ (if t = t then fp else ([] : List Addr)); rw [if_pos rfl]; exact hq), fun b hq => ?_, nodup_get nd g2⟩, hn, R.reL (K := ⟨K.k, K.ca, fun _ => a⟩) (K' := K) rfl rfl d hb r⟩
    obtain ⟨h1, h2⟩ := fr t fp' g2 b hq
    refine ⟨h1, ?_⟩
    rcases h2 with h2 | h2
    · exact .inr h2
    · have h2 : b ∈ (if t = t then fp else ([] : List Addr)) := h2
      rw [if_pos rfl] at h2
      exact .inl h2
theorem backL_inv {t : Nat} {e : En} {k : D → Fw} {K : Kx} {F H : Hp} {v : V} {fp : List Addr} {Q : VK} {Ex : XK} (h : PostW K F H v fp Q Ex (backL t e k)) : ∃ d, e[t]? = some (some (.bor t d)) ∧ noBor d = true ∧ PostW K F H v fp Q Ex (k d) := by
  unfold backL at h
  split at h
  · rename_i t' d he
    split at h
    · rename_i hc
      obtain ⟨rfl, hb⟩ := hc
      exact ⟨d, he, hb, h⟩
    · exact h.elim
  · exact h.elim
theorem fnLX {x qual : Str} {st : Stmt} {f : Addr} {fd : FuncData} {N ps : List Str} {k np n t : Nat} {g : En → Fl} {m : List D → Fw} (Fn : Fun K.k x qual st f fd) (S : FnScope N ps (defScope st))
    (hm : m = runL g n t) (hn : N.length = n) (hp : ps.length = np)
    (hb : ∀ (cdv : Value) (A : Around) (outer : List Env) (s : Shared) (H : Hp) (Ex : XK) (F0 : Hp) (a : Addr) (fp : List Addr), Room k (A.deeper (PyProof.Rows.envOfC qual (defScope st) s.heap.objs.size f cdv)) →
      SB (cxOf (L2.CX P w) P w K.k mg base N qual (defScope st) f cdv A outer s H Ex) ⟨⟨K.k, K.ca, fun _ => a⟩, H, F0, fun i => if i = t then fp else []⟩ (fun c d _ H' => Ex c d H') (defBody st) g) : FnOk P w K.k mg base (L2.CX P w) (k + 1) f fd ps (spL K np t m) := by
  subst hm hn hp
  refine Fn.okX S (fun vs H Q E h => ?_) (fun cdv A outer s H vs Q Ex hr h => ?_)
  · obtain ⟨ds1, d, ds2, F, ws1, a, ws2, fp, rfl, _, h1, h2, _, _, _, _, _, _, hl, _⟩ := h
    rw [List.length_append, List.length_cons, h1.len, h2.len]; omega
  · obtain ⟨ds1, d, ds2, F, ws1, a, ws2, fp, rfl, hs, h1, h2, r, hne, hnd, hF, hnb, rfl, hl, q⟩ := h
    obtain ⟨t, p, k⟩ := (hb cdv A outer s H Ex F a fp hr).ex
    refine ⟨t, p, k F _ H _ (lent_start hs h1 h2 r hne hnd hF hnb) _ ?_⟩
    unfold runL at q
    rw [lendT_app] at q
    cases e : g (start0 N.length (ds1 ++ .bor ds1.length d :: ds2)) with
    | nx en =>
      rw [e] at q
      intro F' σ' H' G S'
      obtain ⟨d', he, hb', q⟩ := backL_inv q
      obtain ⟨fp', C, hn', r'⟩ := lent_end S' he hb'
      exact q _ F' H' fp' C hn' hb' r' .non
    | bk en => rw [e] at q; exact q.elim
    | ct en => rw [e] at q; exact q.elim
    | rt z en =>
      rw [e] at q
      intro v F' σ' H' G S' rz
      obtain ⟨d', he, hb', q⟩ := backL_inv q
      obtain ⟨fp', C, hn', r'⟩ := lent_end S' he hb'
      exact q _ F' H' fp' C hn' hb' r' (R.reK (K := ⟨K.k, K.ca, fun _ => a⟩) (K' := K) rfl rfl z rfl rz)
    | xx z en =>
      rw [e] at q
      intro cls dd F' σ' H' G S' rz
      obtain ⟨d', he, hb', q⟩ := backL_inv q
      obtain ⟨fp', C, hn', r'⟩ := lent_end S' he hb'
      exact q cls dd F' H' fp' C hn' hb' r' (Rx.reK (K := ⟨K.k, K.ca, fun _ => a⟩) (K' := K) rfl rfl rz)
    | un => rw [e] at q; exact q
theorem fnL {x qual : Str} {st : Stmt} {f : Addr} {fd : FuncData} {N ps : List Str} {k np n t : Nat} {g : En → Fl} {m : List D → Fw} (Fn : Fun K.k x qual st f fd) (S : FnScope N ps (defScope st))
    (hm : m = runL0 g n t) (hn : N.length = n) (hp : ps.length = np)
    (hb : ∀ (cdv : Value) (A : Around) (outer : List Env) (s : Shared) (H : Hp) (Ex : XK) (F0 : Hp) (a : Addr) (fp : List Addr), Room k (A.deeper (PyProof.Rows.envOfC qual (defScope st) s.heap.objs.size f cdv)) →
      SB (cxOf CX0 P w K.k mg base N qual (defScope st) f cdv A outer s H Ex).nox ⟨⟨K.k, K.ca, fun _ => a⟩, H, F0, fun i => if i = t then fp else []⟩ W0 (defBody st) g) : FnOk P w K.k mg base CX0 (k + 1) f fd ps (spL K np t m) := by
  subst hm hn hp
  refine Fn.ok S (fun vs H Q E h => ?_) (fun cdv A outer s H vs Q Ex hr h => ?_)
  · obtain ⟨ds1, d, ds2, F, ws1, a, ws2, fp, rfl, _, h1, h2, _, _, _, _, _, _, hl, _⟩ := h
    rw [List.length_append, List.length_cons, h1.len, h2.len]; omega
  · obtain ⟨ds1, d, ds2, F, ws1, a, ws2, fp, rfl, hs, h1, h2, r, hne, hnd, hF, hnb, rfl, hl, q⟩ := h
    obtain ⟨t, p, k⟩ := (hb cdv A outer s H Ex F a fp hr).ex
    refine ⟨t, p, k F _ H _ (lent_start hs h1 h2 r hne hnd hF hnb) _ ?_⟩
    unfold runL0 runL at q
    rw [lendT_app] at q
    cases e : g (start0 N.length (ds1 ++ .bor ds1.length d :: ds2)) with
    | nx en =>
      rw [e] at q
      intro F' σ' H' G S'
      have q : PostW K F H (.ref a) fp Q Ex (noXL (backL ds1.length en fun d => .ok .non d)) := q
      have q : PostW K F H (.ref a) fp Q Ex (backL ds1.length en fun d => .ok .non d) := by
        cases e2 : backL ds1.length en fun d => .ok .non d <;> rw [e2] at q <;> first | exact q | exact q.elim
      obtain ⟨d', he, hb', q⟩ := backL_inv q
      obtain ⟨fp', C, hn', r'⟩ := lent_end S' he hb'
      exact q _ F' H' fp' C hn' hb' r' .non
    | bk en => rw [e] at q; exact q.elim
    | ct en => rw [e] at q; exact q.elim
    | rt z en =>
      rw [e] at q
      intro v F' σ' H' G S' rz
      have q : PostW K F H (.ref a) fp Q Ex (noXL (backL ds1.length en fun d => .ok z d)) := q
      have q : PostW K F H (.ref a) fp Q Ex (backL ds1.length en fun d => .ok z d) := by
        cases e2 : backL ds1.length en fun d => .ok z d <;> rw [e2] at q <;> first | exact q | exact q.elim
      obtain ⟨d', he, hb', q⟩ := backL_inv q
      obtain ⟨fp', C, hn', r'⟩ := lent_end S' he hb'
      exact q _ F' H' fp' C hn' hb' r' (R.reK (K := ⟨K.k, K.ca, fun _ => a⟩) (K' := K) rfl rfl z rfl rz)
    | xx z en =>
      rw [e] at q
      have q : PostW K F H (.ref a) fp Q Ex (noXL (backL ds1.length en fun d => .ex z d)) := q
      exfalso
      unfold backL at q
      split at q
      · split at q <;> exact q.elim
      · exact q.elim
    | un => rw [e] at q; exact q.elim
end
/-! ### the heap as it stands taken as the base -/
theorem RS.len {K : Kx} {F H : Hp} : ∀ {env : En} {σ : St} {fps : List (List Addr)}, RS K F H env σ fps → fps.length ≤ σ.length
  | _, _, _, .nil => Nat.zero_le _
  | _, _, _, .non t => Nat.succ_le_succ (RS.len t)
  | _, _, _, .som _ t => Nat.succ_le_succ (RS.len t)
theorem Stt.reb {E : Ent} {F H : Hp} {env : En} {σ : St} (S : Stt E F env σ H) : ∃ own, Stt ⟨E.K, H, F, own⟩ F env σ H ∧ (∀ i a, a ∈ own i → F a = none ∧ (E.H0 a = none ∨ a ∈ E.own i) ∧ i < σ.length) ∧
    ∀ F2 env2 σ2 H2, Stt ⟨E.K, H, F, own⟩ F2 env2 σ2 H2 → Stt E F2 env2 σ2 H2 := by
  obtain ⟨fps, rs, nd, fr⟩ := S.rep
  have get : ∀ (i : Nat) (a : Addr), a ∈ (fps[i]?).getD [] → ∃ fp, fps[i]? = some fp ∧ a ∈ fp := fun i a h => by
    cases e : fps[i]? with
    | none => rw [e] at h; cases h
    | some fp => rw [e] at h; exact ⟨fp, rfl, h⟩
  have inf : ∀ (i : Nat) (a : Addr), a ∈ (fps[i]?).getD [] → F a = none ∧ (E.H0 a = none ∨ a ∈ E.own i) ∧ i < σ.length := fun i a h => by
    obtain ⟨fp, e, ha⟩ := get i a h
    obtain ⟨h1, h2⟩ := fr i fp e a ha
    exact ⟨h1, h2, Nat.lt_of_lt_of_le (List.getElem?_eq_some_iff.mp e).1 rs.len⟩
  have off : ∀ a o, E.H0 a = some o → (∀ i, a ∉ E.own i) → ∀ i : Nat, a ∉ (fps[i]?).getD [] := fun a o h h2 i hm => by
    obtain ⟨_, h3, _⟩ := inf i a hm
    rcases h3 with h3 | h3
    · rw [h3] at h; cases h
    · exact h2 i h3
  refine ⟨fun i => (fps[i]?).getD [], ⟨Same.refl _, S.fH, fun a o e _ => e, fun a o e _ => rfl, fun i a ha => ?_, fps, rs, nd, fun i fp e a ha => ⟨(fr i fp e a ha).1, .inr ?_⟩⟩, inf, fun F2 env2 σ2 H2 S2 => ?_⟩
  · obtain ⟨fp, e, hm⟩ := get i a ha
    exact rs.fp_some fp (List.mem_of_getElem? e) a hm
  · show a ∈ (fps[i]?).getD []
    rw [e]; exact ha
  · obtain ⟨fps2, rs2, nd2, fr2⟩ := S2.rep
    refine ⟨S.le0.trans S2.le0, S2.fH, fun a o e h => S2.keep a o (S.keep a o e h) (off a o e h), fun a o e h => (S2.old a o (S.keep a o e h) (off a o e h)).trans (S.old a o e h), fun i a ha => ?_, fps2, rs2, nd2, fun i fp e a ha => ?_⟩
    · obtain ⟨o, ho⟩ := S.ownS i a ha
      by_cases hc : ∃ j : Nat, a ∈ (fps[j]?).getD []
      · obtain ⟨j, hj⟩ := hc
        exact S2.ownS j a hj
      · exact ⟨o, S2.keep a o ho fun j hj => hc ⟨j, hj⟩⟩
    · obtain ⟨h1, h2⟩ := fr2 i fp e a ha
      refine ⟨h1, ?_⟩
      rcases h2 with h2 | h2
      · exact .inl (S.h0_none h2)
      · exact (inf i a h2).2.1
/-- a place p apart from all that the frame owns -/
structure SttA (E : Ent) (p : Addr) (F : Hp) (env : En) (σ : St) (H : Hp) : Prop where
  le0 : Same E.F0 F
  fH : Same F H
  keep : ∀ a o, E.H0 a = some o → (∀ i, a ∉ E.own i) → H a = some o
  old : ∀ a o, E.H0 a = some o → (∀ i, a ∉ E.own i) → F a = E.F0 a
  ownS : ∀ i a, a ∈ E.own i → ∃ o, H a = some o
  h0 : E.H0 p = none
  hF : F p = none
  rep : ∃ fps, RS E.K F H env σ fps ∧ fps.flatten.Nodup ∧ (∀ i fp, fps[i]? = some fp → ∀ a ∈ fp, F a = none ∧ (E.H0 a = none ∨ a ∈ E.own i)) ∧ ∀ fp ∈ fps, p ∉ fp
theorem SttA.stt {E : Ent} {p : Addr} {F H : Hp} {env : En} {σ : St} (S : SttA E p F env σ H) : Stt E F env σ H := by
  obtain ⟨fps, a, b, c, _⟩ := S.rep
  exact ⟨S.le0, S.fH, S.keep, S.old, S.ownS, fps, a, b, c⟩
theorem SttA.upd {E : Ent} {p : Addr} {F H : Hp} {env : En} {σ : St} {o : HO} (S : SttA E p F env σ H) (hp : ∀ i, p ∉ E.own i) : SttA E p F env σ (L2.upd H p o) := by
  obtain ⟨fps, a, b, c, d⟩ := S.rep
  refine ⟨S.le0, fun x u e => ?_, fun x u e h => ?_, S.old, fun i x h => ?_, S.h0, S.hF, fps, a.mono (Same.refl _) (fun fp hf x hx => upd_ne fun z => d fp hf (by rw [← z]; exact hx)), b, c, d⟩
  · rw [upd_ne (ne_of_none e S.hF)]; exact S.fH x u e
  · rw [upd_ne fun z => by rw [z, S.h0] at e; cases e]
    exact S.keep x u e h
  · rw [upd_ne fun z => hp i (by rw [← z]; exact h)]
    exact S.ownS i x h
/-- the new list in a slot -/
theorem SttA.setL {E : Ent} {p : Addr} {F H : Hp} {env : En} {σ : St} {ds : List D} {vs : List V} (S : SttA E p F env σ H) (i : Nat) (h : H p = some (.lst vs)) (r : RL E.K F H ds vs []) (hz : ds.length ≤ 16777216) : Stt E F (env.set i (some (.olst ds))) (σ.set i (some (.ref p))) H := by
  obtain ⟨fps, a, b, c, d⟩ := S.rep
  refine ⟨S.le0, S.fH, S.keep, S.old, S.ownS, fps.set i [p], a.set i (.olst h r hz), nodup_set b (nodup1 p) (fun j y _ hy x hx z => ?_), fun j fq hj x hx => ?_⟩
  · rw [List.mem_singleton.mp z] at hx
    exact d y (List.mem_of_getElem? hy) hx
  · rcases mem_set_of hj with ⟨_, e⟩ | hj
    · subst e
      rw [List.mem_singleton.mp hx]
      exact ⟨S.hF, .inl S.h0⟩
    · exact c j fq hj x hx
/-- the new list as data -/
theorem SttA.frz {E : Ent} {p : Addr} {F H : Hp} {env : En} {σ : St} {ds : List D} {vs : List V} (S : SttA E p F env σ H) (h : H p = some (.lst vs)) (r : RL E.K F H ds vs []) (hz : ds.length ≤ 16777216) : ∃ F', Same F F' ∧ Stt E F' env σ H ∧ R E.K F' H (.lst ds) (.ref p) [] := by
  obtain ⟨fps, a, b, c, d⟩ := S.rep
  have gs : Same F (L2.upd F p (.lst vs)) := fun x u e => by rw [upd_ne (ne_of_none e S.hF)]; exact e
  refine ⟨L2.upd F p (.lst vs), gs, ⟨S.le0.trans gs, fun x u e => ?_, S.keep, fun x u e hh => ?_, S.ownS, fps, a.mono gs fun _ _ _ _ => rfl, b, fun i fp hi x hx => ?_⟩, .lst upd_same (RL.mono (fp := []) gs ds (fun _ z => nomatch z) r) hz⟩
  · by_cases hx : x = p
    · subst hx; rw [upd_same] at e; cases e; exact h
    · rw [upd_ne hx] at e; exact S.fH x u e
  · rw [upd_ne fun z => by rw [z, S.h0] at e; cases e]
    exact S.old x u e hh
  · obtain ⟨h1, h2⟩ := c i fp hi x hx
    refine ⟨?_, h2⟩
    rw [upd_ne fun z => d fp (List.mem_of_getElem? hi) (by rw [← z]; exact hx)]
    exact h1
/-! ### new lists by expressions that change -/
def PostYL (E : Ent) (W : WX) (F : Hp) (σ : St) (Q : VK) : Fv (List D) → Prop
  | .ok ds e => ∀ p vs F' H', Same F F' → SttA E p F' e σ H' → H' p = some (.lst vs) → RL E.K F' H' ds vs [] → ds.length ≤ 16777216 → Q (.ref p) H'
  | .ex x e => ∀ cls dd F' H', Same F F' → Stt E F' e σ H' → Rx E.K F' H' x cls dd → W cls dd σ H'
  | .un => False
def OkYL (E : Ent) (W : WX) (t : TE) (f : En → Fv (List D)) : Prop := ∀ F σ H env, Stt E F env σ H → ∀ Q, PostYL E W F σ Q (f env) → t σ H Q
structure SXL (X : Cx) (E : Ent) (W : WX) (e : Expr) (f : En → Fv (List D)) : Prop where
  hK : X.K = E.K.k
  ex : ∃ t, PE X e t ∧ OkYL E W t f
section
variable {X : Cx} {E : Ent} {W : WX} {e : Expr} {fl : En → Fv (List D)} {pos : Pos}
def xOfL (f : En → Fv (List D)) : En → Fv D := fun env => (f env).bind fun ds e => .ok (.lst ds) e
theorem ofYL_ok {t : TE} (k : OkYL E W t fl) : OkX E W t (xOfL fl) := by
  intro F σ H env S Q q
  refine k F σ H env S Q ?_
  unfold xOfL at q
  cases e1 : fl env with
  | un => rw [e1] at q; exact q
  | ex x e' => rw [e1] at q; exact q
  | ok ds e' =>
    rw [e1, Fv.bind_ok] at q
    intro p vs F1 H1 G1 S1 hp r hz
    obtain ⟨F2, g2, S2, r2⟩ := S1.frz hp r hz
    exact q _ F2 H1 (G1.trans g2) S2 r2
theorem SX.ofL (h : SXL X E W e fl) : SX X E W e (xOfL fl) := by
  obtain ⟨t, p, k⟩ := h.ex
  exact ⟨h.hK, t, p, ofYL_ok k⟩
def sSetLX (i : Nat) (f : En → Fv (List D)) : En → Fl := fun env => match f env with
  | .ok ds e => .nx (e.set i (some (.olst ds)))
  | .ex x e => .xx x e
  | .un => .un
theorem setLX_ok {t : TE} {i : Nat} (k : OkYL E W t fl) : OkS E W (tAsg t (gName i)) (sSetLX i fl) := by
  intro F σ H env S D q
  refine k F σ H env S _ ?_
  unfold sSetLX at q
  cases e1 : fl env with
  | un => rw [e1] at q; exact q
  | ex x e' => rw [e1] at q; exact fun cls dd F' H' G S' r => q cls dd F' σ H' G S' r
  | ok ds e' =>
    rw [e1] at q
    exact fun p vs F' H' G S' hp r hz => q F' _ H' G (S'.setL i hp r hz)
theorem SS.setLX (i : Nat) {y : Str} {py : Pos} (hf : SXL X E W e fl) (hN : X.N.Nodup) (hy : X.N[i]? = some y := by rfl) (hl : Loc X.env.scope y := by first | exact Or.inl rfl | exact Or.inr rfl)
    (hs : swapsWith e (some (.Name y py)) pos.line X.env = pure false := by rfl) (hfn : X.fn y = true ∨ X.env.scope.names.lookup y = some .local := by first | exact .inl rfl | exact .inr rfl) : SS X E W (.Assign [.Name y py] e pos) (sSetLX i fl) := by
  obtain ⟨t, p, k⟩ := hf.ex
  exact ⟨hf.hK, _, ps_set hN hy hl p hs hfn, setLX_ok k⟩
end
/-! the comprehension -/
def compXL (h : D → En → Option En) (c : En → Fv Bool) (f : En → Fv D) (own : List Nat) : List D → En → Fv (List D)
  | [], env => .ok [] env
  | d :: ds, env => match h d env with
    | none => .un
    | some e1 => match c e1 with
      | .ok true e2 => match f e2 with
        | .ok y e3 => (compXL h c f own ds (wipeR e3 own)).bind fun ys e => .ok (y :: ys) e
        | _ => .un
      | .ok false e2 => compXL h c f own ds (wipeR e2 own)
      | _ => .un
def xComp (fi : En → Rs (List D)) (h : D → En → Option En) (c : En → Fv Bool) (f : En → Fv D) (own : List Nat) : En → Fv (List D) := fun env => match fi env with
  | .ok ds => match compXL h c f own ds (wipeR env own) with
    | .ok ys e => .ok ys e
    | _ => .un
  | .ex x => .ex x env
  | .un => .un
def NoneAt (own : List Nat) (env : En) : Prop := ∀ i ∈ own, ∀ d, env[i]? ≠ some (some d)
theorem noneAt_wipeR (env : En) : ∀ own : List Nat, NoneAt own (wipeR env own)
  | [] => fun i hi => nomatch hi
  | v :: vs => fun i hi d he => by
    unfold wipeR at he
    by_cases e : v = i
    · subst e
      by_cases hl : v < (wipeR env vs).length
      · rw [List.getElem?_set_self hl] at he; cases he
      · rw [List.getElem?_eq_none (by rw [List.length_set]; omega)] at he; cases he
    · rw [List.getElem?_set_ne e] at he
      rcases List.mem_cons.mp hi with z | z
      · exact e z.symm
      · exact noneAt_wipeR env vs i z d he
theorem RS.unset {K : Kx} {F H : Hp} : ∀ {env : En} {σ : St} {fps : List (List Addr)} (i : Nat) (x : Option V), RS K F H env (σ.set i x) fps → (∀ d, env[i]? ≠ some (some d)) → RS K F H env σ fps
  | [], σ, fps, i, x, h, _ => by
    generalize σ.set i x = τ at h
    cases h
    exact .nil
  | o :: env, [], fps, i, x, h, _ => by simpa using h
  | o :: env, y :: σ, fps, 0, x, h, hn => by
    have h : RS K F H (o :: env) (x :: σ) fps := h
    cases h with
    | non t => exact .non t
    | som r t => exact absurd rfl (hn _)
  | o :: env, y :: σ, fps, i + 1, x, h, hn => by
    have h : RS K F H (o :: env) (y :: σ.set i x) fps := h
    cases h with
    | non t => exact .non (RS.unset i x t fun d => by simpa using hn d)
    | som r t => exact .som r (RS.unset i x t fun d => by simpa using hn d)
theorem RS.unwipe {K : Kx} {F H : Hp} {env : En} {fps : List (List Addr)} {σ : St} : ∀ (own : List Nat), RS K F H env (L2.wipe σ own) fps → NoneAt own env → RS K F H env σ fps
  | [], h, _ => h
  | v :: vs, h, hn => RS.unwipe vs (RS.unset v none h (hn v List.mem_cons_self)) fun i hi => hn i (List.mem_cons_of_mem _ hi)
theorem wipe_wipe (τ : St) (ws : List Nat) : wipe (wipe τ ws) ws = wipe τ ws := by
  apply List.ext_getElem?
  intro j
  by_cases hj : j ∈ ws
  · have key : ∀ (τ : St) (vs : List Nat), j ∈ vs → (wipe τ vs)[j]? = if j < τ.length then some none else none := by
      intro τ vs
      induction vs with
      | nil => intro h; cases h
      | cons w vs ih =>
        intro h
        unfold wipe
        by_cases e : w = j
        · subst e
          by_cases hl : w < τ.length
          · rw [if_pos hl, List.getElem?_set_self (by rw [wipe_length]; exact hl)]
          · rw [if_neg hl, List.getElem?_eq_none (by rw [List.length_set, wipe_length]; omega)]
        · rw [List.getElem?_set_ne e]
          exact ih (by rcases List.mem_cons.mp h with z | z; exact absurd z.symm e; exact z)
    rw [key _ ws hj, key _ ws hj, wipe_length]
  · rw [wipe_out hj]
abbrev WF : WX := fun _ _ _ _ => False
/-- OkG, OkXT, OkX at every base -/
theorem compX_ok {wi : TI} {fi : En → Rs (List D)} {tgg : TG} {tt : TT} {te : TE} {is own : List Nat} {h : D → En → Option En} {c : En → Fv Bool} {f : En → Fv D} {E : Ent} {W : WX} (ki : OkI E W wi fi)
    (kg : ∀ H0 F0 ow, OkG ⟨E.K, H0, F0, ow⟩ is tgg h) (kc : ∀ H0 F0 ow, OkXT ⟨E.K, H0, F0, ow⟩ WF tt c) (kf : ∀ H0 F0 ow, OkX ⟨E.K, H0, F0, ow⟩ WF te f)
    (hs : ∀ i ∈ is, i ∈ own) : OkYL E W (tLc wi tgg tt te own) (xComp fi h c f own) := by
  intro F σ H env S Q q
  refine ki F σ H env S _ ?_
  unfold xComp at q
  cases e1 : fi env with
  | un => rw [e1] at q; exact q
  | ex x => rw [e1] at q; exact fun cls dd F' H' G r => q cls dd F' H' G.f (S.grow G) r
  | ok ds =>
    rw [e1] at q
    dsimp only at q
    cases e2 : compXL h c f own ds (wipeR env own) with
    | un => rw [e2] at q; exact q.elim
    | ex x e' => rw [e2] at q; exact q.elim
    | ok zs ez =>
      rw [e2] at q
      intro J G Y F' H1 Gr hlen wk hG hY Dl hD
      have S' : Stt E F' (wipeR env own) (wipe σ own) H1 := (S.grow Gr).wipeR own
      have hDF : F' Dl = none := same_none Gr.fh hD
      have hD0 : E.H0 Dl = none := S'.h0_none hD
      have hDo : ∀ i, Dl ∉ E.own i := fun i hi => by
        obtain ⟨o, ho⟩ := S'.ownS i Dl hi
        rw [hD] at ho; cases ho
      have A0 : SttA E Dl F' (wipeR env own) (wipe σ own) H1 := by
        obtain ⟨fps, a, b, cc⟩ := S'.rep
        exact ⟨S'.le0, S'.fH, S'.keep, S'.old, S'.ownS, hD0, hDF, fps, a, b, cc, fun fp hf hm => by
          obtain ⟨o, ho⟩ := a.fp_some fp hf Dl hm
          rw [hD] at ho; cases ho⟩
      refine lc_it wk (fun i Hc => ∃ F1 en acc vs ys, Same F' F1 ∧ SttA E Dl F1 en (wipe σ own) Hc ∧ NoneAt own en ∧ Hc Dl = some (.lst vs) ∧ RL E.K F1 Hc acc vs [] ∧ compXL h c f own (ds.drop i) en = .ok ys ez ∧ acc ++ ys = zs ∧ acc.length ≤ i) ?_ ?_ ?_ ?_
      · exact ⟨F', _, [], [], zs, Same.refl _, A0.upd hDo, noneAt_wipeR env own, upd_same, .nil, e2, rfl, Nat.le_refl _⟩
      · rintro i Hc _ ⟨F1, en, acc, vs, ys, g1, A1, _⟩
        exact hG Hc (g1.trans A1.fH)
      · rintro i v Hc Hn hi ⟨F1, en, acc, vs, ys, g1, A1, hna, hDc, hr, hc, hz, hai⟩ hy
        obtain ⟨Fn, Gn, rn⟩ := hY i ds[i] (by simp [hi]) F1 Hc v Hn g1 A1.fH hy
        rw [drop_cons hi] at hc
        unfold compXL at hc
        have hDn : Hn Dl = some (.lst vs) := Gn.h _ _ hDc
        have hFn : Fn Dl = none := (Gn.o Dl _ hDc).trans A1.hF
        have hrn := hr.grow Gn
        have Sn0 := A1.stt.grow Gn
        -- the state at the turn's beginning as the base
        have An : SttA E Dl Fn en (wipe σ own) Hn := by
          obtain ⟨fps, a, b, cc, d⟩ := A1.rep
          have hsome : ∀ fp ∈ fps, ∀ x ∈ fp, Hn x = Hc x := fun fp hf x hx => by
            obtain ⟨o, ho⟩ := a.fp_some fp hf x hx
            rw [ho, Gn.h x o ho]
          refine ⟨Sn0.le0, Sn0.fH, Sn0.keep, Sn0.old, Sn0.ownS, hD0, hFn, fps, a.mono Gn.f hsome, b, fun i fp e x hx => ?_, d⟩
          obtain ⟨h1, h2⟩ := cc i fp e x hx
          obtain ⟨o, ho⟩ := a.fp_some fp (List.mem_of_getElem? e) x hx
          exact ⟨(Gn.o x o ho).trans h1, h2⟩
        -- from a state over the base back, Dl standing as it was
        have base : ∃ ow, Stt ⟨E.K, Hn, Fn, ow⟩ Fn en (wipe σ own) Hn ∧ ∀ F3 en3 σ3 H3, wipe σ3 own = wipe σ own → Stt ⟨E.K, Hn, Fn, ow⟩ F3 en3 σ3 H3 → H3 Dl = some (.lst vs) ∧ SttA E Dl F3 (wipeR en3 own) (wipe σ own) H3 := by
          obtain ⟨fps, rs, nd, fr, fd⟩ := An.rep
          have get : ∀ (i : Nat) (a : Addr), a ∈ (fps[i]?).getD [] → ∃ fp, fps[i]? = some fp ∧ a ∈ fp := fun i a h => by
            cases e : fps[i]? with
            | none => rw [e] at h; cases h
            | some fp => rw [e] at h; exact ⟨fp, rfl, h⟩
          have Sb : Stt ⟨E.K, Hn, Fn, fun i => (fps[i]?).getD []⟩ Fn en (wipe σ own) Hn := by
            refine ⟨Same.refl _, An.fH, fun a o e _ => e, fun a o e _ => rfl, fun i a ha => ?_, fps, rs, nd, fun i fp e a ha => ⟨(fr i fp e a ha).1, .inr ?_⟩⟩
            · obtain ⟨fp, e, hm⟩ := get i a ha
              exact rs.fp_some fp (List.mem_of_getElem? e) a hm
            · show a ∈ (fps[i]?).getD []
              rw [e]; exact ha
          refine ⟨_, Sb, fun F3 en3 σ3 H3 hw S3 => ?_⟩
          have hDoff : ∀ i : Nat, Dl ∉ (fps[i]?).getD [] := fun i hm => by
            obtain ⟨fp, e, hm⟩ := get i Dl hm
            exact fd fp (List.mem_of_getElem? e) hm
          have off : ∀ a o, E.H0 a = some o → (∀ i, a ∉ E.own i) → ∀ i : Nat, a ∉ (fps[i]?).getD [] := fun a o h h2 i hm => by
            obtain ⟨fp, e, hm⟩ := get i a hm
            rcases (fr i fp e a hm).2 with h3 | h3
            · rw [h3] at h; cases h
            · exact h2 i h3
          have S4 := S3.wipeR own
          rw [hw] at S4
          obtain ⟨fps2, rs2, nd2, fr2⟩ := S4.rep
          refine ⟨S3.keep Dl _ hDn hDoff, An.le0.trans S4.le0, S4.fH, fun a o e h => S4.keep a o (An.keep a o e h) (off a o e h), fun a o e h => (S4.old a o (An.keep a o e h) (off a o e h)).trans (An.old a o e h), fun i a ha => ?_, hD0, (S4.old Dl _ hDn hDoff).trans hFn, fps2, rs2, nd2, fun i fp e a ha => ?_, fun fp hf hm => ?_⟩
          · obtain ⟨o, ho⟩ := An.ownS i a ha
            by_cases hcc : ∃ j : Nat, a ∈ (fps[j]?).getD []
            · obtain ⟨j, hj⟩ := hcc
              exact S4.ownS j a hj
            · exact ⟨o, S4.keep a o ho fun j hj => hcc ⟨j, hj⟩⟩
          · obtain ⟨h1, h2⟩ := fr2 i fp e a ha
            refine ⟨h1, ?_⟩
            rcases h2 with h2 | h2
            · exact .inl (An.stt.h0_none h2)
            · obtain ⟨fq, e', hm⟩ := get i a h2
              exact (fr i fq e' a hm).2
          · obtain ⟨i, hi⟩ := List.mem_iff_getElem?.mp hf
            rcases (fr2 i fp hi Dl hm).2 with h2 | h2
            · have h2 : Hn Dl = none := h2
              rw [hDn] at h2; cases h2
            · exact hDoff i h2
        obtain ⟨ow, Sb, back⟩ := base
        cases e3 : h ds[i] en with
        | none => rw [e3] at hc; cases hc
        | some en1 =>
          rw [e3] at hc
          dsimp only at hc
          refine kg Hn Fn ow Fn (wipe σ own) Hn _ ds[i] v Sb rn _ ⟨en1, e3, fun σ2 S2 hoff hl2 => ?_⟩
          have hw : wipe σ2 own = wipe σ own := by
            have := wipe_off (is := is) (vs := own) hoff hl2 hs
            rw [wipe_wipe] at this
            exact this
          refine ⟨hw, kc Hn Fn ow Fn σ2 Hn en1 S2 _ ?_⟩
          cases e4 : c en1 with
          | un => rw [e4] at hc; cases hc
          | ex x e' => rw [e4] at hc; cases hc
          | ok bb en2 =>
            rw [e4] at hc
            intro F3 H3 G3 S3
            cases bb with
            | false =>
              obtain ⟨k1, k2⟩ := back F3 en2 σ2 H3 hw S3
              exact ⟨F3, _, acc, vs, ys, (g1.trans Gn.f).trans G3, k2, noneAt_wipeR en2 own, k1, RL.mono G3 _ (fun a z => nomatch z) hrn, hc, hz, by omega⟩
            | true =>
              show te σ2 H3 _
              dsimp only at hc
              refine kf Hn Fn ow F3 σ2 H3 en2 S3 _ ?_
              cases e5 : f en2 with
              | un => rw [e5] at hc; cases hc
              | ex x e' => rw [e5] at hc; cases hc
              | ok y en3 =>
                rw [e5] at hc
                dsimp only at hc
                cases e6 : compXL h c f own (ds.drop (i + 1)) (wipeR en3 own) with
                | un => rw [e6] at hc; cases hc
                | ex x e' => rw [e6] at hc; cases hc
                | ok ys' e' =>
                  rw [e6] at hc
                  cases hc
                  intro v5 F5 H5 G5 S5 r5
                  obtain ⟨k1, k2⟩ := back F5 en3 σ2 H5 hw S5
                  have hr5 : RL E.K F5 H5 acc vs [] := RL.mono (G3.trans G5) _ (fun a z => nomatch z) hrn
                  have hal : acc.length < ds.length := by omega
                  refine ⟨vs, k1, by rw [hr5.len, ← line_eq]; omega, F5, _, acc ++ [y], vs ++ [v5], ys', ((g1.trans Gn.f).trans G3).trans G5, k2.upd hDo, noneAt_wipeR en3 own, upd_same, ?_, e6, by rw [List.append_assoc]; exact hz, by rw [List.length_append]; simp; omega⟩
                  have hsn := hr5.snoc r5
                  rw [List.append_nil] at hsn
                  exact RL.mono (Same.refl _) _ (fun a z => nomatch z) hsn
      · rintro Hc ⟨F1, en, acc, vs, ys, g1, A1, hna, hDc, hr, hc, hz, hai⟩
        rw [List.drop_length] at hc
        cases hc
        rw [List.append_nil] at hz
        subst hz
        obtain ⟨fps, a, b, cc, d⟩ := A1.rep
        exact q Dl vs F1 Hc (Gr.f.trans g1) ⟨A1.le0, A1.fH, A1.keep, A1.old, A1.ownS, A1.h0, A1.hF, fps, a.unwipe own hna, b, cc, d⟩ hDc hr (by omega)
/-- the element, the tests, the target in the comprehension's own block, at every base -/
structure BlkX (X : Cx) (K : Kx) (scope : Scope) (tg : Expr) (ifs : List Expr) (elt : Expr) (is : List Nat) (h : D → En → Option En) (c : En → Fv Bool) (f : En → Fv D) : Prop where
  g : ∃ t, (∀ (s : Shared) (H : Hp) (C : Addr) (cl : List (Str × Addr)) (fp : List Addr), PG (X.blk s H scope (compEnvC scope cl C X.env) fp) tg t) ∧ ∀ H0 F0 ow, OkG ⟨K, H0, F0, ow⟩ is t h
  c : ∃ t, (∀ (s : Shared) (H : Hp) (C : Addr) (cl : List (Str × Addr)) (fp : List Addr), PTs (X.blk s H scope (compEnvC scope cl C X.env) fp) ifs t) ∧ ∀ H0 F0 ow, OkXT ⟨K, H0, F0, ow⟩ WF t c
  f : ∃ t, (∀ (s : Shared) (H : Hp) (C : Addr) (cl : List (Str × Addr)) (fp : List Addr), PE (X.blk s H scope (compEnvC scope cl C X.env) fp) elt t) ∧ ∀ H0 F0 ow, OkX ⟨K, H0, F0, ow⟩ WF t f
structure SCX (X : Cx) (E : Ent) (ifs : List Expr) (c : En → Fv Bool) : Prop where
  ex : ∃ t, PTs X ifs t ∧ OkXT E WF t c
def cYesX : En → Fv Bool := fun e => .ok true e
theorem SCX.nil {X : Cx} {E : Ent} : SCX X E [] cYesX := ⟨_, pts_nil, fun F σ H env S Q q => q F H (Same.refl _) S⟩
theorem SCX.one {X : Cx} {E : Ent} {c : Expr} {tc : En → Fv Bool} (h : SXT X E WF c tc) : SCX X E [c] tc := by
  obtain ⟨t, p, k⟩ := h.ex
  exact ⟨_, pts_one p, k⟩
section
variable {X : Cx} {E : Ent} {W : WX} {e tg iter : Expr} {pos : Pos} {K : Kx}
theorem BlkX.mk' {scope : Scope} {ifs : List Expr} {elt : Expr} {is : List Nat} {h : D → En → Option En} {c : En → Fv Bool} {f : En → Fv D}
    (hg : ∀ (H0 F0 : Hp) (ow : Nat → List Addr) (s : Shared) (H : Hp) (C : Addr) (cl : List (Str × Addr)) (fp : List Addr), SG (X.blk s H scope (compEnvC scope cl C X.env) fp) ⟨K, H0, F0, ow⟩ tg is h)
    (hc : ∀ (H0 F0 : Hp) (ow : Nat → List Addr) (s : Shared) (H : Hp) (C : Addr) (cl : List (Str × Addr)) (fp : List Addr), SCX (X.blk s H scope (compEnvC scope cl C X.env) fp) ⟨K, H0, F0, ow⟩ ifs c)
    (hf : ∀ (H0 F0 : Hp) (ow : Nat → List Addr) (s : Shared) (H : Hp) (C : Addr) (cl : List (Str × Addr)) (fp : List Addr), SX (X.blk s H scope (compEnvC scope cl C X.env) fp) ⟨K, H0, F0, ow⟩ WF elt f) : BlkX X K scope tg ifs elt is h c f := by
  refine ⟨⟨fun v σ H Q => ∃ H0 F0 ow, ∀ s H1 C cl fp, (hg H0 F0 ow s H1 C cl fp).ex.choose v σ H Q, fun s H0 C cl fp => ⟨fun pins s1 σ H v u Q I r q => ?_⟩, fun H0 F0 ow F σ H env d v S r Q q => ⟨H0, F0, ow, fun s H1 C cl fp => (hg H0 F0 ow s H1 C cl fp).ex.choose_spec.2 F σ H env d v S r Q q⟩⟩,
    ⟨fun σ H Q => ∃ H0 F0 ow, ∀ s H1 C cl fp, (hc H0 F0 ow s H1 C cl fp).ex.choose σ H Q, fun s H0 C cl fp => ⟨fun pins s1 σ H Q I q => ?_⟩, fun H0 F0 ow F σ H env S Q q => ⟨H0, F0, ow, fun s H1 C cl fp => (hc H0 F0 ow s H1 C cl fp).ex.choose_spec.2 F σ H env S Q q⟩⟩,
    ⟨fun σ H Q => ∃ H0 F0 ow, ∀ s H1 C cl fp, (hf H0 F0 ow s H1 C cl fp).ex.choose σ H Q, fun s H0 C cl fp => ⟨fun pins s1 σ H Q I q => ?_⟩, fun H0 F0 ow F σ H env S Q q => ⟨H0, F0, ow, fun s H1 C cl fp => (hf H0 F0 ow s H1 C cl fp).ex.choose_spec.2 F σ H env S Q q⟩⟩⟩
  · obtain ⟨a, b, c', k⟩ := q
    exact (hg a b c' s H0 C cl fp).ex.choose_spec.1.run pins s1 σ H v u Q I r (k s H0 C cl fp)
  · obtain ⟨a, b, c', k⟩ := q
    exact (hc a b c' s H0 C cl fp).ex.choose_spec.1.run pins s1 σ H Q I (k s H0 C cl fp)
  · obtain ⟨a, b, c', k⟩ := q
    exact (hf a b c' s H0 C cl fp).ex.choose_spec.1.run pins s1 σ H Q I (k s H0 C cl fp)
theorem SXL.comp {elt : Expr} {ifs : List Expr} {scope : Scope} {own : List (Str × Nat)} {is : List Nat} {fi : En → Rs (List D)} {h : D → En → Option En} {c : En → Fv Bool} {f : En → Fv D} (hc : X.calm = true) (hN : X.N.Nodup) (hi : SI X E W tg iter fi) (ok : BlkOk X.N X.env.scope scope own)
    (hb : BlkX X E.K scope tg ifs elt is h c f) (hs : ∀ i ∈ is, i ∈ own.map (·.2) := by decide) (hfs : ∀ x, foldedSetIterable iter X.env x = pure x := by intro _; rfl) : SXL X E W (.ListComp elt [⟨tg, iter, ifs, 0⟩] scope pos) (xComp fi h c f (own.map (·.2))) := by
  obtain ⟨wi, p1, k1⟩ := hi.ex
  obtain ⟨tg', p2, k2⟩ := hb.g
  obtain ⟨tc', p3, k3⟩ := hb.c
  obtain ⟨te', p4, k4⟩ := hb.f
  exact ⟨hi.hK, _, pe_lc hc hN p1 ok p2 p3 p4 hfs, compX_ok k1 k2 k3 k4 hs⟩
theorem SS.setCX2 (i : Nat) {y : Str} {py spos : Pos} {elt : Expr} {ifs : List Expr} {scope : Scope} {own : List (Str × Nat)} {is : List Nat} {fi : En → Rs (List D)} {h : D → En → Option En} {c : En → Fv Bool} {f : En → Fv D} (hc : X.calm = true) (hN : X.N.Nodup) (hi : SI X E W tg iter fi) (ok : BlkOk X.N X.env.scope scope own)
    (hb : BlkX X E.K scope tg ifs elt is h c f) (hy : X.N[i]? = some y) (hyl : X.env.scope.names.lookup y = some .local) (hsw : swapsWith (.ListComp elt [⟨tg, iter, ifs, 0⟩] scope pos) (some (.Name y py)) spos.line X.env = pure true) (hs : ∀ i ∈ is, i ∈ own.map (·.2)) (hfs : ∀ x, foldedSetIterable iter X.env x = pure x) :
    SS X E W (.Assign [.Name y py] (.ListComp elt [⟨tg, iter, ifs, 0⟩] scope pos) spos) (sSetLX i (xComp fi h c f (own.map (·.2)))) ∧ SS X E W (.Assign [.Name y py] (.ListComp elt [⟨tg, iter, ifs, 0⟩] scope pos) spos) (sSetX i (xOfL (xComp fi h c f (own.map (·.2))))) := by
  obtain ⟨wi, p1, k1⟩ := hi.ex
  obtain ⟨tg', p2, k2⟩ := hb.g
  obtain ⟨tc', p3, k3⟩ := hb.c
  obtain ⟨te', p4, k4⟩ := hb.f
  have p := ps_setLc hc hN hy hyl hsw p1 ok p2 p3 p4 hfs
  have k := compX_ok (W := W) k1 k2 k3 k4 hs
  refine ⟨⟨hi.hK, _, p, setLX_ok k⟩, ⟨hi.hK, _, p, ?_⟩⟩
  intro F σ H env S D q
  refine ofYL_ok k F σ H env S _ ?_
  unfold sSetX at q
  cases e1 : xOfL (xComp fi h c f (own.map (·.2))) env with
  | un => rw [e1] at q; exact q
  | ex x e' => rw [e1] at q; exact fun cls dd F' H' G S' r => q cls dd F' σ H' G S' r
  | ok d e' => rw [e1] at q; exact fun v F' H' G S' r => q F' _ H' G (S'.setData i r)
end
end Z

set_option Elab.async false
set_option linter.all false
set_option maxRecDepth 100000
set_option maxHeartbeats 1000000
/-! ZM: lists put together anew; append to an owned or a lent list -/
namespace Z
open PySem L2
section
variable {X : Cx} {E : Ent} {W : WX} {e a b : Expr} {f g : En → Rs D} {fx : En → Fv D} {pos : Pos}
/-- a + b, a new list -/
def eCat (f g : En → Rs D) : En → Rs (List D) := fun env => (f env).bind fun a => (g env).bind fun b => ofO ((listOf a).bind fun xs => (listOf b).bind fun ys => if xs.length + ys.length ≤ 16777216 then some (xs ++ ys) else none)
theorem SL.cat (ha : SE X E W a f) (hb : SE X E W b g) : SL X E W (.BinOp a .Add b pos) (eCat f g) := by
  obtain ⟨t, p, k⟩ := ha.ex
  obtain ⟨u, p', k'⟩ := hb.ex
  refine ⟨ha.hK, _, pe_op op_cat p p', fun F σ H env S Q q => ?_⟩
  refine k F σ H env S _ ?_
  unfold eCat at q
  cases e1 : f env with
  | un => rw [e1] at q; exact q
  | ex x => rw [e1] at q; exact q
  | ok d1 =>
    rw [e1, Rs.bind_ok] at q
    intro v1 fp1 F1 H1 G1 r1
    refine k' F1 σ H1 env (S.grow G1) _ ?_
    cases e2 : g env with
    | un => rw [e2] at q; exact q
    | ex x => rw [e2] at q; exact fun cls dd F' H' g => q cls dd F' H' (G1.trans g)
    | ok d2 =>
      rw [e2, Rs.bind_ok] at q
      intro v2 fp2 F2 H2 G2 r2
      cases e3 : listOf d1 with
      | none => rw [e3] at q; exact q.elim
      | some xs =>
        rw [e3, Option.bind_some] at q
        cases e4 : listOf d2 with
        | none => rw [e4] at q; exact q.elim
        | some ys =>
          rw [e4, Option.bind_some] at q
          split at q
          · rename_i hz
            obtain ⟨a', vs, rfl, ha', la, _⟩ := listOf_at G2.fh (r1.grow G2) e3
            obtain ⟨b', us, rfl, hb', lb, _⟩ := listOf_at G2.fh r2 e4
            refine ⟨a', b', vs, us, rfl, rfl, ha', hb', by rw [la.len, lb.len, ← line_eq]; exact hz, fun p hp => ?_⟩
            have G := G1.trans G2
            have hp0 : H p = none := by
              cases q0 : H p with
              | none => rfl
              | some o => rw [G.h _ _ q0] at hp; cases hp
            exact q p _ F2 _ (G.trans (Grow.own G2.fh hp)) hp0 (same_none G2.fh hp) upd_same ((la.app0 lb).grow (Grow.own G2.fh hp)) (by rw [List.length_append]; exact hz)
          · exact q.elim
/-- an owned list's items changed, the list owned by a slot or lent -/
theorem Stt.chgL {F H : Hp} {env : En} {σ : St} {i : Nat} {d0 : D} {ds : List D} {p : List Nat} (S : Stt E F env σ H) (he : env[i]? = some (some d0)) (hp : subD d0 p = some (.olst ds)) :
    ∃ v a vs, σ[i]? = some (some v) ∧ (p = [] → v = .ref a) ∧ AtV H v p (.ref a) ∧ H a = some (.lst vs) ∧ F a = none ∧ (∀ (ds' : List D) (vs' : List V), (∀ fp, RL E.K F H ds vs fp → RL E.K F H ds' vs' fp) → ds'.length ≤ 16777216 → Stt E F (env.set i (some (putD d0 p (.olst ds')))) σ (upd H a (.lst vs'))) ∧ ∃ fp0, RL E.K F H ds vs fp0 := by
  obtain ⟨v, u, fq, g1, r, nd, hF, hroot, hatv, kk⟩ := S.chg he hp
  obtain ⟨a, vs, fp0, rfl, rfl, h1, h2, hz⟩ := r.olst_inv2
  obtain ⟨n1, n2⟩ := List.nodup_cons.mp nd
  refine ⟨v, a, vs, g1, fun hp => (hroot hp).symm, hatv, h1, hF a List.mem_cons_self, fun ds' vs' hr hz' => ?_, fp0, h2⟩
  have off : ∀ b ∈ fp0, upd H a (.lst vs') b = H b := fun b hb => upd_ne fun z => n1 (by rw [← z]; exact hb)
  refine kk F _ (.olst ds') (a :: fp0) ⟨Same.refl _, fun b o hb => ?_, fun b o hb hnb => ?_, fun _ _ _ _ => rfl, fun b hb => ?_, fun b hb => ⟨hF b hb, .inl hb⟩, nd⟩ (List.cons_ne_nil _ _) (.olst upd_same (RL.mono (Same.refl _) _ off (hr fp0 h2)) hz')
  · rw [upd_ne fun z => by rw [z, hF a List.mem_cons_self] at hb; cases hb]
    exact S.fH b o hb
  · rw [upd_ne fun z => hnb (by rw [z]; exact List.mem_cons_self)]
    exact hb
  · by_cases hba : b = a
    · exact ⟨_, by rw [hba]; exact upd_same⟩
    · rw [upd_ne hba]
      rcases List.mem_cons.mp hb with z | z
      · exact absurd z hba
      · exact h2.fp_some _ b z
/-- x.append(e), x a list that is owned or lent -/
def sAppX (i : Nat) (f : En → Fv D) : En → Fl := fun env => match env[i]? with
  | some (some d0) => match peel d0 with
    | .olst _ => match f env with
      | .ok d e => match e[i]? with
        | some (some d1) => match peel d1 with
          | .olst ds => if ds.length < 16777216 then .nx (e.set i (some (putRoot d1 (.olst (ds ++ [d]))))) else .un
          | _ => .un
        | _ => .un
      | .ex x e => .xx x e
      | .un => .un
    | _ => .un
  | _ => .un
theorem SS.appX (i : Nat) {y : Str} {py apos cpos : Pos} (hf : SX X E W e fx) (hN : X.N[i]? = some y := by rfl) (hv : Vis X.env.scope y := by first | exact Or.inl rfl | exact Or.inr (Or.inl rfl) | exact Or.inr (Or.inr rfl))
    (hd : (y == ("__debug__" : Str)) = false := by decide) (hcd : (y == ("__classdict__" : Str)) = false := by decide)
    (hbase : attributeBase (.Name y py) "append" X.env (eval (.Name y py) X.env) = eval (.Name y py) X.env := by rfl)
    (hfew : ((backTo cpos (starEach [e] X.env)).all (fun x => !x.1) && (backToKw cpos (keywordEach [] X.env)).all (fun x => x.1.isSome)
      && decide ([e].length + ([] : List Keyword).length + (if ([] : List Keyword).isEmpty then 0 else 1) < 30)) = true := by rfl)
    (hline : (apos.endLine == cpos.line) = true := by rfl) (hs : starEach [e] X.env = (false, eval e X.env) :: starEach [] X.env := by rfl) (hplain : (backTo cpos (starEach [] X.env)).any (·.1) = false := by rfl)
    (hsw : swapsWith (.Call (.Attribute (.Name y py) "append" apos) [e] [] cpos) none pos.line X.env = pure false := by rfl) :
    SS X E W (.Expr (.Call (.Attribute (.Name y py) "append" apos) [e] [] cpos) pos) (sAppX i fx) := by
  obtain ⟨t, p, k⟩ := hf.ex
  refine ⟨hf.hK, _, ps_expr (pe_bm PySem.F.plainAttrs_list PySem.F.slot_list_append PySem.F.type_list_append mt_append (pe_var hN hv hd hcd) (pa_cons p pa_nil hs) hbase hfew hline hs hplain) hsw, fun F σ H env S D q => ?_⟩
  unfold sAppX at q
  split at q
  · rename_i d0 he
    split at q
    · rename_i ds0 hpe
      obtain ⟨v, a0, vs0, g1, hr0, _, h1, _, _, fp0, h2⟩ := S.chgL (p := []) he (show subD d0 [] = some (.olst ds0) by rw [← hpe]; rfl)
      obtain rfl := hr0 rfl
      refine ⟨.ref a0, g1, Or.inl ⟨rfl, vs0, SqL.of h1⟩, k F σ H env S _ ?_⟩
      cases e1 : fx env with
      | un => rw [e1] at q; exact q
      | ex x e' => rw [e1] at q; exact fun cls dd F' H' G S' r => q cls dd F' σ H' G S' r
      | ok d e' =>
        rw [e1] at q
        dsimp only at q
        intro v1 F1 H1 G1 S1 r1
        split at q
        · rename_i d1 he1
          split at q
          · rename_i ds hpe1
            split at q
            · rename_i hlt
              obtain ⟨v', a, vs, g2, hr, _, h3, _, kk, fp1, h4⟩ := S1.chgL (p := []) he1 (show subD d1 [] = some (.olst ds) by rw [← hpe1]; rfl)
              obtain rfl := hr rfl
              rw [g1] at g2
              cases g2
              refine ⟨a0, vs, v1, rfl, rfl, h3, by rw [h4.len, ← line_eq]; exact hlt, ?_⟩
              refine q F1 σ _ G1 (kk (ds ++ [d]) (vs ++ [v1]) (fun fq hq => ?_) (by rw [List.length_append]; simp; omega))
              have := hq.snoc r1
              rw [List.append_nil] at this
              exact this
            · exact q.elim
          · exact q.elim
        · exact q.elim
    · exact q.elim
  · exact q.elim
/-! ### sep.join(..) of what changes -/
def xJoin (sep : List Nat) (f : En → Fv D) : En → Fv D := fun env => (f env).bind fun d e => optV e (pJoin (.str sep) d)
end
end Z

set_option Elab.async false
set_option linter.all false
set_option maxRecDepth 100000
set_option maxHeartbeats 1000000
/-! ZQ: plain rules for what ZI to ZM brought; loops and comprehensions over rows xs.map g -/
namespace Z
open PySem L2
/-! names for what would else be bare functions -/
def eSort (f : En → Rs D) : En → Rs (List D) := fun env => (f env).bind fun d => ofO (pSorted d)
def eLRev (f : En → Rs D) : En → Rs (List D) := fun env => (f env).bind fun d => ofO (revOf d)
def eRg1 (fa : En → Rs (List D)) : En → Rs (List D) := fun env => (fa env).bind iRng1
def eRg2 (fa : En → Rs (List D)) : En → Rs (List D) := fun env => (fa env).bind iRng2
@[simp] theorem eSort_e {f : En → Rs D} {env : En} : eSort f env = (f env).bind fun d => ofO (pSorted d) := id rfl
@[simp] theorem eLRev_e {f : En → Rs D} {env : En} : eLRev f env = (f env).bind fun d => ofO (revOf d) := id rfl
@[simp] theorem eRg1_e {f : En → Rs (List D)} {env : En} : eRg1 f env = (f env).bind iRng1 := id rfl
@[simp] theorem eRg2_e {f : En → Rs (List D)} {env : En} : eRg2 f env = (f env).bind iRng2 := id rfl
section
variable {env : En} {f g : En → Rs D} {fx gx : En → Fv D} {tx ux : En → Fv Bool} {fa : En → Fv (List Arg)} {d d1 d2 : D} {b : Bool} {i j : Int}
@[simp] theorem datV_e : datV env d = if isData d then .ok d env else .un := id rfl
@[simp] theorem optV_some : optV env (some d) = datV env d := id rfl
@[simp] theorem optV_none : optV env none = .un := id rfl
@[simp] theorem xDat_e : xDat f env = (toFv env (f env)).bind fun d e => datV e d := id rfl
@[simp] theorem xTst_e {f : En → Rs Bool} : xTst f env = toFv env (f env) := id rfl
@[simp] theorem xBin_e {op : D → D → Option D} : xBin op fx gx env = (fx env).bind fun a e => (gx e).bind fun b e2 => optV e2 (op a b) := id rfl
@[simp] theorem asBV_bl : asBV env (.bl b) = .ok b env := id rfl
@[simp] theorem xB_e : xB fx env = (fx env).bind fun d e => asBV e d := id rfl
@[simp] theorem xTru_e : xTru fx env = (fx env).bind fun d e => toFv e (truD d) := id rfl
@[simp] theorem xAnd_e : xAnd tx ux env = (tx env).bind fun b e => if b then ux e else .ok false e := id rfl
@[simp] theorem xOr_e : xOr tx ux env = (tx env).bind fun b e => if b then .ok true e else ux e := id rfl
@[simp] theorem xNot_e : xNot tx env = (tx env).bind fun b e => .ok (!b) e := id rfl
@[simp] theorem xIf_e : xIf tx fx gx env = (tx env).bind fun b e => if b then fx e else gx e := id rfl
@[simp] theorem xAndV_e : xAndV fx gx env = (fx env).bind fun d e => (asBV e d).bind fun b e => if b then gx e else .ok (.bl false) e := id rfl
@[simp] theorem xOrV_e : xOrV fx gx env = (fx env).bind fun d e => (asBV e d).bind fun b e => if b then .ok (.bl true) e else gx e := id rfl
@[simp] theorem xNotB_e : xNotB fx env = (fx env).bind fun d e => (asBV e d).bind fun b e => .ok (.bl (!b)) e := id rfl
@[simp] theorem xaNil_e : xaNil env = .ok [] env := id rfl
@[simp] theorem xaD_e : xaD fx fa env = (fx env).bind fun d e => (fa e).bind fun as e => .ok (.d d :: as) e := id rfl
@[simp] theorem xaS_e {k : Nat} : xaS k fa env = match env[k]? with
  | some (some _) => (fa env).bind fun as e => .ok (.s k :: as) e
  | _ => .un := id rfl
@[simp] theorem xCallB_e {h : List D → Option D} : xCallB h fa env = (fa env).bind fun as e => match datsOf as with
  | some ds => optV e (h ds)
  | none => .un := id rfl
@[simp] theorem xTup_e : xTup fa env = (fa env).bind fun as e => match datsOf as with
  | some ds => if ds.length ≤ 16777216 then .ok (.tup ds) e else .un
  | none => .un := id rfl
@[simp] theorem xApp_e {n : Nat} {m : List D → Rs D} : xApp n m fa env = (fa env).bind fun as e => match datsOf as with
  | some ds => if ds.length = n then (toFv e (m ds)).bind fun d e => datV e d else .un
  | none => .un := id rfl
theorem xLend_e {n t : Nat} {m : List D → Fw} : xLend n t m fa env = (fa env).bind fun as e => match lentOf t as with
  | some (ds1, j, ds2) => match e[j]? with
    | some (some d0) => if isOwn (peel d0) = true ∧ noBor (peel d0) = true ∧ ds1.length + 1 + ds2.length = n then
        match m (ds1 ++ peel d0 :: ds2) with
        | .ok r d => datV (e.set j (some (putRoot d0 d))) r
        | .ex x d => .ex x (e.set j (some (putRoot d0 d)))
        | .un => .un
      else .un
    | _ => .un
  | none => .un := id rfl
@[simp] theorem isOwn_olst {x : List D} : isOwn (.olst x) = true := id rfl
@[simp] theorem putRoot_olst {x : List D} {e : D} : putRoot (.olst x) e = e := id rfl
@[simp] theorem putRoot_bor {t : Nat} {d e : D} : putRoot (.bor t d) e = .bor t e := id rfl
@[simp] theorem sRetX_e : sRetX fx env = match fx env with
  | .ok d e => .rt d e
  | .ex x e => .xx x e
  | .un => .un := id rfl
@[simp] theorem sRetNX_e : sRetNX env = .rt .non env := id rfl
@[simp] theorem sExprX_e : sExprX fx env = match fx env with
  | .ok _ e => .nx e
  | .ex x e => .xx x e
  | .un => .un := id rfl
@[simp] theorem sSetX_e {k : Nat} : sSetX k fx env = match fx env with
  | .ok d e => .nx (e.set k (some d))
  | .ex x e => .xx x e
  | .un => .un := id rfl
@[simp] theorem sIfX_e {gs gt : En → Fl} : sIfX tx gs gt env = match tx env with
  | .ok true e => gs e
  | .ok false e => gt e
  | .ex x e => .xx x e
  | .un => .un := id rfl
theorem xLend_ok {n t j : Nat} {m : List D → Fw} {as : List Arg} {e : En} {ds1 ds2 : List D} {d0 r d : D} (ha : fa env = .ok as e) (hl : lentOf t as = some (ds1, j, ds2)) (he : e[j]? = some (some d0)) (ho : isOwn (peel d0) = true) (hb : noBor (peel d0) = true)
    (hn : ds1.length + 1 + ds2.length = n) (hm : m (ds1 ++ peel d0 :: ds2) = .ok r d) (hr : isData r = true) : xLend n t m fa env = .ok r (e.set j (some (putRoot d0 d))) := by
  unfold xLend
  rw [ha, Fv.bind_ok, hl]
  dsimp only
  rw [he]
  dsimp only
  rw [if_pos ⟨ho, hb, hn⟩, hm]
  dsimp only
  unfold datV
  rw [if_pos hr]
theorem sAppX_ok {k : Nat} {e : En} {d d0 d1 : D} {ds0 ds : List D} (h0 : env[k]? = some (some d0)) (p0 : peel d0 = .olst ds0) (hf : fx env = .ok d e) (h1 : e[k]? = some (some d1)) (p1 : peel d1 = .olst ds) (hl : ds.length < 16777216) :
    sAppX k fx env = .nx (e.set k (some (putRoot d1 (.olst (ds ++ [d]))))) := by
  unfold sAppX
  rw [h0]
  dsimp only
  rw [p0]
  dsimp only
  rw [hf]
  dsimp only
  rw [h1]
  dsimp only
  rw [p1]
  dsimp only
  rw [if_pos hl]
@[simp] theorem outL_rt {t : Nat} {r : D} {e : En} : outL t (.rt r e) = backL t e fun d => .ok r d := id rfl
@[simp] theorem outL_nx {t : Nat} {e : En} : outL t (.nx e) = backL t e fun d => .ok .non d := id rfl
@[simp] theorem backL_e {t : Nat} {e : En} {k : D → Fw} : backL t e k = match e[t]? with
  | some (some (.bor t' d)) => if t' = t ∧ noBor d = true then k d else .un
  | _ => .un := id rfl
theorem noBor_olst {x : List D} (h : x.all isData = true) : noBor (.olst x) = true := noBorL_data h
@[simp] theorem eIndex_e : eIndex f g env = (f env).bind fun d => match listOf d with
  | some _ => (g env).bind fun y => ofO (pIndex d y)
  | none => .un := id rfl
@[simp] theorem listOf_lst {x : List D} : listOf (.lst x) = some x := id rfl
@[simp] theorem listOf_tup {x : List D} : listOf (.tup x) = none := id rfl
@[simp] theorem seqOf_lst {x : List D} : seqOf (.lst x) = some x := id rfl
@[simp] theorem seqOf_tup {x : List D} : seqOf (.tup x) = some x := id rfl
@[simp] theorem eCat_e : eCat f g env = (f env).bind fun a => (g env).bind fun b => ofO ((listOf a).bind fun xs => (listOf b).bind fun ys => if xs.length + ys.length ≤ 16777216 then some (xs ++ ys) else none) := id rfl
@[simp] theorem iSeqO_e : iSeqO f env = (f env).bind fun d => ofO (itemsOfO d) := id rfl
@[simp] theorem itemsOfO_lst {x : List D} : itemsOfO (.lst x) = some x := id rfl
@[simp] theorem itemsOfO_tup {x : List D} : itemsOfO (.tup x) = some x := id rfl
@[simp] theorem itemsOfO_olst {x : List D} : itemsOfO (.olst x) = if x.all isData then some x else none := id rfl
@[simp] theorem itemsOfO_str {x : List Nat} : itemsOfO (.str x) = some (x.map fun c => .str [c]) := id rfl
@[simp] theorem itemsOfO_scr {x : List Int} : itemsOfO (.scr x) = some (x.map .int) := id rfl
theorem pShl_nat {n : Nat} (h : n ≤ 1000) : pShl (.int 1) (.int n) = some (.int ((2 ^ n : Nat) : Int)) := by
  show (if _ then _ else _) = _
  rw [if_pos ⟨rfl, by omega, by omega⟩]
  simp
theorem pShr_nat {m n : Nat} : pShr (.int m) (.int n) = some (.int ((m / 2 ^ n : Nat) : Int)) := by
  show (if (0 : Int) ≤ (n : Int) then some (D.int ((m : Int) / 2 ^ (n : Int).toNat)) else none) = _
  rw [if_pos (by omega)]
  simp
theorem pAnd_nat {m : Nat} : pAnd (.int m) (.int 1) = some (.int ((m % 2 : Nat) : Int)) := by
  show (if (0 : Int) ≤ (m : Int) ∧ (1 : Int) = 1 then some (D.int ((m : Int) % 2)) else none) = _
  rw [if_pos ⟨by omega, rfl⟩]
  simp
end
/-! ### rows -/
section
variable {α : Type} {h : D → En → Option En} {c : En → Rs Bool} {f : En → Rs D} {body : En → Fl} {w : List Nat} {env : En}
/-- a comprehension over a row -/
theorem compL_T (g : α → D) (χ : α → Bool) (φ : α → D) : ∀ xs : List α, (∀ x ∈ xs, ∃ e1, h (g x) env = some e1 ∧ c e1 = .ok (χ x) ∧ (χ x = true → f e1 = .ok (φ x) ∧ isData (φ x) = true)) →
    compL h c f env (xs.map g) = .ok ((xs.filter χ).map φ)
  | [], _ => rfl
  | x :: xs, H => by
    obtain ⟨e1, h1, h2, h3⟩ := H x List.mem_cons_self
    have ih := compL_T g χ φ xs fun y hy => H y (List.mem_cons_of_mem _ hy)
    rw [List.map_cons]
    unfold compL
    rw [h1]
    dsimp only
    rw [h2]
    cases hx : χ x with
    | false =>
      dsimp only
      rw [ih, List.filter_cons_of_neg (by rw [hx]; decide)]
    | true =>
      obtain ⟨k1, k2⟩ := h3 hx
      dsimp only
      rw [k1]
      dsimp only
      rw [if_pos k2, ih, Rs.bind_ok, List.filter_cons_of_pos hx, List.map_cons]
theorem eComp_T (g : α → D) (χ : α → Bool) (φ : α → D) (xs : List α) {fi : En → Rs (List D)} {own : List Nat} (hi : fi env = .ok (xs.map g)) (H : ∀ x ∈ xs, ∃ e1, h (g x) (wipeR env own) = some e1 ∧ c e1 = .ok (χ x) ∧ (χ x = true → f e1 = .ok (φ x) ∧ isData (φ x) = true)) :
    eComp fi h c f own env = .ok ((xs.filter χ).map φ) := eComp_e hi (compL_T g χ φ xs H)
/-- .. without tests -/
theorem eComp_M (g : α → D) (φ : α → D) (xs : List α) {fi : En → Rs (List D)} {own : List Nat} (hi : fi env = .ok (xs.map g)) (H : ∀ x ∈ xs, ∃ e1, h (g x) (wipeR env own) = some e1 ∧ f e1 = .ok (φ x) ∧ isData (φ x) = true) :
    eComp fi h cYes f own env = .ok (xs.map φ) := by
  have := eComp_T (c := cYes) g (fun _ => true) φ xs hi fun x hx => by
    obtain ⟨e1, h1, h2, h3⟩ := H x hx
    exact ⟨e1, h1, rfl, fun _ => ⟨h2, h3⟩⟩
  rw [List.filter_eq_self.mpr fun _ _ => rfl] at this
  exact this
/-- a loop that carries a state -/
theorem forL_fold {σ : Type} (g : α → D) (enc : σ → En) (step : σ → α → σ) (Inv : List α → σ → Prop) : ∀ (xs : List α) (s : σ), Inv xs s →
    (∀ x xs s, Inv (x :: xs) s → ∃ e1, h (g x) (enc s) = some e1 ∧ (∃ e2, (body e1 = .nx e2 ∨ body e1 = .ct e2) ∧ wipeE w e2 = enc (step s x)) ∧ Inv xs (step s x)) →
    forL h body w (xs.map g) (enc s) = .nx (enc (xs.foldl step s)) ∧ Inv [] (xs.foldl step s)
  | [], s, h0, _ => ⟨rfl, h0⟩
  | x :: xs, s, h0, H => by
    obtain ⟨e1, h1, ⟨e2, h2, h3⟩, h4⟩ := H x xs s h0
    obtain ⟨q1, q2⟩ := forL_fold g enc step Inv xs (step s x) h4 H
    refine ⟨?_, q2⟩
    rw [List.map_cons]
    unfold forL
    rw [h1]
    dsimp only
    rcases h2 with h2 | h2 <;> rw [h2] <;> dsimp only <;> rw [h3] <;> exact q1
/-- a loop that ends at the first hit -/
theorem forL_find (g : α → D) (p : α → Bool) (r : D) (er : En) : ∀ xs : List α, (∀ x ∈ xs, ∃ e1, h (g x) env = some e1 ∧ (p x = true → body e1 = .rt r er) ∧ (p x = false → ∃ e2, (body e1 = .nx e2 ∨ body e1 = .ct e2) ∧ wipeE w e2 = env)) →
    forL h body w (xs.map g) env = if xs.any p then .rt r er else .nx env
  | [], _ => rfl
  | x :: xs, H => by
    obtain ⟨e1, h1, h2, h3⟩ := H x List.mem_cons_self
    have ih := forL_find g p r er xs fun y hy => H y (List.mem_cons_of_mem _ hy)
    rw [List.map_cons]
    unfold forL
    rw [h1]
    dsimp only
    cases hx : p x with
    | true =>
      rw [h2 hx, List.any_cons, hx]
      rfl
    | false =>
      obtain ⟨e2, k1, k2⟩ := h3 hx
      rw [List.any_cons, hx, Bool.false_or]
      rcases k1 with k1 | k1 <;> rw [k1] <;> dsimp only <;> rw [k2] <;> exact ih
theorem rngL_map (n : Nat) : rngL 0 n = (List.range n).map fun k => .int (k : Nat) := by
  unfold rngL
  exact List.map_congr_left fun k _ => by rw [Int.zero_add]
end
theorem okPyL_map {α : Type} {n : Nat} (g : α → D) : ∀ xs : List α, (∀ x ∈ xs, okPy n (g x) = true) → okPyL n (xs.map g) = true
  | [], _ => by cases n <;> simp [okPyL]
  | x :: xs, h => by
    rw [List.map_cons]
    simp only [okPyL, h x List.mem_cons_self, okPyL_map g xs fun y hy => h y (List.mem_cons_of_mem _ hy), Bool.and_self]
theorem eqvL_map {α : Type} (g : α → D) : ∀ xs ys : List α, (∀ x ∈ xs, ∀ y ∈ ys, eqv (g x) (g y) = true → x = y) → (∀ x ∈ xs, eqv (g x) (g x) = true) → (eqvL (xs.map g) (ys.map g) = true ↔ xs = ys)
  | [], [], _, _ => by simp [eqvL]
  | [], _ :: _, _, _ => by simp [eqvL]
  | _ :: _, [], _, _ => by simp [eqvL]
  | x :: xs, y :: ys, h, hr => by
    have ih := eqvL_map g xs ys (fun a ha b hb => h a (List.mem_cons_of_mem _ ha) b (List.mem_cons_of_mem _ hb)) fun a ha => hr a (List.mem_cons_of_mem _ ha)
    rw [List.map_cons, List.map_cons]
    simp only [eqvL, Bool.and_eq_true, ih, List.cons.injEq]
    constructor
    · rintro ⟨h1, h2⟩; exact ⟨h x (by simp) y (by simp) h1, h2⟩
    · rintro ⟨rfl, h2⟩; exact ⟨hr x (by simp), h2⟩
theorem eqv_nat (a b : Nat) : eqv (.int (a : Int)) (.int (b : Int)) = decide (a = b) := by
  show ((a : Int) == (b : Int)) = _
  by_cases h : a = b
  · subst h; simp
  · rw [decide_eq_false h, beq_eq_false_iff_ne]; omega
theorem eqv_str (a b : List Nat) : eqv (.str a) (.str b) = decide (a = b) := by
  show (a == b) = _
  by_cases h : a = b
  · subst h; simp
  · rw [decide_eq_false h, beq_eq_false_iff_ne]; exact h
theorem any_nat (xs : List Nat) (a : Nat) : ((xs.map fun k => D.int (k : Nat)).any fun z => eqv z (.int a)) = decide (a ∈ xs) := by
  rw [List.any_map]
  induction xs with
  | nil => simp
  | cons x xs ih =>
    rw [List.any_cons, ih]
    simp only [Function.comp_apply, eqv_nat]
    by_cases h : x = a
    · subst h; simp
    · by_cases h2 : a ∈ xs <;> simp [h, h2, Ne.symm h]
theorem any_str (xs : List (List Nat)) (a : List Nat) : ((xs.map D.str).any fun z => eqv z (.str a)) = decide (a ∈ xs) := by
  rw [List.any_map]
  induction xs with
  | nil => simp
  | cons x xs ih =>
    rw [List.any_cons, ih]
    simp only [Function.comp_apply, eqv_str]
    by_cases h : x = a
    · subst h; simp
    · by_cases h2 : a ∈ xs <;> simp [h, h2, Ne.symm h]
theorem ok_nats {n : Nat} (xs : List Nat) : okPyL n (xs.map fun k => D.int (k : Nat)) = true := okPyL_map _ xs fun _ _ => by cases n <;> rfl
theorem ok_strs {n : Nat} (xs : List (List Nat)) : okPyL n (xs.map D.str) = true := okPyL_map _ xs fun _ _ => by cases n <;> rfl
theorem pIn_nats_l (xs : List Nat) (a : Nat) : pIn (.int a) (.lst (xs.map fun k => .int (k : Nat))) = some (.bl (decide (a ∈ xs))) := by
  show (if _ then _ else _) = _
  rw [ok_nats, any_nat]
  rfl
theorem pIn_nats_t (xs : List Nat) (a : Nat) : pIn (.int a) (.tup (xs.map fun k => .int (k : Nat))) = some (.bl (decide (a ∈ xs))) := by
  show (if _ then _ else _) = _
  rw [ok_nats, any_nat]
  rfl
theorem pIn_strs_l (xs : List (List Nat)) (a : List Nat) : pIn (.str a) (.lst (xs.map .str)) = some (.bl (decide (a ∈ xs))) := by
  show (if _ then _ else _) = _
  rw [ok_strs, any_str]
  rfl
theorem pIn_strs_t (xs : List (List Nat)) (a : List Nat) : pIn (.str a) (.tup (xs.map .str)) = some (.bl (decide (a ∈ xs))) := by
  show (if _ then _ else _) = _
  rw [ok_strs, any_str]
  rfl
theorem pIn_strs_o (xs : List (List Nat)) (a : List Nat) : pIn (.str a) (.olst (xs.map .str)) = some (.bl (decide (a ∈ xs))) := by
  show (if _ then _ else _) = _
  rw [ok_strs, any_str]
  rfl
end Z

set_option Elab.async false
set_option linter.all false
set_option maxRecDepth 100000
set_option maxHeartbeats 1000000
/-! ZR: dicts: read, asked, measured -/
namespace Z
open PySem L2
def keyD : D → Option Key
  | .int i => some (.inl i)
  | .str x => some (.inr ⟨x.toArray⟩)
  | _ => none
def keysD : List D → Option (List Key)
  | [] => some []
  | d :: ds => (keyD d).bind fun k => (keysD ds).map (k :: ·)
theorem kD_inj : ∀ {a b : Key}, kD a = kD b → a = b
  | .inl i, .inl j, h => by cases h; rfl
  | .inr x, .inr y, h => by
    have h : D.str x.cps.toList = D.str y.cps.toList := h
    injection h with h
    have : x = y := by
      cases x; cases y
      congr
      exact Array.toList_inj.mp h
    rw [this]
  | .inl _, .inr _, h => by cases h
  | .inr _, .inl _, h => by cases h
theorem keyD_at {d : D} {k : Key} (e : keyD d = some k) : d = kD k ∧ ∀ {K : Kx} {F H : Hp} {v : V} {fp : List Addr}, R K F H d v fp → v = kV k := by
  cases d <;> first | (cases e; done) | skip
  · cases e
    exact ⟨rfl, fun r => by cases r; rfl⟩
  · cases e
    exact ⟨by show D.str _ = D.str _; simp, fun r => by obtain ⟨rfl, _⟩ := r.str_inv; rfl⟩
theorem keysD_at : ∀ {ds : List D} {ks : List Key}, keysD ds = some ks → ds = ks.map kD ∧ ∀ {K : Kx} {F H : Hp} {vs : List V} {fp : List Addr}, RL K F H ds vs fp → vs = ks.map kV
  | [], ks, e => by cases e; exact ⟨rfl, fun r => by cases r; rfl⟩
  | d :: ds, ks, e => by
    have e : (keyD d).bind (fun k => (keysD ds).map (k :: ·)) = some ks := e
    cases h : keyD d with
    | none => rw [h] at e; cases e
    | some k =>
      rw [h, Option.bind_some] at e
      cases h2 : keysD ds with
      | none => rw [h2] at e; cases e
      | some ks' =>
        rw [h2] at e
        cases e
        obtain ⟨e1, r1⟩ := keyD_at h
        obtain ⟨e2, r2⟩ := keysD_at h2
        exact ⟨by rw [List.map_cons, ← e1, ← e2], fun r => by
          cases r with
          | cons a b => rw [List.map_cons, r1 a, r2 b]⟩
theorem eqv_key (a b : Key) : eqv (kD a) (kD b) = decide (a = b) := by
  cases a with
  | inl i =>
    cases b with
    | inl j =>
      show (i == j) = _
      by_cases h : i = j
      · subst h; simp
      · rw [decide_eq_false (fun z => h (Sum.inl.inj z)), beq_eq_false_iff_ne]; exact h
    | inr y => show false = _; rw [decide_eq_false (fun z => nomatch z)]
  | inr x =>
    cases b with
    | inl j => show false = _; rw [decide_eq_false (fun z => nomatch z)]
    | inr y =>
      have e := eqv_str x.cps.toList y.cps.toList
      have : eqv (kD (.inr x)) (kD (.inr y)) = decide (x.cps.toList = y.cps.toList) := e
      rw [this]
      refine decide_eq_decide.mpr ⟨fun h => ?_, fun h => by cases h; rfl⟩
      have := kD_inj (a := .inr x) (b := .inr y) (by show D.str _ = D.str _; rw [h])
      exact this
theorem eqvL_keys (a b : List Key) : eqvL (a.map kD) (b.map kD) = decide (a = b) := by
  have := eqvL_map kD a b (fun x _ y _ h => by rw [eqv_key] at h; exact of_decide_eq_true h) (fun x _ => by rw [eqv_key]; simp)
  cases h : eqvL (a.map kD) (b.map kD) with
  | true => exact (decide_eq_true (this.mp h)).symm
  | false => exact (decide_eq_false fun e => by rw [this.mpr e] at h; cases h).symm
/-- where the key stands -/
def posK (KS : List D) (k : D) : Option Nat := KS.findIdx? fun z => eqv z k
theorem posK_k (ks : List Key) (k : Key) : posK (ks.map kD) (kD k) = ks.findIdx? fun z => decide (z = k) := by
  unfold posK
  rw [List.findIdx?_map]
  congr 1
  funext z
  exact eqv_key z k
theorem posK_t (ks : List (List Key)) (k : List Key) : posK (ks.map fun k => .tup (k.map kD)) (.tup (k.map kD)) = ks.findIdx? fun z => decide (z = k) := by
  unfold posK
  rw [List.findIdx?_map]
  congr 1
  funext z
  show eqv (.tup (z.map kD)) (.tup (k.map kD)) = _
  simp only [eqv]
  exact eqvL_keys z k
section
variable {κ : Type} [DecidableEq κ]
theorem valV_zip (k : κ) : ∀ (ks : List κ) (vs : List V), ks.length = vs.length → valV (ks.zip vs) k = (ks.findIdx? fun z => decide (z = k)).bind fun i => vs[i]?
  | [], [], _ => rfl
  | [], _ :: _, h => by simp at h
  | _ :: _, [], h => by simp at h
  | x :: ks, v :: vs, h => by
    rw [List.zip_cons_cons, List.findIdx?_cons]
    by_cases e : x = k
    · rw [valV_pos (p := (x, v)) e, decide_eq_true e]; rfl
    · rw [valV_neg (p := (x, v)) e, decide_eq_false e, valV_zip k ks vs (by simpa using h)]
      cases ks.findIdx? fun z => decide (z = k) <;> simp
theorem any_zip (k : κ) : ∀ (ks : List κ) (vs : List V), ks.length = vs.length → ((ks.zip vs).any fun kv => decide (kv.1 = k)) = (ks.findIdx? fun z => decide (z = k)).isSome
  | [], [], _ => rfl
  | [], _ :: _, h => by simp at h
  | _ :: _, [], h => by simp at h
  | x :: ks, v :: vs, h => by
    rw [List.zip_cons_cons, List.any_cons, List.findIdx?_cons]
    by_cases e : x = k
    · simp [e]
    · rw [any_zip k ks vs (by simpa using h)]
      simp [e]
theorem map_zip_off (k : κ) (y : V) : ∀ (ks : List κ) (vs : List V), k ∉ ks → (ks.zip vs).map (fun kv => if kv.1 = k then (kv.1, y) else kv) = ks.zip vs
  | [], _, _ => by simp
  | _ :: _, [], _ => by simp
  | x :: ks, v :: vs, h => by
    rw [List.zip_cons_cons, List.map_cons, map_zip_off k y ks vs fun z => h (List.mem_cons_of_mem _ z), if_neg fun z : x = k => h (by rw [z]; exact List.mem_cons_self)]
theorem map_zip_set (k : κ) (y : V) : ∀ (ks : List κ) (vs : List V) (i : Nat), ks.Nodup → (ks.findIdx? fun z => decide (z = k)) = some i → (ks.zip vs).map (fun kv => if kv.1 = k then (kv.1, y) else kv) = ks.zip (vs.set i y)
  | [], _, _, _, h => by simp at h
  | _ :: _, [], i, _, h => by simp
  | x :: ks, v :: vs, i, hn, h => by
    obtain ⟨n1, n2⟩ := List.nodup_cons.mp hn
    rw [List.findIdx?_cons] at h
    by_cases e : x = k
    · rw [decide_eq_true e] at h
      cases h
      subst e
      rw [List.zip_cons_cons, List.map_cons, if_pos rfl, map_zip_off x y ks vs n1]
      rfl
    · rw [decide_eq_false e] at h
      cases q : ks.findIdx? fun z => decide (z = k) with
      | none => rw [q] at h; simp at h
      | some j =>
        rw [q] at h
        simp at h
        subst h
        rw [List.zip_cons_cons, List.map_cons, if_neg e, map_zip_set k y ks vs j n2 q]
        rfl
theorem putK_set {k : κ} {y : V} {ks : List κ} {vs : List V} {i : Nat} (hl : ks.length = vs.length) (hn : ks.Nodup) (h : (ks.findIdx? fun z => decide (z = k)) = some i) : putK (ks.zip vs) k y = ks.zip (vs.set i y) := by
  unfold putK
  rw [any_zip k ks vs hl, h]
  exact (if_pos rfl).trans (map_zip_set k y ks vs i hn h)
theorem putK_add {k : κ} {y : V} {ks : List κ} {vs : List V} (hl : ks.length = vs.length) (h : (ks.findIdx? fun z => decide (z = k)) = none) : putK (ks.zip vs) k y = (ks ++ [k]).zip (vs ++ [y]) := by
  unfold putK
  rw [any_zip k ks vs hl, h]
  refine (if_neg (by simp)).trans ?_
  rw [List.zip_append hl]
  rfl
theorem notin_of {k : κ} {ks : List κ} (h : (ks.findIdx? fun z => decide (z = k)) = none) : k ∉ ks := fun hm => by
  have := List.findIdx?_eq_none_iff.mp h k hm
  simp at this
end
/-- the key fits the dict -/
def keyOk : Bool → D → Bool
  | false, k => (keyD k).isSome
  | true, .tup ds => (keysD ds).isSome
  | _, _ => false
/-- what the dict holds at the key, where it is a dict -/
def dGet : D → D → Option (Option D)
  | .dic t KS VS, k => if keyOk t k then some ((posK KS k).bind fun i => VS[i]?) else none
  | .odic t KS VS, k => if keyOk t k then some ((posK KS k).bind fun i => VS[i]?) else none
  | _, _ => none
/-- what is held -/
def Held (K : Kx) (F H : Hp) : Option D → Option V → Prop
  | some d, some v => ∃ fp, R K F H d v fp
  | none, none => True
  | _, _ => False
theorem held_bind {K : Kx} {F H : Hp} {ds : List D} {vs : List V} {fp : List Addr} (r : RL K F H ds vs fp) (o : Option Nat) : Held K F H (o.bind fun i => ds[i]?) (o.bind fun i => vs[i]?) := by
  cases o with
  | none => trivial
  | some i =>
    rw [Option.bind_some, Option.bind_some]
    cases e : ds[i]? with
    | none =>
      have : vs[i]? = none := by rw [List.getElem?_eq_none_iff] at e ⊢; rw [r.len]; exact e
      rw [this]; trivial
    | some d =>
      obtain ⟨v, fq, e1, r1⟩ := r.get e
      rw [e1]
      exact ⟨fq, r1⟩
theorem dGet_at {K : Kx} {F H : Hp} {d k : D} {v y : V} {fp fq : List Addr} {o : Option D} (hs : Same F H) (r : R K F H d v fp) (rk : R K F H k y fq) (e : dGet d k = some o) : ∃ a o', v = .ref a ∧ DGet H a y o' ∧ Held K F H o o' := by
  have tupk : ∀ {ds : List D} {ks : List Key}, k = .tup ds → keysD ds = some ks → ∃ b, y = .ref b ∧ H b = some (.tup (ks.map kV)) := by
    rintro ds ks rfl hks
    cases rk with
    | tup h1 h2 h3 => exact ⟨_, rfl, by rw [← (keysD_at hks).2 h2]; exact hs _ _ h1⟩
  unfold dGet at e
  split at e
  · rename_i t KS VS
    split at e
    · rename_i hk
      cases e
      cases r with
      | dicK h1 h2 h3 h4 =>
        rename_i a ks vs
        cases q : keyD k with
        | none => simp only [keyOk, q] at hk; cases hk
        | some kk =>
          obtain ⟨e1, e2⟩ := keyD_at q
          refine ⟨a, _, rfl, .inl ⟨_, kk, .inl (hs _ _ h1), e2 rk, rfl⟩, ?_⟩
          rw [valV_zip kk ks vs (h3.trans h2.len.symm), e1, posK_k]
          exact held_bind h2 _
      | dicT h1 h2 h3 h4 =>
        rename_i a ks vs
        cases k <;> first | (cases hk; done) | skip
        rename_i ds
        cases q : keysD ds with
        | none => simp only [keyOk, q] at hk; cases hk
        | some kk =>
          obtain ⟨e1, _⟩ := keysD_at q
          obtain ⟨b, e2, e3⟩ := tupk rfl q
          refine ⟨a, _, rfl, .inr ⟨_, kk, b, .inl (hs _ _ h1), e2, e3, rfl⟩, ?_⟩
          rw [valV_zip kk ks vs (h3.trans h2.len.symm), e1, posK_t]
          exact held_bind h2 _
    · cases e
  · rename_i t KS VS
    split at e
    · rename_i hk
      cases e
      cases r with
      | odicK h1 h2 h3 h4 =>
        rename_i a ks vs fp0
        cases q : keyD k with
        | none => simp only [keyOk, q] at hk; cases hk
        | some kk =>
          obtain ⟨e1, e2⟩ := keyD_at q
          refine ⟨a, _, rfl, .inl ⟨_, kk, .inl h1, e2 rk, rfl⟩, ?_⟩
          rw [valV_zip kk ks vs (h3.trans h2.len.symm), e1, posK_k]
          exact held_bind h2 _
      | odicT h1 h2 h3 h4 =>
        rename_i a ks vs fp0
        cases k <;> first | (cases hk; done) | skip
        rename_i ds
        cases q : keysD ds with
        | none => simp only [keyOk, q] at hk; cases hk
        | some kk =>
          obtain ⟨e1, _⟩ := keysD_at q
          obtain ⟨b, e2, e3⟩ := tupk rfl q
          refine ⟨a, _, rfl, .inr ⟨_, kk, b, .inl h1, e2, e3, rfl⟩, ?_⟩
          rw [valV_zip kk ks vs (h3.trans h2.len.symm), e1, posK_t]
          exact held_bind h2 _
    · cases e
  · cases e
section
variable {X : Cx} {E : Ent} {W : WX} {e a b c : Expr} {f g h : En → Rs D} {pos : Pos}
theorem PE.or {t u : TE} (h1 : PE X e t) (h2 : PE X e u) : PE X e (fun σ H Q => t σ H Q ∨ u σ H Q) :=
  ⟨fun pins s σ H Q I q => q.elim (fun q => h1.run pins s σ H Q I q) fun q => h2.run pins s σ H Q I q⟩
theorem PT.or {t u : TT} (h1 : PT X e t) (h2 : PT X e u) : PT X e (fun σ H Q => t σ H Q ∨ u σ H Q) :=
  ⟨fun pins s σ H Q I q => q.elim (fun q => h1.run pins s σ H Q I q) fun q => h2.run pins s σ H Q I q⟩
def isDic : D → Bool
  | .dic _ _ _ => true
  | .odic _ _ _ => true
  | _ => false
theorem dGet_dic {d k : D} {o : Option D} (h : dGet d k = some o) : isDic d = true := by
  unfold dGet at h
  split at h
  · rfl
  · rfl
  · cases h
/-! a[b], a a sequence or a dict -/
def pSub2 (a b : D) : Option D := if isDic a then (dGet a b).bind id else pIx a b
theorem SE.sub (ha : SE X E W a f) (hb : SE X E W b g) (hu : X.A.units + 1 < cLine) (hp : PlainIx b := by exact fun _ _ => rfl) (hns : NoSl b := by exact fun _ _ => rfl) : SE X E W (.Subscript a b pos) (eBin pSub2 f g) := by
  obtain ⟨ta, pa, ka⟩ := ha.ex
  obtain ⟨tb, pb, kb⟩ := hb.ex
  obtain ⟨r, h1, h2⟩ := ixS (E := E) ha.hK
  refine ⟨ha.hK, _, PE.or (pe_ix h1 pa pb hp) (pe_dget hu pa pb hns), fun F σ H env S Q q => ?_⟩
  by_cases hd : ∃ d, f env = .ok d ∧ isDic d = true
  · obtain ⟨d, e1, hd⟩ := hd
    refine .inr (ka F σ H env S _ ?_)
    rw [e1]
    unfold eBin at q
    rw [e1, Rs.bind_ok] at q
    intro v1 fp1 F1 H1 G1 r1
    refine kb F1 σ H1 env (S.grow G1) _ ?_
    cases e2 : g env with
    | un => rw [e2] at q; exact q
    | ex x => rw [e2] at q; exact PostE.mono G1 q
    | ok k =>
      rw [e2, Rs.bind_ok] at q
      intro v2 fp2 F2 H2 G2 r2
      unfold pSub2 at q
      rw [if_pos hd] at q
      cases e3 : dGet d k with
      | none => rw [e3] at q; exact q.elim
      | some o =>
        rw [e3, Option.bind_some] at q
        obtain ⟨a', o', rfl, hg, hh⟩ := dGet_at G2.fh (r1.grow G2) r2 e3
        cases o with
        | none => exact q.elim
        | some z =>
          cases o' with
          | none => exact hh.elim
          | some w =>
            obtain ⟨fq, rz⟩ := hh
            exact ⟨a', w, rfl, hg, q w fq F2 H2 (G1.trans G2) rz⟩
  · refine .inl (two_ok ka kb h2 F σ H env S Q ?_)
    have e : eBin pIx f g env = eBin pSub2 f g env := by
      unfold eBin
      cases e1 : f env with
      | un => rfl
      | ex x => rfl
      | ok d =>
        have : ¬ isDic d = true := fun z => hd ⟨d, e1, z⟩
        simp only [Rs.bind_ok, pSub2, if_neg this]
    rw [e]; exact q
/-! k in d, k not in d -/
def pIn2 (k d : D) : Option D := if isDic d then (dGet d k).map fun o => .bl o.isSome else pIn k d
def pNotIn2 (k d : D) : Option D := notO (pIn2 k d)
theorem in_okD {ta tb : TE} {neg : Bool} (ka : OkE E W ta f) (kb : OkE E W tb g) {env : En} {d : D} (e1 : g env = .ok d) (hd : isDic d = true) {F : Hp} {σ : St} {H : Hp} (S : Stt E F env σ H) {Q : Bool → Hp → Prop}
    (q : PostT E W F H σ Q (eB (eBin (if neg then pNotIn2 else pIn2) f g) env)) :
    ta σ H fun y H1 => tb σ H1 fun x H2 => ∃ a o, x = .ref a ∧ DGet H2 a y o ∧ ∃ c, V.bl (cond neg (!o.isSome) o.isSome) = .bl c ∧ Q c H2 := by
  refine ka F σ H env S _ ?_
  unfold eB eBin at q
  cases e2 : f env with
  | un => rw [e2] at q; exact q
  | ex x => rw [e2] at q; exact q
  | ok k =>
    rw [e2, Rs.bind_ok, e1, Rs.bind_ok] at q
    intro v1 fp1 F1 H1 G1 r1
    refine kb F1 σ H1 env (S.grow G1) _ ?_
    rw [e1]
    intro v2 fp2 F2 H2 G2 r2
    cases e3 : dGet d k with
    | none =>
      exfalso
      cases neg
      · have q : PostT E W F H σ Q (asB (ofO (pIn2 k d))) := q
        unfold pIn2 at q
        rw [if_pos hd, e3] at q
        exact q
      · have q : PostT E W F H σ Q (asB (ofO (pNotIn2 k d))) := q
        unfold pNotIn2 pIn2 at q
        rw [if_pos hd, e3] at q
        exact q
    | some o =>
      obtain ⟨a', o', rfl, hg, hh⟩ := dGet_at G2.fh r2 (r1.grow G2) e3
      have eo : o'.isSome = o.isSome := by
        cases o <;> cases o' <;> first | rfl | exact hh.elim
      refine ⟨a', o', rfl, hg, _, rfl, ?_⟩
      rw [eo]
      cases neg
      · have q : PostT E W F H σ Q (asB (ofO (pIn2 k d))) := q
        unfold pIn2 at q
        rw [if_pos hd, e3] at q
        exact q F2 H2 (G1.trans G2)
      · have q : PostT E W F H σ Q (asB (ofO (pNotIn2 k d))) := q
        unfold pNotIn2 pIn2 at q
        rw [if_pos hd, e3] at q
        exact q F2 H2 (G1.trans G2)
theorem ST.isin (ha : SE X E W a f) (hb : SE X E W b g) (hu : X.A.units + 65 < cLine) (hm : behindInMarks .In b = false := by first | exact nomark _ | rfl) : ST X E W (.Compare a [.In] [b] pos) (eB (eBin pIn2 f g)) := by
  obtain ⟨r, h1, h2⟩ := OpS.isin (E := E) ha.hK hu
  obtain ⟨ta, pa, ka⟩ := ha.ex
  obtain ⟨tb, pb, kb⟩ := hb.ex
  refine ⟨ha.hK, _, PT.or (pt_cmpR h1 pa pb hm) (pt_cmp (h1 := hm) (pc_din (by omega) pa pb)), fun F σ H env S Q q => ?_⟩
  by_cases hd : ∃ d, g env = .ok d ∧ isDic d = true
  · obtain ⟨d, e1, hd⟩ := hd
    refine .inr ?_
    have := in_okD (neg := false) ka kb e1 hd S q
    exact this
  · refine .inl (test_ok (two_ok ka kb h2) F σ H env S Q ?_)
    have e : eB (eBin pIn f g) env = eB (eBin pIn2 f g) env := by
      unfold eB eBin
      cases e1 : f env with
      | un => rfl
      | ex x => rfl
      | ok k =>
        simp only [Rs.bind_ok]
        cases e2 : g env with
        | un => rfl
        | ex x => rfl
        | ok d =>
          have : ¬ isDic d = true := fun z => hd ⟨d, e2, z⟩
          simp only [Rs.bind_ok, pIn2, if_neg this]
    rw [e]; exact q
theorem ST.notin (ha : SE X E W a f) (hb : SE X E W b g) (hu : X.A.units + 65 < cLine) (hm : behindInMarks .NotIn b = false := by first | exact nomark _ | rfl) : ST X E W (.Compare a [.NotIn] [b] pos) (eB (eBin pNotIn2 f g)) := by
  obtain ⟨r, h1, h2⟩ := OpS.notin (E := E) ha.hK hu
  obtain ⟨ta, pa, ka⟩ := ha.ex
  obtain ⟨tb, pb, kb⟩ := hb.ex
  refine ⟨ha.hK, _, PT.or (pt_cmpR h1 pa pb hm) (pt_cmp (h1 := hm) (pc_dnotin (by omega) pa pb)), fun F σ H env S Q q => ?_⟩
  by_cases hd : ∃ d, g env = .ok d ∧ isDic d = true
  · obtain ⟨d, e1, hd⟩ := hd
    refine .inr ?_
    have := in_okD (neg := true) ka kb e1 hd S q
    exact this
  · refine .inl (test_ok (two_ok ka kb h2) F σ H env S Q ?_)
    have e : eB (eBin pNotIn f g) env = eB (eBin pNotIn2 f g) env := by
      unfold eB eBin
      cases e1 : f env with
      | un => rfl
      | ex x => rfl
      | ok k =>
        simp only [Rs.bind_ok]
        cases e2 : g env with
        | un => rfl
        | ex x => rfl
        | ok d =>
          have : ¬ isDic d = true := fun z => hd ⟨d, e2, z⟩
          simp only [Rs.bind_ok, pNotIn2, pIn2, if_neg this]
          rfl
    rw [e]; exact q
/-! d.get(k), d.get(k, x) -/
def eGet2 (f g h : En → Rs D) : En → Rs D := fun env => (f env).bind fun d => if isDic d then (g env).bind fun k => (h env).bind fun z => ofO ((dGet d k).map fun o => o.getD z) else .un
theorem dic_isD {K : Kx} {F H : Hp} {d : D} {v : V} {fp : List Addr} (hs : Same F H) (r : R K F H d v fp) (hd : isDic d = true) : ∃ a, v = .ref a ∧ IsD H a := by
  cases r <;> first | (cases hd; done) | skip
  · rename_i h1 _ _ _; exact ⟨_, rfl, .inl ⟨_, .inl (hs _ _ h1)⟩⟩
  · rename_i h1 _ _ _; exact ⟨_, rfl, .inr ⟨_, .inl (hs _ _ h1)⟩⟩
  · rename_i h1 _ _ _; exact ⟨_, rfl, .inl ⟨_, .inl h1⟩⟩
  · rename_i h1 _ _ _; exact ⟨_, rfl, .inr ⟨_, .inl h1⟩⟩
theorem SE.get2 {apos : Pos} (ha : SE X E W a f) (hb : SE X E W b g) (hc : SE X E W c h) (hu : X.A.units + 1 < cLine) (m : M2 X a "get" apos b c pos) : SE X E W (.Call (.Attribute a "get" apos) [b, c] [] pos) (eGet2 f g h) := by
  obtain ⟨ta, pa, ka⟩ := ha.ex
  obtain ⟨tb, pb, kb⟩ := hb.ex
  obtain ⟨tc, pc, kc⟩ := hc.ex
  refine ⟨ha.hK, _, pe_dget2 hu pa pb pc m, fun F σ H env S Q q => ?_⟩
  refine ka F σ H env S _ ?_
  unfold eGet2 at q
  cases e1 : f env with
  | un => rw [e1] at q; exact q
  | ex x => rw [e1] at q; exact q
  | ok d =>
    rw [e1, Rs.bind_ok] at q
    intro v1 fp1 F1 H1 G1 r1
    split at q
    · rename_i hd
      obtain ⟨a', rfl, hI⟩ := dic_isD G1.fh r1 hd
      refine ⟨a', rfl, hI, kb F1 σ H1 env (S.grow G1) _ ?_⟩
      cases e2 : g env with
      | un => rw [e2] at q; exact q
      | ex x => rw [e2] at q; exact PostE.mono (r := .ex x) G1 q
      | ok k =>
        rw [e2, Rs.bind_ok] at q
        intro v2 fp2 F2 H2 G2 r2
        refine kc F2 σ H2 env (S.grow (G1.trans G2)) _ ?_
        cases e3 : h env with
        | un => rw [e3] at q; exact q
        | ex x => rw [e3] at q; exact PostE.mono (r := .ex x) (G1.trans G2) q
        | ok z =>
          rw [e3, Rs.bind_ok] at q
          intro v3 fp3 F3 H3 G3 r3
          cases e4 : dGet d k with
          | none => rw [e4] at q; exact q.elim
          | some o =>
            rw [e4] at q
            obtain ⟨a2, o', ea, hg, hh⟩ := dGet_at G3.fh (r1.grow (G2.trans G3)) (r2.grow G3) e4
            cases ea
            refine ⟨o', hg, ?_⟩
            cases o with
            | none =>
              cases o' with
              | some w => exact hh.elim
              | none => exact q _ fp3 F3 H3 ((G1.trans G2).trans G3) r3
            | some y =>
              cases o' with
              | none => exact hh.elim
              | some w =>
                obtain ⟨fq, ry⟩ := hh
                exact q _ fq F3 H3 ((G1.trans G2).trans G3) ry
    · exact q.elim
/-! len -/
def bLen2 : List D → Option D
  | [.dic _ KS _] => some (.int KS.length)
  | [.odic _ KS _] => some (.int KS.length)
  | ds => bLen ds
theorem BS.len2 (hK : X.K = E.K.k) : BS X E (.builtin "len") bLen2 := by
  obtain ⟨r, h1, h2⟩ := BS.len (E := E) hK
  refine ⟨_, h1.or (call_lenD.or call_len_dT), fun F H vs ds fp d hs r0 hh Q q => ?_⟩
  unfold bLen2 at hh
  split at hh
  · rename_i t KS VS
    cases hh
    obtain ⟨v, rfl, rr⟩ := r0.one
    cases rr with
    | dicK k1 k2 k3 k4 =>
      refine .inr (.inl ⟨_, _, rfl, hs _ _ k1, ?_⟩)
      rw [List.length_zip, k3, k2.len, Nat.min_self]
      exact q _ [] F H (Grow.refl hs) (by rw [List.length_map, k3]; exact .int _)
    | dicT k1 k2 k3 k4 =>
      refine .inr (.inr ⟨_, _, rfl, hs _ _ k1, ?_⟩)
      rw [List.length_zip, k3, k2.len, Nat.min_self]
      exact q _ [] F H (Grow.refl hs) (by rw [List.length_map, k3]; exact .int _)
  · rename_i t KS VS
    cases hh
    obtain ⟨v, rfl, rr⟩ := r0.one
    cases rr with
    | odicK k1 k2 k3 k4 =>
      refine .inr (.inl ⟨_, _, rfl, k1, ?_⟩)
      rw [List.length_zip, k3, k2.len, Nat.min_self]
      exact q _ [] F H (Grow.refl hs) (by rw [List.length_map, k3]; exact .int _)
    | odicT k1 k2 k3 k4 =>
      refine .inr (.inr ⟨_, _, rfl, k1, ?_⟩)
      rw [List.length_zip, k3, k2.len, Nat.min_self]
      exact q _ [] F H (Grow.refl hs) (by rw [List.length_map, k3]; exact .int _)
  · exact .inl (h2 F H vs ds fp d hs r0 hh Q q)
end
end Z

set_option Elab.async false
set_option linter.all false
set_option maxRecDepth 100000
set_option maxHeartbeats 1000000
/-! ZS: places: a variable, an attribute of one; place[k] = v; place.setdefault(k, []).append(v) -/
namespace Z
open PySem L2
theorem AtV.snoc {H : Hp} {j : Nat} {w : V} : ∀ {p : List Nat} {v u : V}, AtV H v p u → (∃ a, u = .ref a ∧ kidV (H a) j = some w) → AtV H v (p ++ [j]) w
  | [], v, u, h, ⟨a, e, k⟩ => by
    have h : v = u := h
    subst h; subst e
    exact ⟨w, k, rfl⟩
  | i :: p, .ref b, u, h, k => by
    obtain ⟨x, e, h⟩ := h
    exact ⟨x, e, h.snoc k⟩
theorem kid_peel (d : D) (j : Nat) : kid (peel d) j = kid d j := by cases d <;> rfl
theorem subD_snoc (j : Nat) : ∀ (p : List Nat) (d : D), subD d (p ++ [j]) = ((subD d p).bind fun e => kid e j).map peel
  | [], d => by
    show (kid d j).bind (fun k => some (peel k)) = (kid (peel d) j).map peel
    rw [kid_peel]; cases kid d j <;> rfl
  | i :: p, d => by
    show (kid d i).bind (fun k => subD k (p ++ [j])) = (((kid d i).bind fun k => subD k p).bind fun e => kid e j).map peel
    cases kid d i with
    | none => rfl
    | some k => exact subD_snoc j p k
/-- the expression is a place within slot i; pm: the path -/
structure SP (X : Cx) (E : Ent) (W : WX) (e : Expr) (i : Nat) (pm : D → Option (List Nat)) : Prop where
  hK : X.K = E.K.k
  ex : ∃ t, PE X e t ∧ ∀ F σ H env d0 p x v u Q, Stt E F env σ H → env[i]? = some (some d0) → pm d0 = some p → subD d0 p = some x → σ[i]? = some (some v) → AtV H v p u → Q u H → t σ H Q
def pmVar : D → Option (List Nat) := fun _ => some []
def pmFld (cs : List Nat) (f : String) (pm : D → Option (List Nat)) : D → Option (List Nat) := fun d => (pm d).bind fun p => match subD d p with
  | some (.oob c ns vs) => if c ∈ cs then (posOf f ns).map fun j => p ++ [j] else none
  | _ => none
section
variable {X : Cx} {E : Ent} {W : WX} {e a b : Expr} {f g : En → Rs D} {pos : Pos} {pm : D → Option (List Nat)}
theorem SP.var (i : Nat) {x : Str} (hK : X.K = E.K.k := by rfl) (hN : X.N[i]? = some x := by rfl) (hv : Vis X.env.scope x := by first | exact Or.inl rfl | exact Or.inr (Or.inl rfl) | exact Or.inr (Or.inr rfl))
    (hd : (x == ("__debug__" : Str)) = false := by decide) (hcd : (x == ("__classdict__" : Str)) = false := by decide) : SP X E W (.Name x pos) i pmVar :=
  ⟨hK, _, pe_var hN hv hd hcd, fun F σ H env d0 p x v u Q S he hp hs hv ha q => ⟨v, hv, by
    cases hp
    have : v = u := ha
    rw [this]; exact q⟩⟩
theorem SP.fld (cs : List Nat) (f : String) {i : Nat} (hf : FldOk E.K cs f) (ha : SP X E W a i pm) (hb : attributeBase a (Str.ofString f) X.env (eval a X.env) = eval a X.env := by rfl) : SP X E W (.Attribute a (Str.ofString f) pos) i (pmFld cs f pm) := by
  obtain ⟨t, p, k⟩ := ha.ex
  refine ⟨ha.hK, _, pe_fld p hb, fun F σ H env d0 p x v u Q S he hp hs hv hat q => ?_⟩
  unfold pmFld at hp
  cases e1 : pm d0 with
  | none => rw [e1] at hp; cases hp
  | some p0 =>
    rw [e1, Option.bind_some] at hp
    split at hp
    · rename_i c ns vs e2
      split at hp
      · rename_i hc
        cases e3 : posOf f ns with
        | none => rw [e3] at hp; cases hp
        | some j =>
          rw [e3] at hp
          cases hp
          obtain ⟨v', u0, fq, g1, r, nd, hF, hroot, hatv, kk⟩ := S.chg he e2
          rw [hv] at g1
          cases g1
          cases r with
          | oob h1 h2 h3 h4 =>
            rename_i a0 dx ws f0
            obtain ⟨c1, c2⟩ := hf c hc
            have hj : j < ws.length := by rw [h3.len, ← h4]; exact posOf_lt f ns j e3
            obtain ⟨w, hw⟩ : ∃ w, ws[j]? = some w := ⟨_, List.getElem?_eq_getElem hj⟩
            have hk : kidV (H a0) j = some w := by
              rw [h1]
              exact (zip_snd _ _ _ (by rw [List.length_map]; exact h4.trans h3.len.symm)).trans hw
            have := (hatv.snoc ⟨a0, rfl, hk⟩).det hat
            subst this
            exact k F σ H env d0 p0 _ _ _ _ S he e1 e2 hv hatv ⟨a0, E.K.ca c, dx, nmS ns ws, w, rfl, h1, by rw [ha.hK]; exact c1, by rw [ha.hK]; exact c2, posOf_lookup f ns ws j w e3 hw, q⟩
      · cases hp
    · cases hp
/-! ### the children of an owned list or dict -/
theorem RL.putS {K : Kx} {F H F' H' : Hp} {ds : List D} {ws : List V} {f0 fq : List Addr} {i : Nat} {d : D} {v : V} (h : RL K F H ds ws f0) (hi : i < ds.length) (s : Same F F') (kk : ∀ a ∈ f0, H' a = H a) (hn : fq.Nodup) (hn0 : f0.Nodup)
    (hx : ∀ a ∈ fq, a ∉ f0) (r : R K F' H' d v fq) : ∃ fr, RL K F' H' (ds.set i d) (ws.set i v) fr ∧ fr.Nodup ∧ ∀ a ∈ fr, a ∈ f0 ∨ a ∈ fq := by
  obtain ⟨pre, fm, post, e1, k⟩ := h.put hi
  have hin : ∀ a, a ∈ pre ++ post → a ∈ f0 := fun a z => by rw [e1]; rcases List.mem_append.mp z with z | z <;> simp [z]
  refine ⟨_, k F' H' d v fq s (fun a z => kk a (hin a z)) r, ?_, fun a z => ?_⟩
  · rw [e1] at hn0
    obtain ⟨n1, n2, n3⟩ := List.nodup_append.mp hn0
    obtain ⟨n4, n5, n6⟩ := List.nodup_append.mp n2
    refine List.nodup_append.mpr ⟨n1, List.nodup_append.mpr ⟨hn, n5, fun a ha b hb e => ?_⟩, fun a ha b hb e => ?_⟩
    · subst e; exact hx a ha (hin a (by simp [hb]))
    · subst e
      rcases List.mem_append.mp hb with hb | hb
      · exact hx a hb (hin a (by simp [ha]))
      · exact n3 a ha a (by simp [hb]) rfl
  · rcases List.mem_append.mp z with z | z
    · exact .inl (hin a (by simp [z]))
    · rcases List.mem_append.mp z with z | z
      · exact .inr z
      · exact .inl (hin a (by simp [z]))
theorem RL.snocS {K : Kx} {F H F' H' : Hp} {ds : List D} {ws : List V} {f0 fq : List Addr} {d : D} {v : V} (h : RL K F H ds ws f0) (s : Same F F') (kk : ∀ a ∈ f0, H' a = H a) (hn : fq.Nodup) (hn0 : f0.Nodup)
    (hx : ∀ a ∈ fq, a ∉ f0) (r : R K F' H' d v fq) : ∃ fr, RL K F' H' (ds ++ [d]) (ws ++ [v]) fr ∧ fr.Nodup ∧ ∀ a ∈ fr, a ∈ f0 ∨ a ∈ fq :=
  ⟨f0 ++ fq, (RL.mono s _ kk h).snoc r, List.nodup_append.mpr ⟨hn0, hn, fun a ha b hb e => by subst e; exact hx a hb ha⟩, fun a z => List.mem_append.mp z⟩
def isBox : D → Bool
  | .olst _ => true
  | .odic _ _ _ => true
  | _ => false
theorem Stt.kids {F H F2 H2 : Hp} {env : En} {σ : St} {i : Nat} {d0 e : D} {p : List Nat} (S : Stt E F env σ H) (G : Grow F H F2 H2) (he : env[i]? = some (some d0)) (hp : subD d0 p = some e) (hb : isBox e = true) :
    ∃ v a f0, σ[i]? = some (some v) ∧ (p = [] → v = .ref a) ∧ AtV H v p (.ref a) ∧ R E.K F H e (.ref a) (a :: f0) ∧ a ∉ f0 ∧ f0.Nodup ∧ (∀ b ∈ a :: f0, F b = none) ∧
      ∀ (ho : HO) (e' : D) (fr : List Addr), R E.K F2 (upd H2 a ho) e' (.ref a) (a :: fr) → fr.Nodup → a ∉ fr → (∀ b ∈ fr, b ∈ f0 ∨ (H b = none ∧ F2 b = none)) → Stt E F2 (env.set i (some (putD d0 p e'))) σ (upd H2 a ho) := by
  obtain ⟨v, u, fq, g1, r, nd, hF, hroot, hatv, kk⟩ := S.chg he hp
  have hh : ∃ a f0, u = .ref a ∧ fq = a :: f0 := by
    cases r <;> first | (cases hb; done) | exact ⟨_, _, rfl, rfl⟩
  obtain ⟨a, f0, rfl, rfl⟩ := hh
  obtain ⟨n1, n2⟩ := List.nodup_cons.mp nd
  have hs := r.fp_some e
  refine ⟨v, a, f0, g1, fun hp => (hroot hp).symm, hatv, r, n1, n2, hF, fun ho e' fr r' hn' ha' hfr => ?_⟩
  have hF2 : ∀ b ∈ a :: f0, F2 b = none := fun b hb => by
    obtain ⟨o, e1⟩ := hs b hb
    rw [G.o b o e1]
    exact hF b hb
  refine kk F2 _ e' (a :: fr) ⟨G.f, fun b o eb => ?_, fun b o eb hnb => ?_, fun b o eb _ => G.o b o eb, fun b hb => ?_, fun b hb => ?_, List.nodup_cons.mpr ⟨ha', hn'⟩⟩ (List.cons_ne_nil _ _) r'
  · rw [upd_ne fun z => by rw [z, hF2 a List.mem_cons_self] at eb; cases eb]
    exact G.fh b o eb
  · rw [upd_ne fun z => hnb (by rw [z]; exact List.mem_cons_self)]
    exact G.h b o eb
  · by_cases hba : b = a
    · exact ⟨_, by rw [hba]; exact upd_same⟩
    · rw [upd_ne hba]
      obtain ⟨o, e1⟩ := hs b hb
      exact ⟨o, G.h b o e1⟩
  · rcases List.mem_cons.mp hb with z | z
    · rw [z]; exact ⟨hF2 a List.mem_cons_self, .inl List.mem_cons_self⟩
    · rcases hfr b z with z | ⟨z1, z2⟩
      · exact ⟨hF2 b (List.mem_cons_of_mem _ z), .inl (List.mem_cons_of_mem _ z)⟩
      · exact ⟨z2, .inr z1⟩
/-! ### place[k] = v -/
def putDic (t : Bool) (KS VS : List D) (k d : D) : Option (List D × List D) := if keyOk t k ∧ KS.length < 16777216 then (match posK KS k with
  | some j => some (KS, VS.set j d)
  | none => some (KS ++ [k], VS ++ [d])) else none
def putAt : D → D → D → Option D
  | .olst ds, .int k, d => (ixN ds.length k).map fun j => .olst (ds.set j d)
  | .odic t KS VS, k, d => (putDic t KS VS k d).map fun p => .odic t p.1 p.2
  | _, _, _ => none
theorem nodup_snoc {α : Type} {xs : List α} {x : α} (h : xs.Nodup) (hx : x ∉ xs) : (xs ++ [x]).Nodup := List.nodup_append.mpr ⟨h, by simp, fun a ha b hb e => by rw [List.mem_singleton] at hb; subst hb; subst e; exact hx ha⟩
theorem idx_lt {κ : Type} [DecidableEq κ] {ks : List κ} {k : κ} {j : Nat} (h : (ks.findIdx? fun z => decide (z = k)) = some j) : j < ks.length := by
  obtain ⟨h, _⟩ := List.findIdx?_eq_some_iff_getElem.mp h
  exact h
theorem Stt.putAt {F H F2 H2 : Hp} {env : En} {σ : St} {i : Nat} {d0 x : D} {p : List Nat} (S : Stt E F env σ H) (G : Grow F H F2 H2) (he : env[i]? = some (some d0)) (hp : subD d0 p = some x) {k d e' : D} {ky y : V} {fp fk : List Addr}
    (rk : R E.K F2 H2 k ky fk) (rd : R E.K F2 H2 d y fp) (hn : fp.Nodup) (hfr : ∀ b ∈ fp, H b = none ∧ F2 b = none) (hq : Z.putAt x k d = some e') :
    ∃ v a ho, σ[i]? = some (some v) ∧ AtV H v p (.ref a) ∧ (∀ Q : Hp → Prop, Q (upd H2 a ho) → rSetL (.ref a) ky y H2 Q ∨ rSetD (.ref a) ky y H2 Q) ∧ Stt E F2 (env.set i (some (putD d0 p e'))) σ (upd H2 a ho) := by
  have hbox : isBox x = true := by
    cases x <;> first | rfl | (cases hq; done)
  obtain ⟨v, a, f0, g1, _, hatv, r, n1, n2, hF, kk⟩ := S.kids G he hp hbox
  have hs := r.fp_some x
  have hfpa : ∀ b ∈ fp, b ≠ a := fun b hb z => by
    obtain ⟨o, ho⟩ := hs a List.mem_cons_self
    rw [← z, (hfr b hb).1] at ho; cases ho
  have hx : ∀ b ∈ fp, b ∉ f0 := fun b hb z => by
    obtain ⟨o, ho⟩ := hs b (List.mem_cons_of_mem _ z)
    rw [(hfr b hb).1] at ho; cases ho
  have hf0a : ∀ b ∈ f0, b ≠ a := fun b hb z => n1 (by rw [← z]; exact hb)
  have off : ∀ (ho : HO), ∀ b ∈ f0, upd H2 a ho b = H b := fun ho b hb => by
    obtain ⟨o, e1⟩ := hs b (List.mem_cons_of_mem _ hb)
    rw [upd_ne (hf0a b hb), e1, G.h b o e1]
  have rd' : ∀ ho : HO, R E.K F2 (upd H2 a ho) d y fp := fun ho => R.mono (Same.refl _) _ (fun b hb => upd_ne (hfpa b hb)) rd
  have wrap : ∀ (ho : HO) (e1 : D) (fr : List Addr), e1 = e' → R E.K F2 (upd H2 a ho) e1 (.ref a) (a :: fr) → fr.Nodup → (∀ b ∈ fr, b ∈ f0 ∨ b ∈ fp) → (∀ Q : Hp → Prop, Q (upd H2 a ho) → rSetL (.ref a) ky y H2 Q ∨ rSetD (.ref a) ky y H2 Q) →
      ∃ v a ho, σ[i]? = some (some v) ∧ AtV H v p (.ref a) ∧ (∀ Q : Hp → Prop, Q (upd H2 a ho) → rSetL (.ref a) ky y H2 Q ∨ rSetD (.ref a) ky y H2 Q) ∧ Stt E F2 (env.set i (some (putD d0 p e'))) σ (upd H2 a ho) := fun ho e1 fr e1' r1 hfn hfi hQ => by
    subst e1'
    refine ⟨v, a, ho, g1, hatv, hQ, kk ho e1 fr r1 hfn (fun z => ?_) fun b hb => ?_⟩
    · rcases hfi a z with z | z
      · exact n1 z
      · exact hfpa a z rfl
    · rcases hfi b hb with z | z
      · exact .inl z
      · exact .inr (hfr b z)
  cases r with
  | olst h1 h2 hz =>
    rename_i vs ds
    cases k <;> first | (cases hq; done) | skip
    rename_i k
    cases rk
    cases e1 : ixN ds.length k with
    | none => simp only [Z.putAt, e1] at hq; cases hq
    | some j =>
      simp only [Z.putAt, e1] at hq
      cases hq
      obtain ⟨_, hj, _, _⟩ := ixN_seq e1
      obtain ⟨fr, r1, r2, r3⟩ := h2.putS (H' := upd H2 a (.lst (vs.set j y))) hj G.f (off _) hn n2 hx (rd' _)
      refine wrap _ _ fr rfl (.olst upd_same r1 (by rw [List.length_set]; exact hz)) r2 r3 fun Q q => .inl ⟨a, vs, k, j, rfl, rfl, G.h _ _ h1, by rw [h2.len]; exact e1, q⟩
  | odicK h1 h2 h3 h4 =>
    rename_i ks vs ds
    have ha2 := G.h _ _ h1
    cases e3 : putDic false (ks.map kD) ds k d with
    | none => simp only [Z.putAt, e3] at hq; cases hq
    | some P =>
      simp only [Z.putAt, e3] at hq
      cases hq
      unfold putDic at e3
      split at e3
      · rename_i hc
        obtain ⟨hc1, hc2⟩ := hc
        rw [List.length_map] at hc2
        have hsz : (ks.zip vs).length < sizeLine := by rw [List.length_zip, h2.len, h3, Nat.min_self, ← h3, ← line_eq]; exact hc2
        cases e0 : keyD k with
        | none => simp only [keyOk, e0] at hc1; cases hc1
        | some kk0 =>
          obtain ⟨ek, ek2⟩ := keyD_at e0
          have ek2 := ek2 rk
          subst ek2
          cases e1 : ks.findIdx? fun z => decide (z = kk0) with
          | some j =>
            have : posK (ks.map kD) k = some j := by rw [ek, posK_k, e1]
            rw [this] at e3
            cases e3
            have hj : j < ds.length := by rw [← h3]; exact idx_lt e1
            obtain ⟨fr, r1, r2, r3⟩ := h2.putS (H' := upd H2 a (.dK (putK (ks.zip vs) kk0 y))) hj G.f (off _) hn n2 hx (rd' _)
            exact wrap _ _ fr rfl (.odicK (ks := ks) (vs := vs.set j y) (by rw [upd_same, putK_set (h3.trans h2.len.symm) h4 e1]) r1 (by rw [List.length_set]; exact h3) h4) r2 r3 fun Q q => .inr ⟨a, _, rfl, .inl ⟨_, kk0, ha2, rfl, hsz, rfl⟩, q⟩
          | none =>
            have : posK (ks.map kD) k = none := by rw [ek, posK_k, e1]
            rw [this] at e3
            cases e3
            obtain ⟨fr, r1, r2, r3⟩ := h2.snocS (H' := upd H2 a (.dK (putK (ks.zip vs) kk0 y))) G.f (off _) hn n2 hx (rd' _)
            refine wrap _ (.odic false ((ks ++ [kk0]).map kD) (ds ++ [d])) fr (by rw [List.map_append, ek]; rfl) (.odicK (ks := ks ++ [kk0]) (vs := vs ++ [y]) (by rw [upd_same, putK_add (h3.trans h2.len.symm) e1]) r1 (by simp [h3]) (nodup_snoc h4 (notin_of e1))) r2 r3 fun Q q => .inr ⟨a, _, rfl, .inl ⟨_, kk0, ha2, rfl, hsz, rfl⟩, q⟩
      · cases e3
  | odicT h1 h2 h3 h4 =>
    rename_i ks vs ds
    have ha2 := G.h _ _ h1
    cases e3 : putDic true (ks.map fun k => .tup (k.map kD)) ds k d with
    | none => simp only [Z.putAt, e3] at hq; cases hq
    | some P =>
      simp only [Z.putAt, e3] at hq
      cases hq
      unfold putDic at e3
      split at e3
      · rename_i hc
        obtain ⟨hc1, hc2⟩ := hc
        rw [List.length_map] at hc2
        have hsz : (ks.zip vs).length < sizeLine := by rw [List.length_zip, h2.len, h3, Nat.min_self, ← h3, ← line_eq]; exact hc2
        cases k <;> first | (cases hc1; done) | skip
        rename_i kds
        cases e0 : keysD kds with
        | none => simp only [keyOk, e0] at hc1; cases hc1
        | some kk0 =>
          obtain ⟨ek, ek2⟩ := keysD_at e0
          obtain ⟨b, eb, hb⟩ : ∃ b, ky = .ref b ∧ H2 b = some (.tup (kk0.map kV)) := by
            cases rk with
            | tup k1 k2 k3 => exact ⟨_, rfl, by rw [← ek2 k2]; exact G.fh _ _ k1⟩
          subst eb
          cases e1 : ks.findIdx? fun z => decide (z = kk0) with
          | some j =>
            have : posK (ks.map fun k => .tup (k.map kD)) (.tup kds) = some j := by rw [ek, posK_t, e1]
            rw [this] at e3
            cases e3
            have hj : j < ds.length := by rw [← h3]; exact idx_lt e1
            obtain ⟨fr, r1, r2, r3⟩ := h2.putS (H' := upd H2 a (.dT (putK (ks.zip vs) kk0 y))) hj G.f (off _) hn n2 hx (rd' _)
            exact wrap _ _ fr rfl (.odicT (ks := ks) (vs := vs.set j y) (by rw [upd_same, putK_set (h3.trans h2.len.symm) h4 e1]) r1 (by rw [List.length_set]; exact h3) h4) r2 r3 fun Q q => .inr ⟨a, _, rfl, .inr ⟨_, kk0, b, ha2, rfl, hb, hsz, rfl⟩, q⟩
          | none =>
            have : posK (ks.map fun k => .tup (k.map kD)) (.tup kds) = none := by rw [ek, posK_t, e1]
            rw [this] at e3
            cases e3
            obtain ⟨fr, r1, r2, r3⟩ := h2.snocS (H' := upd H2 a (.dT (putK (ks.zip vs) kk0 y))) G.f (off _) hn n2 hx (rd' _)
            refine wrap _ (.odic true ((ks ++ [kk0]).map fun k => .tup (k.map kD)) (ds ++ [d])) fr (by rw [List.map_append, ek]; rfl) (.odicT (ks := ks ++ [kk0]) (vs := vs ++ [y]) (by rw [upd_same, putK_add (h3.trans h2.len.symm) e1]) r1 (by simp [h3]) (nodup_snoc h4 (notin_of e1))) r2 r3 fun Q q => .inr ⟨a, _, rfl, .inr ⟨_, kk0, b, ha2, rfl, hb, hsz, rfl⟩, q⟩
      · cases e3
  | _ => cases hbox
theorem PSet.or {t u : TSet} (h1 : PSet X t) (h2 : PSet X u) : PSet X (fun o i v H Q => t o i v H Q ∨ u o i v H Q) := fun pins s σ H o i v ov iv w Q I ro ri rv h =>
  h.elim (fun h => h1 pins s σ H o i v ov iv w Q I ro ri rv h) fun h => h2 pins s σ H o i v ov iv w Q I ro ri rv h
/-- what stands at the place -/
def atP (env : En) (i : Nat) (pm : D → Option (List Nat)) : Option (D × List Nat × D) := (env[i]?.join).bind fun d0 => (pm d0).bind fun p => (subD d0 p).map fun x => (d0, p, x)
theorem atP_at {env : En} {i : Nat} {d0 x : D} {p : List Nat} (h : atP env i pm = some (d0, p, x)) : env[i]? = some (some d0) ∧ pm d0 = some p ∧ subD d0 p = some x := by
  unfold atP at h
  cases e1 : env[i]? with
  | none => rw [e1] at h; cases h
  | some o =>
    rw [e1] at h
    cases o with
    | none => cases h
    | some d1 =>
      have h : (pm d1).bind (fun p => (subD d1 p).map fun x => (d1, p, x)) = some (d0, p, x) := h
      cases e2 : pm d1 with
      | none => rw [e2] at h; cases h
      | some q =>
        rw [e2, Option.bind_some] at h
        cases e3 : subD d1 q with
        | none => rw [e3] at h; cases h
        | some y =>
          rw [e3] at h
          cases h
          exact ⟨rfl, e2, e3⟩
def sPut (i : Nat) (pm : D → Option (List Nat)) (fk fv : En → Rs D) : En → Fl := fun env => match fv env with
  | .ok d => match atP env i pm with
    | some (d0, p, x) => match fk env with
      | .ok k => match putAt x k d with
        | some e' => .nx (env.set i (some (putD d0 p e')))
        | none => .un
      | .ex x => .xx x env
      | .un => .un
    | none => .un
  | .ex x => .xx x env
  | .un => .un
theorem SS.put {i : Nat} {v : Expr} {fk fv : En → Rs D} {p' : Pos} (hp : SP X E W a i pm) (hk : SE X E W b fk) (hv : SN X E W v fv) (hu : X.A.units + 1 < cLine)
    (ha : ∀ v, assign (.Subscript a b p') X.env v = (do
      let ov ← holding [v] (eval a X.env)
      let iv ← holding [v, ov] (eval b X.env)
      standAt p'
      holding [v, ov, iv] (setItem ov iv v)
      release [v, ov, iv] []) := by intro _; rfl)
    (hs : swapsWithSole [.Subscript a b p'] v pos.line X.env = pure false := by rfl) (hw : swappedStores [.Subscript a b p'] v X.env = pure none := by rfl)
    (h1 : (assignEach [.Subscript a b p'] X.env).map (·.2) = [assign (.Subscript a b p') X.env] := by rfl) : SS X E W (.Assign [.Subscript a b p'] v pos) (sPut i pm fk fv) := by
  obtain ⟨ta, pa, ka⟩ := hp.ex
  obtain ⟨tb, pb, kb⟩ := hk.ex
  obtain ⟨tv, pv, kv⟩ := hv.ex
  refine ⟨hp.hK, _, ps_asg pv (pg_sub pa pb (PSet.or set_list (set_dict hu)) ha) hs hw h1, fun F σ H env S D q => ?_⟩
  refine kv F σ H env S _ ?_
  unfold sPut at q
  cases e1 : fv env with
  | un => rw [e1] at q; exact q
  | ex x => rw [e1] at q; exact fun cls dd F' H' G r => q cls dd F' σ H' G.f (S.grow G) r
  | ok d =>
    rw [e1] at q
    dsimp only at q
    intro y fp F1 H1 G1 r1 hn hfr
    cases e2 : atP env i pm with
    | none => rw [e2] at q; exact q.elim
    | some z =>
      obtain ⟨d0, p, x⟩ := z
      rw [e2] at q
      dsimp only at q
      obtain ⟨he, hpm, hsub⟩ := atP_at e2
      obtain ⟨v0, u0, fq0, g1, _, _, _, _, hatv0, _⟩ := S.chg he hsub
      refine ka F1 σ H1 env d0 p x v0 u0 _ (S.grow G1) he hpm hsub g1 (hatv0.mono G1.h) ?_
      refine kb F1 σ H1 env (S.grow G1) _ ?_
      cases e3 : fk env with
      | un => rw [e3] at q; exact q
      | ex x => rw [e3] at q; exact fun cls dd F' H' G r => q cls dd F' σ H' (G1.trans G).f (S.grow (G1.trans G)) r
      | ok k =>
        rw [e3] at q
        dsimp only at q
        intro ky fk0 F2 H2 G2 r2
        cases e4 : putAt x k d with
        | none => rw [e4] at q; exact q.elim
        | some e' =>
          rw [e4] at q
          have hfr2 : ∀ b ∈ fp, H b = none ∧ F2 b = none := fun b hb => by
            obtain ⟨o, ho⟩ := r1.fp_some _ b hb
            exact ⟨(hfr b hb).1, by rw [G2.o b o ho]; exact (hfr b hb).2⟩
          obtain ⟨v1, a1, ho, g2, hatv1, hQ, S'⟩ := S.putAt (G1.trans G2) he hsub r2 (r1.grow G2) hn hfr2 e4
          rw [g1] at g2
          cases g2
          have := hatv0.det hatv1
          subst this
          exact hQ _ (q F2 σ _ (G1.trans G2).f S')
end
end Z

set_option Elab.async false
set_option linter.all false
set_option maxRecDepth 100000
set_option maxHeartbeats 1000000
/-! ZT: place.setdefault(k, []).append(v); place.pop(); displays of dicts -/
namespace Z
open PySem L2 PySem.Spec PyProof.Rows
section
variable {X : Cx} {pins : List (Addr × Obj)} {σ : L2.St} {H : Hp} {s : Shared} {a b : Addr} {u r : Value} {d : V} {k : List Key} {A : Around} {E : Value → Shared → Prop}
theorem d_setdT {kvs : List (List Key × V)} {Q : Value → Shared → Prop} (hu : A.units + 1 < cLine) (I : Inv X pins σ H s) (e : H a = some (.dT kvs)) (eb : H b = some (.tup (k.map kV))) (rd : RelV d r) (hl : kvs.length < sizeLine)
    (h1 : ∀ v, valV kvs k = some v → ∀ (w' : Value) (s' : Shared), Inv X pins σ H s' → RelV v w' → Q w' s') (h2 : valV kvs k = none → ∀ (w' : Value) (s' : Shared), Inv X pins σ (upd H a (.dT (putK kvs k d))) s' → RelV d w' → Q w' s') :
    wpAny (model X.prog X.w) A (call (.builtin "dict.setdefault") [.ref a, .ref b, r]) Q E s := by
  obtain ⟨z, hd, xs, rel, dd⟩ := dt_of I.hok e
  have hz : xs.length ≤ sizeLine := by rw [← Paired.length rel]; exact z
  have q := rel.val k
  refine call_setdefault_heap (hsz := hz) (tupleKind_room_in1 hu) (key_of I.hok eb) hd dd (fun p hp => ?_) fun hn h' dd' hs => ?_
  · rw [hp] at q
    cases q0 : valV kvs k with
    | none => rw [q0] at q; exact (show False from q).elim
    | some v0 =>
      rw [q0] at q
      exact h1 v0 q0 _ _ (I.tok _) q
  · rw [hn] at q
    cases q0 : valV kvs k with
    | some v0 => rw [q0] at q; exact (show False from q).elim
    | none =>
      have hl2 : (putK kvs k d).length ≤ sizeLine := by
        have := length_putK kvs k d
        omega
      obtain ⟨q, es, ep, hq, h3, h4, h5, _, h6⟩ := dd'
      refine h2 q0 _ _ (d_write I (by rw [e]; exact True.intro) hs ⟨q, hq⟩ ⟨hl2, hd, _, (rel.put k eb rd).keeps fun c ys ec => ?_, q, es, ep, hq, h3, h4, h5, h6⟩) rd
      rw [upd_ne (ne_of ec e (fun z => nomatch z))]
      exact ec
end
/-- d.setdefault(y, z), tuples as keys -/
def tDSetdT (td ty tx : TE) : TE := fun σ H Q => td σ H fun x H1 => ∃ a, x = .ref a ∧ IsD H1 a ∧ ty σ H1 fun y H2 => tx σ H2 fun z H3 => ∃ (kvs : List (List Key × V)) (k : List Key) (b : Addr), H3 a = some (.dT kvs) ∧ y = .ref b ∧ H3 b = some (.tup (k.map kV)) ∧ kvs.length < sizeLine ∧
  (∀ v, valV kvs k = some v → Q v H3) ∧ (valV kvs k = none → Q z (upd H3 a (.dT (putK kvs k z))))
theorem pe_dsetdT {X : Cx} {o e f : Expr} {td ty tx : TE} {apos cpos : Pos} (hu : X.A.units + 1 < cLine) (ho : PE X o td) (he : PE X e ty) (hf : PE X f tx) (m : M2 X o "setdefault" apos e f cpos) : PE X (.Call (.Attribute o "setdefault" apos) [e, f] [] cpos) (tDSetdT td ty tx) := by
  refine ⟨fun pins s σ H Q I h => ?_⟩
  refine wpAny_Call_method m.base m.few m.line PySem.F.plainAttrs_dict PySem.F.slot_dict_setdefault PySem.F.type_dict_setdefault (thn (ho.run pins s σ H _ I h) fun u s1 ⟨x, H1, I1, rx, a, ex, d, q1⟩ => ?_)
  subst ex
  obtain rfl : u = Value.ref a := rx
  obtain ⟨t1, t2, _⟩ := isD_at I1 d
  refine ⟨t1, t2, ?_⟩
  rw [m.trees]
  refine Calls.callWith_builtin rfl (Calls.evalArgs_plain (Calls.spliced_cons (thn (he.run pins s1 σ H1 _ I1 q1) fun iv s2 ⟨y, H2, I2, ry, q2⟩ =>
    Calls.spliced_cons (thn (hf.run pins s2 σ H2 _ I2 q2) fun fv s3 ⟨z, H3, I3, rz, kvs, k, b, ea, ey, eb, hl, q3, q4⟩ => Calls.spliced_nil ?_))))
  subst ey
  obtain rfl : iv = Value.ref b := ry
  exact d_setdT hu I3 ea eb rz hl (fun v hv w' s4 I4 rw' => ⟨v, _, I4, rw', q3 v hv⟩) fun hn w' s4 I4 rw' => ⟨z, _, I4, rw', q4 hn⟩
section
variable {X : Cx} {E : Ent} {W : WX} {e a b : Expr} {f g : En → Rs D} {pos : Pos} {pm : D → Option (List Nat)}
theorem R.head {K : Kx} {F H : Hp} {i : Nat} {k : D} : ∀ {d : D} {v : V} {fp : List Addr}, R K F H d v fp → Z.kid d i = some k → ∃ a f, v = .ref a ∧ fp = a :: f := by
  intro d
  induction d using D.rec (motive_2 := fun _ => True) with
  | olst xs _ => intro v fp r h; cases r; exact ⟨_, _, rfl, rfl⟩
  | odic t ks ws _ _ => intro v fp r h; cases r <;> exact ⟨_, _, rfl, rfl⟩
  | oob c ns ws _ => intro v fp r h; cases r; exact ⟨_, _, rfl, rfl⟩
  | bor t d ih =>
    intro v fp r h
    cases r with
    | bor r e1 hn => exact ih r h
  | nil => trivial
  | cons => trivial
  | _ => intro v fp r h; cases h
theorem R.atUpd {K : Kx} {F H : Hp} {e : D} (hb : isBox e = true) : ∀ (p : List Nat) {d : D} {v : V} {fp : List Addr}, R K F H d v fp → fp.Nodup → subD d p = some e →
    ∃ a, AtV H v p (.ref a) ∧ a ∈ fp ∧ ∀ H' : Hp, (∀ b o, b ≠ a → H b = some o → H' b = some o) → AtV H' v p (.ref a)
  | [], d, v, fp, r, nd, h => by
    have h : some (Z.peel d) = some e := h
    injection h with h
    have r := r.peel
    rw [h] at r
    have hh : ∃ a f0, v = .ref a ∧ fp = a :: f0 := by
      cases r <;> first | (cases hb; done) | exact ⟨_, _, rfl, rfl⟩
    obtain ⟨a, f0, rfl, rfl⟩ := hh
    exact ⟨a, rfl, List.mem_cons_self, fun _ _ => rfl⟩
  | i :: p, d, v, fp, r, nd, h => by
    unfold subD at h
    cases e1 : Z.kid d i with
    | none => rw [e1] at h; cases h
    | some k =>
      rw [e1, Option.bind_some] at h
      obtain ⟨a0, f, ev, ef⟩ := r.head e1
      obtain ⟨u, pre, fq, post, e2, np, ⟨a1, ea, kv⟩, r1, _⟩ := r.kid e1
      rw [ev] at ea
      cases ea
      rw [e2] at nd
      obtain ⟨n1, n2, n3⟩ := List.nodup_append.mp nd
      obtain ⟨a, h1, h2, h3⟩ := R.atUpd hb p r1 (List.nodup_append.mp n2).1 h
      have hpre : a0 ∈ pre := by
        rw [ef] at e2
        cases pre with
        | nil => exact absurd rfl np
        | cons x xs =>
          rw [List.cons_append] at e2
          injection e2 with e2 _
          rw [e2]
          exact List.mem_cons_self
      have hne : a0 ≠ a := fun z => n3 a0 hpre a (by simp [h2]) z
      subst ev
      refine ⟨a, ⟨u, kv, h1⟩, by rw [e2]; simp [h2], fun H' hH => ⟨u, kidV_mono (fun o ho => hH a0 o hne ho) kv, h3 H' hH⟩⟩
theorem Stt.atUpd {E : Ent} {F H : Hp} {env : En} {σ : L2.St} {i : Nat} {d0 e : D} {p : List Nat} (S : Stt E F env σ H) (he : env[i]? = some (some d0)) (hp : subD d0 p = some e) (hb : isBox e = true) {v : V} {a : Addr} (hv : σ[i]? = some (some v)) (hat : AtV H v p (.ref a))
    {H' : Hp} (hH : ∀ b o, b ≠ a → H b = some o → H' b = some o) : AtV H' v p (.ref a) := by
  obtain ⟨fps, rs, nd, fr⟩ := S.rep
  obtain ⟨v', fp, g1, g2, g3⟩ := rs.get he
  rw [hv] at g1
  cases g1
  obtain ⟨a', h1, _, h3⟩ := g3.atUpd hb p (nodup_get nd g2) hp
  have := hat.det h1
  cases this
  exact h3 H' hH
/-- append at the path -/
def appAt (i : Nat) (p : List Nat) (fv : En → Rs D) : En → Fl := fun env => match fv env with
  | .ok d => if isData d then (match (env[i]?.join).bind fun d0 => (subD d0 p).map fun x => (d0, x) with
    | some (d0, .olst ds) => if ds.length < 16777216 then .nx (env.set i (some (putD d0 p (.olst (ds ++ [d]))))) else .un
    | _ => .un) else .un
  | .ex x => .xx x env
  | .un => .un
/-- behind setdefault -/
def sSdA (i : Nat) (pm : D → Option (List Nat)) (fk fv : En → Rs D) : En → Fl := fun env => match atP env i pm with
  | some (d0, p, .odic t KS VS) => match fk env with
    | .ok k => if keyOk t k ∧ KS.length < 16777216 then (match posK KS k with
      | some j => (match VS[j]? with
        | some (.olst _) => appAt i (p ++ [j]) fv env
        | _ => .un)
      | none => appAt i (p ++ [KS.length]) fv (env.set i (some (putD d0 p (.odic t (KS ++ [k]) (VS ++ [.olst []])))))) else .un
    | .ex x => .xx x env
    | .un => .un
  | _ => .un
theorem appAt_ok {i : Nat} {p : List Nat} {fv : En → Rs D} {tv : TE} (kv : OkE E W tv fv) {F H : Hp} {σ : L2.St} {env : En} (S : Stt E F env σ H) {D0 : Ends} (q : PostS E W F D0 (appAt i p fv env)) {v : V} {ad : Addr} (hv : σ[i]? = some (some v)) (hat : AtV H v p (.ref ad)) :
    tv σ H fun y H1 => ∃ l vs y', V.ref ad = .ref l ∧ [y] = [y'] ∧ H1 l = some (.lst vs) ∧ vs.length < sizeLine ∧ D0.nx σ (upd H1 l (.lst (vs ++ [y']))) := by
  refine kv F σ H env S _ ?_
  unfold appAt at q
  cases e1 : fv env with
  | un => rw [e1] at q; exact q
  | ex x => rw [e1] at q; exact fun cls dd F' H' G r => q cls dd F' σ H' G.f (S.grow G) r
  | ok d =>
    rw [e1] at q
    dsimp only at q
    intro y fp F1 H1 G1 r1
    split at q
    · rename_i hd
      split at q
      · rename_i d0 ds e2
        split at q
        · rename_i hlt
          have he : env[i]? = some (some d0) ∧ subD d0 p = some (.olst ds) := by
            cases e3 : env[i]? with
            | none => rw [e3] at e2; cases e2
            | some o =>
              rw [e3] at e2
              cases o with
              | none => cases e2
              | some d1 =>
                have e2 : (subD d1 p).map (fun x => (d1, x)) = some (d0, .olst ds) := e2
                cases e4 : subD d1 p with
                | none => rw [e4] at e2; cases e2
                | some x => rw [e4] at e2; cases e2; exact ⟨rfl, e4⟩
          obtain ⟨v', a1, vs, g1, _, hat', h1, _, kk, fp0, h2⟩ := (S.grow G1).chgL he.1 he.2
          rw [hv] at g1
          cases g1
          have := (hat.mono G1.h).det hat'
          cases this
          refine ⟨_, vs, y, rfl, rfl, h1, by rw [h2.len, ← line_eq]; exact hlt, q F1 σ _ G1.f (kk (ds ++ [d]) (vs ++ [y]) (fun fq hq => ?_) (by rw [List.length_append]; simp; omega))⟩
          have := hq.snoc (r1.toData hd)
          rw [List.append_nil] at this
          exact this
        · exact q.elim
      · exact q.elim
    · exact q.elim
theorem kV_inj : ∀ {a b : Key}, kV a = kV b → a = b
  | .inl _, .inl _, h => by cases h; rfl
  | .inr _, .inr _, h => by cases h; rfl
  | .inl _, .inr _, h => by cases h
  | .inr _, .inl _, h => by cases h
theorem mapkV_inj : ∀ {a b : List Key}, a.map kV = b.map kV → a = b
  | [], [], _ => rfl
  | [], _ :: _, h => by simp at h
  | _ :: _, [], h => by simp at h
  | x :: a, y :: b, h => by
    simp only [List.map_cons, List.cons.injEq] at h
    rw [kV_inj h.1, mapkV_inj h.2]
theorem SS.sda {i : Nat} {v : Expr} {fk fv : En → Rs D} {a1 a2 c1 c2 lp : Pos} (hp : SP X E W a i pm) (hk : SE X E W b fk) (hv : SE X E W v fv) (hu : X.A.units + 1 < cLine)
    (m : M2 X a "setdefault" a1 b (.List [] lp) c1)
    (hbase : attributeBase (.Call (.Attribute a "setdefault" a1) [b, .List [] lp] [] c1) "append" X.env (eval (.Call (.Attribute a "setdefault" a1) [b, .List [] lp] [] c1) X.env) = eval (.Call (.Attribute a "setdefault" a1) [b, .List [] lp] [] c1) X.env := by rfl)
    (hfew : ((backTo c2 (starEach [v] X.env)).all (fun x => !x.1) && (backToKw c2 (keywordEach [] X.env)).all (fun x => x.1.isSome)
      && decide ([v].length + ([] : List Keyword).length + (if ([] : List Keyword).isEmpty then 0 else 1) < 30)) = true := by rfl)
    (hline : (a2.endLine == c2.line) = true := by rfl) (hs : starEach [v] X.env = (false, eval v X.env) :: starEach [] X.env := by rfl) (hplain : (backTo c2 (starEach [] X.env)).any (·.1) = false := by rfl)
    (hsw : swapsWith (.Call (.Attribute (.Call (.Attribute a "setdefault" a1) [b, .List [] lp] [] c1) "append" a2) [v] [] c2) none pos.line X.env = pure false := by rfl) :
    SS X E W (.Expr (.Call (.Attribute (.Call (.Attribute a "setdefault" a1) [b, .List [] lp] [] c1) "append" a2) [v] [] c2) pos) (sSdA i pm fk fv) := by
  obtain ⟨ta, pa, ka⟩ := hp.ex
  obtain ⟨tb, pb, kb⟩ := hk.ex
  obtain ⟨tv, pv, kv⟩ := hv.ex
  obtain ⟨tl, pl, kl⟩ := (SL.lst (pos := lp) (SA.nil (X := X) (E := E) (W := W) hp.hK)).ex
  refine ⟨hp.hK, _, ps_expr (pe_bm PySem.F.plainAttrs_list PySem.F.slot_list_append PySem.F.type_list_append mt_append (PE.or (pe_dsetd pa pb pl m) (pe_dsetdT hu pa pb pl m)) (pa_cons pv pa_nil hs) hbase hfew hline hs hplain) hsw, fun F σ H env S D0 q => ?_⟩
  unfold sSdA at q
  split at q
  · rename_i d0 p t KS VS e2
    obtain ⟨he, hpm, hsub⟩ := atP_at e2
    obtain ⟨v0, ad, f0, g1, _, hatv, r, n1, n2, hF, _⟩ := S.kids (Grow.refl S.fH) he hsub rfl
    cases r with
    | odicK h1 h2 h3 h4 =>
      rename_i ks vs
      refine .inl (ka F σ H env d0 p _ v0 (.ref ad) _ S he hpm hsub g1 hatv ⟨ad, rfl, .inl ⟨_, .inl h1⟩, kb F σ H env S _ ?_⟩)
      cases e3 : fk env with
      | un => rw [e3] at q; exact q
      | ex x => rw [e3] at q; exact fun cls dd F' H' G r => q cls dd F' σ H' G.f (S.grow G) r
      | ok k =>
        rw [e3] at q
        dsimp only at q
        split at q
        · rename_i hc
          obtain ⟨hc1, hc2⟩ := hc
          cases e0 : keyD k with
          | none => simp only [keyOk, e0] at hc1; cases hc1
          | some kk0 =>
            obtain ⟨ek, ek2⟩ := keyD_at e0
            intro ky fk0 F1 H1 G1 r1
            have := ek2 r1
            subst this
            refine kl F1 σ H1 env (S.grow G1) _ ?_
            intro pa0 vs0 F2 H2 G2 hp0 hF2 hH2 rl _
            cases rl
            have G := G1.trans G2
            have ha2 := G.h _ _ h1
            have hsz : (ks.zip vs).length < sizeLine := by rw [List.length_zip, h2.len, h3, Nat.min_self, ← h3, ← line_eq]; simpa using hc2
            refine ⟨ks.zip vs, kk0, ha2, rfl, hsz, fun w hw => ?_, fun hn => ?_⟩
            · rw [valV_zip kk0 ks vs (h3.trans h2.len.symm)] at hw
              cases e1 : ks.findIdx? fun z => decide (z = kk0) with
              | none => rw [e1] at hw; cases hw
              | some j =>
                rw [e1, Option.bind_some] at hw
                have : posK (ks.map kD) k = some j := by rw [ek, posK_k, e1]
                rw [this] at q
                dsimp only at q
                split at q
                · rename_i ds0 e4
                  obtain ⟨w', fq, e5, r5⟩ := h2.get e4
                  rw [hw] at e5
                  cases e5
                  obtain ⟨al, vl, fl, rfl, rfl, hl1, _⟩ := r5.olst_inv2
                  have hat : AtV H2 v0 (p ++ [j]) (.ref al) := (hatv.mono G.h).snoc ⟨ad, rfl, by rw [ha2]; exact (zip_snd _ _ _ (h3.trans h2.len.symm)).trans hw⟩
                  refine ⟨Or.inl ⟨rfl, vl, SqL.of (G.h _ _ hl1)⟩, ?_⟩
                  exact appAt_ok kv (S.grow G) (q.mono G.f) g1 hat
                · exact q.elim
            · rw [valV_zip kk0 ks vs (h3.trans h2.len.symm)] at hn
              cases e1 : ks.findIdx? fun z => decide (z = kk0) with
              | some j =>
                rw [e1, Option.bind_some] at hn
                have := idx_lt e1
                rw [List.getElem?_eq_none_iff, h2.len] at hn
                omega
              | none =>
                have : posK (ks.map kD) k = none := by rw [ek, posK_k, e1]
                rw [this] at q
                dsimp only at q
                have hput : Z.putAt (.odic false (ks.map kD) VS) k (.olst []) = some (.odic false (ks.map kD ++ [k]) (VS ++ [.olst []])) := by
                  simp only [Z.putAt, putDic, keyOk, e0, this]
                  rw [if_pos ⟨rfl, hc2⟩]
                  rfl
                have hpa : H pa0 = none := by
                  cases q0 : H pa0 with
                  | none => rfl
                  | some o => rw [G1.h _ _ q0] at hp0; cases hp0
                have hne : pa0 ≠ ad := fun z => by rw [z, h1] at hpa; cases hpa
                obtain ⟨v1, a9, ho, g2, hat1, hQ, S'⟩ := S.putAt G he hsub (r1.grow G2) (.olst hH2 .nil (Nat.zero_le _)) (nodup1 pa0) (fun b hb => by rw [List.mem_singleton.mp hb]; exact ⟨hpa, hF2⟩) hput
                rw [g1] at g2
                cases g2
                have := hatv.det hat1
                cases this
                have eH : upd H2 ad ho = upd H2 ad (.dK (putK (ks.zip vs) kk0 (.ref pa0))) := by
                  rcases hQ (· = upd H2 ad ho) rfl with ⟨p9, xs, k9, j9, e9, _, e10, _⟩ | ⟨p9, H9, e9, e10, e11⟩
                  · cases e9
                    rw [ha2] at e10; cases e10
                  · cases e9
                    rcases e10 with ⟨kvs, k9, z1, z2, z3, z4⟩ | ⟨kvs, k9, b9, z1, _⟩
                    · rw [ha2] at z1
                      cases z1
                      rw [← e11, z4, kV_inj z2]
                    · rw [ha2] at z1; cases z1
                rw [eH] at S'
                have hat3 : AtV (upd H2 ad (.dK (putK (ks.zip vs) kk0 (.ref pa0)))) v0 p (.ref ad) := S.atUpd he hsub rfl g1 hatv fun b o hb ho => by rw [upd_ne hb]; exact G.h _ _ ho
                have hat4 := hat3.snoc (j := (ks.map kD).length) (w := .ref pa0) ⟨ad, rfl, by
                  rw [upd_same, putK_add (h3.trans h2.len.symm) e1]
                  refine (zip_snd _ _ _ (by simp [h3, h2.len])).trans ?_
                  rw [List.length_map, h3, ← h2.len]
                  simp⟩
                refine ⟨Or.inl ⟨rfl, [], SqL.of (by rw [upd_ne hne]; exact hH2)⟩, ?_⟩
                exact appAt_ok kv S' (q.mono G.f) g1 hat4
        · exact q.elim
    | odicT h1 h2 h3 h4 =>
      rename_i ks vs
      refine .inr (ka F σ H env d0 p _ v0 (.ref ad) _ S he hpm hsub g1 hatv ⟨ad, rfl, .inr ⟨_, .inl h1⟩, kb F σ H env S _ ?_⟩)
      cases e3 : fk env with
      | un => rw [e3] at q; exact q
      | ex x => rw [e3] at q; exact fun cls dd F' H' G r => q cls dd F' σ H' G.f (S.grow G) r
      | ok k =>
        rw [e3] at q
        dsimp only at q
        split at q
        · rename_i hc
          obtain ⟨hc1, hc2⟩ := hc
          cases k <;> first | (cases hc1; done) | skip
          rename_i kds
          cases e0 : keysD kds with
          | none => simp only [keyOk, e0] at hc1; cases hc1
          | some kk0 =>
            obtain ⟨ek, ek2⟩ := keysD_at e0
            intro ky fk0 F1 H1 G1 r1
            obtain ⟨b, eb, hb⟩ : ∃ b, ky = .ref b ∧ F1 b = some (.tup (kk0.map kV)) := by
              cases r1 with
              | tup k1 k2 k3 => exact ⟨_, rfl, by rw [← ek2 k2]; exact k1⟩
            subst eb
            refine kl F1 σ H1 env (S.grow G1) _ ?_
            intro pa0 vs0 F2 H2 G2 hp0 hF2 hH2 rl _
            cases rl
            have G := G1.trans G2
            have ha2 := G.h _ _ h1
            have hsz : (ks.zip vs).length < sizeLine := by rw [List.length_zip, h2.len, h3, Nat.min_self, ← h3, ← line_eq]; simpa using hc2
            refine ⟨ks.zip vs, kk0, b, ha2, rfl, G2.h _ _ (G1.fh _ _ hb), hsz, fun w hw => ?_, fun hn => ?_⟩
            · rw [valV_zip kk0 ks vs (h3.trans h2.len.symm)] at hw
              cases e1 : ks.findIdx? fun z => decide (z = kk0) with
              | none => rw [e1] at hw; cases hw
              | some j =>
                rw [e1, Option.bind_some] at hw
                have : posK (ks.map fun k => .tup (k.map kD)) (.tup kds) = some j := by rw [ek, posK_t, e1]
                rw [this] at q
                dsimp only at q
                split at q
                · rename_i ds0 e4
                  obtain ⟨w', fq, e5, r5⟩ := h2.get e4
                  rw [hw] at e5
                  cases e5
                  obtain ⟨al, vl, fl, rfl, rfl, hl1, _⟩ := r5.olst_inv2
                  have hat : AtV H2 v0 (p ++ [j]) (.ref al) := (hatv.mono G.h).snoc ⟨ad, rfl, by rw [ha2]; exact (zip_snd _ _ _ (h3.trans h2.len.symm)).trans hw⟩
                  refine ⟨Or.inl ⟨rfl, vl, SqL.of (G.h _ _ hl1)⟩, ?_⟩
                  exact appAt_ok kv (S.grow G) (q.mono G.f) g1 hat
                · exact q.elim
            · rw [valV_zip kk0 ks vs (h3.trans h2.len.symm)] at hn
              cases e1 : ks.findIdx? fun z => decide (z = kk0) with
              | some j =>
                rw [e1, Option.bind_some] at hn
                have := idx_lt e1
                rw [List.getElem?_eq_none_iff, h2.len] at hn
                omega
              | none =>
                have : posK (ks.map fun k => .tup (k.map kD)) (.tup kds) = none := by rw [ek, posK_t, e1]
                rw [this] at q
                dsimp only at q
                have hput : Z.putAt (.odic true (ks.map fun k => .tup (k.map kD)) VS) (.tup kds) (.olst []) = some (.odic true (ks.map (fun k => D.tup (k.map kD)) ++ [.tup kds]) (VS ++ [.olst []])) := by
                  simp only [Z.putAt, putDic, keyOk, e0, this]
                  rw [if_pos ⟨rfl, hc2⟩]
                  rfl
                have hpa : H pa0 = none := by
                  cases q0 : H pa0 with
                  | none => rfl
                  | some o => rw [G1.h _ _ q0] at hp0; cases hp0
                have hne : pa0 ≠ ad := fun z => by rw [z, h1] at hpa; cases hpa
                obtain ⟨v1, a9, ho, g2, hat1, hQ, S'⟩ := S.putAt G he hsub (r1.grow G2) (.olst hH2 .nil (Nat.zero_le _)) (nodup1 pa0) (fun b hb => by rw [List.mem_singleton.mp hb]; exact ⟨hpa, hF2⟩) hput
                rw [g1] at g2
                cases g2
                have := hatv.det hat1
                cases this
                have eH : upd H2 ad ho = upd H2 ad (.dT (putK (ks.zip vs) kk0 (.ref pa0))) := by
                  rcases hQ (· = upd H2 ad ho) rfl with ⟨p9, xs, k9, j9, e9, _, e10, _⟩ | ⟨p9, H9, e9, e10, e11⟩
                  · cases e9
                    rw [ha2] at e10; cases e10
                  · cases e9
                    rcases e10 with ⟨kvs, k9, z1, _⟩ | ⟨kvs, k9, b9, z1, z2, z5, z3, z4⟩
                    · rw [ha2] at z1; cases z1
                    · rw [ha2] at z1
                      cases z1
                      cases z2
                      rw [G2.h _ _ (G1.fh _ _ hb)] at z5
                      injection z5 with z5
                      injection z5 with z5
                      rw [← e11, z4, mapkV_inj z5]
                rw [eH] at S'
                have hat3 : AtV (upd H2 ad (.dT (putK (ks.zip vs) kk0 (.ref pa0)))) v0 p (.ref ad) := S.atUpd he hsub rfl g1 hatv fun b o hb ho => by rw [upd_ne hb]; exact G.h _ _ ho
                have hat4 := hat3.snoc (j := (ks.map fun k => D.tup (k.map kD)).length) (w := .ref pa0) ⟨ad, rfl, by
                  rw [upd_same, putK_add (h3.trans h2.len.symm) e1]
                  refine (zip_snd _ _ _ (by simp [h3, h2.len])).trans ?_
                  rw [List.length_map, h3, ← h2.len]
                  simp⟩
                refine ⟨Or.inl ⟨rfl, [], SqL.of (by rw [upd_ne hne]; exact hH2)⟩, ?_⟩
                exact appAt_ok kv S' (q.mono G.f) g1 hat4
        · exact q.elim
  · exact q.elim
end
end Z

set_option Elab.async false
set_option linter.all false
set_option maxRecDepth 100000
set_option maxHeartbeats 1000000
/-! ZU: xs.pop(); displays of dicts; chained comparisons -/
namespace Z
open PySem L2
theorem RL.unsnoc {K : Kx} {F H : Hp} {d : D} (hd : isData d = true) : ∀ {ds : List D} {vs : List V} {fp : List Addr}, RL K F H (ds ++ [d]) vs fp → ∃ vs' v, vs = vs' ++ [v] ∧ RL K F H ds vs' fp ∧ R K F H d v []
  | [], vs, fp, h => by
    cases h with
    | cons h1 h2 =>
      cases h2
      have e := h1.data hd
      subst e
      exact ⟨[], _, rfl, .nil, h1⟩
  | x :: ds, vs, fp, h => by
    cases h with
    | cons h1 h2 =>
      obtain ⟨vs', v, rfl, h3, h4⟩ := RL.unsnoc hd h2
      exact ⟨_ :: vs', v, rfl, .cons h1 h3, h4⟩
section
variable {X : Cx} {E : Ent} {W : WX} {e a b c : Expr} {f g h : En → Rs D} {pos : Pos} {pm : D → Option (List Nat)}
def xPop (i : Nat) : En → Fv D := fun env => match env[i]? with
  | some (some d0) => match peel d0 with
    | .olst ds => match ds.getLast? with
      | some d => if isData d then .ok d (env.set i (some (putRoot d0 (.olst ds.dropLast)))) else .un
      | none => .un
    | _ => .un
  | _ => .un
theorem SX.pop (i : Nat) {y : Str} {py apos cpos : Pos} (hK : X.K = E.K.k := by rfl) (hN : X.N[i]? = some y := by rfl) (hv : Vis X.env.scope y := by first | exact Or.inl rfl | exact Or.inr (Or.inl rfl) | exact Or.inr (Or.inr rfl))
    (hd : (y == ("__debug__" : Str)) = false := by decide) (hcd : (y == ("__classdict__" : Str)) = false := by decide)
    (hbase : attributeBase (.Name y py) "pop" X.env (eval (.Name y py) X.env) = eval (.Name y py) X.env := by rfl)
    (hline : (apos.endLine == cpos.line) = true := by rfl) :
    SX X E W (.Call (.Attribute (.Name y py) "pop" apos) [] [] cpos) (xPop i) := by
  refine ⟨hK, _, pe_bm0 PySem.F.plainAttrs_list PySem.F.slot_list_pop PySem.F.type_list_pop mt_pop (pe_var hN hv hd hcd) hbase hline, fun F σ H env S Q q => ?_⟩
  unfold xPop at q
  split at q
  · rename_i d0 he
    split at q
    · rename_i ds hpe
      split at q
      · rename_i d hl
        split at q
        · rename_i hda
          obtain ⟨v, a0, vs, g1, hr0, _, h1, _, kk, fp0, h2⟩ := S.chgL (p := []) he (show subD d0 [] = some (.olst ds) by rw [← hpe]; rfl)
          obtain rfl := hr0 rfl
          have eds : ds = ds.dropLast ++ [d] := by
            obtain ⟨ys, rfl⟩ := List.getLast?_eq_some_iff.mp hl
            simp
          have h2' := h2
          rw [eds] at h2'
          obtain ⟨vs', y0, rfl, h3, h4⟩ := h2'.unsnoc hda
          have hz : ds.length ≤ 16777216 := by
            obtain ⟨v', u, fq, g1', r, _⟩ := S.chg (p := []) he (show subD d0 [] = some (.olst ds) by rw [← hpe]; rfl)
            obtain ⟨_, _, _, _, _, _, _, hz⟩ := r.olst_inv2
            exact hz
          refine ⟨.ref a0, g1, Or.inl ⟨rfl, _, SqL.of h1⟩, a0, vs' ++ [y0], y0, rfl, rfl, h1, by simp, ?_⟩
          rw [List.dropLast_concat]
          refine q y0 F _ (Same.refl _) (kk ds.dropLast vs' (fun fq hq => ?_) (by rw [List.length_dropLast]; omega)) (R.mono (Same.refl _) _ (fun a z => nomatch z) h4)
          rw [eds] at hq
          obtain ⟨vs'', y1, e1, h5, _⟩ := hq.unsnoc hda
          obtain ⟨e2, _⟩ := List.append_inj' e1 rfl
          rw [e2]
          exact h5
        · exact q.elim
      · exact q.elim
    · exact q.elim
  · exact q.elim
/-! a op b op' c -/
def chainZ (op' : D → D → Option D) (h : En → Rs D) (env : En) (y : D) : D → Rs D
  | .bl true => (h env).bind fun w => ofO (op' y w)
  | .bl false => .ok (.bl false)
  | _ => .un
def eChain (op op' : D → D → Option D) (f g h : En → Rs D) : En → Rs D := fun env => (f env).bind fun x => (g env).bind fun y => (ofO (op x y)).bind fun z => chainZ op' h env y z
theorem bl3 {op' : D → D → Option D} {h : En → Rs D} {env : En} {y : D} : ∀ d : D, d = .bl true ∨ d = .bl false ∨ chainZ op' h env y d = .un
  | .bl true => .inl rfl
  | .bl false => .inr (.inl rfl)
  | .non | .int _ | .str _ | .tup _ | .lst _ | .olst _ | .dic _ _ _ | .odic _ _ _ | .set _ | .oset _ | .ob _ _ _ | .oob _ _ _ | .scr _ | .bor _ _ | .exn _ _ _ _ _ _ => .inr (.inr rfl)
theorem chain_ok {o o' : CmpOp} {op op' : D → D → Option D} {r r' : R2} {ta tb tc : TE}
    (h2 : ∀ (F H : Hp) (x y : V) (d1 d2 : D) (fp1 fp2 : List Addr) (d : D), Same F H → R E.K F H d1 x fp1 → R E.K F H d2 y fp2 → op d1 d2 = some d → ∀ (Q : VK), (∀ (v : V) (fp : List Addr) (F' H' : Hp), Grow F H F' H' → R E.K F' H' d v fp → Q v H') → r x y H Q)
    (h2' : ∀ (F H : Hp) (x y : V) (d1 d2 : D) (fp1 fp2 : List Addr) (d : D), Same F H → R E.K F H d1 x fp1 → R E.K F H d2 y fp2 → op' d1 d2 = some d → ∀ (Q : VK), (∀ (v : V) (fp : List Addr) (F' H' : Hp), Grow F H F' H' → R E.K F' H' d v fp → Q v H') → r' x y H Q)
    (ka : OkE E W ta f) (kb : OkE E W tb g) (kc : OkE E W tc h) : OkE E W (tChain r r' ta tb tc) (eChain op op' f g h) := by
  intro F σ H env S Q q
  refine ka F σ H env S _ ?_
  unfold eChain at q
  cases e1 : f env with
  | un => rw [e1] at q; exact q
  | ex x => rw [e1] at q; exact q
  | ok d1 =>
    rw [e1, Rs.bind_ok] at q
    intro v1 fp1 F1 H1 G1 r1
    refine kb F1 σ H1 env (S.grow G1) _ ?_
    cases e2 : g env with
    | un => rw [e2] at q; exact q
    | ex x => rw [e2] at q; exact PostE.mono (r := .ex x) G1 q
    | ok d2 =>
      rw [e2, Rs.bind_ok] at q
      intro v2 fp2 F2 H2 G2 r2
      cases e3 : op d1 d2 with
      | none => rw [e3] at q; exact q.elim
      | some d =>
        rw [e3] at q
        refine h2 F2 H2 v1 v2 d1 d2 fp1 fp2 d G2.fh (r1.grow G2) r2 e3 _ fun v3 fp3 F3 H3 G3 r3 => ?_
        have G := (G1.trans G2).trans G3
        have q : PostE E W F H σ Q (chainZ op' h env d2 d) := q
        have hd : d = .bl true ∨ d = .bl false ∨ chainZ op' h env d2 d = .un := by
          exact bl3 d
        rcases hd with hd | hd | hd
        · subst hd
          have q : PostE E W F H σ Q ((h env).bind fun w => ofO (op' d2 w)) := q
          cases r3
          refine ⟨true, rfl, ?_⟩
          rw [if_pos rfl]
          refine kc F3 σ H3 env (S.grow G) _ ?_
          cases e4 : h env with
          | un => rw [e4] at q; exact q
          | ex x => rw [e4] at q; exact PostE.mono (r := .ex x) G q
          | ok d4 =>
            rw [e4, Rs.bind_ok] at q
            intro v4 fp4 F4 H4 G4 r4
            cases e5 : op' d2 d4 with
            | none => rw [e5] at q; exact q.elim
            | some d5 =>
              rw [e5] at q
              exact h2' F4 H4 v2 v4 d2 d4 fp2 fp4 d5 G4.fh ((r2.grow G3).grow G4) r4 e5 _ fun v5 fp5 F5 H5 G5 r5 => q v5 fp5 F5 H5 ((G.trans G4).trans G5) r5
        · subst hd
          cases r3
          refine ⟨false, rfl, ?_⟩
          rw [if_neg Bool.false_ne_true]
          exact q _ [] F3 H3 G (.bl false)
        · rw [hd] at q; exact q.elim
theorem SE.chain {o o' : CmpOp} {op op' : D → D → Option D} (ho : OpS X E (compareOp o) op) (ho' : OpS X E (compareOp o') op') (ha : SE X E W a f) (hb : SE X E W b g) (hc : SE X E W c h)
    (hm : lastMarks [o, o'] [b, c] = false := by with_unfolding_all rfl) : SE X E W (.Compare a [o, o'] [b, c] pos) (eChain op op' f g h) := by
  obtain ⟨r, h1, h2⟩ := ho
  obtain ⟨r', h1', h2'⟩ := ho'
  obtain ⟨ta, pa, ka⟩ := ha.ex
  obtain ⟨tb, pb, kb⟩ := hb.ex
  obtain ⟨tc, pc, kc⟩ := hc.ex
  exact ⟨ha.hK, _, pe_chain h1 h1' pa pb pc hm, chain_ok (o := o) (o' := o') h2 h2' ka kb kc⟩
theorem ST.chain {o o' : CmpOp} {op op' : D → D → Option D} (ho : OpS X E (compareOp o) op) (ho' : OpS X E (compareOp o') op') (ha : SE X E W a f) (hb : SE X E W b g) (hc : SE X E W c h)
    (hm : lastMarks [o, o'] [b, c] = false := by with_unfolding_all rfl) : ST X E W (.Compare a [o, o'] [b, c] pos) (eB (eChain op op' f g h)) := by
  obtain ⟨r, h1, h2⟩ := ho
  obtain ⟨r', h1', h2'⟩ := ho'
  obtain ⟨ta, pa, ka⟩ := ha.ex
  obtain ⟨tb, pb, kb⟩ := hb.ex
  obtain ⟨tc, pc, kc⟩ := hc.ex
  exact ⟨ha.hK, _, pt_chain h1 h1' pa pb pc hm, test_ok (chain_ok (o := o) (o' := o') h2 h2' ka kb kc)⟩
/-! ### displays of dicts -/
def OkPs (E : Ent) (W : WX) (trs : List (TE × TE)) (fs : En → Rs (List D × List D)) : Prop := ∀ F σ H env, Stt E F env σ H → ∀ Q : List (V × V) → Hp → Prop, (match fs env with
  | .ok p => ∀ xs ys F' H', Grow F H F' H' → RL E.K F' H' p.1 xs [] → RL E.K F' H' p.2 ys [] → p.1.length = p.2.length → Q (xs.zip ys) H'
  | .ex x => ∀ cls dd F' H', Grow F H F' H' → Rx E.K F' H' x cls dd → W cls dd σ H'
  | .un => False) → tPairs trs σ H Q
structure SPs (X : Cx) (E : Ent) (W : WX) (pos : Pos) (ks : List (Option Expr)) (vs : List Expr) (fs : En → Rs (List D × List D)) : Prop where
  hK : X.K = E.K.k
  ex : ∃ trs, PPs X pos ks vs trs ∧ OkPs E W trs fs
def psNil : En → Rs (List D × List D) := fun _ => .ok ([], [])
def psCons (f g : En → Rs D) (fs : En → Rs (List D × List D)) : En → Rs (List D × List D) := fun env => (f env).bind fun k => (g env).bind fun v => (fs env).bind fun p => if isData k && isData v then .ok (k :: p.1, v :: p.2) else .un
theorem SPs.nil (hK : X.K = E.K.k := by rfl) : SPs X E W pos [] [] psNil := ⟨hK, _, pps_nil, fun F σ H env S Q q => q [] [] F H (Grow.refl S.fH) .nil .nil rfl⟩
theorem SPs.cons {ks : List (Option Expr)} {vs : List Expr} {fs : En → Rs (List D × List D)} (ha : SE X E W a f) (hb : SE X E W b g) (hr : SPs X E W pos ks vs fs) : SPs X E W pos (some a :: ks) (b :: vs) (psCons f g fs) := by
  obtain ⟨ta, pa, ka⟩ := ha.ex
  obtain ⟨tb, pb, kb⟩ := hb.ex
  obtain ⟨tr, pr, kr⟩ := hr.ex
  refine ⟨ha.hK, _, pps_cons pa pb pr, fun F σ H env S Q q => ?_⟩
  show ta σ H fun x H1 => tb σ H1 fun y H2 => tPairs tr σ H2 fun ps H3 => Q ((x, y) :: ps) H3
  unfold psCons at q
  refine ka F σ H env S _ ?_
  cases e1 : f env with
  | un => rw [e1] at q; exact q
  | ex x => rw [e1] at q; exact q
  | ok k =>
    rw [e1, Rs.bind_ok] at q
    intro v1 fp1 F1 H1 G1 r1
    refine kb F1 σ H1 env (S.grow G1) _ ?_
    cases e2 : g env with
    | un => rw [e2] at q; exact q
    | ex x => rw [e2] at q; exact fun cls dd F' H' g => q cls dd F' H' (G1.trans g)
    | ok v =>
      rw [e2, Rs.bind_ok] at q
      intro v2 fp2 F2 H2 G2 r2
      refine kr F2 σ H2 env (S.grow (G1.trans G2)) _ ?_
      cases e3 : fs env with
      | un => rw [e3] at q; exact q
      | ex x => rw [e3] at q; exact fun cls dd F' H' g => q cls dd F' H' ((G1.trans G2).trans g)
      | ok p =>
        rw [e3, Rs.bind_ok] at q
        intro xs ys F3 H3 G3 r3 r4 hl
        cases hd : isData k && isData v with
        | false => rw [hd] at q; exact q.elim
        | true =>
          rw [hd] at q
          rw [Bool.and_eq_true] at hd
          exact q (v1 :: xs) (v2 :: ys) F3 H3 ((G1.trans G2).trans G3) (RL.mk0 (((r1.grow G2).grow G3).toData hd.1) r3) (RL.mk0 ((r2.grow G3).toData hd.2) r4) (by rw [List.length_cons, List.length_cons, hl])
/-- the dict of a display -/
def dispD : List D → List D → List D → List D → Option (List D × List D)
  | [], _, KS, VS => some (KS, VS)
  | k :: ks, v :: vs, KS, VS => (putDic false KS VS k v).bind fun p => dispD ks vs p.1 p.2
  | _ :: _, [], _, _ => none
def eDisp (n : Nat) (fs : En → Rs (List D × List D)) : En → Rs D := fun env => (fs env).bind fun p => if p.1.length ≤ 15 then ofO ((dispD p.1 p.2 [] []).map fun r => .odic false r.1 r.2) else .un
theorem dispD_at {K : Kx} {F H : Hp} : ∀ {kds vds : List D} {xs ys : List V} {ks : List Key} {VS : List D} {vs : List V} {KS' VS' : List D}, RL K F H kds xs [] → RL K F H vds ys [] → kds.length = vds.length → RL K F H VS vs [] → ks.length = VS.length → ks.Nodup → dispD kds vds (ks.map kD) VS = some (KS', VS') →
    ∃ (kvs : List (Key × V)) (ks' : List Key) (vs' : List V), xs.zip ys = kvs.map (fun kv => (kV kv.1, kv.2)) ∧ kvs.length = kds.length ∧ KS' = ks'.map kD ∧ RL K F H VS' vs' [] ∧ ks'.length = VS'.length ∧ ks'.Nodup ∧ mergeK (ks.zip vs) kvs = ks'.zip vs'
  | [], [], xs, ys, ks, VS, vs, KS', VS', h1, h2, hl, r, hz, hn, e => by
    cases h1; cases h2
    cases e
    exact ⟨[], ks, vs, rfl, rfl, rfl, r, hz, hn, rfl⟩
  | [], _ :: _, _, _, _, _, _, _, _, _, _, hl, _, _, _, _ => by simp at hl
  | _ :: _, [], _, _, _, _, _, _, _, _, _, hl, _, _, _, _ => by simp at hl
  | k :: kds, d :: vds, xs, ys, ks, VS, vs, KS', VS', h1, h2, hl, r, hz, hn, e => by
    obtain ⟨x, xs', rfl, rk, h3⟩ := h1.inv_cons
    obtain ⟨y, ys', rfl, rd, h4⟩ := h2.inv_cons
    unfold dispD at e
    cases e3 : putDic false (ks.map kD) VS k d with
    | none => rw [e3] at e; cases e
    | some P =>
      rw [e3, Option.bind_some] at e
      unfold putDic at e3
      split at e3
      · rename_i hc
        obtain ⟨hc1, hc2⟩ := hc
        cases e0 : keyD k with
        | none => simp only [keyOk, e0] at hc1; cases hc1
        | some kk0 =>
          obtain ⟨ek, ek2⟩ := keyD_at e0
          have ek2 := ek2 rk
          subst ek2
          have hzz : ks.length = vs.length := hz.trans r.len.symm
          cases e1 : ks.findIdx? fun z => decide (z = kk0) with
          | some j =>
            have : posK (ks.map kD) k = some j := by rw [ek, posK_k, e1]
            rw [this] at e3
            cases e3
            have hj : j < VS.length := by rw [← hz]; exact idx_lt e1
            obtain ⟨pre, fm, post, e5, kk⟩ := r.put hj
            obtain ⟨rfl, rest⟩ := List.append_eq_nil_iff.mp e5.symm
            obtain ⟨rfl, rfl⟩ := List.append_eq_nil_iff.mp rest
            have r' : RL K F H (VS.set j d) (vs.set j y) [] := kk F H d y [] (Same.refl _) (fun a z => nomatch z) rd
            obtain ⟨kvs, ks', vs', z1, z2, z3, z4, z5, z6, z7⟩ := dispD_at (ks := ks) h3 h4 (by simpa using hl) r' (by rw [List.length_set]; exact hz) hn e
            exact ⟨(kk0, y) :: kvs, ks', vs', by rw [List.zip_cons_cons, z1]; rfl, by simp [z2], z3, z4, z5, z6, by rw [← z7, ← putK_set hzz hn e1]; rfl⟩
          | none =>
            have : posK (ks.map kD) k = none := by rw [ek, posK_k, e1]
            rw [this] at e3
            cases e3
            have r' : RL K F H (VS ++ [d]) (vs ++ [y]) [] := r.app0 (RL.mk0 rd .nil)
            obtain ⟨kvs, ks', vs', z1, z2, z3, z4, z5, z6, z7⟩ := dispD_at (ks := ks ++ [kk0]) h3 h4 (by simpa using hl) r' (by simp [hz]) (nodup_snoc hn (notin_of e1)) (by rw [List.map_append]; rw [ek] at e; exact e)
            exact ⟨(kk0, y) :: kvs, ks', vs', by rw [List.zip_cons_cons, z1]; rfl, by simp [z2], z3, z4, z5, z6, by rw [← z7, ← putK_add hzz e1]; rfl⟩
      · cases e3
theorem SN.disp {ks : List (Option Expr)} {vs : List Expr} {fs : En → Rs (List D × List D)} (hp : SPs X E W pos ks vs fs) (hall : ks.all (·.isSome) = true := by rfl) (hl : ks.length = vs.length := by rfl) (h0 : ks ≠ [] := by exact fun h => nomatch h) (h15 : ks.length ≤ 15 := by decide) : SN X E W (.Dict ks vs pos) (eDisp 0 fs) := by
  obtain ⟨trs, p, k⟩ := hp.ex
  refine ⟨hp.hK, _, pe_disp p hall hl h0 h15, fun F σ H env S Q q p hpn => ?_⟩
  have G0 : Grow F H F (upd H p (.dK [])) := Grow.own S.fH hpn
  refine k F σ _ env (S.grow G0) _ ?_
  unfold eDisp at q
  cases e1 : fs env with
  | un => rw [e1] at q; exact q
  | ex x => rw [e1] at q; exact fun cls dd F' H' g => q cls dd F' H' (G0.trans g)
  | ok P =>
    rw [e1, Rs.bind_ok] at q
    intro xs ys F2 H2 G2 r1 r2 hlen
    have hp2 := G2.h p _ upd_same
    refine ⟨hp2, ?_⟩
    split at q
    · rename_i h15'
      cases e2 : dispD P.1 P.2 [] [] with
      | none => rw [e2] at q; exact q.elim
      | some r =>
        obtain ⟨KS', VS'⟩ := r
        rw [e2] at q
        obtain ⟨kvs, ks', vs', z1, z2, z3, z4, z5, z6, z7⟩ := dispD_at (ks := []) r1 r2 hlen (.nil) rfl List.nodup_nil e2
        refine ⟨kvs, z1, by rw [z2]; exact h15', ?_⟩
        have hF2 : F2 p = none := (G2.o p _ upd_same).trans (S.fH.free hpn)
        have z7 : mergeK [] kvs = ks'.zip vs' := z7
        refine q (.ref p) [p] F2 _ ⟨(G0.trans G2).f, fun b o hb => ?_, fun b o hb => ?_, (G0.trans G2).o⟩ ?_ (nodup1 p) fun b hb => by rw [List.mem_singleton.mp hb]; exact ⟨hpn, hF2⟩
        · rw [upd_ne fun z => by rw [z, hF2] at hb; cases hb]
          exact G2.fh b o hb
        · rw [upd_ne fun z => by rw [z, hpn] at hb; cases hb]
          exact (G0.trans G2).h b o hb
        · subst z3
          exact .odicK (by rw [upd_same, z7]) (RL.mono (Same.refl _) _ (fun a z => nomatch z) z4) z5 z6
    · exact q.elim
end
end Z

set_option Elab.async false
set_option linter.all false
set_option maxRecDepth 100000
set_option maxHeartbeats 1000000
/-! ZV: enumerate(list or tuple), zip(two lists or two tuples) as what a loop goes through -/
namespace Z
open PySem L2 PySem.Spec PyProof.Rows RZ
set_option maxHeartbeats 1000000 in
theorem meets_enum1 {v : Value} {o : Obj} {H : Heap → Prop} (B : Begins v o H) :
    Meets (Builtin.«enumerate.__new__» ⟨[.type "enumerate", v], []⟩) (fun _ R s => H s.heap ∧
      R (.ok (.ret (.ref (s.heap.push o).objs.size))) { s with heap := (s.heap.push o).push { cls := .type "enumerate", data := .fields #[.none, .bool false, .ref s.heap.objs.size, rawInt 0, .none, .none] } }) :=
  .of_wp fun prog w A R s h => by
    obtain ⟨hp, g, d, tk, os⟩ := s; obtain ⟨h1, h⟩ := h
    have hsub := sub_enumerate
    have q1 : ∀ {A' : Around} {E : Value → Shared → Prop} {Q : Value → Shared → Prop}, Q (.ref hp.objs.size) ⟨hp.push o, g, d, tk, os⟩ → wpAny (model prog w) A' (pyIter v) Q E ⟨hp, g, d, tk, os⟩ :=
      fun q => B.iter prog w _ _ ⟨hp, g, d, tk, os⟩ _ h1 q
    wp_walk using q1
    refine wpAny_stack_any fun st => wpAny_pure ?_
    split
    · rename_i c _ _ _ _ _
      cases (c == Value.type "enumerate")
      · wp_walk using q1
        exact ⟨_, rfl, h⟩
      · wp_walk using q1
        exact ⟨_, rfl, h⟩
    · wp_walk using q1
      exact ⟨_, rfl, h⟩
section
variable {prog : Program} {w : World} {A : Around} {E : Value → Shared → Prop} {s : Shared}
theorem enum1_begins {v : Value} {o : Obj} {H : Heap → Prop} {Q : Value → Shared → Prop} (B : Begins v o H) (h1 : H s.heap)
    (h : ∀ h', IsEnum h' (s.heap.objs.size + 1) s.heap.objs.size 0 .none → h'.get? s.heap.objs.size = some o → h'.objs.size = s.heap.objs.size + 2 →
      (∀ b o, s.heap.get? b = some o → h'.get? b = some o) → Q (.ref (s.heap.objs.size + 1)) { s with heap := h' }) :
    wpAny (model prog w) A (call (.type "enumerate") [v]) Q E s := by
  refine callType_new F.called_enumerate (by decide) (F.typeCall_enumerate_1 _) (F.newCall_enumerate_1 _) (fun obj => F.args_object_init_2 obj _) F.entry_enumerate_new
    (meets_enum1 B) ⟨h1, ?_⟩
  have hz : (s.heap.push o).objs.size = s.heap.objs.size + 1 := Heap.size_push ..
  show _ ∧ _
  rw [hz]
  have he : IsEnum ((s.heap.push o).push { cls := .type "enumerate", data := .fields #[.none, .bool false, .ref s.heap.objs.size, rawInt 0, .none, .none] }) (s.heap.objs.size + 1) s.heap.objs.size 0 .none := by
    have := Heap.get?_push_size (s.heap.push o) (o := { cls := .type "enumerate", data := .fields #[.none, .bool false, .ref s.heap.objs.size, rawInt 0, .none, .none] }) rfl
    rw [hz] at this; exact this
  refine ⟨⟨_, he, rfl⟩, h _ he (Heap.get?_push_of_some _ (Heap.get?_push_size _ B.free)) (by rw [Heap.size_push, hz]) fun b o x => Heap.get?_push_of_some _ (Heap.get?_push_of_some _ x)⟩
end
/-- the tuple at a as it stands at each turn, each item in a new pair -/
def IteT (K : PySem.W.Frag) (a : Addr) : It :=
  ⟨fun i H => ∃ (xs : List V) (x : V), SqT K H a xs ∧ xs[i]? = some x, fun i H v H' => ∃ T x, v = .ref T ∧ H T = none ∧ H' = upd H T (.tup [.int (i : Nat), x]) ∧ ∀ xs, SqT K H a xs → xs[i]? = some x, fun i H => ∃ xs : List V, SqT K H a xs ∧ xs.length ≤ i⟩
theorem turn_enumT {P : Program} {w : World} {K : PySem.W.Frag} {elts : List Expr} {kk : Nat} {tpos : Pos} (a e it : Addr) (hai : a ≠ it) (hae : a ≠ e) :
    Turn P w K (.Tuple elts kk tpos) (IteT K a) [e, it] e (fun i h => (∃ old, IsEnum h e it ((i : Nat) : Int) old) ∧ h.IsTupleIter it a i ∧ e ≠ it) where
  mem := by simp
  obj := fun i h st b hb => by
    obtain ⟨⟨old, he⟩, ⟨o, ho, hc, hd⟩, _⟩ := st
    have e' : b = e ∨ b = it := by simpa using hb
    rcases e' with z | z
    · rw [z]; exact ⟨_, he, fun v q => nomatch q⟩
    · rw [z]; exact ⟨o, ho, fun v q => by rw [hd] at q; cases q⟩
  keep := fun i h h' st k => let ⟨⟨old, he⟩, hi, hne⟩ := st; ⟨⟨old, k e (by simp) _ he⟩, hi.at fun o q => k it (by simp) o q, hne⟩
  item := by
    intro X hP hw hK hc i pins s σ H E I hf st hg
    subst hP hw hK
    obtain ⟨⟨old, he⟩, hit, hne⟩ := st
    obtain ⟨xs, x, hq, hx⟩ := hg
    obtain ⟨its, rv, p, hz⟩ := I.tuple hq
    obtain ⟨u, hu, ru⟩ := rv.get hx
    have hel : e < s.heap.objs.size := Heap.lt_size he
    have hil : it < s.heap.objs.size := by obtain ⟨_, q, _⟩ := hit; exact Heap.lt_size q
    have hlt : i < its.toArray.size := by
      have := (List.getElem?_eq_some_iff.mp hu).1
      simpa using this
    refine wpAny_pyNext_enum_itemC (Draws.tuple (A := X.A.in1) (show X.A.in1.handled = none from I.ok.hd hc) it a hai its.toArray) he ⟨hit, p⟩ hlt hne (by simp; exact ⟨hne, Ne.symm hae⟩) fun y h' tk hP ho hst hT hsz hk => ?_
    have hu' : its.toArray[i]? = some u := by simpa using hu
    rw [hu'] at hP
    cases hP
    refine ⟨_, rfl, wpAny_letOwnedTupleGo_enum (s := { s with heap := h', toks := tk + 1 }) ho fun h'' he' sb => ?_⟩
    have hT2 : h''.get? s.heap.objs.size = some { cls := .type "tuple", data := .seq #[.int i tk, u] } := (sb.2 _ (Nat.ne_of_gt hel)).trans hT
    have new : ObjOk X.prog X.w (upd H s.heap.objs.size (.tup [.int (i : Nat), x])) h'' s.heap.objs.size (.tup [.int (i : Nat), x]) :=
      ⟨by show 2 ≤ sizeLine; decide, [.int i tk, u], .cons ⟨_, rfl⟩ (.cons ru .nil), ⟨_, hT2, rfl, _, rfl⟩⟩
    have I1 : Inv X pins σ (upd H s.heap.objs.size (.tup [.int (i : Nat), x])) { s with heap := h'', toks := tk + 1 } :=
      I.turnedNew (ch := [e, it]) (fun b ob hb q => (sb.2 b (fun z => hb (by simp [z]))).trans (hk b ob (fun z => hb (by simp [z])) (fun z => hb (by simp [z])) q)) hf (Nat.le_refl _) new
    refine ⟨.ref s.heap.objs.size, _, I1, rfl, ⟨_, x, rfl, I.hok.fresh (Nat.le_refl _), rfl, fun ys hy => by rw [I.tuple_inj hy hq]; exact hx⟩, ⟨⟨u, ?_⟩, hst.1.at fun o q => (sb.2 it (Ne.symm hne)).trans q, hne⟩, fun b hb => ?_⟩
    · have e1 : ((i + 1 : Nat) : Int) = (i : Int) + 1 := by omega
      rw [e1]; exact he'
    · have hb' : b < s.heap.objs.size := by
        have e' : b = e ∨ b = it := by simpa using hb
        rcases e' with z | z
        · rw [z]; exact hel
        · rw [z]; exact hil
      rw [upd_ne (Nat.ne_of_lt hb')]
      exact (hf b hb).1
  done := by
    intro X hP hw hK hc i pins s σ H E I hf st hg
    subst hP hw hK
    obtain ⟨⟨old, he⟩, hit, hne⟩ := st
    obtain ⟨xs, hq, hx⟩ := hg
    obtain ⟨its, rv, p, hz⟩ := I.tuple hq
    obtain ⟨f0, f1, f2, f3, f4, f5⟩ := hf it (by simp)
    have hl := rv.length
    have hno : its.toArray[i]? = none := by simp; omega
    have Dr : Draws X.prog X.w X.A.in1 it [it, a] i (fun j v => its.toArray[j]? = some v) (fun j h => j = i ∧ h.IsTupleIter it a j ∧ h.IsTuple a its.toArray) := {
      live := fun _ _ st => let ⟨o, ho, _⟩ := st.2.1; ⟨o, ho⟩
      frame := fun _ _ _ st hk => ⟨st.1, st.2.1.at fun o e => hk it (by simp) o e, st.2.2.at fun o e => hk a (by simp) o e⟩
      item := fun j s Q E hi st hQ => absurd hi (by rw [st.1]; exact Nat.lt_irrefl _)
      done := fun s Q E st hE => wpAny_nextOf_tuple_end (show X.A.in1.handled = none from I.ok.hd hc) st.2.1 st.2.2 hno hE }
    exact wpAny_pyNext_enum_endD Dr he ⟨rfl, hit, p⟩ fun h' eb => ⟨rfl, I.turned (t' := s.toks) (fun b o hb q => eb b o hb q) f0 f1 f3 f4 f5⟩
  self := fun A i s Q E st h => let ⟨⟨_, he⟩, _⟩ := st; wpAny_pyIter_enum he h
def iEnumT (K : PySem.W.Frag) (ta : TA) : TI := fun σ H R => ta σ H fun vs H1 => ∃ a xs, vs = [.ref a] ∧ SqT K H1 a xs ∧ R (IteT K a) H1
theorem pi_enumT {X : Cx} {e : Expr} {ta : TA} {p pos tpos : Pos} {elts : List Expr} {kk : Nat} (hg : Gl X "enumerate") (hm : X.mg "enumerate" = none) (ha : PA X [e] ta) (hs : starEach [e] X.env = [(false, eval e X.env)] := by rfl) :
    PI X (.Tuple elts kk tpos) (.Call (.Name "enumerate" p) [e] [] pos) (iEnumT X.K ta) := by
  refine ⟨fun pins s σ H R I h => ?_⟩
  refine Call_ (ld_blt I hg hm boot_enumerate (PyProof.Rows.callWith_type1 (thn (ha.run pos pins s σ H _ I h) fun us s1 ⟨vs, H1, I1, r1, q1⟩ => ?_) hs rfl))
  obtain ⟨a, xs, ex, hq, q⟩ := q1
  subst ex
  cases r1 with
  | cons r rr =>
    cases rr
    cases r
    obtain ⟨its, rv, p', hz⟩ := I1.tuple hq
    have hal : a < s1.heap.objs.size := by obtain ⟨o, ho, _⟩ := id p'; exact Heap.lt_size ho
    refine enum1_begins (begins_tuple a its.toArray) p' fun h' he hit hsz hk => wpAny_pyIter_enum he ?_
    have I2 : Inv X pins σ H1 { s1 with heap := h' } := I1.kept (t' := s1.toks) hk
    refine ⟨s1.heap.objs.size + 1, [s1.heap.objs.size + 1, s1.heap.objs.size], _, _, H1, rfl, I2, turn_enumT a (s1.heap.objs.size + 1) s1.heap.objs.size (Nat.ne_of_lt hal) (Nat.ne_of_lt (Nat.lt_succ_of_lt hal)), ⟨⟨.none, he⟩, ⟨_, hit, rfl, rfl⟩, Nat.succ_ne_self _⟩, fun b hb => ?_, q⟩
    have e' : b = s1.heap.objs.size + 1 ∨ b = s1.heap.objs.size := by simpa using hb
    have hle : s1.heap.objs.size ≤ b := by
      rcases e' with z | z
      · rw [z]; exact Nat.le_add_right _ _
      · rw [z]; exact Nat.le_refl _
    exact I1.fpOk hle (I1.hok.fresh hle)
section
variable {K : PySem.W.Frag} {a b : Addr} {xs ys : List V}
theorem walk_enumT : Walk (IteT K a) xs.length (fun H => SqT K H a xs) (YPair (fun i => some (.int (i : Nat))) (fun i => xs[i]?)) := by
  refine ⟨fun i _ hi q => ⟨xs, xs[i], q, by simp [hi]⟩, fun _ q => ⟨xs, q, Nat.le_refl _⟩, fun i H v H' _ q y => ?_⟩
  obtain ⟨T, x, h1, h2, h3, h4⟩ := y
  exact ⟨T, .int (i : Nat), x, h1, h2, h3, rfl, h4 xs q⟩
theorem walk_zipT {n : Nat} (hn : n = min xs.length ys.length) : Walk (ItzT K a b) n (fun H => SqT K H a xs ∧ SqT K H b ys) (YPair (fun i => xs[i]?) (fun i => ys[i]?)) := by
  subst hn
  refine ⟨fun i _ hi q => ?_, fun _ q => ⟨xs, ys, q.1, q.2, by omega⟩, fun i H v H' _ q y => ?_⟩
  · have h1 : i < xs.length := by omega
    have h2 : i < ys.length := by omega
    exact ⟨xs, ys, xs[i], ys[i], q.1, q.2, by simp [h1], by simp [h2]⟩
  · obtain ⟨T, x, z, h1, h2, h3, h4, h5⟩ := y
    exact ⟨T, x, z, h1, h2, h3, h4 xs q.1, h5 ys q.2⟩
end
/-- the pairs of a loop -/
def prL (xs ys : List D) : List D := List.zipWith (fun x y => .tup [x, y]) xs ys
def enL (xs : List D) : List D := prL ((List.range xs.length).map fun (i : Nat) => .int (i : Int)) xs
theorem prL_get {xs ys : List D} {i : Nat} {d : D} (h : (prL xs ys)[i]? = some d) : ∃ x y, xs[i]? = some x ∧ ys[i]? = some y ∧ d = .tup [x, y] := by
  unfold prL at h
  rw [List.getElem?_zipWith] at h
  cases e1 : xs[i]? with
  | none => rw [e1] at h; cases h
  | some x =>
    cases e2 : ys[i]? with
    | none => rw [e1, e2] at h; cases h
    | some y =>
      rw [e1, e2] at h
      cases h
      exact ⟨x, y, rfl, rfl, rfl⟩
theorem pair_ok {F' : Hp} {K : Kx} {H' : Hp} {xs ys : List D} {us vs : List V} (h1 : RL K F' H' xs us []) (h2 : RL K F' H' ys vs []) :
    ∀ i d, (prL xs ys)[i]? = some d → ∀ Fc Hc v Hn, Same F' Fc → Same Fc Hc → YPair (fun i => us[i]?) (fun i => vs[i]?) i Hc v Hn → ∃ Fn, Grow Fc Hc Fn Hn ∧ R K Fn Hn d v [] := by
  intro i d hd Fc Hc v Hn g1 g2 y
  obtain ⟨x, z, e1, e2, rfl⟩ := prL_get hd
  obtain ⟨T, a, b, rfl, hT, rfl, e3, e4⟩ := y
  dsimp only at e3 e4
  obtain ⟨a', e5, r1⟩ := h1.get0 e1
  obtain ⟨b', e6, r2⟩ := h2.get0 e2
  rw [e5] at e3; cases e3
  rw [e6] at e4; cases e4
  have G : Grow Fc Hc (upd Fc T (.tup [a, b])) (upd Hc T (.tup [a, b])) := Grow.new g2 hT
  exact ⟨_, G, .tup upd_same (RL.mk0 (R.mono (g1.trans G.f) _ (fun a z => nomatch z) r1) (RL.mk0 (R.mono (g1.trans G.f) _ (fun a z => nomatch z) r2) .nil)) (by simp)⟩
section
variable {X : Cx} {E : Ent} {W : WX} {e a b : Expr} {f g : En → Rs D} {pos : Pos}
/-- the items of a list, of a tuple -/
def lisOf : D → Option (List D)
  | .lst xs => some xs
  | .scr ns => some (ns.map .int)
  | _ => none
def tupOf : D → Option (List D)
  | .tup xs => some xs
  | _ => none
theorem lisOf_at {K : Kx} {F H : Hp} {d : D} {v : V} {fp : List Addr} {ds : List D} (r : R K F H d v fp) (e : lisOf d = some ds) : ∃ a vs, v = .ref a ∧ SqL K.k F a vs ∧ RL K F H ds vs [] ∧ ds.length ≤ 16777216 := by
  cases d <;> first | (cases e; done) | skip
  · cases e
    cases r with
    | lst hp hl hz => exact ⟨_, _, rfl, SqL.of hp, hl, hz⟩
  · cases e
    cases r with
    | scr hp hz => exact ⟨_, _, rfl, hp, RL.ints _, by rw [List.length_map]; exact hz⟩
theorem tupOf_at {K : Kx} {F H : Hp} {d : D} {v : V} {fp : List Addr} {ds : List D} (r : R K F H d v fp) (e : tupOf d = some ds) : ∃ a vs, v = .ref a ∧ SqT K.k F a vs ∧ RL K F H ds vs [] ∧ ds.length ≤ 16777216 := by
  cases d <;> first | (cases e; done) | skip
  cases e
  obtain ⟨p, vs, rfl, hp, hl, hz⟩ := r.tup_inv
  exact ⟨p, vs, rfl, hp, hl, hz⟩
def iEnum1 : List D → Rs (List D)
  | [d] => ofO2 ((lisOf d).orElse fun _ => tupOf d)
  | _ => .un
where ofO2 : Option (List D) → Rs (List D)
  | some ds => .ok (enL ds)
  | none => .un
theorem int_get (n : Nat) (i : Nat) (h : i < n) : ((List.range n).map fun (i : Nat) => (V.int (i : Int)))[i]? = some (.int (i : Int)) := by simp [h]
theorem SI.enum {tpos p : Pos} {elts : List Expr} {kk : Nat} {fa : En → Rs (List D)} (ha : SA X E W [a] fa) (hm : X.mg "enumerate" = none) (hg : Gl X "enumerate" := by rfl) (hs : starEach [a] X.env = [(false, eval a X.env)] := by rfl) :
    SI X E W (.Tuple elts kk tpos) (.Call (.Name "enumerate" p) [a] [] pos) (fun env => (fa env).bind iEnum1) := by
  obtain ⟨t, pa, ka⟩ := ha.ex
  have hk := ha.hK
  refine ⟨ha.hK, _, PI.or (pi_enum hg hm pa hs) (pi_enumT hg hm pa hs), fun F σ H env S Rj q => ?_⟩
  dsimp only at q
  cases e1 : fa env with
  | un => rw [e1] at q; exact q.elim
  | ex x =>
    rw [e1] at q
    refine .inl (ka F σ H env S _ ?_)
    rw [e1]
    exact q
  | ok ds =>
    rw [e1, Rs.bind_ok] at q
    match ds with
    | [] => exact q.elim
    | _ :: _ :: _ => exact q.elim
    | [d] =>
      have key : ∀ {n : Nat} {us vs : List V} {xs : List D} {K : Kx} {F' H' : Hp}, RL K F' H' xs vs [] → us = ((List.range xs.length).map fun (i : Nat) => V.int (i : Int)) → RL K F' H' ((List.range xs.length).map fun (i : Nat) => D.int (i : Int)) us [] := fun {n us vs xs K F' H'} _ eu => by
        subst eu
        generalize List.range xs.length = l
        induction l with
        | nil => exact .nil
        | cons x l ih => exact RL.mk0 (.int _) ih
      have len : ∀ xs : List D, (enL xs).length = xs.length := fun xs => by unfold enL prL; simp
      cases e2 : lisOf d with
      | some xs =>
        have q : PostI E W F H σ Rj (iEnum1.ofO2 ((lisOf d).orElse fun _ => tupOf d)) := q
        rw [e2] at q
        refine .inl (ka F σ H env S _ ?_)
        rw [e1]
        intro vs fp F' H' G r0
        obtain ⟨v, rfl, r⟩ := r0.one
        obtain ⟨p, us, rfl, hp, hl, hz⟩ := lisOf_at r e2
        refine ⟨p, us, rfl, by rw [hk]; exact G.fh.seq hp, q (Ite X.K p) _ _ F' H' G (by rw [len]; exact hz) (by rw [len, ← hl.len]; exact walk_enum) (fun Hc h => by rw [hk]; exact h.seq hp) ?_⟩
        intro i d hd Fc Hc v Hn g1 g2 y
        obtain ⟨T, x, z, h1, h2, h3, h4, h5⟩ := y
        have hi : i < xs.length := by
          have := (List.getElem?_eq_some_iff.mp hd).1
          rw [len] at this; exact this
        exact pair_ok (key (n := 0) hl rfl) hl i d hd Fc Hc v Hn g1 g2 ⟨T, x, z, h1, h2, h3, (int_get _ _ hi).trans h4, h5⟩
      | none =>
        have q : PostI E W F H σ Rj (iEnum1.ofO2 ((lisOf d).orElse fun _ => tupOf d)) := q
        rw [e2] at q
        cases e3 : tupOf d with
        | none => rw [e3] at q; exact q.elim
        | some xs =>
          rw [e3] at q
          refine .inr (ka F σ H env S _ ?_)
          rw [e1]
          intro vs fp F' H' G r0
          obtain ⟨v, rfl, r⟩ := r0.one
          obtain ⟨p, us, rfl, hp, hl, hz⟩ := tupOf_at r e3
          refine ⟨p, us, rfl, by rw [hk]; exact same_t G.fh hp, q (IteT X.K p) _ _ F' H' G (by rw [len]; exact hz) (by rw [len, ← hl.len]; exact walk_enumT) (fun Hc h => by rw [hk]; exact same_t h hp) ?_⟩
          intro i d hd Fc Hc v Hn g1 g2 y
          obtain ⟨T, x, z, h1, h2, h3, h4, h5⟩ := y
          have hi : i < xs.length := by
            have := (List.getElem?_eq_some_iff.mp hd).1
            rw [len] at this; exact this
          exact pair_ok (key (n := 0) hl rfl) hl i d hd Fc Hc v Hn g1 g2 ⟨T, x, z, h1, h2, h3, (int_get _ _ hi).trans h4, h5⟩
def iZip2 : List D → Rs (List D)
  | [d, e] => match lisOf d, lisOf e, tupOf d, tupOf e with
    | some xs, some ys, _, _ => .ok (prL xs ys)
    | _, _, some xs, some ys => .ok (prL xs ys)
    | _, _, _, _ => .un
  | _ => .un
theorem SI.zip {tpos p : Pos} {elts : List Expr} {kk : Nat} {fa : En → Rs (List D)} (ha : SA X E W [a, b] fa) (hm : X.mg "zip" = none) (hg : Gl X "zip" := by rfl)
    (hs : starEach [a, b] X.env = (false, eval a X.env) :: starEach [b] X.env := by rfl) (hpl : (backTo pos (starEach [b] X.env)).any (·.1) = false := by rfl) :
    SI X E W (.Tuple elts kk tpos) (.Call (.Name "zip" p) [a, b] [] pos) (fun env => (fa env).bind iZip2) := by
  obtain ⟨t, pa, ka⟩ := ha.ex
  have hk := ha.hK
  refine ⟨ha.hK, _, pi_zipA hg hm pa hs hpl, fun F σ H env S Rj q => ?_⟩
  dsimp only at q
  refine ka F σ H env S _ ?_
  cases e1 : fa env with
  | un => rw [e1] at q; exact q.elim
  | ex x => rw [e1] at q; exact q
  | ok ds =>
    rw [e1, Rs.bind_ok] at q
    have len : ∀ xs ys : List D, (prL xs ys).length = min xs.length ys.length := fun xs ys => by unfold prL; simp
    match ds with
    | [] => exact q.elim
    | [_] => exact q.elim
    | _ :: _ :: _ :: _ => exact q.elim
    | [d, e] =>
      intro vs fp F' H' G r0
      obtain ⟨v, w, rfl, fp1, fp2, r1, r2⟩ : ∃ v w, vs = [v, w] ∧ ∃ fp1 fp2, R E.K F' H' d v fp1 ∧ R E.K F' H' e w fp2 := by
        cases r0 with
        | cons h1 h2 =>
          cases h2 with
          | cons h2 h3 =>
            cases h3
            exact ⟨_, _, rfl, _, _, h1, h2⟩
      unfold iZip2 at q
      dsimp only at q
      split at q
      · rename_i xs ys e2 e3
        obtain ⟨p, us, rfl, hp, hl, hz⟩ := lisOf_at r1 e2
        obtain ⟨p', us', rfl, hp', hl', hz'⟩ := lisOf_at r2 e3
        refine ⟨p, p', us, us', rfl, .inl ⟨by rw [hk]; exact G.fh.seq hp, by rw [hk]; exact G.fh.seq hp', q (Itz X.K p p') (fun H => SqL X.K H p us ∧ SqL X.K H p' us') _ F' H' G (by rw [len]; omega) (by rw [len, ← hl.len, ← hl'.len]; exact walk_zip rfl) (fun Hc h => ⟨by rw [hk]; exact h.seq hp, by rw [hk]; exact h.seq hp'⟩) (pair_ok hl hl')⟩⟩
      · rename_i xs ys e2 e3 _
        obtain ⟨p, us, rfl, hp, hl, hz⟩ := tupOf_at r1 e2
        obtain ⟨p', us', rfl, hp', hl', hz'⟩ := tupOf_at r2 e3
        refine ⟨p, p', us, us', rfl, .inr ⟨by rw [hk]; exact same_t G.fh hp, by rw [hk]; exact same_t G.fh hp', q (ItzT X.K p p') (fun H => SqT X.K H p us ∧ SqT X.K H p' us') _ F' H' G (by rw [len]; omega) (by rw [len, ← hl.len, ← hl'.len]; exact walk_zipT rfl) (fun Hc h => ⟨by rw [hk]; exact same_t h hp, by rw [hk]; exact same_t h hp'⟩) (pair_ok hl hl')⟩⟩
      · exact q.elim
end
end Z

set_option Elab.async false
set_option linter.all false
set_option maxRecDepth 100000
set_option maxHeartbeats 1000000
/-! ZW: where nothing is known; __init__ and making without exceptions; isinstance of an own class -/
namespace Z
open PySem L2
section
variable {X : Cx} {E : Ent} {W : WX} {s : Stmt} {ss : List Stmt}
/-- a statement that is not reached: nothing is known of it -/
def sUn : En → Fl := fun _ => .un
theorem SS.unk (hK : X.K = E.K.k := by rfl) : SS X E W s sUn := ⟨hK, fun _ _ _ => False, ⟨fun pins s σ H D I h => h.elim⟩, fun F σ H env S D q => q.elim⟩
end
section
variable {P : Program} {w : World} {K : Kx} {mg : Str → Option Value} {base : Heap}
def runI0 (c : Nat) (g : En → Fl) (n : Nat) (ds : List D) : Rs D := noX (runI c g n ds)
theorem noX_no (m : List D → Rs D) : NoX fun ds => noX (m ds) := fun ds x h => by
  dsimp only at h
  cases e : m ds <;> rw [e] at h <;> cases h
theorem fnI0 {x qual : Str} {st : Stmt} {f : Addr} {fd : FuncData} {N ps : List Str} {k np n c : Nat} {g : En → Fl} {m : List D → Rs D} (Fn : Fun K.k x qual st f fd) (S : FnScope N ps (defScope st))
    (hm : m = runI0 c g n) (hn : N.length = n) (hp : ps.length = np)
    (hb : ∀ (cdv : Value) (A : Around) (outer : List Env) (s : Shared) (H : Hp) (Ex : XK) (F0 : Hp) (a dx : Addr), Room k (A.deeper (PyProof.Rows.envOfC qual (defScope st) s.heap.objs.size f cdv)) →
      SB (cxOf CX0 P w K.k mg base N qual (defScope st) f cdv A outer s H Ex).nox ⟨⟨K.k, K.ca, fun _ => a⟩, H, F0, fun i => if i = 0 then [a, dx] else []⟩ W0 (defBody st) g) : FnOk P w K.k mg base CX0 (k + 1) f fd ps (spI K c np m) := by
  subst hm hn hp
  refine Fn.ok S (fun vs H Q E h => ?_) (fun cdv A outer s H vs Q Ex hr h => ?_)
  · obtain ⟨ds, F, a, dx, ws, rfl, _, _, _, _, _, _, hl, hn, _⟩ := h
    rw [List.length_cons, hl.len, hn]
  · obtain ⟨ds, F, a, dx, ws, rfl, hs, ha, hdx, hne, hFa, hFd, hl, hn, q⟩ := h
    obtain ⟨t, p, k⟩ := (hb cdv A outer s H Ex F a dx hr).ex
    have hl' : RL ⟨K.k, K.ca, fun _ => a⟩ F H ds ws [] := RL.reK (K := K) (K' := ⟨K.k, K.ca, fun _ => a⟩) rfl rfl ds rfl hl
    have r0 : R ⟨K.k, K.ca, fun _ => a⟩ F H (.bor 0 (.oob c [] [])) (.ref a) [a, dx] := .bor (.oob (vs := []) ha hdx .nil rfl) rfl (List.cons_ne_nil _ _)
    have st0 : Stt ⟨⟨K.k, K.ca, fun _ => a⟩, H, F, fun i => if i = 0 then [a, dx] else []⟩ F (start0 N.length (.bor 0 (.oob c [] []) :: ds)) (L2.start N (.ref a :: ws)) H := by
      refine ⟨Same.refl _, hs, fun b o e _ => e, fun b o e _ => rfl, fun i b hb => ?_, [a, dx] :: List.replicate (ds.length + (N.length - (ds.length + 1))) [], ?_, ?_, ?_⟩
      · have hb : b ∈ (if i = 0 then [a, dx] else ([] : List Addr)) := hb
        split at hb
        · rcases List.mem_cons.mp hb with z | z
          · rw [z]; exact ⟨_, ha⟩
          · rw [List.mem_singleton.mp z]; exact ⟨_, hdx⟩
        · cases hb
      · unfold start0 L2.start
        rw [List.length_cons, List.length_cons, hl.len]
        exact .som r0 (rs_start _ hl')
      · rw [List.flatten_cons, flat_nil, List.append_nil]
        exact List.nodup_cons.mpr ⟨fun z => hne (List.mem_singleton.mp z), nodup1 _⟩
      · intro i fp hi b hb
        cases i with
        | zero =>
          simp at hi
          subst hi
          rcases List.mem_cons.mp hb with z | z
          · rw [z]; exact ⟨hFa, .inr (by simp)⟩
          · rw [List.mem_singleton.mp z]; exact ⟨hFd, .inr (by simp)⟩
        | succ i =>
          rw [List.getElem?_cons_succ, List.getElem?_replicate] at hi
          split at hi
          · cases hi; cases hb
          · cases hi
    refine ⟨t, p, k F _ H _ st0 _ ?_⟩
    have keep : ∀ {F' H' : Hp} {e : En} {σ' : L2.St}, Stt ⟨⟨K.k, K.ca, fun _ => a⟩, H, F, fun i => if i = 0 then [a, dx] else []⟩ F' e σ' H' → ∀ b o, H b = some o → b ≠ a → b ≠ dx → H' b = some o ∧ F' b = F b := fun {F' H' e σ'} S' b o hb h1 h2 => by
      have hno : ∀ i, b ∉ (fun i => if i = 0 then [a, dx] else ([] : List Addr)) i := fun i z => by
        dsimp only at z
        split at z
        · rcases List.mem_cons.mp z with z | z
          · exact h1 z
          · exact h2 (List.mem_singleton.mp z)
        · cases z
      exact ⟨S'.keep b o hb hno, S'.old b o hb hno⟩
    unfold runI0 runI at q
    cases e : g (start0 N.length (.bor 0 (.oob c [] []) :: ds)) with
    | nx en =>
      rw [e] at q
      intro F' σ' H' G S'
      unfold outI at q
      dsimp only at q
      split at q
      · rename_i d he
        obtain ⟨fps, rs, nd, fr⟩ := S'.rep
        obtain ⟨v, fp, g1, g2, g3⟩ := rs.get he
        cases g3 with
        | bor r ev hnn =>
          let F2 : Hp := fun b => if b ∈ fp then H' b else F' b
          have hF : ∀ b ∈ fp, F' b = none := fun b z => (fr 0 fp g2 b z).1
          have le : Same F' F2 := fun b u eb => by
            show (if b ∈ fp then H' b else F' b) = some u
            rw [if_neg fun z => by rw [hF b z] at eb; cases eb]
            exact eb
          have fh : Same F2 H' := fun b u eb => by
            have eb : (if b ∈ fp then H' b else F' b) = some u := eb
            by_cases hb : b ∈ fp
            · rw [if_pos hb] at eb; exact eb
            · rw [if_neg hb] at eb; exact S'.fH b u eb
          have r2 := R.frz le d (fun b z => if_pos z) r
          rw [ev] at r2
          refine q F2 H' (S'.le0.trans le) fh (fun b o hb h1 h2 => ?_) (R.reK (K := ⟨K.k, K.ca, fun _ => a⟩) (K' := K) rfl rfl _ rfl r2)
          obtain ⟨k1, k2⟩ := keep S' b o hb h1 h2
          refine ⟨k1, ?_⟩
          rw [← k2]
          show (if b ∈ fp then H' b else F' b) = F' b
          refine if_neg fun z => ?_
          rcases (fr 0 fp g2 b z).2 with h | h
          · rw [show H b = none from h] at hb; cases hb
          · have h : b ∈ [a, dx] := h
            rcases List.mem_cons.mp h with h | h
            · exact h1 h
            · exact h2 (List.mem_singleton.mp h)
      · exact q.elim
    | bk en => rw [e] at q; exact q.elim
    | ct en => rw [e] at q; exact q.elim
    | rt d en => rw [e] at q; exact q.elim
    | xx x en =>
      rw [e] at q
      exact q.elim
    | un => rw [e] at q; exact q
end
section
variable {X : Cx} {E : Ent} {W : WX} {e : Expr} {es : List Expr} {pos p : Pos} {fa : En → Rs (List D)}
/-- C(e, ..): the instance, standing still -/
theorem SE.make0 {x : Str} {k n c : Nat} {fI : Addr} {fd : FuncData} {ps : List Str} {m : List D → Rs D} (M : Mk X.K (E.K.ca c) fI)
    (F : FnOk X.prog X.w X.K X.mg X.base CX0 k fI fd ps (spI E.K c (n + 1) m)) (hx : NoX m) (hr : Room (k + 1) X.A) (hm : X.mg x = some (.ref (E.K.ca c))) (hb : Binds X.K fd ps []) (ha : SA X E W (e :: es) fa) (hg : Gl X x := by rfl)
    (hdb : (x == ("__debug__" : Str)) = false := by decide) (he : starEach (e :: es) X.env = (false, eval e X.env) :: starEach es X.env := by rfl) (hpl : (backTo pos (starEach es X.env)).any (·.1) = false := by rfl) :
    SE X E W (.Call (.Name x p) (e :: es) [] pos) (eApp n m fa) := by
  obtain ⟨t, pa, ka⟩ := ha.ex
  refine ⟨ha.hK, _, pe_make M F hr hg hm hb .nil pass0 pa hdb he hpl, fun Fz σ H env S Q q => ?_⟩
  refine ka Fz σ H env S _ ?_
  unfold eApp at q
  cases e1 : fa env with
  | un => rw [e1] at q; exact q
  | ex x => rw [e1] at q; exact q
  | ok ds =>
    rw [e1, Rs.bind_ok] at q
    intro vs fp F1 H1 G1 r1 a dx hna hnd hne
    split at q
    · rename_i hc
      rw [Bool.and_eq_true] at hc
      rw [List.append_nil]
      have off : ∀ b o, H1 b = some o → b ≠ a ∧ b ≠ dx := fun b o hb => ⟨(fun z => by rw [z, hna] at hb; exact nomatch hb), (fun z => by rw [z, hnd] at hb; exact nomatch hb)⟩
      have at0 : ∀ b o, H1 b = some o → upd (upd H1 dx (.own a)) a (.ins (E.K.ca c) dx []) b = some o := fun b o hb => by
        rw [upd_ne (off b o hb).1, upd_ne (off b o hb).2]; exact hb
      have grow : ∀ {F' H' : Hp}, Same F1 F' → Same F' H' → (∀ b o, upd (upd H1 dx (.own a)) a (.ins (E.K.ca c) dx []) b = some o → b ≠ a → b ≠ dx → H' b = some o ∧ F' b = F1 b) → Grow F1 H1 F' H' := fun s1 s2 kp =>
        ⟨s1, s2, fun b o hb => (kp b o (at0 b o hb) (off b o hb).1 (off b o hb).2).1, fun b o hb => (kp b o (at0 b o hb) (off b o hb).1 (off b o hb).2).2⟩
      have f0 : ∀ b, H1 b = none → F1 b = none := fun b hb => G1.fh.free hb
      refine ⟨ds, F1, a, dx, vs, rfl, fun b o hb => at0 b o (G1.fh b o hb), upd_same, by rw [upd_ne hne, upd_same], fun z => hne z.symm, f0 a hna, f0 dx hnd, RL.mono (Same.refl _) ds (fun _ z => nomatch z) (r1.toData hc.1), by rw [of_decide_eq_true hc.2], ?_⟩
      cases e2 : m ds with
      | un => rw [e2] at q; exact q
      | ex x => exact absurd e2 (hx ds x)
      | ok d => rw [e2] at q; exact fun F' H' s1 s2 kp r => ⟨rfl, q _ [] F' H' (G1.trans (grow s1 s2 kp)) r⟩
    · exact q.elim
end
end Z

set_option Elab.async false
set_option linter.all false
set_option maxRecDepth 100000
set_option maxHeartbeats 1000000
/-! ZX: defs that hand out what they own: one thing, or a pair of two; xs[::-1]; isinstance of an own class -/
namespace Z
open PySem L2
theorem own_free {E : Ent} {F : Hp} {i : Nat} {a : Addr} (ho : ∀ i, E.own i = []) (h : F a = none ∧ (E.H0 a = none ∨ a ∈ E.own i)) : E.H0 a = none ∧ F a = none := by
  refine ⟨?_, h.1⟩
  rcases h.2 with h | h
  · exact h
  · rw [ho] at h; exact nomatch h
theorem Grow.none {F H F' H' : Hp} (G : Grow F H F' H') {a : Addr} (h : H' a = Option.none) : H a = Option.none := by
  cases q : H a with
  | none => rfl
  | some o => rw [G.h _ _ q] at h; cases h
theorem Stt.setNew2 {E : Ent} {F H F' H' : Hp} {env : En} {σ : St} {d1 d2 : D} {v1 v2 : V} {f1 f2 : List Addr} (S : Stt E F env σ H) (i j : Nat) (r1 : R E.K F' H' d1 v1 f1) (r2 : R E.K F' H' d2 v2 f2) (g : Grow F H F' H') (hn : (f1 ++ f2).Nodup) (hf : ∀ a ∈ f1 ++ f2, H a = none ∧ F' a = none) :
    Stt E F' ((env.set i (some d1)).set j (some d2)) ((σ.set i (some v1)).set j (some v2)) H' := by
  obtain ⟨n1, n2, n3⟩ := List.nodup_append.mp hn
  have S1 := S.setNew i r1 g n1 fun a ha => ⟨(hf a (by simp [ha])).1, (hf a (by simp [ha])).2, S.h0_none (hf a (by simp [ha])).1⟩
  have S' := S.grow g
  obtain ⟨fps, q, nd, fr⟩ := S.rep
  have ks : ∀ fp ∈ fps, ∀ a ∈ fp, H' a = H a := fun fp hf a ha => by
    obtain ⟨o, e⟩ := q.fp_some fp hf a ha
    rw [e, g.h a o e]
  have off : ∀ y ∈ fps, ∀ a ∈ y, a ∉ f1 ++ f2 := fun y hy a ha z => by
    obtain ⟨o, e⟩ := q.fp_some y hy a ha
    rw [(hf a z).1] at e; cases e
  have nd1 : (fps.set i f1).flatten.Nodup := nodup_set nd n1 fun j y hj hy a ha z => off y (List.mem_of_getElem? hy) a ha (by simp [z])
  have mem1 : ∀ k y, (fps.set i f1)[k]? = some y → y = f1 ∨ y ∈ fps := fun k y hy => by
    rcases mem_set_of hy with ⟨_, e⟩ | hy
    · exact .inl e
    · exact .inr (List.mem_of_getElem? hy)
  refine ⟨S'.le0, S'.fH, S'.keep, S'.old, S'.ownS, (fps.set i f1).set j f2, ((q.mono g.f ks).set i r1).set j r2, nodup_set nd1 n2 (fun k y hk hy a ha z => ?_), fun k fq hk a ha => ?_⟩
  · rcases mem1 k y hy with e | e
    · subst e; exact n3 a ha a z rfl
    · exact off y e a ha (by simp [z])
  · rcases mem_set_of hk with ⟨_, e⟩ | hk
    · subst e
      exact ⟨(hf a (by simp [ha])).2, .inl (S.h0_none (hf a (by simp [ha])).1)⟩
    · rcases mem_set_of hk with ⟨_, e⟩ | hk
      · subst e
        exact ⟨(hf a (by simp [ha])).2, .inl (S.h0_none (hf a (by simp [ha])).1)⟩
      · obtain ⟨h1, h2⟩ := fr k fq hk a ha
        obtain ⟨o, e⟩ := q.fp_some fq (List.mem_of_getElem? hk) a ha
        exact ⟨(g.o a o e).trans h1, h2⟩
/-! ### what is handed out -/
def Good1 (K : Kx) (H0 F H : Hp) (d : D) (v : V) : Prop := ∃ fp, R K F H d v fp ∧ fp.Nodup ∧ ∀ a ∈ fp, H0 a = none ∧ F a = none
def Good2 (K : Kx) (H0 F H : Hp) (p : D × D) (v : V) : Prop := ∃ a x y fp fq, v = .ref a ∧ F a = some (.tup [x, y]) ∧ R K F H p.1 x fp ∧ R K F H p.2 y fq ∧ (fp ++ fq).Nodup ∧ ∀ b ∈ fp ++ fq, H0 b = none ∧ F b = none
section
variable {α : Type}
def PostU (E : Ent) (F : Hp) (Gd : Kx → Hp → Hp → Hp → α → V → Prop) (D : Ends) : Rs α → Prop
  | .ok d => ∀ v F' σ' H' e', Same F F' → Stt E F' e' σ' H' → Gd E.K E.H0 F' H' d v → D.rt v H'
  | _ => False
structure SBO (X : Cx) (E : Ent) (W : WX) (Gd : Kx → Hp → Hp → Hp → α → V → Prop) (ss : List Stmt) (g : En → Rs α) : Prop where
  hK : X.K = E.K.k
  ex : ∃ t, PSs X ss t ∧ ∀ F σ H env, Stt E F env σ H → ∀ D, PostU E F Gd D (g env) → t D σ H
def sqO (gs : En → Fl) (g : En → Rs α) : En → Rs α := fun env => match gs env with
  | .nx e => g e
  | _ => .un
variable {X : Cx} {E : Ent} {W : WX} {Gd : Kx → Hp → Hp → Hp → α → V → Prop} {s : Stmt} {ss : List Stmt} {gs : En → Fl} {g : En → Rs α} {pos : Pos} {e : Expr} {f : En → Rs D}
theorem PostU.mono {F F1 : Hp} {D : Ends} {r : Rs α} (G : Same F F1) (h : PostU E F Gd D r) : PostU E F1 Gd D r := by
  cases r with
  | ok d => exact fun v F' σ' H' e' k => h v F' σ' H' e' (G.trans k)
  | ex x => exact h
  | un => exact h
theorem SBO.cons (h : SS X E W s gs) (k : SBO X E W Gd ss g) : SBO X E W Gd (s :: ss) (sqO gs g) := by
  obtain ⟨t, p, k1⟩ := h.ex
  obtain ⟨u, p', k2⟩ := k.ex
  refine ⟨h.hK, _, pss_cons p p', fun F σ H env S D q => ?_⟩
  refine k1 F σ H env S _ ?_
  unfold sqO at q
  cases e1 : gs env with
  | nx en => rw [e1] at q; exact fun F' σ' H' G S' => k2 F' σ' H' en S' D (q.mono G)
  | bk en => rw [e1] at q; exact q.elim
  | ct en => rw [e1] at q; exact q.elim
  | rt d en => rw [e1] at q; exact q.elim
  | xx x en => rw [e1] at q; exact q.elim
  | un => rw [e1] at q; exact q.elim
theorem SBO.ret1 (h : SN X E (fun _ _ _ _ => False) e f) : SBO X E W Good1 [.Return (some e) pos] f := by
  obtain ⟨t, p, k⟩ := h.ex
  refine ⟨h.hK, _, pss_one (ps_ret p), fun F σ H env S D q => ?_⟩
  refine k F σ H env S _ ?_
  cases e1 : f env with
  | un => rw [e1] at q; exact q.elim
  | ex x => rw [e1] at q; exact q.elim
  | ok d =>
    rw [e1] at q
    exact fun v fp F' H' G r hn hfr => q v F' σ H' env G.f (S.grow G) ⟨fp, r, hn, fun a ha => ⟨S.h0_none (hfr a ha).1, (hfr a ha).2⟩⟩
def eOwn (i : Nat) : En → Rs D := fun env => match env[i]? with
  | some (some d) => .ok d
  | _ => .un
def eOwn2 (i j : Nat) : En → Rs (D × D) := fun env => match env[i]?, env[j]? with
  | some (some d), some (some e) => .ok (d, e)
  | _, _ => .un
theorem SBO.retV (i : Nat) {x : Str} {px : Pos} (hK : X.K = E.K.k := by rfl) (ho : ∀ i, E.own i = [] := by intro _; rfl) (hN : X.N[i]? = some x := by rfl) (hv : Vis X.env.scope x := by first | exact Or.inl rfl | exact Or.inr (Or.inl rfl) | exact Or.inr (Or.inr rfl))
    (hd : (x == ("__debug__" : Str)) = false := by decide) (hcd : (x == ("__classdict__" : Str)) = false := by decide) : SBO X E W Good1 [.Return (some (.Name x px)) pos] (eOwn i) := by
  refine ⟨hK, _, pss_one (ps_ret (pe_var hN hv hd hcd)), fun F σ H env S D q => ?_⟩
  unfold eOwn at q
  split at q
  · rename_i d he
    obtain ⟨fps, rs, nd, fr⟩ := S.rep
    obtain ⟨v, fp, g1, g2, g3⟩ := rs.get he
    exact ⟨v, g1, q v F σ H env (Same.refl _) S ⟨fp, g3, nodup_get nd g2, fun a ha => own_free ho (fr i fp g2 a ha)⟩⟩
  · exact q.elim
theorem SBO.ret2 (i j : Nat) {x y : Str} {px py : Pos} {k1 : Nat} {pt : Pos} (hij : i ≠ j := by decide) (hK : X.K = E.K.k := by rfl) (ho : ∀ i, E.own i = [] := by intro _; rfl) (hN : X.N[i]? = some x := by rfl) (hM : X.N[j]? = some y := by rfl)
    (hv : Vis X.env.scope x := by first | exact Or.inl rfl | exact Or.inr (Or.inl rfl) | exact Or.inr (Or.inr rfl)) (hw : Vis X.env.scope y := by first | exact Or.inl rfl | exact Or.inr (Or.inl rfl) | exact Or.inr (Or.inr rfl))
    (hd : (x == ("__debug__" : Str)) = false := by decide) (hcd : (x == ("__classdict__" : Str)) = false := by decide) (hd2 : (y == ("__debug__" : Str)) = false := by decide) (hcd2 : (y == ("__classdict__" : Str)) = false := by decide)
    (hs : starEach [.Name x px, .Name y py] X.env = (false, eval (.Name x px) X.env) :: starEach [.Name y py] X.env := by rfl) (hs2 : starEach [.Name y py] X.env = (false, eval (.Name y py) X.env) :: starEach [] X.env := by rfl) :
    SBO X E W Good2 [.Return (some (.Tuple [.Name x px, .Name y py] k1 pt)) pos] (eOwn2 i j) := by
  refine ⟨hK, _, pss_one (ps_ret (pe_tup (pa_cons (pe_var hN hv hd hcd) (pa_cons (pe_var hM hw hd2 hcd2) pa_nil hs2) hs))), fun F σ H env S D q => ?_⟩
  unfold eOwn2 at q
  split at q
  · rename_i d e he he2
    obtain ⟨fps, rs, nd, fr⟩ := S.rep
    obtain ⟨v, fp, g1, g2, g3⟩ := rs.get he
    obtain ⟨w, fq, g4, g5, g6⟩ := rs.get he2
    refine ⟨v, g1, w, g4, by show 2 ≤ sizeLine; decide, fun p hp => ?_⟩
    have G : Grow F H (upd F p (.tup [v, w])) (upd H p (.tup [v, w])) := Grow.new S.fH hp
    have hne : ∀ a ∈ fp ++ fq, a ≠ p := fun a ha z => by
      rcases List.mem_append.mp ha with h | h
      · obtain ⟨o, ho⟩ := g3.fp_some _ a h
        rw [z, hp] at ho; cases ho
      · obtain ⟨o, ho⟩ := g6.fp_some _ a h
        rw [z, hp] at ho; cases ho
    have hfr : ∀ k f, fps[k]? = some f → ∀ a ∈ f, E.H0 a = none ∧ F a = none := fun k f hk a ha => own_free ho (fr k f hk a ha)
    refine q (.ref p) _ σ _ env G.f (S.grow G) ⟨p, v, w, fp, fq, rfl, upd_same, g3.grow G, g6.grow G, List.nodup_append.mpr ⟨nodup_get nd g2, nodup_get nd g5, fun a ha b hb e => ?_⟩, fun b hb => ?_⟩
    · subst e
      exact nodup_apart nd (Ne.symm hij) g5 g2 a hb ha
    · rw [upd_ne (hne b hb)]
      rcases List.mem_append.mp hb with h | h
      · exact hfr i fp g2 b h
      · exact hfr j fq g5 b h
  · exact q.elim
end
/-! ### the promises -/
def PostG {α : Type} (Gd : Kx → Hp → Hp → Hp → α → V → Prop) (K : Kx) (F H : Hp) (Q : VK) : Rs α → Prop
  | .ok d => ∀ v F' H', Grow F H F' H' → Gd K H F' H' d v → Q v H'
  | _ => False
def spG {α : Type} (Gd : Kx → Hp → Hp → Hp → α → V → Prop) (K : Kx) (n : Nat) (m : List D → Rs α) : Sp := fun vs H Q Ex => ∃ ds F, Same F H ∧ RL K F H ds vs [] ∧ ds.length = n ∧ PostG Gd K F H Q (m ds)
def runO {α : Type} (g : En → Rs α) (n : Nat) : List D → Rs α := fun ds => g (start0 n ds)
theorem fnO {α : Type} {Gd : Kx → Hp → Hp → Hp → α → V → Prop} {P : Program} {w : World} {K : Kx} {mg : Str → Option Value} {base : Heap} {x qual : Str} {st : Stmt} {f : Addr} {fd : FuncData} {N ps : List Str} {k np n : Nat} {g : En → Rs α} {m : List D → Rs α} (Fn : Fun K.k x qual st f fd) (S : FnScope N ps (defScope st))
    (hm : m = runO g n) (hn : N.length = n) (hp : ps.length = np)
    (hb : ∀ (cdv : Value) (A : Around) (outer : List Env) (s : Shared) (H : Hp) (Ex : XK) (F0 : Hp), Room k (A.deeper (PyProof.Rows.envOfC qual (defScope st) s.heap.objs.size f cdv)) →
      SBO (cxOf CX0 P w K.k mg base N qual (defScope st) f cdv A outer s H Ex).nox ⟨K, H, F0, fun _ => []⟩ W0 Gd (defBody st) g) : FnOk P w K.k mg base CX0 (k + 1) f fd ps (spG Gd K np m) := by
  subst hm hn hp
  refine Fn.ok S (fun vs H Q E h => ?_) (fun cdv A outer s H vs Q Ex hr h => ?_)
  · obtain ⟨ds, F, _, hl, hn, _⟩ := h
    rw [hl.len, hn]
  · obtain ⟨ds, F, hs, hl, hn, q⟩ := h
    obtain ⟨t, p, k⟩ := (hb cdv A outer s H Ex F hr).ex
    refine ⟨t, p, k F _ H _ (stt_start hs hl) _ ?_⟩
    unfold runO at q
    cases e : g (start0 N.length ds) with
    | ok d => rw [e] at q; exact fun v F' σ' H' e' G S' gd => q v F' H' (stt_end S') gd
    | ex x => rw [e] at q; exact q.elim
    | un => rw [e] at q; exact q.elim
section
variable {X : Cx} {E : Ent} {W : WX} {e : Expr} {es : List Expr} {pos p : Pos} {fa : En → Rs (List D)}
def nox1 {α : Type} : Rs α → Rs α
  | .ok d => .ok d
  | _ => .un
@[simp] theorem nox1_ok {α : Type} (d : α) : nox1 (.ok d) = .ok d := id rfl
def eAppG {α : Type} (n : Nat) (m : List D → Rs α) (fa : En → Rs (List D)) : En → Rs α := fun env => (fa env).bind fun ds => if ds.all isData && decide (ds.length = n) then nox1 (m ds) else .un
theorem callG {α : Type} {Gd : Kx → Hp → Hp → Hp → α → V → Prop} {x : Str} {k n : Nat} {fa_ : Addr} {fd : FuncData} {ps : List Str} {m : List D → Rs α}
    (F : FnOk X.prog X.w X.K X.mg X.base CX0 k fa_ fd ps (spG Gd E.K n m)) (hr : Room k X.A) (hm : X.mg x = some (.ref fa_)) (hk : PySem.W.keepIn X.K (.ref fa_) = true) (hb : Binds X.K fd ps []) (ha : SA X E W (e :: es) fa) (hg : Gl X x := by rfl)
    (hdb : (x == ("__debug__" : Str)) = false := by decide) (he : starEach (e :: es) X.env = (false, eval e X.env) :: starEach es X.env := by rfl) (hpl : (backTo pos (starEach es X.env)).any (·.1) = false := by rfl) :
    ∃ t, PE X (.Call (.Name x p) (e :: es) [] pos) t ∧ ∀ F σ H env, Stt E F env σ H → ∀ Q, (match eAppG n m fa env with
      | .ok d => ∀ v F1 H1 F' H', Grow F H F1 H1 → Grow F1 H1 F' H' → Gd E.K H1 F' H' d v → Q v H'
      | .ex x => ∀ cls dd F' H', Grow F H F' H' → Rx E.K F' H' x cls dd → W cls dd σ H'
      | .un => False) → t σ H Q := by
  obtain ⟨t, pa, ka⟩ := ha.ex
  refine ⟨_, pe_call F hr hg hm hk hb .nil pass0 pa hdb he hpl, fun Fz σ H env S Q q => ?_⟩
  refine ka Fz σ H env S _ ?_
  unfold eAppG at q
  cases e1 : fa env with
  | un => rw [e1] at q; exact q
  | ex x => rw [e1] at q; exact q
  | ok ds =>
    rw [e1, Rs.bind_ok] at q
    intro vs fp F1 H1 G1 r1
    cases hc : ds.all isData && decide (ds.length = n) with
    | false => rw [hc] at q; exact q.elim
    | true =>
      rw [hc] at q
      rw [Bool.and_eq_true] at hc
      rw [List.append_nil]
      refine ⟨ds, F1, G1.fh, r1.toData hc.1, of_decide_eq_true hc.2, ?_⟩
      have q : (match nox1 (m ds) with
        | .ok d => ∀ v F1 H1 F' H', Grow Fz H F1 H1 → Grow F1 H1 F' H' → Gd E.K H1 F' H' d v → Q v H'
        | .ex x => ∀ cls dd F' H', Grow Fz H F' H' → Rx E.K F' H' x cls dd → W cls dd σ H'
        | .un => False) := q
      cases e2 : m ds with
      | un => rw [e2] at q; exact q.elim
      | ex x => rw [e2] at q; exact q.elim
      | ok d => rw [e2] at q; exact fun v F' H' G gd => q v F1 H1 F' H' G1 G gd
/-- f(..), f hands out one owned thing -/
theorem SN.callN {x : Str} {k n : Nat} {fa_ : Addr} {fd : FuncData} {ps : List Str} {m : List D → Rs D}
    (F : FnOk X.prog X.w X.K X.mg X.base CX0 k fa_ fd ps (spG Good1 E.K n m)) (hr : Room k X.A) (hm : X.mg x = some (.ref fa_)) (hk : PySem.W.keepIn X.K (.ref fa_) = true) (hb : Binds X.K fd ps []) (ha : SA X E W (e :: es) fa) (hg : Gl X x := by rfl)
    (hdb : (x == ("__debug__" : Str)) = false := by decide) (he : starEach (e :: es) X.env = (false, eval e X.env) :: starEach es X.env := by rfl) (hpl : (backTo pos (starEach es X.env)).any (·.1) = false := by rfl) :
    SN X E W (.Call (.Name x p) (e :: es) [] pos) (eAppG n m fa) := by
  obtain ⟨t, pt, kt⟩ := callG (W := W) (p := p) (pos := pos) F hr hm hk hb ha hg hdb he hpl
  refine ⟨ha.hK, t, pt, fun Fz σ H env S Q q => kt Fz σ H env S Q ?_⟩
  cases e1 : eAppG n m fa env with
  | un => rw [e1] at q; exact q
  | ex x => rw [e1] at q; exact q
  | ok d =>
    rw [e1] at q
    intro v F1 H1 F' H' G1 G gd
    obtain ⟨fp, r, hn, hf⟩ := gd
    exact q v fp F' H' (G1.trans G) r hn fun a ha => ⟨G1.none (hf a ha).1, (hf a ha).2⟩
/-- x, y = f(..), f hands out a pair of owned things -/
def sUnp2 (i j : Nat) (f : En → Rs (D × D)) : En → Fl := fun env => match f env with
  | .ok p => .nx ((env.set i (some p.1)).set j (some p.2))
  | .ex x => .xx x env
  | .un => .un
theorem SS.unp2 {x y z : Str} {k n kt : Nat} {fa_ : Addr} {fd : FuncData} {ps : List Str} {m : List D → Rs (D × D)} {q1 q2 q3 q4 : Pos} (i j : Nat)
    (F : FnOk X.prog X.w X.K X.mg X.base CX0 k fa_ fd ps (spG Good2 E.K n m)) (hr : Room k X.A) (hm : X.mg z = some (.ref fa_)) (hk : PySem.W.keepIn X.K (.ref fa_) = true) (hb : Binds X.K fd ps []) (ha : SA X E W (e :: es) fa)
    (hN : X.N.Nodup) (hc : X.calm = true := by rfl) (hg : Gl X z := by rfl) (hx : X.N[i]? = some x := by rfl) (hy : X.N[j]? = some y := by rfl) (hlx : Loc X.env.scope x := by first | exact Or.inl rfl | exact Or.inr rfl) (hly : Loc X.env.scope y := by first | exact Or.inl rfl | exact Or.inr rfl)
    (hfx : X.fn x = true ∨ X.env.scope.names.lookup x = some .local := by first | exact .inl rfl | exact .inr rfl) (hfy : X.fn y = true ∨ X.env.scope.names.lookup y = some .local := by first | exact .inl rfl | exact .inr rfl)
    (hdb : (z == ("__debug__" : Str)) = false := by decide) (he : starEach (e :: es) X.env = (false, eval e X.env) :: starEach es X.env := by rfl) (hpl : (backTo pos (starEach es X.env)).any (·.1) = false := by rfl)
    (hn : (assignEach [.Name x q1, .Name y q2] X.env).length = 2 := by rfl) (hst : (assignEach [.Name x q1, .Name y q2] X.env).findIdx? (·.1) = none := by rfl)
    (hsx : (assignEach [.Name x q1, .Name y q2] X.env).map (·.2) = assign (.Name x q1) X.env :: (assignEach [.Name y q2] X.env).map (·.2) := by rfl) (hsy : (assignEach [.Name y q2] X.env).map (·.2) = assign (.Name y q2) X.env :: (assignEach [] X.env).map (·.2) := by rfl)
    (hs : swapsWithSole [.Tuple [.Name x q1, .Name y q2] kt q3] (.Call (.Name z p) (e :: es) [] pos) q4.line X.env = pure false := by rfl) (hw : swappedStores [.Tuple [.Name x q1, .Name y q2] kt q3] (.Call (.Name z p) (e :: es) [] pos) X.env = pure none := by rfl)
    (h1 : (assignEach [.Tuple [.Name x q1, .Name y q2] kt q3] X.env).map (·.2) = [assign (.Tuple [.Name x q1, .Name y q2] kt q3) X.env] := by rfl) :
    SS X E W (.Assign [.Tuple [.Name x q1, .Name y q2] kt q3] (.Call (.Name z p) (e :: es) [] pos) q4) (sUnp2 i j (eAppG n m fa)) := by
  obtain ⟨t, pt, kt⟩ := callG (W := W) (p := p) (pos := pos) F hr hm hk hb ha hg hdb he hpl
  refine ⟨ha.hK, _, ps_asg pt (pg_tup hc (pgs_cons (pg_name hN hx hlx hfx) (pgs_cons (pg_name hN hy hly hfy) pgs_nil hsy) hsx) hn hst) hs hw h1, fun Fz σ H env S D q => kt Fz σ H env S _ ?_⟩
  unfold sUnp2 at q
  cases e1 : eAppG n m fa env with
  | un => rw [e1] at q; exact q
  | ex x => rw [e1] at q; exact fun cls dd F' H' G r => q cls dd F' σ H' G.f (S.grow G) r
  | ok d =>
    rw [e1] at q
    intro v F1 H1 F' H' G1 G gd
    obtain ⟨a, x', y', fp, fq, rfl, ha', r1, r2, hn', hf⟩ := gd
    have GG := G1.trans G
    refine ⟨a, [x', y'], rfl, by exact SqT.of (GG.fh _ _ ha'), rfl, x', [y'], rfl, y', [], rfl, rfl, ?_⟩
    exact q F' _ H' GG.f (S.setNew2 i j r1 r2 GG hn' fun b hb => ⟨G1.none (hf b hb).1, (hf b hb).2⟩)
end
section
variable {X : Cx} {E : Ent} {W : WX} {e : Expr} {pos : Pos} {f : En → Rs D}
/-! xs[::-1] -/
def eRevL (f : En → Rs D) : En → Rs (List D) := fun env => (f env).bind fun d => ofO ((listOf d).map List.reverse)
theorem SL.revL {k : Nat} {p1 p2 p3 : Pos} (ha : SE X E W e f) : SL X E W (.Subscript e (.Slice none none (some (.UnaryOp .USub (.Constant (.int 1) k p1) p2)) p3) pos) (eRevL f) := by
  obtain ⟨t, p, k⟩ := ha.ex
  refine ⟨ha.hK, _, pe_revL p, fun F σ H env S Q q => ?_⟩
  refine k F σ H env S _ ?_
  unfold eRevL at q
  cases e1 : f env with
  | un => rw [e1] at q; exact q
  | ex x => rw [e1] at q; exact q
  | ok d =>
    rw [e1, Rs.bind_ok] at q
    intro v fp F1 H1 G1 r1
    cases e2 : listOf d with
    | none => rw [e2] at q; exact q.elim
    | some ds =>
      rw [e2] at q
      obtain ⟨a, vs, rfl, h1, hl, hz⟩ := listOf_at G1.fh r1 e2
      refine ⟨a, vs, rfl, SqL.of h1, fun p hp => ?_⟩
      have hp0 : H p = none := by
        cases q0 : H p with
        | none => rfl
        | some o => rw [G1.h _ _ q0] at hp; cases hp
      exact q p _ F1 _ (G1.trans (Grow.own G1.fh hp)) hp0 (same_none G1.fh hp) upd_same (hl.rev0.grow (Grow.own G1.fh hp)) (by rw [List.length_reverse]; exact hz)
/-! isinstance of an own class: yes -/
theorem kit_self (K : PySem.W.Frag) (C : Addr) : PySem.W.kitOne K (.ref C) (.ref C) = some true := if_pos (beq_self_eq_true (Value.ref C))
structure IsC (K : PySem.W.Frag) (C : Addr) : Prop where
  cl : Cls K C
  ha : PySem.W.findIn K (.ref C) "__class__" = some (some (.builtin "object.__class__"))
  hn : PySem.W.specialIn K (.builtin "object.__class__") "__get__" = some (some (.builtin "getset_descriptor.__get__"))
  ht : PySem.W.takesIn K (.builtin "object.__class__") = some true
  hm : PySem.W.mroIn K C (.type "object") = some true
  ko : PySem.W.kitOne K (.ref C) (.ref C) = some true
def eIsC (c : Nat) (f : En → Rs D) : En → Rs D := fun env => (f env).bind fun d => match d with
  | .ob c' _ _ => if c' = c then .ok (.bl true) else .un
  | _ => .un
theorem SE.isC (c : Nat) {x : Str} {p p2 : Pos} (I : IsC E.K.k (E.K.ca c)) (ha : SE X E W e f) (hm : X.mg "isinstance" = none) (hmT : X.mg x = some (.ref (E.K.ca c))) (hg : Gl X "isinstance" := by rfl) (hgT : Gl X x := by rfl) (hd : (x == ("__debug__" : Str)) = false := by decide)
    (hs : starEach [e, .Name x p2] X.env = (false, eval e X.env) :: starEach [.Name x p2] X.env := by rfl) (hs2 : starEach [.Name x p2] X.env = (false, eval (.Name x p2) X.env) :: starEach [] X.env := by rfl)
    (hpl : (backTo pos (starEach [.Name x p2] X.env)).any (·.1) = false := by rfl) :
    SE X E W (.Call (.Name "isinstance" p) [e, .Name x p2] [] pos) (eIsC c f) := by
  obtain ⟨t, pa, ka⟩ := ha.ex
  refine ⟨ha.hK, _, pe_callB call_isi hg hm (by decide +kernel) (pa_cons pa (pa_cons (pe_glob hgT hmT (v := .ref (E.K.ca c)) rfl hd) pa_nil hs2) hs) (by decide) (by decide) hs hpl, ?_⟩
  intro F σ H env S Q q
  refine ka F σ H env S _ ?_
  unfold eIsC at q
  cases e1 : f env with
  | un => rw [e1] at q; exact q
  | ex x => rw [e1] at q; exact q
  | ok d =>
    rw [e1, Rs.bind_ok] at q
    intro v fp F1 H1 G1 r1
    cases d <;> first | exact q.elim | skip
    rename_i c' ns ds
    dsimp only at q
    split at q
    · rename_i hc
      subst hc
      have r0 := r1.toData rfl
      cases r0 with
      | ob h1 h2 h3 h4 =>
        rename_i a dx ws
        refine ⟨.ref a, .ref (E.K.ca c'), .ref (E.K.ca c'), .ref (E.K.ca c'), true, rfl, .own _, by rw [ha.hK]; exact .base (.ins (G1.fh _ _ h1) I.cl I.ha I.hn I.ht I.hm), by rw [ha.hK]; exact I.ko, ?_⟩
        exact q _ [] F1 H1 G1 (.bl true)
    · exact q.elim
end
theorem SB.unk {X : Cx} {E : Ent} {W : WX} {ss : List Stmt} (hK : X.K = E.K.k := by rfl) : SB X E W ss sUn := ⟨hK, fun _ _ _ => False, ⟨fun pins s σ H D I h => h.elim⟩, fun F σ H env S D q => q.elim⟩
def eZip (fa : En → Rs (List D)) : En → Rs (List D) := fun env => (fa env).bind iZip2
def eEnum (fa : En → Rs (List D)) : En → Rs (List D) := fun env => (fa env).bind iEnum1
theorem law_of2 {P : Program} {w : World} {K : PySem.W.Frag} {ca : Nat → Addr} {mg : Str → Option Value} {base : Heap} {k : Nat} {f : Addr} {fd : FuncData} {m : List D → Rs D} (F : FnOk P w K mg base CX0 k f fd ["script"] (spP ⟨K, ca, fun _ => 0⟩ 1 m))
    (h : ∀ ns : List Int, ns.length ≤ 63 → m [.scr ns] = .ok (.bl true)) : FnOk P w K mg base CX0 k f fd ["script"] (spLaw K) := by
  refine F.imp fun vs H Q E q => ?_
  obtain ⟨a, ns, rfl, _, hs, hl, k⟩ := q
  refine ⟨[.scr ns], H, Same.refl _, RL.mk0 (.scr hs (by omega)) .nil, rfl, ?_⟩
  rw [h ns hl]
  intro v F' H' G r
  cases r
  exact k H'
end Z

set_option Elab.async false
set_option linter.all false
set_option maxRecDepth 100000
set_option maxHeartbeats 1000000
/-! ZY: plain rules for what ZR .. ZX brought -/
namespace Z
open PySem L2
section
variable {env : En} {f g h : En → Rs D} {fa : En → Rs (List D)} {d e k : D} {i j : Nat}
@[simp] theorem eFld_e {cs : List Nat} {n : String} : eFld cs n f env = (f env).bind fun d => ofO (pFld cs n d) := id rfl
@[simp] theorem eChain_e {op op' : D → D → Option D} : eChain op op' f g h env = (f env).bind fun x => (g env).bind fun y => (ofO (op x y)).bind fun z => chainZ op' h env y z := id rfl
@[simp] theorem chainZ_t {op' : D → D → Option D} {y : D} : chainZ op' h env y (.bl true) = (h env).bind fun w => ofO (op' y w) := id rfl
@[simp] theorem chainZ_f {op' : D → D → Option D} {y : D} : chainZ op' h env y (.bl false) = .ok (.bl false) := id rfl
@[simp] theorem eGet2_e : eGet2 f g h env = (f env).bind fun d => if isDic d then (g env).bind fun k => (h env).bind fun z => ofO ((dGet d k).map fun o => o.getD z) else .un := id rfl
@[simp] theorem isDic_dic {t : Bool} {x y : List D} : isDic (.dic t x y) = true := id rfl
@[simp] theorem isDic_odic {t : Bool} {x y : List D} : isDic (.odic t x y) = true := id rfl
@[simp] theorem eMeth_e {c n : Nat} {mn : String} {m : List D → Rs D} : eMeth c mn n m f fa env = (f env).bind fun d => if isOb c mn d then (fa env).bind fun ds => if ds.all isData && decide (ds.length = n) then m (d :: ds) else .un else .un := id rfl
@[simp] theorem eDat_e : eDat f env = (f env).bind fun d => if isData d then .ok d else .un := id rfl
@[simp] theorem eNewD_e {t : Bool} : eNewD t env = .ok (.odic t [] []) := id rfl
@[simp] theorem eRevL_e : eRevL f env = (f env).bind fun d => ofO ((listOf d).map List.reverse) := id rfl
@[simp] theorem eZip_e : eZip fa env = (fa env).bind iZip2 := id rfl
@[simp] theorem eEnum_e : eEnum fa env = (fa env).bind iEnum1 := id rfl
@[simp] theorem iZip2_t {x y : List D} : iZip2 [.tup x, .tup y] = .ok (prL x y) := id rfl
@[simp] theorem iEnum1_t {x : List D} : iEnum1 [.tup x] = .ok (enL x) := id rfl
@[simp] theorem iEnum1_l {x : List D} : iEnum1 [.lst x] = .ok (enL x) := id rfl
@[simp] theorem eAppG_e {α : Type} {n : Nat} {m : List D → Rs α} : eAppG n m fa env = (fa env).bind fun ds => if ds.all isData && decide (ds.length = n) then nox1 (m ds) else .un := id rfl
@[simp] theorem psNil_e : psNil env = .ok ([], []) := id rfl
@[simp] theorem psCons_e {fs : En → Rs (List D × List D)} : psCons f g fs env = (f env).bind fun k => (g env).bind fun v => (fs env).bind fun p => if isData k && isData v then .ok (k :: p.1, v :: p.2) else .un := id rfl
@[simp] theorem eDisp_e {n : Nat} {fs : En → Rs (List D × List D)} : eDisp n fs env = (fs env).bind fun p => if p.1.length ≤ 15 then ofO ((dispD p.1 p.2 [] []).map fun r => .odic false r.1 r.2) else .un := id rfl
@[simp] theorem sUn_e : sUn env = .un := id rfl
@[simp] theorem bLen2_odic {t : Bool} {x y : List D} : bLen2 [.odic t x y] = some (.int x.length) := id rfl
@[simp] theorem bLen2_dic {t : Bool} {x y : List D} : bLen2 [.dic t x y] = some (.int x.length) := id rfl
@[simp] theorem bTuple_lst {x : List D} : bTuple [.lst x] = some (.tup x) := id rfl
@[simp] theorem bTuple_tup {x : List D} : bTuple [.tup x] = some (.tup x) := id rfl
theorem sqO_nx {α : Type} {gs : En → Fl} {g : En → Rs α} {en : En} (h : gs env = .nx en) : sqO gs g env = g en := by unfold sqO; rw [h]
theorem sSetN_ok (hf : f env = .ok d) : sSetN i f env = .nx (env.set i (some d)) := by unfold sSetN; rw [hf]
theorem sFz_ok {gs : En → Fl} (he : env[i]? = some (some d)) : sFz i gs env = gs (env.set i (some (frzD d))) := by unfold sFz; rw [he]
theorem atP_var {d0 : D} (he : env[i]? = some (some d0)) : atP env i pmVar = some (d0, [], peel d0) := by
  unfold atP pmVar
  rw [he]
  rfl
theorem sPut_ok {pm : D → Option (List Nat)} {d0 x e' : D} {p : List Nat} (hv : f env = .ok d) (ha : atP env i pm = some (d0, p, x)) (hk : g env = .ok k) (hp : putAt x k d = some e') : sPut i pm g f env = .nx (env.set i (some (putD d0 p e'))) := by
  unfold sPut
  rw [hv, ha]
  dsimp only
  rw [hk]
  dsimp only
  rw [hp]
theorem sPutV_ok {d0 e' : D} (hv : f env = .ok d) (he : env[i]? = some (some d0)) (hk : g env = .ok k) (hp : putAt (peel d0) k d = some e') : sPut i pmVar g f env = .nx (env.set i (some (putRoot d0 e'))) := sPut_ok hv (atP_var he) hk hp
theorem sSetXpop_ok {xs : List D} {x : D} {j : Nat} (he : env[i]? = some (some (.olst (xs ++ [x])))) (hx : isData x = true) : sSetX j (xPop i) env = .nx ((env.set i (some (.olst xs))).set j (some x)) := by
  have : xPop i env = .ok x (env.set i (some (.olst xs))) := by
    unfold xPop
    rw [he]
    simp [hx]
  simp [this]
end
/-! paths -/
theorem kid_lt {d k : D} {i : Nat} (h : kid d i = some k) (e : D) : kid (putKid d i e) i = some e ∧ ∀ e', putKid (putKid d i e) i e' = putKid d i e' := by
  induction d using D.rec (motive_2 := fun _ => True) with
  | olst xs _ =>
    have hl : i < xs.length := (List.getElem?_eq_some_iff.mp (show xs[i]? = some k from h)).1
    exact ⟨by show (xs.set i e)[i]? = _; rw [List.getElem?_set_self hl], fun e' => by show D.olst ((xs.set i e).set i e') = _; rw [List.set_set]; rfl⟩
  | odic t ks xs _ _ =>
    have hl : i < xs.length := (List.getElem?_eq_some_iff.mp (show xs[i]? = some k from h)).1
    exact ⟨by show (xs.set i e)[i]? = _; rw [List.getElem?_set_self hl], fun e' => by show D.odic t ks ((xs.set i e).set i e') = _; rw [List.set_set]; rfl⟩
  | oob c ns xs _ =>
    have hl : i < xs.length := (List.getElem?_eq_some_iff.mp (show xs[i]? = some k from h)).1
    exact ⟨by show (xs.set i e)[i]? = _; rw [List.getElem?_set_self hl], fun e' => by show D.oob c ns ((xs.set i e).set i e') = _; rw [List.set_set]; rfl⟩
  | bor t d ih =>
    obtain ⟨h1, h2⟩ := ih h
    exact ⟨h1, fun e' => by show D.bor t (putKid (putKid d i e) i e') = _; rw [h2]; rfl⟩
  | nil => trivial
  | cons => trivial
  | _ => cases h
/-- one step through a path that ends in a box -/
theorem putD_snoc {x : D} (hx : isBox x = true) {j : Nat} {c : D} (hc : kid x j = some c) (e : D) : ∀ (p : List Nat) {d : D}, subD d p = some x → putD d (p ++ [j]) e = putD d p (putKid x j (putRoot c e))
  | [], d, h => by
    have h : some (peel d) = some x := h
    injection h with h
    show (match kid d j with | some k => putKid d j (putRoot k e) | none => d) = putRoot d (putKid x j (putRoot c e))
    have hk : kid d j = some c := by rw [← kid_peel, h, hc]
    rw [hk]
    cases d <;> first | (subst h; rfl) | (cases h; rfl)
  | i :: p, d, h => by
    unfold subD at h
    cases e1 : kid d i with
    | none => rw [e1] at h; cases h
    | some k =>
      rw [e1, Option.bind_some] at h
      have ih := putD_snoc hx hc e p h
      show (match kid d i with | some k => putKid d i (putD k (p ++ [j]) e) | none => d) = (match kid d i with | some k => putKid d i (putD k p _) | none => d)
      rw [e1]
      dsimp only
      rw [ih]
theorem subD_put {x y : D} (hx : isBox x = true) (hy : isBox y = true) : ∀ (p : List Nat) {d : D}, subD d p = some x → subD (putD d p y) p = some y ∧ ∀ z, isBox z = true → putD (putD d p y) p z = putD d p z
  | [], d, h => by
    have hp : peel y = y := by cases y <;> first | rfl | (cases hy; done)
    have hz : ∀ z, putRoot y z = z := fun z => by cases y <;> first | rfl | (cases hy; done)
    cases d <;> exact ⟨by first | exact congrArg some hp | rfl, fun z _ => by first | exact hz z | rfl⟩
  | i :: p, d, h => by
    unfold subD at h
    cases e1 : kid d i with
    | none => rw [e1] at h; cases h
    | some k =>
      rw [e1, Option.bind_some] at h
      obtain ⟨h1, h2⟩ := subD_put hx hy p h
      have ep : ∀ z, putD d (i :: p) z = putKid d i (putD k p z) := fun z => by
        show (match kid d i with | some k => putKid d i (putD k p z) | none => d) = _
        rw [e1]
      obtain ⟨k1, k2⟩ := kid_lt e1 (putD k p y)
      refine ⟨?_, fun z hz => ?_⟩
      · rw [ep]
        show (kid (putKid d i (putD k p y)) i).bind (fun q => subD q p) = _
        rw [k1]; exact h1
      · rw [ep, ep]
        show (match kid (putKid d i (putD k p y)) i with | some q => putKid (putKid d i (putD k p y)) i (putD q p z) | none => _) = _
        rw [k1]
        dsimp only
        rw [k2, h2 z hz]
def sdaD (t : Bool) (KS VS : List D) (k d : D) : Option D := if keyOk t k ∧ KS.length < 16777216 then (match posK KS k with
  | some j => (match VS[j]? with
    | some (.olst ds) => if ds.length < 16777216 then some (.odic t KS (VS.set j (.olst (ds ++ [d])))) else none
    | _ => none)
  | none => if KS.length = VS.length then some (.odic t (KS ++ [k]) (VS ++ [.olst [d]])) else none) else none
theorem sSdA_ok {env : En} {i : Nat} {pm : D → Option (List Nat)} {fk fv : En → Rs D} {d0 k d e' : D} {p : List Nat} {t : Bool} {KS VS : List D} (ha : atP env i pm = some (d0, p, .odic t KS VS)) (hk : fk env = .ok k) (hs : sdaD t KS VS k d = some e') (hd : isData d = true)
    (hv : fv env = .ok d) (hv2 : ∀ x, fv (env.set i (some x)) = .ok d) : sSdA i pm fk fv env = .nx (env.set i (some (putD d0 p e'))) := by
  obtain ⟨he, _, hsub⟩ := atP_at ha
  have hlt : i < env.length := (List.getElem?_eq_some_iff.mp he).1
  unfold sSdA
  rw [ha]
  dsimp only
  rw [hk]
  dsimp only
  unfold sdaD at hs
  split at hs
  · rename_i hc
    rw [if_pos hc]
    cases e1 : posK KS k with
    | some j =>
      rw [e1] at hs
      dsimp only at hs ⊢
      split at hs
      · rename_i ds e2
        split at hs
        · rename_i hl
          cases hs
          try rw [e2]
          try dsimp only
          have hkid : kid (.odic t KS VS) j = some (.olst ds) := e2
          have hsub2 : subD d0 (p ++ [j]) = some (.olst ds) := by rw [subD_snoc, hsub, Option.bind_some, hkid]; rfl
          unfold appAt
          rw [hv, he]
          simp only [hd, if_true, Option.join_some, Option.bind_some, hsub2, Option.map_some, hl]
          rw [putD_snoc (x := .odic t KS VS) rfl hkid _ p hsub]
          rfl
        · cases hs
      · cases hs
    | none =>
      rw [e1] at hs
      dsimp only at hs ⊢
      split at hs
      · rename_i hl
        cases hs
        obtain ⟨k1, k2⟩ := subD_put (x := .odic t KS VS) (y := .odic t (KS ++ [k]) (VS ++ [.olst []])) rfl rfl p hsub
        have hkid : kid (.odic t (KS ++ [k]) (VS ++ [.olst []])) KS.length = some (.olst []) := by
          show (VS ++ [D.olst []])[KS.length]? = _
          rw [hl]; simp
        have hsub2 : subD (putD d0 p (.odic t (KS ++ [k]) (VS ++ [.olst []]))) (p ++ [KS.length]) = some (.olst []) := by rw [subD_snoc, k1, Option.bind_some, hkid]; rfl
        unfold appAt
        rw [hv2, List.getElem?_set_self hlt]
        simp only [hd, if_true, Option.join_some, Option.bind_some, hsub2, Option.map_some]
        rw [if_pos (by decide), putD_snoc (x := .odic t (KS ++ [k]) (VS ++ [.olst []])) rfl hkid _ p k1, k2 _ rfl, List.set_set]
        show Fl.nx (env.set i (some (putD d0 p (.odic t (KS ++ [k]) ((VS ++ [D.olst []]).set KS.length (D.olst ([] ++ [d]))))))) = _
        rw [hl, List.set_append_right _ _ (Nat.le_refl _)]
        simp
      · cases hs
  · cases hs
end Z

set_option Elab.async false
set_option linter.all false
set_option maxRecDepth 100000
namespace Law
open PySem L2 Z
def g_Machine_leading : En → Fl :=
  (sRet (eCall bTuple (aCons (eGet2 (eFld [0] "_leading" (eVar 0)) (eTup (aCons (eVar 1) (aCons (eVar 2) aNil))) (eTup aNil)) aNil)))
def m_Machine_leading : List D → Rs D := runB0 g_Machine_leading 3
theorem e_Machine_leading (a0 a1 a2 : D) : m_Machine_leading [a0, a1, a2] = noX (outB (g_Machine_leading [some a0, some a1, some a2])) := rfl
def b0_well_ordered : En → Fl :=
  (sSeq (sIf (eOr (eB (eBin pNotIn (eVar 2) (eC (.str [35, 97, 98, 99, 100, 101, 102, 103, 104])))) (eB (eBin pLe (eVar 2) (eVar 1))))
  (sRet (eC (.bl false)))
  sPass)
  (sSet 1 (eVar 2)))
def g_well_ordered : En → Fl :=
  (sSeq (sSet 1 (eC (.str [])))
  (sSeq (sFor (iSeq (eVar 0)) (gN 2) b0_well_ordered [2])
  (sRet (eBin pNe (eVar 1) (eC (.str []))))))
def m_well_ordered : List D → Rs D := runB0 g_well_ordered 3
theorem e_well_ordered (a0 : D) : m_well_ordered [a0] = noX (outB (g_well_ordered [some a0, none, none])) := rfl
def g_edge_fits : En → Fl :=
  (sSeq (sUnp (gT fun ds env => if ds.length = 4 then (gsCons (gN 3) (gsCons (gN 4) (gsCons (gN 5) (gsCons (gN 6) gsNil)))) ds env else none) (eSl (eVar 2) oNone (oSome (eC (.int 4)))))
  (sSeq (sIf (eOr (eNot (eB (eChain pLe pLt (eC (.int 0)) (eVar 3) (eVar 1)))) (eNot (eB (eChain pLe pLt (eC (.int 0)) (eVar 6) (eVar 1)))))
  (sRet (eC (.bl false)))
  sPass)
  (sSeq (sIf (eOr (eB (eBin pEq (eVar 3) (eC (.int 1)))) (eB (eBin pEq (eVar 6) (eC (.int 0)))))
  (sRet (eC (.bl false)))
  sPass)
  (sSeq (sIf (eOr (eB (eBin pNe (eBin pEq (eVar 4) (eC (.str [94]))) (eBin pEq (eVar 3) (eC (.int 0))))) (eB (eBin pNe (eBin pEq (eVar 4) (eC (.str [36]))) (eBin pEq (eVar 6) (eC (.int 1))))))
  (sRet (eC (.bl false)))
  sPass)
  (sSeq (sIf (eAnd (eB (eBin pNotIn (eVar 4) (eTup (aCons (eC (.str [94])) (aCons (eC (.str [36])) aNil))))) (eOr (eB (eBin pNe (eCall bLen (aCons (eVar 4) aNil)) (eC (.int 1)))) (eB (eBin pNotIn (eVar 4) (eVar 0)))))
  (sRet (eC (.bl false)))
  sPass)
  (sRet (eCall bAll (aCons (eOfL (eComp (iSeqO (eVar 5)) (gN 7) cYes (eBin pIn (eVar 7) (eVar 0)) [7])) aNil))))))))
def m_edge_fits : List D → Rs D := runB0 g_edge_fits 8
theorem e_edge_fits (a0 a1 a2 : D) : m_edge_fits [a0, a1, a2] = noX (outB (g_edge_fits [some a0, some a1, some a2, none, none, none, none, none])) := rfl
def b0_ending_states : En → Fl :=
  (sSdA 1 pmVar (eBin pIx (eVar 2) (eC (.int 3))) (eBin pIx (eVar 2) (eC (.int 0))))
def b1_ending_states : En → Fl :=
  (sIf (eB (eBin pNotIn2 (eVar 6) (eVar 3)))
  (sSeq (sPut 3 pmVar (eVar 6) (eDat (eC (.bl true))))
  (sApp 4 (eVar 6)))
  sPass)
def b2_ending_states : En → Fl :=
  (sSeq (sSetX 5 (xPop 4))
  (sFor (iSeq (eGet2 (eVar 1) (eVar 5) (eTup aNil))) (gN 6) b1_ending_states [6]))
def c3_ending_states : En → Rs Bool :=
  (eB (eBin pGt (eCall bLen (aCons (eVar 4) aNil)) (eC (.int 0))))
def g_ending_states : En → Fl :=
  (sSeq (sSetN 1 (eNewD false))
  (sSeq (sFor (iSeq (eFld [0] "edges" (eVar 0))) (gN 2) b0_ending_states [2])
  (sSeq (sSetN 3 (eDisp 0 (psCons (eC (.int 1)) (eC (.bl true)) psNil)))
  (sSeq (sSetL 4 (eLst (aCons (eC (.int 1)) aNil)))
  (sSeq (sFz 1 (sWhile 1000000000 c3_ending_states b2_ending_states [5, 6]))
  (sFz 3 (sRet (eVar 3))))))))
def m_ending_states : List D → Rs D := runB0 g_ending_states 7
theorem e_ending_states (a0 : D) : m_ending_states [a0] = noX (outB (g_ending_states [some a0, none, none, none, none, none, none])) := rfl
def g_shifted_state : En → Fl :=
  (sRet (eIf (eB (eBin pLt (eVar 0) (eC (.int 2)))) (eVar 0) (eBin pSub (eBin pAdd (eVar 0) (eVar 1)) (eC (.int 2)))))
def m_shifted_state : List D → Rs D := runB0 g_shifted_state 2
theorem e_shifted_state (a0 a1 : D) : m_shifted_state [a0, a1] = noX (outB (g_shifted_state [some a0, some a1])) := rfl
def g__law_cell : En → Fl :=
  (sSeq (sIf (eB (eBin pLt (eVar 1) (eCall bLen (aCons (eVar 0) aNil))))
  (sRet (eBin pIx (eVar 0) (eVar 1)))
  sPass)
  (sRet (eBin pAdd (eBin pMul (eC (.int 5)) (eVar 1)) (eC (.int 2)))))
def m__law_cell : List D → Rs D := runB0 g__law_cell 2
theorem e__law_cell (a0 a1 : D) : m__law_cell [a0, a1] = noX (outB (g__law_cell [some a0, some a1])) := rfl
def b0__law_numbers : En → Fl :=
  (sIf (eTru (eVar 4))
  (sSeq (sApp 6 (eBin pMod (eCall bInt (aCons (eVar 3) aNil)) (eVar 1)))
  (sSet 3 (eBin pDiv (eVar 3) (eVar 1))))
  (sSeq (sSet 5 (eBin pMod (eCall bInt (aCons (eBin pAdd (eBin pAdd (eBin pMul (eVar 5) (eC (.int 48271))) (eBin pMul (eC (.int 11)) (eVar 7))) (eC (.int 1))) aNil)) (eC (.int 2147483647))))
  (sApp 6 (eBin pMod (eCall bInt (aCons (eBin pDiv (eVar 5) (eC (.int 8191))) aNil)) (eVar 1)))))
def g__law_numbers : En → Fl :=
  (sSeq (sSet 3 (eCall bAbs (aCons (eCall bInt (aCons (eVar 0) aNil)) aNil)))
  (sSeq (sSet 4 (eBin pGe (eVar 3) (eBin pPow (eC (.int 10)) (eC (.int 18)))))
  (sSeq (sSet 5 (eBin pAdd (eBin pMod (eCall bInt (aCons (eVar 3) aNil)) (eC (.int 2147483647))) (eC (.int 1))))
  (sSeq (sSetL 6 (eLst aNil))
  (sSeq (sFor (eRg1 (aCons (eVar 2) aNil)) (gN 7) b0__law_numbers [7])
  (sFrz 6 (sRet (eVar 6))))))))
def m__law_numbers : List D → Rs D := runB0 g__law_numbers 8
theorem e__law_numbers (a0 a1 a2 : D) : m__law_numbers [a0, a1, a2] = noX (outB (g__law_numbers [some a0, some a1, some a2, none, none, none, none, none])) := rfl
def b0__law_same (rec : List D → Rs D) : En → Fl :=
  (sIf (eNot (eTru (eApp 2 rec (aCons (eBin pIx (eVar 0) (eVar 2)) (aCons (eBin pIx (eVar 1) (eVar 2)) aNil)))))
  (sRet (eC (.bl false)))
  sPass)
def g__law_same (rec : List D → Rs D) : En → Fl :=
  (sSeq (sIf (eTru (eIsi "tuple" (eVar 1)))
  (sSeq (sIf (eOr (eNot (eTru (eIsi "tuple" (eVar 0)))) (eB (eBin pNe (eCall bLen (aCons (eVar 0) aNil)) (eCall bLen (aCons (eVar 1) aNil)))))
  (sRet (eC (.bl false)))
  sPass)
  (sSeq (sFor (eRg1 (aCons (eCall bLen (aCons (eVar 1) aNil)) aNil)) (gN 2) (b0__law_same rec) [2])
  (sRet (eC (.bl true)))))
  sPass)
  (sSeq (sIf (eB (eBin pIs (eVar 1) (eC .non)))
  (sRet (eBin pIs (eVar 0) (eC .non)))
  sPass)
  (sSeq (sIf (eTru (eIsi "bool" (eVar 1)))
  (sRet (eAndV (eIsi "bool" (eVar 0)) (eBin pEq (eVar 0) (eVar 1))))
  sPass)
  (sSeq (sIf (eTru (eIsi "int" (eVar 1)))
  (sRet (eAndV (eIsi "int" (eVar 0)) (eAndV (eNotB (eIsi "bool" (eVar 0))) (eBin pEq (eVar 0) (eVar 1)))))
  sPass)
  (sRet (eAndV (eIsi "str" (eVar 0)) (eBin pEq (eVar 0) (eVar 1))))))))
def m__law_same : Nat → List D → Rs D
  | 0 => fun _ => .un
  | n + 1 => runB0 (g__law_same (m__law_same n)) 3
theorem e__law_same (n : Nat) (a0 a1 : D) : m__law_same (n + 1) [a0, a1] = noX (outB (g__law_same (m__law_same n) [some a0, some a1, none])) := rfl
theorem nox__law_same : ∀ n, NoX (m__law_same n)
  | 0 => fun _ _ h => nomatch h
  | _ + 1 => runB0_nox
def g__law_word : En → Fl :=
  (sSeq (sSet 2 (eOfL (eLst (aCons (eBin pIx (eVar 0) (eBin pMod (eBin pDiv (eCall bInt (aCons (eVar 1) aNil)) (eC (.int 3))) (eCall bLen (aCons (eVar 0) aNil)))) (aCons (eBin pIx (eVar 0) (eBin pMod (eBin pDiv (eCall bInt (aCons (eVar 1) aNil)) (eC (.int 27))) (eCall bLen (aCons (eVar 0) aNil)))) aNil)))))
  (sRet (eBin pJoin (eC (.str [])) (eSl (eVar 2) oNone (oSome (eBin pMod (eCall bInt (aCons (eVar 1) aNil)) (eC (.int 3))))))))
def m__law_word : List D → Rs D := runB0 g__law_word 3
theorem e__law_word (a0 a1 : D) : m__law_word [a0, a1] = noX (outB (g__law_word [some a0, some a1, none])) := rfl
def g__law_looks : En → Fl :=
  (sSeq (sSet 2 (eTup (aCons (eTup (aCons (eVar 1) (aCons (eC (.str [99, 108, 111, 99, 107])) (aCons (eBin pMod (eBin pDiv (eCall bInt (aCons (eVar 0) aNil)) (eC (.int 3))) (eC (.int 4))) aNil)))) (aCons (eTup (aCons (eBin pAdd (eVar 1) (eC (.int 1))) (aCons (eC (.str [112, 108, 97, 99, 101])) (aCons (eBin pMod (eBin pDiv (eCall bInt (aCons (eVar 0) aNil)) (eC (.int 12))) (eC (.int 2))) aNil)))) aNil))))
  (sRet (eSl (eVar 2) oNone (oSome (eBin pMod (eCall bInt (aCons (eVar 0) aNil)) (eC (.int 3)))))))
def m__law_looks : List D → Rs D := runB0 g__law_looks 3
theorem e__law_looks (a0 a1 : D) : m__law_looks [a0, a1] = noX (outB (g__law_looks [some a0, some a1, none])) := rfl
def b0__law_places : En → Fl :=
  (sSetL 3 (eCat (eVar 3) (eOfL (eComp (iSeqO (eBin pAdd (eVar 0) (eC (.str [36])))) (gN 5) cYes (eTup (aCons (eVar 5) (aCons (eVar 4) aNil))) [5]))))
def b1__law_places : En → Fl :=
  (sSeq (sSet 5 (eBin pIx (eBin pAdd (eBin pAdd (eC (.str [94])) (eVar 0)) (eC (.str [36]))) (eBin pMod (eCall bInt (aCons (eBin pIx (eVar 2) (eBin pAdd (eC (.int 56)) (eVar 6))) aNil)) (eBin pAdd (eCall bLen (aCons (eVar 0) aNil)) (eC (.int 2))))))
  (sSeq (sSet 4 (eBin pAdd (eC (.int 2)) (eBin pMod (eCall bInt (aCons (eBin pIx (eVar 2) (eBin pAdd (eC (.int 53)) (eVar 6))) aNil)) (eBin pSub (eVar 1) (eC (.int 2))))))
  (sSeq (sIf (eB (eBin pEq (eVar 5) (eC (.str [94]))))
  (sSet 4 (eC (.int 0)))
  sPass)
  (sApp 3 (eTup (aCons (eVar 5) (aCons (eVar 4) aNil)))))))
def g__law_places : En → Fl :=
  (sSeq (sSetL 3 (eLst (aCons (eTup (aCons (eC (.str [94])) (aCons (eC (.int 0)) aNil))) aNil)))
  (sSeq (sFor (eRg2 (aCons (eC (.int 2)) (aCons (eVar 1) aNil))) (gN 4) b0__law_places [4])
  (sSeq (sFor (eRg1 (aCons (eBin pMod (eCall bInt (aCons (eBin pIx (eVar 2) (eC (.int 59))) aNil)) (eC (.int 4))) aNil)) (gN 6) b1__law_places [4, 5, 6])
  (sFrz 3 (sRet (eVar 3))))))
def m__law_places : List D → Rs D := runB0 g__law_places 7
theorem e__law_places (a0 a1 a2 : D) : m__law_places [a0, a1, a2] = noX (outB (g__law_places [some a0, some a1, some a2, none, none, none, none])) := rfl
def g__law_shifted : En → Fl :=
  (sSeq (sIf (eB (eBin pLt (eVar 0) (eC (.int 2))))
  (sRet (eVar 0))
  sPass)
  (sRet (eBin pAdd (eVar 0) (eBin pMul (eC (.int 100)) (eVar 1)))))
def m__law_shifted : List D → Rs D := runB0 g__law_shifted 2
theorem e__law_shifted (a0 a1 : D) : m__law_shifted [a0, a1] = noX (outB (g__law_shifted [some a0, some a1])) := rfl
def b0__law_walked : En → Fl :=
  (sIf (eB (eBin pIn2 (eBin pIx (eVar 5) (eC (.int 3))) (eVar 2)))
  (sPut 2 pmVar (eBin pIx (eVar 5) (eC (.int 0))) (eDat (eC (.bl true))))
  sPass)
def b1__law_walked : En → Fl :=
  (sSeq (sSet 4 (eCall bLen2 (aCons (eVar 2) aNil)))
  (sSeq (sFor (iSeq (eVar 0)) (gN 5) b0__law_walked [5])
  (sIf (eB (eBin pEq (eCall bLen2 (aCons (eVar 2) aNil)) (eVar 4)))
  sBreak
  sPass)))
def b2__law_walked : En → Fl :=
  (sIf (eAnd (eB (eBin pEq (eVar 11) (eBin pIx (eVar 7) (eVar 9)))) (eAnd (eB (eBin pEq (eVar 12) (eVar 10))) (eB (eBin pIn2 (eVar 14) (eVar 2)))))
  (sSeq (sIf (eB (eBin pNotIn2 (eVar 14) (eVar 6)))
  (sSeq (sPut 6 pmVar (eVar 14) (eDat (eCall bLen2 (aCons (eVar 6) aNil))))
  (sApp 7 (eVar 14)))
  sPass)
  (sApp 8 (eTup (aCons (eBin pSub2 (eVar 6) (eVar 11)) (aCons (eVar 10) (aCons (eVar 13) (aCons (eBin pSub2 (eVar 6) (eVar 14)) (aCons (eVar 15) aNil))))))))
  sPass)
def b3__law_walked : En → Fl :=
  (sFor (iSeq (eVar 0)) (gT fun ds env => if ds.length = 5 then (gsCons (gN 11) (gsCons (gN 12) (gsCons (gN 13) (gsCons (gN 14) (gsCons (gN 15) gsNil))))) ds env else none) b2__law_walked [11, 12, 13, 14, 15])
def b4__law_walked : En → Fl :=
  (sSeq (sIf (eB (eBin pEq (eVar 9) (eCall bLen (aCons (eVar 7) aNil))))
  sBreak
  sPass)
  (sFor (iSeq (eBin pAdd (eBin pAdd (eC (.str [94])) (eVar 1)) (eC (.str [36])))) (gN 10) b3__law_walked [10, 11, 12, 13, 14, 15]))
def t5__law_walked : En → Fl :=
  (sRet (eTup (aCons (eVar 1) (aCons (eCall bLen2 (aCons (eVar 6) aNil)) (aCons (eCall bTuple (aCons (eVar 8) aNil)) aNil)))))
def t6__law_walked : En → Fl :=
  (sSeq (sFor (eRg1 (aCons (eC (.int 40)) aNil)) (gN 9) b4__law_walked [9, 10, 11, 12, 13, 14, 15])
  t5__law_walked)
def t7__law_walked : En → Fl :=
  (sSeq (sSetL 8 (eLst aNil))
  t6__law_walked)
def t8__law_walked : En → Fl :=
  (sSeq (sSetL 7 (eLst (aCons (eC (.int 0)) aNil)))
  t7__law_walked)
def t9__law_walked : En → Fl :=
  (sSeq (sSetN 6 (eDisp 0 (psCons (eC (.int 0)) (eC (.int 0)) (psCons (eC (.int 1)) (eC (.int 1)) psNil))))
  t8__law_walked)
def t10__law_walked : En → Fl :=
  (sSeq (sIf (eB (eBin pNotIn2 (eC (.int 0)) (eVar 2)))
  (sRet (eTup (aCons (eVar 1) (aCons (eC (.int 2)) (aCons (eTup aNil) aNil)))))
  sPass)
  t9__law_walked)
def t11__law_walked : En → Fl :=
  (sSeq (sFor (eRg1 (aCons (eBin pAdd (eCall bLen (aCons (eVar 0) aNil)) (eC (.int 1))) aNil)) (gN 3) b1__law_walked [3, 4, 5])
  t10__law_walked)
def g__law_walked : En → Fl :=
  (sSeq (sSetN 2 (eDisp 0 (psCons (eC (.int 1)) (eC (.bl true)) psNil)))
  t11__law_walked)
def m__law_walked : List D → Rs D := runB0 g__law_walked 16
theorem e__law_walked (a0 a1 : D) : m__law_walked [a0, a1] = noX (outB (g__law_walked [some a0, some a1, none, none, none, none, none, none, none, none, none, none, none, none, none, none])) := rfl
def b0_Machine___init__ : En → Fl :=
  (sSeq (sIf (eNot (eTru (eApp 3 m_edge_fits (aCons (eVar 1) (aCons (eVar 2) (aCons (eVar 5) aNil))))))
  sUn
  sPass)
  (sSdA 0 (pmFld [0] "_leading" pmVar) (eTup (aCons (eBin pIx (eVar 5) (eC (.int 0))) (aCons (eBin pIx (eVar 5) (eC (.int 1))) aNil))) (eVar 4)))
def g_Machine___init__ : En → Fl :=
  (sSeq (sSetF [0] 0 "signs" (eDat (eVar 1)))
  (sSeq (sSetF [0] 0 "many" (eDat (eVar 2)))
  (sSeq (sSetF [0] 0 "edges" (eDat (eCall bTuple (aCons (eVar 3) aNil))))
  (sSeq (sSetF [0] 0 "_leading" (eNewD true))
  (sSeq (sIf (eOr (eB (eBin pLt (eVar 2) (eC (.int 2)))) (eNot (eTru (eApp 1 m_well_ordered (aCons (eVar 1) aNil)))))
  sUn
  sPass)
  (sFor (eEnum (aCons (eFld [0] "edges" (eVar 0)) aNil)) (gT fun ds env => if ds.length = 2 then (gsCons (gN 4) (gsCons (gN 5) gsNil)) ds env else none) b0_Machine___init__ [4, 5]))))))
def m_Machine___init__ : List D → Rs D := runI0 0 g_Machine___init__ 6
theorem e_Machine___init__ (a1 a2 a3 : D) : m_Machine___init__ [a1, a2, a3] = noX (outI (g_Machine___init__ [some (.bor 0 (.oob 0 [] [])), some a1, some a2, some a3, none, none])) := rfl
def g__law_signs : En → Fl :=
  (sSeq (sSet 1 (eC (.int 3)))
  (sSeq (sIf (eB (eBin pEq (eBin pMod (eCall bInt (aCons (eVar 0) aNil)) (eC (.int 8))) (eC (.int 5))))
  (sSet 1 (eC (.int 9)))
  sPass)
  (sSeq (sSet 2 (eApp 3 m__law_numbers (aCons (eVar 0) (aCons (eC (.int 9)) (aCons (eVar 1) aNil)))))
  (sRet (eBin pJoin (eC (.str [])) (eOfL (eComp (eRg1 (aCons (eC (.int 9)) aNil)) (gN 3) (eB (eBin pIn (eVar 3) (eVar 2))) (eBin pIx (eC (.str [35, 97, 98, 99, 100, 101, 102, 103, 104])) (eVar 3)) [3])))))))
def m__law_signs : List D → Rs D := runB0 g__law_signs 4
theorem e__law_signs (a0 : D) : m__law_signs [a0] = noX (outB (g__law_signs [some a0, none, none, none])) := rfl
def b0__law_edges : En → Fl :=
  (sSet 5 (eBin pAdd (eVar 5) (eApp 3 m__law_numbers (aCons (eApp 2 m__law_cell (aCons (eVar 0) (aCons (eBin pAdd (eVar 1) (eVar 6)) aNil))) (aCons (eC (.int 360)) (aCons (eC (.int 15)) aNil))))))
def b1__law_edges : En → Fl :=
  (sSeq (sUnp (gT fun ds env => if ds.length = 2 then (gsCons (gN 9) (gsCons (gN 10) gsNil)) ds env else none) (eBin pIx (eVar 7) (eVar 6)))
  (sSeq (sSet 11 (eSl (eVar 5) (oSome (eBin pMul (eC (.int 3)) (eBin pMod (eVar 6) (eC (.int 17))))) (oSome (eBin pAdd (eBin pMul (eC (.int 3)) (eBin pMod (eVar 6) (eC (.int 17)))) (eC (.int 3))))))
  (sSeq (sSet 12 (eBin pAdd (eC (.int 2)) (eBin pMod (eCall bInt (aCons (eBin pIx (eVar 11) (eC (.int 0))) aNil)) (eBin pSub (eVar 3) (eC (.int 2))))))
  (sSeq (sSet 13 (eAndV (eBin pGt (eVar 6) (eC (.int 0))) (eBin pLt (eBin pIx (eVar 11) (eC (.int 0))) (eC (.int 36)))))
  (sSeq (sIf (eB (eBin pEq (eVar 9) (eC (.str [36]))))
  (sSeq (sSet 12 (eC (.int 1)))
  (sSet 13 (eAndV (eBin pGt (eVar 10) (eC (.int 2))) (eBin pLt (eBin pIx (eVar 11) (eC (.int 0))) (eC (.int 144))))))
  sPass)
  (sIf (eNot (eTru (eVar 13)))
  (sApp 8 (eTup (aCons (eVar 10) (aCons (eVar 9) (aCons (eApp 2 m__law_word (aCons (eVar 2) (aCons (eBin pAdd (eBin pIx (eVar 11) (eC (.int 1))) (eVar 6)) aNil))) (aCons (eVar 12) (aCons (eApp 2 m__law_looks (aCons (eBin pIx (eVar 11) (eC (.int 2))) (aCons (eVar 4) aNil))) aNil)))))))
  sPass))))))
def t2__law_edges : En → Fl :=
  (sRet (eBin pAdd (eSl (eVar 8) (oSome (eVar 14)) oNone) (eSl (eVar 8) oNone (oSome (eVar 14)))))
def t3__law_edges : En → Fl :=
  (sSeq (sSet 14 (eBin pMod (eCall bInt (aCons (eBin pIx (eVar 5) (eC (.int 52))) aNil)) (eCall bLen (aCons (eVar 8) aNil))))
  t2__law_edges)
def t4__law_edges : En → Fl :=
  (sSeq (sFor (eRg1 (aCons (eCall bLen (aCons (eVar 7) aNil)) aNil)) (gN 6) b1__law_edges [6, 9, 10, 11, 12, 13])
  t3__law_edges)
def t5__law_edges : En → Fl :=
  (sSeq (sSetL 8 (eLst aNil))
  t4__law_edges)
def t6__law_edges : En → Fl :=
  (sSeq (sSet 7 (eApp 3 m__law_places (aCons (eVar 2) (aCons (eVar 3) (aCons (eVar 5) aNil)))))
  t5__law_edges)
def t7__law_edges : En → Fl :=
  (sSeq (sFor (eRg1 (aCons (eC (.int 4)) aNil)) (gN 6) b0__law_edges [6])
  t6__law_edges)
def g__law_edges : En → Fl :=
  (sSeq (sSet 5 (eOfL (eLst aNil)))
  t7__law_edges)
def m__law_edges : List D → Rs D := runB0 g__law_edges 15
theorem e__law_edges (a0 a1 a2 a3 a4 : D) : m__law_edges [a0, a1, a2, a3, a4] = noX (outB (g__law_edges [some a0, some a1, some a2, some a3, some a4, none, none, none, none, none, none, none, none, none, none])) := rfl
def b0__law_side_by_side : En → Fl :=
  (sSeq (sIf (eB (eBin pEq (eVar 4) (eC (.int 0))))
  (sSet 8 (eBin pAdd (eBin pIx (eVar 1) (eVar 3)) (eVar 8)))
  sPass)
  (sApp 2 (eTup (aCons (eApp 2 m__law_shifted (aCons (eVar 4) (aCons (eVar 3) aNil))) (aCons (eVar 5) (aCons (eVar 6) (aCons (eApp 2 m__law_shifted (aCons (eVar 7) (aCons (eVar 3) aNil))) (aCons (eVar 8) aNil))))))))
def b1__law_side_by_side : En → Fl :=
  (sFor (iSeq (eBin pIx (eVar 0) (eVar 3))) (gT fun ds env => if ds.length = 5 then (gsCons (gN 4) (gsCons (gN 5) (gsCons (gN 6) (gsCons (gN 7) (gsCons (gN 8) gsNil))))) ds env else none) b0__law_side_by_side [4, 5, 6, 7, 8])
def g__law_side_by_side : En → Fl :=
  (sSeq (sSetL 2 (eLst aNil))
  (sSeq (sFor (eRg1 (aCons (eCall bLen (aCons (eVar 0) aNil)) aNil)) (gN 3) b1__law_side_by_side [3, 4, 5, 6, 7, 8])
  (sFrz 2 (sRet (eVar 2)))))
def m__law_side_by_side : List D → Rs D := runB0 g__law_side_by_side 9
theorem e__law_side_by_side (a0 a1 : D) : m__law_side_by_side [a0, a1] = noX (outB (g__law_side_by_side [some a0, some a1, none, none, none, none, none, none, none])) := rfl
def b0__law_rows : En → Fl :=
  (sSeq (sApp 3 (eBin pAdd (eC (.int 3)) (eBin pMod (eBin pIx (eVar 1) (eBin pAdd (eC (.int 1)) (eVar 5))) (eC (.int 4)))))
  (sApp 4 (eApp 5 m__law_edges (aCons (eVar 0) (aCons (eBin pAdd (eC (.int 1)) (eBin pMul (eC (.int 4)) (eVar 5))) (aCons (eVar 2) (aCons (eBin pIx (eVar 3) (eVar 5)) (aCons (eVar 5) aNil))))))))
def g__law_rows : En → Rs (D × D) :=
  (sqO (sSetL 3 (eLst aNil))
  (sqO (sSetL 4 (eLst aNil))
  (sqO (sFor (eRg1 (aCons (eBin pAdd (eC (.int 1)) (eBin pMod (eBin pIx (eVar 1) (eC (.int 0))) (eC (.int 3)))) aNil)) (gN 5) b0__law_rows [5])
  (sqO (sSet 6 (eBin pMod (eBin pIx (eVar 1) (eC (.int 4))) (eCall bLen (aCons (eVar 4) aNil))))
  (sqO (sIf (eB (eBin pEq (eBin pMod (eBin pIx (eVar 1) (eC (.int 5))) (eC (.int 3))) (eC (.int 1))))
  (sPut 4 pmVar (eVar 6) (eDat (eOfL (eComp (iSeqO (eBin pIx (eVar 4) (eVar 6))) (gN 7) (eB (eBin pNe (eBin pIx (eVar 7) (eC (.int 1))) (eC (.str [36])))) (eVar 7) [7]))))
  sPass)
  (sqO (sIf (eB (eBin pEq (eBin pMod (eBin pIx (eVar 1) (eC (.int 5))) (eC (.int 6))) (eC (.int 2))))
  (sSeq (sPut 4 pmVar (eVar 6) (eDat (eOfL (eLst aNil))))
  (sPut 3 pmVar (eVar 6) (eDat (eC (.int 2)))))
  sPass)
  (eOwn2 3 4)))))))
def m__law_rows : List D → Rs (D × D) := runO g__law_rows 8
theorem e__law_rows (a0 a1 a2 : D) : m__law_rows [a0, a1, a2] = g__law_rows [some a0, some a1, some a2, none, none, none, none, none] := rfl
def b0_trimmed : En → Fl :=
  (sSeq (sSet 9 (eBin pIx (eFld [0] "edges" (eVar 0)) (eVar 8)))
  (sSeq (sIf (eB (eBin pNotIn2 (eBin pIx (eVar 9) (eC (.int 3))) (eVar 1)))
  sCont
  sPass)
  (sSeq (sIf (eB (eBin pNotIn2 (eBin pIx (eVar 9) (eC (.int 3))) (eVar 2)))
  (sSeq (sPut 2 pmVar (eBin pIx (eVar 9) (eC (.int 3))) (eDat (eCall bLen2 (aCons (eVar 2) aNil))))
  (sApp 3 (eBin pIx (eVar 9) (eC (.int 3)))))
  sPass)
  (sApp 4 (eTup (aCons (eBin pSub2 (eVar 2) (eVar 6)) (aCons (eVar 7) (aCons (eBin pIx (eVar 9) (eC (.int 2))) (aCons (eBin pSub2 (eVar 2) (eBin pIx (eVar 9) (eC (.int 3)))) (aCons (eBin pIx (eVar 9) (eC (.int 4))) aNil))))))))))
def b1_trimmed : En → Fl :=
  (sFor (iSeq (eMeth 0 "leading" 2 m_Machine_leading (eVar 0) (aCons (eVar 6) (aCons (eVar 7) aNil)))) (gN 8) b0_trimmed [8, 9])
def b2_trimmed : En → Fl :=
  (sSeq (sSet 6 (eBin pIx (eVar 3) (eVar 5)))
  (sSeq (sFor (iSeq (eBin pAdd (eBin pAdd (eC (.str [94])) (eFld [0] "signs" (eVar 0))) (eC (.str [36])))) (gN 7) b1_trimmed [7, 8, 9])
  (sAug 5 pAddI (eC (.int 1)))))
def c3_trimmed : En → Rs Bool :=
  (eB (eBin pLt (eVar 5) (eCall bLen (aCons (eVar 3) aNil))))
def t4_trimmed : En → Fl :=
  (sFrz 4 (sRet (eApp 3 m_Machine___init__ (aCons (eFld [0] "signs" (eVar 0)) (aCons (eCall bLen2 (aCons (eVar 2) aNil)) (aCons (eVar 4) aNil))))))
def t5_trimmed : En → Fl :=
  (sSeq (sWhile 1000000000 c3_trimmed b2_trimmed [6, 7, 8, 9])
  t4_trimmed)
def t6_trimmed : En → Fl :=
  (sSeq (sSet 5 (eC (.int 0)))
  t5_trimmed)
def t7_trimmed : En → Fl :=
  (sSeq (sSetL 4 (eLst aNil))
  t6_trimmed)
def t8_trimmed : En → Fl :=
  (sSeq (sSetL 3 (eLst (aCons (eC (.int 0)) aNil)))
  t7_trimmed)
def t9_trimmed : En → Fl :=
  (sSeq (sSetN 2 (eDisp 0 (psCons (eC (.int 0)) (eC (.int 0)) (psCons (eC (.int 1)) (eC (.int 1)) psNil))))
  t8_trimmed)
def t10_trimmed : En → Fl :=
  (sSeq (sIf (eB (eBin pNotIn2 (eC (.int 0)) (eVar 1)))
  (sRet (eApp 3 m_Machine___init__ (aCons (eFld [0] "signs" (eVar 0)) (aCons (eC (.int 2)) (aCons (eTup aNil) aNil)))))
  sPass)
  t9_trimmed)
def g_trimmed : En → Fl :=
  (sSeq (sSet 1 (eApp 1 m_ending_states (aCons (eVar 0) aNil)))
  t10_trimmed)
def m_trimmed : List D → Rs D := runB0 g_trimmed 10
theorem e_trimmed (a0 : D) : m_trimmed [a0] = noX (outB (g_trimmed [some a0, none, none, none, none, none, none, none, none, none])) := rfl
def b0_united : En → Fl :=
  (sSeq (sSet 11 (eIf (eB (eBin pEq (eVar 6) (eC (.int 0)))) (eVar 5) (eTup aNil)))
  (sApp 2 (eTup (aCons (eApp 2 m_shifted_state (aCons (eVar 6) (aCons (eVar 3) aNil))) (aCons (eVar 7) (aCons (eVar 8) (aCons (eApp 2 m_shifted_state (aCons (eVar 9) (aCons (eVar 3) aNil))) (aCons (eBin pAdd (eVar 11) (eVar 10)) aNil))))))))
def b1_united : En → Fl :=
  (sSeq (sFor (iSeq (eFld [0] "edges" (eVar 4))) (gT fun ds env => if ds.length = 5 then (gsCons (gN 6) (gsCons (gN 7) (gsCons (gN 8) (gsCons (gN 9) (gsCons (gN 10) gsNil))))) ds env else none) b0_united [6, 7, 8, 9, 10, 11])
  (sSet 3 (eBin pSub (eBin pAdd (eVar 3) (eFld [0] "many" (eVar 4))) (eC (.int 2)))))
def g_united : En → Fl :=
  (sSeq (sSetL 2 (eLst aNil))
  (sSeq (sSet 3 (eC (.int 2)))
  (sSeq (sFor (eZip (aCons (eVar 0) (aCons (eVar 1) aNil))) (gT fun ds env => if ds.length = 2 then (gsCons (gN 4) (gsCons (gN 5) gsNil)) ds env else none) b1_united [4, 5, 6, 7, 8, 9, 10, 11])
  (sFrz 2 (sRet (eApp 1 m_trimmed (aCons (eApp 3 m_Machine___init__ (aCons (eFld [0] "signs" (eBin pIx (eVar 0) (eC (.int 0)))) (aCons (eVar 3) (aCons (eVar 2) aNil)))) aNil)))))))
def m_united : List D → Rs D := runB0 g_united 12
theorem e_united (a0 a1 : D) : m_united [a0, a1] = noX (outB (g_united [some a0, some a1, none, none, none, none, none, none, none, none, none, none])) := rfl
def g__law_right : En → Fl :=
  (sSeq (sSet 4 (eApp 2 m__law_walked (aCons (eApp 2 m__law_side_by_side (aCons (eVar 2) (aCons (eVar 1) aNil))) (aCons (eVar 3) aNil))))
  (sSeq (sSet 5 (eApp 2 m_united (aCons (eCall bTuple (aCons (eVar 0) aNil)) (aCons (eCall bTuple (aCons (eVar 1) aNil)) aNil))))
  (sRet (eAndV (eIsC 0 (eVar 5)) (eApp 2 (m__law_same 7) (aCons (eTup (aCons (eFld [0] "signs" (eVar 5)) (aCons (eFld [0] "many" (eVar 5)) (aCons (eFld [0] "edges" (eVar 5)) aNil)))) (aCons (eVar 4) aNil)))))))
def m__law_right : List D → Rs D := runB0 g__law_right 6
theorem e__law_right (a0 a1 a2 a3 : D) : m__law_right [a0, a1, a2, a3] = noX (outB (g__law_right [some a0, some a1, some a2, some a3, none, none])) := rfl
def b0_law : En → Fl :=
  (sSeq (sSet 8 (eTup (aCons (eFld [0] "signs" (eBin pIx (eVar 5) (eVar 6))) (aCons (eFld [0] "many" (eBin pIx (eVar 5) (eVar 6))) (aCons (eFld [0] "edges" (eBin pIx (eVar 5) (eVar 6))) aNil)))))
  (sIf (eNot (eTru (eApp 2 (m__law_same 7) (aCons (eVar 8) (aCons (eTup (aCons (eVar 2) (aCons (eBin pIx (eVar 3) (eVar 6)) (aCons (eCall bTuple (aCons (eBin pIx (eVar 4) (eVar 6)) aNil)) aNil)))) aNil)))))
  (sRet (eC (.bl false)))
  sPass))
def t1_law : En → Fl :=
  (sFrz 5 (sFrz 4 (sRet (eApp 4 m__law_right (aCons (eVar 5) (aCons (eVar 7) (aCons (eVar 4) (aCons (eVar 2) aNil))))))))
def t2_law : En → Fl :=
  (sSeq (sFor (eRg1 (aCons (eCall bLen (aCons (eVar 4) aNil)) aNil)) (gN 6) b0_law [6, 8])
  t1_law)
def t3_law : En → Fl :=
  (sSeq (sIf (eNot (eTru (eApp 4 m__law_right (aCons (eOfL (eLst (aCons (eBin pIx (eVar 5) (eNeg (eC (.int 1)))) aNil))) (aCons (eOfL (eLst (aCons (eTup aNil) aNil))) (aCons (eOfL (eLst (aCons (eBin pIx (eVar 4) (eNeg (eC (.int 1)))) aNil))) (aCons (eVar 2) aNil)))))))
  (sRet (eC (.bl false)))
  sPass)
  t2_law)
def t4_law : En → Fl :=
  (sSeq (sIf (eNot (eTru (eApp 4 m__law_right (aCons (eOfL (eRevL (eVar 5))) (aCons (eOfL (eRevL (eVar 7))) (aCons (eOfL (eRevL (eVar 4))) (aCons (eVar 2) aNil)))))))
  (sRet (eC (.bl false)))
  sPass)
  t3_law)
def t5_law : En → Fl :=
  (sSeq (sFrz 5 (sFrz 4 (sIf (eNot (eTru (eApp 4 m__law_right (aCons (eVar 5) (aCons (eVar 7) (aCons (eVar 4) (aCons (eVar 2) aNil)))))))
  (sRet (eC (.bl false)))
  sPass)))
  t4_law)
def t6_law : En → Fl :=
  (sSeq (sSet 7 (eOfL (eComp (eRg1 (aCons (eCall bLen (aCons (eVar 4) aNil)) aNil)) (gN 6) cYes (eApp 2 m__law_looks (aCons (eBin pIx (eVar 1) (eBin pAdd (eC (.int 7)) (eVar 6))) (aCons (eC (.int 0)) aNil))) [6])))
  t5_law)
def t7_law : En → Fl :=
  (sSeq (sIf (eB (eBin pEq (eBin pMod (eBin pIx (eVar 1) (eC (.int 6))) (eC (.int 3))) (eC (.int 0))))
  (sSeq (sApp 5 (eBin pIx (eVar 5) (eC (.int 0))))
  (sSeq (sApp 4 (eBin pIx (eVar 4) (eC (.int 0))))
  (sApp 3 (eBin pIx (eVar 3) (eC (.int 0))))))
  sPass)
  t6_law)
def t8_law : En → Fl :=
  (sSeq (sSetL 5 (eComp (eRg1 (aCons (eCall bLen (aCons (eVar 4) aNil)) aNil)) (gN 6) cYes (eApp 3 m_Machine___init__ (aCons (eVar 2) (aCons (eBin pIx (eVar 3) (eVar 6)) (aCons (eCall bTuple (aCons (eBin pIx (eVar 4) (eVar 6)) aNil)) aNil)))) [6]))
  t7_law)
def t9_law : En → Fl :=
  (sSeq (sUnp2 3 4 (eAppG 3 m__law_rows (aCons (eVar 0) (aCons (eVar 1) (aCons (eVar 2) aNil)))))
  t8_law)
def t10_law : En → Fl :=
  (sSeq (sSet 2 (eApp 1 m__law_signs (aCons (eApp 2 m__law_cell (aCons (eVar 0) (aCons (eC (.int 13)) aNil))) aNil)))
  t9_law)
def g_law : En → Fl :=
  (sSeq (sSet 1 (eApp 3 m__law_numbers (aCons (eApp 2 m__law_cell (aCons (eVar 0) (aCons (eC (.int 0)) aNil))) (aCons (eC (.int 60)) (aCons (eC (.int 12)) aNil)))))
  t10_law)
def m_law : List D → Rs D := runB0 g_law 9
theorem e_law (a0 : D) : m_law [a0] = noX (outB (g_law [some a0, none, none, none, none, none, none, none, none])) := rfl
end Law

set_option Elab.async false
set_option linter.all false
set_option maxRecDepth 100000
namespace Law
open Z PySem L2
def plainD : Nat → D → Bool
  | _, .int _ => true
  | _, .str _ => true
  | n + 1, .tup ds => ds.all (plainD n) && decide (ds.length ≤ 16000000)
  | _, _ => false
/-! ### the mathematics: edges, numbering by walking -/
structure Edge where
  st : Nat
  sg : Nat
  wd : List Nat
  tg : Nat
  lk : List D
def NK (fd : List Nat) : List Nat := 0 :: 1 :: fd.tail
def ixF (fd : List Nat) (x : Nat) : Nat := (NK fd).idxOf x
def re (f : Nat → Nat) (e : Edge) : Edge := ⟨f e.st, e.sg, e.wd, f e.tg, e.lk⟩
def addF (fd : List Nat) (x : Nat) : List Nat := if x ∈ NK fd then fd else fd ++ [x]
abbrev WS := List Nat × List Edge
def proc (S : WS) (e : Edge) : WS := (addF S.1 e.tg, S.2 ++ [re (ixF (addF S.1 e.tg)) e])
def cand (al : Nat → Bool) (E : List Edge) (s c : Nat) : List Edge := E.filter fun e => decide (e.st = s) && (decide (e.sg = c) && al e.tg)
def visit (al : Nat → Bool) (E : List Edge) (cs : List Nat) (S : WS) (s : Nat) : WS := cs.foldl (fun S c => (cand al E s c).foldl proc S) S
def loopW (al : Nat → Bool) (E : List Edge) (cs : List Nat) : Nat → Nat → WS → WS
  | 0, _, S => S
  | n + 1, a, S => match S.1[a]? with
    | none => S
    | some s => loopW al E cs n (a + 1) (visit al E cs S s)
/-! relabelling -/
structure Rel (f : Nat → Nat) (P : Nat → Prop) : Prop where
  inj : ∀ x y, P x → P y → f x = f y → x = y
  f0 : f 0 = 0
  f1 : f 1 = 1
  P0 : P 0
  P1 : P 1
section
variable {f : Nat → Nat} {P : Nat → Prop} (h : Rel f P)
include h
theorem nk_map (fd : List Nat) : NK (fd.map f) = (NK fd).map f := by
  unfold NK
  simp [h.f0, h.f1, List.map_tail]
theorem nk_P {fd : List Nat} (hf : ∀ x ∈ fd, P x) : ∀ x ∈ NK fd, P x := by
  intro x hx
  rcases List.mem_cons.mp hx with hx | hx
  · rw [hx]; exact h.P0
  · rcases List.mem_cons.mp hx with hx | hx
    · rw [hx]; exact h.P1
    · exact hf x (List.mem_of_mem_tail hx)
theorem mem_map_inj {l : List Nat} (hl : ∀ x ∈ l, P x) {x : Nat} (hx : P x) : f x ∈ l.map f ↔ x ∈ l := by
  constructor
  · intro hm
    obtain ⟨y, hy, e⟩ := List.mem_map.mp hm
    rw [← h.inj y x (hl y hy) hx e]; exact hy
  · exact List.mem_map_of_mem
theorem idx_map : ∀ {l : List Nat}, (∀ x ∈ l, P x) → ∀ {x : Nat}, P x → (l.map f).idxOf (f x) = l.idxOf x
  | [], _, _, _ => rfl
  | y :: l, hl, x, hx => by
    rw [List.map_cons, List.idxOf_cons, List.idxOf_cons]
    by_cases e : y = x
    · subst e; simp
    · have : f y ≠ f x := fun z => e (h.inj y x (hl y (by simp)) hx z)
      rw [beq_eq_false_iff_ne.mpr this, beq_eq_false_iff_ne.mpr e, cond_false, cond_false, idx_map (fun z hz => hl z (by simp [hz])) hx]
theorem ix_map {fd : List Nat} (hf : ∀ x ∈ fd, P x) {x : Nat} (hx : P x) : ixF (fd.map f) (f x) = ixF fd x := by
  unfold ixF
  rw [nk_map h]
  exact idx_map h (nk_P h hf) hx
theorem add_map {fd : List Nat} (hf : ∀ x ∈ fd, P x) {x : Nat} (hx : P x) : addF (fd.map f) (f x) = (addF fd x).map f := by
  unfold addF
  rw [nk_map h]
  by_cases e : x ∈ NK fd
  · rw [if_pos e, if_pos ((mem_map_inj h (nk_P h hf) hx).mpr e)]
  · rw [if_neg e, if_neg fun z => e ((mem_map_inj h (nk_P h hf) hx).mp z)]
    simp
theorem add_P {fd : List Nat} (hf : ∀ x ∈ fd, P x) {x : Nat} (hx : P x) : ∀ y ∈ addF fd x, P y := by
  unfold addF
  split
  · exact hf
  · intro y hy
    rcases List.mem_append.mp hy with hy | hy
    · exact hf y hy
    · rw [List.mem_singleton.mp hy]; exact hx
def mpS (f : Nat → Nat) (S : WS) : WS := (S.1.map f, S.2)
theorem proc_map {S : WS} (hf : ∀ x ∈ S.1, P x) {e : Edge} (h1 : P e.st) (h2 : P e.tg) : proc (mpS f S) (re f e) = mpS f (proc S e) ∧ ∀ x ∈ (proc S e).1, P x := by
  refine ⟨?_, add_P h hf h2⟩
  unfold proc mpS re
  simp only
  rw [add_map h hf h2, ix_map h (add_P h hf h2) h1, ix_map h (add_P h hf h2) h2]
theorem procs_map : ∀ (es : List Edge) {S : WS}, (∀ x ∈ S.1, P x) → (∀ e ∈ es, P e.st ∧ P e.tg) → (es.map (re f)).foldl proc (mpS f S) = mpS f (es.foldl proc S) ∧ ∀ x ∈ (es.foldl proc S).1, P x
  | [], S, hf, _ => ⟨rfl, hf⟩
  | e :: es, S, hf, he => by
    obtain ⟨h1, h2⟩ := proc_map h hf (he e (by simp)).1 (he e (by simp)).2
    rw [List.map_cons, List.foldl_cons, List.foldl_cons, h1]
    exact procs_map es h2 fun e' h' => he e' (by simp [h'])
theorem cand_map {al al' : Nat → Bool} (ha : ∀ x, P x → al' (f x) = al x) {s : Nat} (hs : P s) (c : Nat) : ∀ (E : List Edge), (∀ e ∈ E, P e.st ∧ P e.tg) → cand al' (E.map (re f)) (f s) c = (cand al E s c).map (re f)
  | [], _ => rfl
  | e :: E, he => by
    have h1 := he e (by simp)
    have ih := cand_map ha hs c E fun e' h' => he e' (by simp [h'])
    unfold cand at ih ⊢
    rw [List.map_cons, List.filter_cons, List.filter_cons]
    have e1 : decide ((re f e).st = f s) = decide (e.st = s) := decide_eq_decide.mpr ⟨h.inj _ _ h1.1 hs, fun z => by show f e.st = f s; rw [z]⟩
    have e2 : al' (re f e).tg = al e.tg := ha _ h1.2
    have e3 : (re f e).sg = e.sg := rfl
    rw [e1, e2, e3, ih]
    split <;> rfl
omit h in
theorem cand_sub {al : Nat → Bool} {E : List Edge} {s c : Nat} : ∀ e ∈ cand al E s c, e ∈ E ∧ e.st = s ∧ e.sg = c ∧ al e.tg = true := by
  intro e he
  have := List.mem_filter.mp he
  simp at this
  exact ⟨this.1, this.2.1, this.2.2.1, this.2.2.2⟩
theorem visit_map {al al' : Nat → Bool} (ha : ∀ x, P x → al' (f x) = al x) {E : List Edge} (hE : ∀ e ∈ E, P e.st ∧ P e.tg) {s : Nat} (hs : P s) : ∀ (cs : List Nat) {S : WS}, (∀ x ∈ S.1, P x) →
    visit al' (E.map (re f)) cs (mpS f S) (f s) = mpS f (visit al E cs S s) ∧ ∀ x ∈ (visit al E cs S s).1, P x
  | [], S, hf => ⟨rfl, hf⟩
  | c :: cs, S, hf => by
    obtain ⟨h1, h2⟩ := procs_map h (cand al E s c) hf fun e he => hE e (cand_sub e he).1
    have ih := visit_map ha hE hs cs h2
    unfold visit at ih ⊢
    rw [List.foldl_cons, List.foldl_cons, cand_map h ha hs c E hE, h1]
    exact ih
theorem loop_map {al al' : Nat → Bool} (ha : ∀ x, P x → al' (f x) = al x) {E : List Edge} (hE : ∀ e ∈ E, P e.st ∧ P e.tg) (cs : List Nat) : ∀ (n a : Nat) {S : WS}, (∀ x ∈ S.1, P x) → loopW al' (E.map (re f)) cs n a (mpS f S) = mpS f (loopW al E cs n a S)
  | 0, _, _, _ => rfl
  | n + 1, a, S, hf => by
    unfold loopW
    have e1 : (mpS f S).1[a]? = (S.1[a]?).map f := List.getElem?_map ..
    rw [e1]
    cases e2 : S.1[a]? with
    | none => rfl
    | some s =>
      have hs := hf s (List.mem_of_getElem? e2)
      obtain ⟨h1, h2⟩ := visit_map h ha hE hs cs hf
      show loopW al' (E.map (re f)) cs n (a + 1) (visit al' (E.map (re f)) cs (mpS f S) (f s)) = _
      rw [h1]
      exact loop_map ha hE cs n (a + 1) h2
end
/-! ### valid edges -/
structure Valid (signs : List Nat) (m : Nat) (e : Edge) : Prop where
  s1 : e.st < m
  t1 : e.tg < m
  s2 : e.st ≠ 1
  t2 : e.tg ≠ 0
  b : e.sg = 94 ↔ e.st = 0
  z : e.sg = 36 ↔ e.tg = 1
  g : e.sg ≠ 94 → e.sg ≠ 36 → e.sg ∈ signs
  w : ∀ c ∈ e.wd, c ∈ signs
  p : ∀ d ∈ e.lk, plainD 2 d = true
  q : e.lk.length ≤ 100
/-- found states: the start first, none twice, not the end -/
def Fnd (fd : List Nat) : Prop := ∃ t, fd = 0 :: t ∧ (0 :: 1 :: t).Nodup
theorem nk_len {fd : List Nat} (h : Fnd fd) : (NK fd).length = fd.length + 1 := by
  obtain ⟨t, rfl, _⟩ := h
  simp [NK]
theorem nk_nodup {fd : List Nat} (h : Fnd fd) : (NK fd).Nodup := by
  obtain ⟨t, rfl, h⟩ := h
  exact h
theorem add_fnd {fd : List Nat} (h : Fnd fd) (x : Nat) : Fnd (addF fd x) := by
  unfold addF
  split
  · exact h
  · rename_i hx
    obtain ⟨t, rfl, hn⟩ := h
    refine ⟨t ++ [x], rfl, ?_⟩
    exact nodup_snoc (xs := 0 :: 1 :: t) hn hx
theorem add_mem {fd : List Nat} (h : Fnd fd) (x : Nat) : x ∈ NK (addF fd x) := by
  unfold addF
  split
  · rename_i hx; exact hx
  · obtain ⟨t, rfl, hn⟩ := h
    simp [NK]
theorem add_keep {fd : List Nat} (h : Fnd fd) (x : Nat) : (∀ y ∈ NK fd, y ∈ NK (addF fd x) ∧ ixF (addF fd x) y = ixF fd y) ∧ fd.length ≤ (addF fd x).length := by
  unfold addF
  split
  · exact ⟨fun y hy => ⟨hy, rfl⟩, Nat.le_refl _⟩
  · obtain ⟨t, rfl, hn⟩ := h
    refine ⟨fun y hy => ?_, by simp⟩
    have e : NK (0 :: t ++ [x]) = NK (0 :: t) ++ [x] := by simp [NK]
    refine ⟨by rw [e]; simp [hy], ?_⟩
    unfold ixF
    rw [e, List.idxOf_append, if_pos hy]
theorem ix_lt {fd : List Nat} (h : Fnd fd) {x : Nat} (hx : x ∈ NK fd) : ixF fd x < fd.length + 1 := by
  rw [← nk_len h]
  exact List.idxOf_lt_length_of_mem hx
theorem ix_0 {fd : List Nat} {x : Nat} : ixF fd x = 0 ↔ x = 0 := by
  unfold ixF NK
  rw [List.idxOf_cons]
  by_cases e : x = 0
  · subst e; simp
  · have : ¬ (0 = x) := fun z => e z.symm
    rw [beq_eq_false_iff_ne.mpr this, cond_false]
    exact ⟨fun z => by omega, fun z => absurd z e⟩
theorem ix_1 {fd : List Nat} {x : Nat} : ixF fd x = 1 ↔ x = 1 := by
  unfold ixF NK
  rw [List.idxOf_cons, List.idxOf_cons]
  by_cases e : x = 0
  · subst e; simp
  · by_cases e1 : x = 1
    · subst e1; simp
    · have h0 : ¬ (0 = x) := fun z => e z.symm
      have h1 : ¬ (1 = x) := fun z => e1 z.symm
      rw [beq_eq_false_iff_ne.mpr h0, beq_eq_false_iff_ne.mpr h1, cond_false, cond_false]
      exact ⟨fun z => by omega, fun z => absurd z e1⟩
theorem valid_proc {signs : List Nat} {m : Nat} {fd : List Nat} (h : Fnd fd) {e : Edge} (v : Valid signs m e) (hs : e.st ∈ NK fd) : Valid signs ((addF fd e.tg).length + 1) (re (ixF (addF fd e.tg)) e) where
  s1 := ix_lt (add_fnd h _) (((add_keep h e.tg).1 _ hs).1)
  t1 := ix_lt (add_fnd h _) (add_mem h _)
  s2 := fun z => v.s2 (ix_1.mp z)
  t2 := fun z => v.t2 (ix_0.mp z)
  b := v.b.trans ix_0.symm
  z := v.z.trans ix_1.symm
  g := v.g
  w := v.w
  p := v.p
  q := v.q
theorem Valid.mono {signs : List Nat} {m n : Nat} {e : Edge} (v : Valid signs m e) (h : m ≤ n) : Valid signs n e :=
  ⟨Nat.lt_of_lt_of_le v.s1 h, Nat.lt_of_lt_of_le v.t1 h, v.s2, v.t2, v.b, v.z, v.g, v.w, v.p, v.q⟩
/-- what holds along the walk; T: all the states -/
structure WInv (signs T : List Nat) (S : WS) : Prop where
  fnd : Fnd S.1
  sub : ∀ x ∈ S.1, x ∈ T
  rows : ∀ r ∈ S.2, Valid signs (S.1.length + 1) r
theorem WInv.proc {signs T : List Nat} {m : Nat} {S : WS} (h : WInv signs T S) {e : Edge} (v : Valid signs m e) (ht : e.tg = 1 ∨ e.tg ∈ T) (hs : e.st ∈ NK S.1) : WInv signs T (proc S e) := by
  refine ⟨add_fnd h.fnd _, fun x hx => ?_, fun r hr => ?_⟩
  · have hx : x ∈ addF S.1 e.tg := hx
    unfold addF at hx
    split at hx
    · exact h.sub x hx
    · rename_i hn
      rcases List.mem_append.mp hx with hx | hx
      · exact h.sub x hx
      · rw [List.mem_singleton.mp hx]
        rcases ht with ht | ht
        · rw [ht] at hn; exact absurd (by simp [NK]) hn
        · exact ht
  · have hr : r ∈ S.2 ++ [re (ixF (addF S.1 e.tg)) e] := hr
    rcases List.mem_append.mp hr with hr | hr
    · exact (h.rows r hr).mono (Nat.succ_le_succ (add_keep h.fnd e.tg).2)
    · rw [List.mem_singleton.mp hr]
      exact valid_proc h.fnd v hs
theorem nodup_len {α : Type} [DecidableEq α] : ∀ {l m : List α}, l.Nodup → (∀ x ∈ l, x ∈ m) → l.length ≤ m.length
  | [], _, _, _ => Nat.zero_le _
  | x :: l, m, hn, hs => by
    obtain ⟨h1, h2⟩ := List.nodup_cons.mp hn
    have hx := hs x List.mem_cons_self
    have := nodup_len (l := l) (m := m.erase x) h2 fun y hy => (List.mem_erase_of_ne fun e => h1 (by rw [← e]; exact hy)).mpr (hs y (List.mem_cons_of_mem _ hy))
    rw [List.length_erase_of_mem hx] at this
    have := List.length_pos_of_mem hx
    rw [List.length_cons]; omega
theorem fnd_nodup {fd : List Nat} (h : Fnd fd) : fd.Nodup := by
  obtain ⟨t, rfl, hn⟩ := h
  obtain ⟨h1, h2⟩ := List.nodup_cons.mp hn
  exact List.nodup_cons.mpr ⟨fun z => h1 (by simp [z]), (List.nodup_cons.mp h2).2⟩
theorem WInv.len {signs T : List Nat} {S : WS} (h : WInv signs T S) : S.1.length ≤ T.length := nodup_len (fnd_nodup h.fnd) h.sub
theorem mem_nk {fd : List Nat} (h : Fnd fd) {x : Nat} (hx : x ∈ fd) : x ∈ NK fd := by
  obtain ⟨t, rfl, hn⟩ := h
  rcases List.mem_cons.mp hx with hx | hx
  · rw [hx]; simp [NK]
  · simp [NK, hx]
theorem WInv.procs {signs T : List Nat} {m : Nat} : ∀ (es : List Edge) {S : WS}, WInv signs T S → (∀ e ∈ es, Valid signs m e ∧ (e.tg = 1 ∨ e.tg ∈ T) ∧ e.st ∈ NK S.1) →
    WInv signs T (es.foldl Law.proc S) ∧ (∀ y ∈ NK S.1, y ∈ NK (es.foldl Law.proc S).1) ∧ (es.foldl Law.proc S).2.length = S.2.length + es.length ∧ (∃ t, (es.foldl Law.proc S).1 = S.1 ++ t)
  | [], S, h, _ => ⟨h, fun _ z => z, rfl, [], by simp⟩
  | e :: es, S, h, he => by
    obtain ⟨v, ht, hs⟩ := he e (by simp)
    have h1 := h.proc v ht hs
    have k := add_keep h.fnd e.tg
    obtain ⟨a, b, c, t, d⟩ := WInv.procs es h1 fun e' h' => ⟨(he e' (by simp [h'])).1, (he e' (by simp [h'])).2.1, (k.1 _ (he e' (by simp [h'])).2.2).1⟩
    refine ⟨a, fun y hy => b y (k.1 y hy).1, ?_, ?_⟩
    · rw [List.foldl_cons, c]
      show (S.2 ++ [_]).length + _ = _
      simp; omega
    · rw [List.foldl_cons, d]
      show ∃ t', addF S.1 e.tg ++ t = S.1 ++ t'
      unfold addF
      split
      · exact ⟨t, rfl⟩
      · exact ⟨e.tg :: t, by simp⟩
theorem WInv.visit {signs T : List Nat} {m : Nat} {al : Nat → Bool} {E : List Edge} (hE : ∀ e ∈ E, Valid signs m e ∧ (e.tg = 1 ∨ e.tg ∈ T)) {s : Nat} : ∀ (cs : List Nat) {S : WS}, WInv signs T S → s ∈ NK S.1 →
    WInv signs T (Law.visit al E cs S s) ∧ (Law.visit al E cs S s).2.length ≤ S.2.length + cs.length * E.length ∧ (∃ t, (Law.visit al E cs S s).1 = S.1 ++ t)
  | [], S, h, _ => ⟨h, by simp [Law.visit], [], by simp [Law.visit]⟩
  | c :: cs, S, h, hs => by
    obtain ⟨a, b, k, t, d⟩ := WInv.procs (cand al E s c) h fun e he => ⟨(hE e (cand_sub e he).1).1, (hE e (cand_sub e he).1).2, by rw [(cand_sub e he).2.1]; exact hs⟩
    obtain ⟨a2, k2, t2, d2⟩ := WInv.visit hE cs a (b s hs)
    have hl : (cand al E s c).length ≤ E.length := List.length_filter_le _ _
    unfold Law.visit at a2 k2 d2 ⊢
    rw [List.foldl_cons]
    refine ⟨a2, ?_, t ++ t2, ?_⟩
    · rw [List.length_cons, Nat.add_mul]; omega
    · rw [d2, d, List.append_assoc]
theorem WInv.start (signs T : List Nat) (h0 : 0 ∈ T) : WInv signs T ([0], []) := ⟨⟨[], rfl, by decide⟩, fun x hx => by rw [List.mem_singleton.mp hx]; exact h0, fun r hr => nomatch hr⟩
theorem WInv.loop {signs T : List Nat} {m : Nat} {al : Nat → Bool} {E : List Edge} (hE : ∀ e ∈ E, Valid signs m e ∧ (e.tg = 1 ∨ e.tg ∈ T)) (cs : List Nat) : ∀ (n a : Nat) {S : WS}, WInv signs T S → WInv signs T (loopW al E cs n a S)
  | 0, _, _, h => h
  | n + 1, a, S, h => by
    unfold loopW
    cases e2 : S.1[a]? with
    | none => exact h
    | some s => exact WInv.loop hE cs n (a + 1) (WInv.visit hE cs h (mem_nk h.fnd (List.mem_of_getElem? e2))).1
/-! ### what the end is reached from -/
inductive Alive (E : List Edge) : Nat → Prop
  | one : Alive E 1
  | step {e : Edge} : e ∈ E → Alive E e.tg → Alive E e.st
/-- a set that holds the end, only what is alive, and all sources of what it holds -/
theorem alive_iff {E : List Edge} {A : List Nat} (h1 : 1 ∈ A) (h2 : ∀ a ∈ A, Alive E a) (h3 : ∀ e ∈ E, e.tg ∈ A → e.st ∈ A) (x : Nat) : x ∈ A ↔ Alive E x := by
  refine ⟨h2 x, fun h => ?_⟩
  induction h with
  | one => exact h1
  | step he _ ih => exact h3 _ he ih
theorem alive_map {f : Nat → Nat} {P : Nat → Prop} (h : Rel f P) {E : List Edge} (hE : ∀ e ∈ E, P e.st ∧ P e.tg) {x : Nat} (hx : P x) : Alive (E.map (re f)) (f x) ↔ Alive E x := by
  constructor
  · intro ha
    generalize hy : f x = y at ha
    induction ha generalizing x with
    | one => rw [h.inj x 1 hx h.P1 (hy.trans h.f1.symm)]; exact .one
    | step he _ ih =>
      obtain ⟨e, he', rfl⟩ := List.mem_map.mp he
      have hx' : x = e.st := h.inj x e.st hx (hE e he').1 hy
      rw [hx']
      exact .step he' (ih (hE e he').2 rfl)
  · intro ha
    induction ha with
    | one => rw [h.f1]; exact .one
    | step he _ ih => exact .step (e := re f _) (List.mem_map_of_mem he) (ih (hE _ he).2)
end Law

set_option Elab.async false
set_option linter.all false
set_option maxRecDepth 100000
namespace Law
open Z PySem L2
/-! ### a dict of lists -/
section
variable {κ : Type} [DecidableEq κ]
def insG : List (κ × List Nat) → κ → Nat → List (κ × List Nat)
  | [], k, v => [(k, [v])]
  | (a, l) :: r, k, v => if a = k then (a, l ++ [v]) :: r else (a, l) :: insG r k v
def getG : List (κ × List Nat) → κ → Option (List Nat)
  | [], _ => none
  | (a, l) :: r, k => if a = k then some l else getG r k
theorem get_ins : ∀ (G : List (κ × List Nat)) (k : κ) (v : Nat) (k' : κ), getG (insG G k v) k' = if k = k' then some ((getG G k').getD [] ++ [v]) else getG G k'
  | [], k, v, k' => by
    unfold insG getG
    by_cases e : k = k'
    · simp [e]
    · simp [e, getG]
  | (a, l) :: r, k, v, k' => by
    unfold insG
    by_cases e : a = k
    · subst e
      rw [if_pos rfl]
      unfold getG
      by_cases e2 : a = k' <;> simp [e2]
    · rw [if_neg e]
      unfold getG
      rw [get_ins r k v k']
      by_cases e2 : a = k'
      · subst e2
        have : ¬ (k = a) := fun z => e z.symm
        simp [this]
      · simp [e2]
def insAll (G : List (κ × List Nat)) (xs : List (κ × Nat)) : List (κ × List Nat) := xs.foldl (fun G p => insG G p.1 p.2) G
theorem get_all (k : κ) : ∀ (xs : List (κ × Nat)) (G : List (κ × List Nat)), (getG (insAll G xs) k).getD [] = (getG G k).getD [] ++ (xs.filter fun p => decide (p.1 = k)).map (·.2)
  | [], G => by simp [insAll]
  | p :: xs, G => by
    have ih := get_all k xs (insG G p.1 p.2)
    unfold insAll at ih ⊢
    rw [List.foldl_cons, ih, get_ins]
    by_cases e : p.1 = k
    · simp [e]
    · simp [e]
theorem ins_len : ∀ (G : List (κ × List Nat)) (k : κ) (v : Nat), (insG G k v).length ≤ G.length + 1
  | [], _, _ => Nat.le_refl _
  | (a, l) :: r, k, v => by
    unfold insG
    split
    · simp
    · simpa using ins_len r k v
theorem ins_sz {n : Nat} : ∀ (G : List (κ × List Nat)) (k : κ) (v : Nat), (∀ p ∈ G, p.2.length ≤ n) → ∀ p ∈ insG G k v, p.2.length ≤ n + 1
  | [], _, _, _ => by
    intro p hp
    rw [List.mem_singleton.mp hp]
    simp
  | (a, l) :: r, k, v, h => by
    unfold insG
    intro p hp
    split at hp
    · rcases List.mem_cons.mp hp with e | hp
      · rw [e]
        have := h (a, l) (by simp)
        simp at this ⊢
        exact this
      · exact Nat.le_succ_of_le (h p (by simp [hp]))
    · rcases List.mem_cons.mp hp with e | hp
      · rw [e]; exact Nat.le_succ_of_le (h _ (by simp))
      · exact ins_sz r k v (fun q hq => h q (by simp [hq])) p hp
theorem all_sz : ∀ (xs : List (κ × Nat)) (G : List (κ × List Nat)) (n : Nat), G.length ≤ n → (∀ p ∈ G, p.2.length ≤ n) → (insAll G xs).length ≤ n + xs.length ∧ ∀ p ∈ insAll G xs, p.2.length ≤ n + xs.length
  | [], G, n, h1, h2 => ⟨h1, h2⟩
  | x :: xs, G, n, h1, h2 => by
    have ih := all_sz xs (insG G x.1 x.2) (n + 1) (Nat.le_trans (ins_len G x.1 x.2) (Nat.succ_le_succ h1)) (ins_sz G x.1 x.2 h2)
    rw [List.length_cons]
    have e : n + (xs.length + 1) = n + 1 + xs.length := by omega
    rw [e]
    exact ih
variable (kd : κ → D)
def KSg (G : List (κ × List Nat)) : List D := G.map fun p => kd p.1
omit [DecidableEq κ] in
def VSo (G : List (κ × List Nat)) : List D := G.map fun p => .olst (p.2.map fun (k : Nat) => D.int k)
def VSl (G : List (κ × List Nat)) : List D := G.map fun p => .lst (p.2.map fun (k : Nat) => D.int k)
theorem frz_ints : ∀ l : List Nat, frzL (l.map fun (k : Nat) => D.int k) = l.map fun (k : Nat) => D.int k
  | [] => rfl
  | a :: l => by
    show frzD (.int a) :: frzL (l.map fun (k : Nat) => D.int k) = _
    rw [frz_ints l]; rfl
omit [DecidableEq κ] in
theorem frz_vs : ∀ G : List (κ × List Nat), frzL (VSo G) = VSl G
  | [] => rfl
  | p :: G => by
    show frzD (.olst _) :: frzL (VSo G) = _
    rw [frz_vs G]
    show D.lst (frzL _) :: _ = _
    rw [frz_ints]; rfl
variable (hkd : ∀ a b, eqv (kd a) (kd b) = decide (a = b))
include hkd
theorem posK_g (k : κ) (G : List (κ × List Nat)) : posK (KSg kd G) (kd k) = G.findIdx? fun p => decide (p.1 = k) := by
  unfold posK KSg
  rw [List.findIdx?_map]
  congr 1
  funext p
  exact hkd p.1 k
omit hkd in
theorem ins_none : ∀ {G : List (κ × List Nat)} {k : κ} {v : Nat}, (G.findIdx? fun p => decide (p.1 = k)) = none → insG G k v = G ++ [(k, [v])]
  | [], _, _, _ => rfl
  | (a, l) :: r, k, v, h => by
    rw [List.findIdx?_cons] at h
    by_cases e : a = k
    · simp [e] at h
    · simp [e] at h
      unfold insG
      rw [if_neg e, ins_none (G := r) (by simpa using h)]
      rfl
omit hkd in
theorem ins_some : ∀ {G : List (κ × List Nat)} {k : κ} {v j : Nat}, (G.findIdx? fun p => decide (p.1 = k)) = some j → ∃ l, G[j]? = some (k, l) ∧ insG G k v = G.set j (k, l ++ [v])
  | [], _, _, _, h => by simp at h
  | (a, l) :: r, k, v, j, h => by
    rw [List.findIdx?_cons] at h
    by_cases e : a = k
    · simp [e] at h
      subst h; subst e
      exact ⟨l, rfl, by unfold insG; rw [if_pos rfl]; rfl⟩
    · cases h2 : r.findIdx? fun p => decide (p.1 = k) with
      | none => simp [e, h2] at h
      | some i =>
        simp [e, h2] at h
        subst h
        obtain ⟨l', h3, h4⟩ := ins_some (v := v) h2
        exact ⟨l', h3, by unfold insG; rw [if_neg e, h4]; rfl⟩
theorem sda_ins {t : Bool} {G : List (κ × List Nat)} {k : κ} {v : Nat} (h1 : G.length < 16777216) (h2 : ∀ p ∈ G, p.2.length < 16777216) (ok : keyOk t (kd k) = true) : sdaD t (KSg kd G) (VSo G) (kd k) (.int v) = some (.odic t (KSg kd (insG G k v)) (VSo (insG G k v))) := by
  unfold sdaD
  rw [if_pos ⟨ok, by unfold KSg; rw [List.length_map]; exact h1⟩, posK_g kd hkd]
  cases e : G.findIdx? fun p => decide (p.1 = k) with
  | none =>
    rw [ins_none e]
    dsimp only
    rw [if_pos (by simp [KSg, VSo])]
    simp [KSg, VSo]
  | some j =>
    obtain ⟨l, h3, h4⟩ := ins_some (v := v) e
    rw [h4]
    have e2 : (VSo G)[j]? = some (.olst (l.map fun (k : Nat) => D.int k)) := by unfold VSo; rw [List.getElem?_map, h3]; rfl
    dsimp only
    rw [e2]
    dsimp only
    rw [if_pos (by rw [List.length_map]; exact h2 _ (List.mem_of_getElem? h3))]
    unfold KSg VSo
    rw [List.map_set, List.map_set]
    have e3 : (G.map fun p => kd p.1).set j (kd (k, l ++ [v]).1) = G.map fun p => kd p.1 := by
      apply List.ext_getElem?
      intro i
      by_cases hi : j = i
      · subst hi
        have hl := (List.getElem?_eq_some_iff.mp h3).1
        rw [List.getElem?_set_self (by rw [List.length_map]; exact hl), List.getElem?_map, h3]
        rfl
      · rw [List.getElem?_set_ne hi]
    rw [e3]
    simp
theorem get_g (k : κ) : ∀ G : List (κ × List Nat), ((G.findIdx? fun p => decide (p.1 = k)).bind fun i => (VSl G)[i]?) = (getG G k).map fun l => .lst (l.map fun (k : Nat) => D.int k)
  | [] => rfl
  | (a, l) :: r => by
    rw [List.findIdx?_cons]
    unfold getG
    by_cases e : a = k
    · simp [e, VSl]
    · have ih := get_g k r
      simp only [e, decide_false, cond_false, if_false]
      rw [← ih]
      cases r.findIdx? fun p => decide (p.1 = k) with
      | none => simp
      | some i => simp [VSl]
theorem dGet_g {t : Bool} {G : List (κ × List Nat)} {k : κ} (ok : keyOk t (kd k) = true) : dGet (.dic t (KSg kd G) (VSl G)) (kd k) = some ((getG G k).map fun l => .lst (l.map fun (k : Nat) => D.int k)) := by
  unfold dGet
  simp only [ok, if_true]
  rw [posK_g kd hkd, get_g kd hkd]
end
/-! ### the keys -/
def kN (x : Nat) : D := .int x
def kS (p : Nat × Nat) : D := .tup [.int p.1, .str [p.2]]
theorem kN_eq (a b : Nat) : eqv (kN a) (kN b) = decide (a = b) := eqv_nat a b
theorem kS_eq (a b : Nat × Nat) : eqv (kS a) (kS b) = decide (a = b) := by
  unfold kS
  simp only [eqv, eqvL]
  have h1 := eqv_nat a.1 b.1
  have h2 := eqv_str [a.2] [b.2]
  simp only [eqv] at h1 h2
  obtain ⟨a1, a2⟩ := a
  obtain ⟨b1, b2⟩ := b
  simp_all
theorem kN_ok (a : Nat) : keyOk false (kN a) = true := rfl
theorem kS_ok (a : Nat × Nat) : keyOk true (kS a) = true := rfl
end Law

set_option Elab.async false
set_option linter.all false
set_option maxRecDepth 100000
namespace Law
open Z PySem L2
/-! ### machines -/
def SG : List Nat := [35, 97, 98, 99, 100, 101, 102, 103, 104]
structure Sgn (signs : List Nat) : Prop where
  ne : signs ≠ []
  mem : ∀ c ∈ signs, c ∈ SG
  asc : signs.Pairwise (· < ·)
theorem fold_last : ∀ (xs : List Nat) (l : List Nat), xs ≠ [] → ∃ c, xs.foldl (fun _ c => [c]) l = [c]
  | [], _, h => absurd rfl h
  | [c], _, _ => ⟨c, rfl⟩
  | a :: b :: xs, _, _ => fold_last (b :: xs) [a] (by simp)
theorem wo_ok {signs : List Nat} (h : Sgn signs) (hl : signs.length ≤ 16777216) : m_well_ordered [.str signs] = .ok (.bl true) := by
  obtain ⟨q, _⟩ := forL_fold (h := gN 2) (body := b0_well_ordered) (w := [2]) (fun c : Nat => D.str [c]) (fun last : List Nat => [some (.str signs), some (.str last), none]) (fun _ c => [c])
    (fun xs last => (∀ c ∈ xs, c ∈ SG) ∧ xs.Pairwise (· < ·) ∧ (last = [] ∨ ∃ b, last = [b] ∧ ∀ c ∈ xs, b < c)) signs [] ⟨h.mem, h.asc, .inl rfl⟩ (fun c xs last hi => by
      obtain ⟨h1, h2, h3⟩ := hi
      refine ⟨_, rfl, ⟨[some (.str signs), some (.str [c]), some (.str [c])], .inl ?_, rfl⟩, fun z hz => h1 z (by simp [hz]), h2.tail, .inr ⟨c, rfl, (List.pairwise_cons.mp h2).1⟩⟩
      have hin : pNotIn (.str [c]) (.str [35, 97, 98, 99, 100, 101, 102, 103, 104]) = some (.bl false) := by
        have : c ∈ ([35, 97, 98, 99, 100, 101, 102, 103, 104] : List Nat) := h1 c (by simp)
        show some (D.bl (!decide (c ∈ ([35, 97, 98, 99, 100, 101, 102, 103, 104] : List Nat)))) = _
        rw [decide_eq_true this]; rfl
      have hle : pLe (.str [c]) (.str last) = some (.bl false) := by
        show some (D.bl (!ltL last [c])) = _
        have : ltL last [c] = true := by
          unfold ltL
          rcases h3 with rfl | ⟨b, rfl, hb⟩
          · exact decide_eq_true (by simp)
          · refine decide_eq_true ?_
            have := hb c (by simp)
            exact List.Lex.rel this
        rw [this]; rfl
      unfold b0_well_ordered
      simp [hin, hle])
  obtain ⟨c, hc⟩ := fold_last signs [] h.ne
  rw [hc] at q
  rw [e_well_ordered]
  unfold g_well_ordered
  simp [sFor_ok (ds := signs.map fun c => D.str [c]), q]
def edgeD (e : Edge) : D := .tup [.int e.st, .str [e.sg], .str e.wd, .int e.tg, .tup e.lk]
theorem edgeD_data (e : Edge) : isData (edgeD e) = true := rfl
theorem fits_ok {signs : List Nat} {m : Nat} {e : Edge} (v : Valid signs m e) : m_edge_fits [.str signs, .int m, edgeD e] = .ok (.bl true) := by
  rw [e_edge_fits]
  unfold g_edge_fits edgeD
  have hsl : pSl (.tup [.int e.st, .str [e.sg], .str e.wd, .int e.tg, .tup e.lk]) none (some 4) = some (.tup [.int e.st, .str [e.sg], .str e.wd, .int e.tg]) := rfl
  have hc : eComp (iSeqO (eVar 5)) (gN 7) cYes (eBin pIn (eVar 7) (eVar 0)) [7] [some (.str signs), some (.int m), some (.tup [.int e.st, .str [e.sg], .str e.wd, .int e.tg, .tup e.lk]), some (.int e.st), some (.str [e.sg]), some (.str e.wd), some (.int e.tg), none] = .ok (e.wd.map fun c => .bl (decide (c ∈ signs))) := by
    refine eComp_M (fun c : Nat => D.str [c]) _ e.wd (by simp) fun c hc => ⟨_, rfl, ?_, rfl⟩
    have : pIn (.str [c]) (.str signs) = some (.bl (decide (c ∈ signs))) := rfl
    simp [this]
  have hall : e.wd.all (fun c => decide (c ∈ signs)) = true := List.all_eq_true.mpr fun c hc => decide_eq_true (v.w c hc)
  have h1 := v.s1
  have h2 := v.t1
  have h3 : ¬ ((e.st : Int) = 1) := by have := v.s2; omega
  have h4 : ¬ ((e.tg : Int) = 0) := by have := v.t2; omega
  have h5 : pNotIn (.str [e.sg]) (.tup [.str [94], .str [36]]) = some (.bl (!decide ([e.sg] ∈ [[94], [36]]))) := by
    unfold pNotIn
    rw [show pIn (.str [e.sg]) (.tup [.str [94], .str [36]]) = some (.bl (decide ([e.sg] ∈ [[94], [36]]))) from pIn_strs_t [[94], [36]] [e.sg]]
    rfl
  have h6 : pNotIn (.str [e.sg]) (.str signs) = some (.bl (!decide (e.sg ∈ signs))) := rfl
  have h7 : (e.sg = 94 ↔ (e.st : Int) = 0) := v.b.trans (by omega)
  have h8 : (e.sg = 36 ↔ (e.tg : Int) = 1) := v.z.trans (by omega)
  have e1 : decide (e.sg = 94) = decide ((e.st : Int) = 0) := decide_eq_decide.mpr h7
  have e2 : decide (e.sg = 36) = decide ((e.tg : Int) = 1) := decide_eq_decide.mpr h8
  have h9 : e.sg = 94 ∨ e.sg = 36 ∨ e.sg ∈ signs := by
    by_cases k1 : e.sg = 94
    · exact .inl k1
    · by_cases k2 : e.sg = 36
      · exact .inr (.inl k2)
      · exact .inr (.inr (v.g k1 k2))
  have e1' : decide (e.sg = 94) = decide (e.st = 0) := decide_eq_decide.mpr v.b
  have e2' : decide (e.sg = 36) = decide (e.tg = 1) := decide_eq_decide.mpr v.z
  have n1 : (0 : Int) ≤ (e.st : Int) := by omega
  have n2 : (0 : Int) ≤ (e.tg : Int) := by omega
  have hif : (if ¬e.st = 0 ∧ ¬(e.tg : Int) = 1 then Rs.ok (!decide (e.sg ∈ signs)) else Rs.ok false) = (Rs.ok false : Rs Bool) := by
    split
    · rename_i hk
      rw [decide_eq_true (v.g (fun z => hk.1 (v.b.mp z)) fun z => hk.2 (h8.mp z))]
      rfl
    · rfl
  simp [hif, hsl, hc, bAll_map, hall, h1, h2, h3, h4, h5, h6, e1, e2, e1', e2', v.s2, v.t2, n1, n2]
/-! ### the instance -/
def leadX (E : List Edge) : List ((Nat × Nat) × Nat) := E.zipIdx.map fun p => ((p.1.st, p.1.sg), p.2)
def leadG (E : List Edge) : List ((Nat × Nat) × List Nat) := insAll [] (leadX E)
def machD (signs : List Nat) (m : Nat) (E : List Edge) : D := .ob 0 ["signs", "many", "edges", "_leading"] [.str signs, .int m, .tup (E.map edgeD), .dic true (KSg kS (leadG E)) (VSl (leadG E))]
theorem fld_signs (signs : List Nat) (m : Nat) (E : List Edge) : pFld [0] "signs" (machD signs m E) = some (.str signs) := by simp [pFld, machD, posOf]
theorem fld_many (signs : List Nat) (m : Nat) (E : List Edge) : pFld [0] "many" (machD signs m E) = some (.int m) := by simp [pFld, machD, posOf]
theorem fld_edges (signs : List Nat) (m : Nat) (E : List Edge) : pFld [0] "edges" (machD signs m E) = some (.tup (E.map edgeD)) := by simp [pFld, machD, posOf]
theorem fld_lead (signs : List Nat) (m : Nat) (E : List Edge) : pFld [0] "_leading" (machD signs m E) = some (.dic true (KSg kS (leadG E)) (VSl (leadG E))) := by simp [pFld, machD, posOf]
theorem lead_ok (signs : List Nat) (m : Nat) (E : List Edge) (s c : Nat) : m_Machine_leading [machD signs m E, .int s, .str [c]] = .ok (.tup (((getG (leadG E) (s, c)).getD []).map fun (k : Nat) => D.int k)) := by
  rw [e_Machine_leading]
  unfold g_Machine_leading
  have hg := dGet_g kS kS_eq (t := true) (G := leadG E) (k := (s, c)) rfl
  have hp : peel (machD signs m E) = machD signs m E := rfl
  have hg' : dGet (.dic true (KSg kS (leadG E)) (VSl (leadG E))) (.tup [.int s, .str [c]]) = some ((getG (leadG E) (s, c)).map fun l => .lst (l.map fun (k : Nat) => D.int k)) := hg
  cases e : getG (leadG E) (s, c) with
  | none => simp [fld_lead, hg', e, hp]
  | some l => simp [fld_lead, hg', e, hp]
theorem lead_eq (E : List Edge) (s c : Nat) : ((getG (leadG E) (s, c)).getD []) = ((E.zipIdx).filter fun p => decide (p.1.st = s) && decide (p.1.sg = c)).map (·.2) := by
  unfold leadG
  rw [get_all]
  have : (getG ([] : List ((Nat × Nat) × List Nat)) (s, c)).getD [] = [] := rfl
  rw [this, List.nil_append]
  unfold leadX
  rw [List.filter_map, List.map_map]
  have e1 : ((fun p : (Nat × Nat) × Nat => decide (p.1 = (s, c))) ∘ fun p : Edge × Nat => ((p.1.st, p.1.sg), p.2)) = fun p => decide (p.1.st = s) && decide (p.1.sg = c) := by
    funext p
    simp [Prod.ext_iff]
  rw [e1]
  rfl
end Law

set_option Elab.async false
set_option linter.all false
set_option maxRecDepth 100000
namespace Law
open Z PySem L2
theorem sSetF_ok {cs : List Nat} {i c : Nat} {n : String} {f : En → Rs D} {env : En} {d d0 : D} {ns : List String} {vs : List D} (hf : f env = .ok d) (he : env[i]? = some (some d0)) (hp : peel d0 = .oob c ns vs) (hc : c ∈ cs ∧ ns.length < 900) :
    sSetF cs i n f env = .nx (env.set i (some (putRoot d0 (.oob c (putN n d ns vs).1 (putN n d ns vs).2)))) := by
  unfold sSetF
  rw [hf]
  dsimp only
  rw [he]
  dsimp only
  rw [hp]
  dsimp only
  rw [if_pos hc]
def obG (signs : List Nat) (m : Nat) (E : List Edge) (G : List ((Nat × Nat) × List Nat)) : D := .bor 0 (.oob 0 ["signs", "many", "edges", "_leading"] [.str signs, .int m, .tup (E.map edgeD), .odic true (KSg kS G) (VSo G)])
theorem enL_map : ∀ (E : List Edge), enL (E.map edgeD) = E.zipIdx.map fun p => .tup [.int (p.2 : Nat), edgeD p.1] := by
  intro E
  unfold enL prL
  apply List.ext_getElem?
  intro i
  rw [List.getElem?_zipWith, List.getElem?_map, List.getElem?_map, List.getElem?_map, List.getElem?_zipIdx]
  by_cases h : i < E.length
  · simp [h]
  · simp [h]
theorem init_step {signs : List Nat} {m : Nat} {E : List Edge} {X : D} {G : List ((Nat × Nat) × List Nat)} {e : Edge} {k : Nat} (v : Valid signs m e) (h1 : G.length < 16777216) (h2 : ∀ q ∈ G, q.2.length < 16777216) :
    b0_Machine___init__ [some (obG signs m E G), some (.str signs), some (.int m), some X, some (.int (k : Nat)), some (edgeD e)] = .nx [some (obG signs m E (insG G (e.st, e.sg) k)), some (.str signs), some (.int m), some X, some (.int (k : Nat)), some (edgeD e)] := by
  have hf := fits_ok v
  have hat : atP [some (obG signs m E G), some (.str signs), some (.int m), some X, some (.int (k : Nat)), some (edgeD e)] 0 (pmFld [0] "_leading" pmVar) = some (obG signs m E G, [3], .odic true (KSg kS G) (VSo G)) := by
    simp [atP, pmFld, pmVar, obG, subD, posOf, peel, kid]
  have hk : (eTup (aCons (eBin pIx (eVar 5) (eC (.int 0))) (aCons (eBin pIx (eVar 5) (eC (.int 1))) aNil))) [some (obG signs m E G), some (.str signs), some (.int m), some X, some (.int (k : Nat)), some (edgeD e)] = .ok (kS (e.st, e.sg)) := by
    simp [edgeD, kS]
  have hs := sSdA_ok (fv := eVar 4) hat hk (sda_ins kS kS_eq h1 h2 (v := k) (kS_ok (e.st, e.sg))) rfl rfl (fun x => rfl)
  unfold b0_Machine___init__
  have hpe : peel (edgeD e) = edgeD e := rfl
  have hif : (sIf (eNot (eTru (eApp 3 m_edge_fits (aCons (eVar 1) (aCons (eVar 2) (aCons (eVar 5) aNil)))))) sUn sPass) [some (obG signs m E G), some (.str signs), some (.int m), some X, some (.int (k : Nat)), some (edgeD e)] = .nx [some (obG signs m E G), some (.str signs), some (.int m), some X, some (.int (k : Nat)), some (edgeD e)] := by
    simp [hf, hpe, edgeD_data]
  rw [sSeq_e, hif, seqR_nx, hs]
  rfl
theorem mach_ok {signs : List Nat} {m : Nat} {E : List Edge} {X : D} (hs : Sgn signs) (hsl : signs.length ≤ 16777216) (hm : 2 ≤ m) (hE : ∀ e ∈ E, Valid signs m e) (hl : E.length ≤ 1000000) (hX : X = .tup (E.map edgeD) ∨ X = .lst (E.map edgeD)) :
    m_Machine___init__ [.str signs, .int m, X] = .ok (machD signs m E) := by
  have hbt : bTuple [X] = some (.tup (E.map edgeD)) := by rcases hX with rfl | rfl <;> rfl
  have hXp : peel X = X := by rcases hX with rfl | rfl <;> rfl
  have hXd : isData X = true := by rcases hX with rfl | rfl <;> rfl
  obtain ⟨q, _⟩ := forL_fold (h := gT fun ds env => if ds.length = 2 then (gsCons (gN 4) (gsCons (gN 5) gsNil)) ds env else none) (body := b0_Machine___init__) (w := [4, 5]) (fun p : Edge × Nat => .tup [.int (p.2 : Nat), edgeD p.1])
    (fun G => [some (obG signs m E G), some (.str signs), some (.int m), some X, none, none]) (fun G p => insG G (p.1.st, p.1.sg) p.2)
    (fun xs G => (∀ p ∈ xs, Valid signs m p.1) ∧ G.length + xs.length ≤ 1000000 ∧ ∀ r ∈ G, r.2.length + xs.length ≤ 1000000) E.zipIdx []
    ⟨fun p hp => hE _ (List.fst_mem_of_mem_zipIdx hp), by simpa using hl, fun r hr => nomatch hr⟩ (fun p xs G hi => by
      obtain ⟨h1, h2, h3⟩ := hi
      rw [List.length_cons] at h2
      refine ⟨_, rfl, ⟨_, .inl (init_step (h1 p (by simp)) (by omega) fun r hr => by have := h3 r hr; rw [List.length_cons] at this; omega), rfl⟩, fun z hz => h1 z (by simp [hz]), ?_, ?_⟩
      · have := ins_len G (p.1.st, p.1.sg) p.2; omega
      · intro r hr
        have := ins_sz (n := 1000000 - (xs.length + 1)) G (p.1.st, p.1.sg) p.2 (fun q hq => by have := h3 q hq; rw [List.length_cons] at this; omega) r hr
        omega)
  have hfold : E.zipIdx.foldl (fun G p => insG G (p.1.st, p.1.sg) p.2) [] = leadG E := by
    unfold leadG insAll leadX
    rw [List.foldl_map]
  rw [hfold] at q
  have w1 := wo_ok hs hsl
  rw [e_Machine___init__]
  unfold g_Machine___init__
  have s1 : sSetF [0] 0 "signs" (eDat (eVar 1)) [some (.bor 0 (.oob 0 [] [])), some (.str signs), some (.int m), some X, none, none] = .nx [some (.bor 0 (.oob 0 ["signs"] [.str signs])), some (.str signs), some (.int m), some X, none, none] :=
    sSetF_ok (d := .str signs) (d0 := .bor 0 (.oob 0 [] [])) (by simp) rfl rfl ⟨by simp, by decide⟩
  have s2 : sSetF [0] 0 "many" (eDat (eVar 2)) [some (.bor 0 (.oob 0 ["signs"] [.str signs])), some (.str signs), some (.int m), some X, none, none] = .nx [some (.bor 0 (.oob 0 ["signs", "many"] [.str signs, .int m])), some (.str signs), some (.int m), some X, none, none] := by
    rw [sSetF_ok (c := 0) (ns := ["signs"]) (vs := [.str signs]) (d := .int m) (d0 := .bor 0 (.oob 0 ["signs"] [.str signs])) (by simp) rfl rfl ⟨by simp, by decide⟩]
    simp [putN, posOf]
  have s3 : sSetF [0] 0 "edges" (eDat (eCall bTuple (aCons (eVar 3) aNil))) [some (.bor 0 (.oob 0 ["signs", "many"] [.str signs, .int m])), some (.str signs), some (.int m), some X, none, none] = .nx [some (.bor 0 (.oob 0 ["signs", "many", "edges"] [.str signs, .int m, .tup (E.map edgeD)])), some (.str signs), some (.int m), some X, none, none] := by
    rw [sSetF_ok (c := 0) (ns := ["signs", "many"]) (vs := [.str signs, .int m]) (d := .tup (E.map edgeD)) (d0 := .bor 0 (.oob 0 ["signs", "many"] [.str signs, .int m])) (by simp [hXp, hbt]) rfl rfl ⟨by simp, by decide⟩]
    simp [putN, posOf]
  have s4 : sSetF [0] 0 "_leading" (eNewD true) [some (.bor 0 (.oob 0 ["signs", "many", "edges"] [.str signs, .int m, .tup (E.map edgeD)])), some (.str signs), some (.int m), some X, none, none] = .nx [some (obG signs m E []), some (.str signs), some (.int m), some X, none, none] := by
    rw [sSetF_ok (c := 0) (ns := ["signs", "many", "edges"]) (vs := [.str signs, .int m, .tup (E.map edgeD)]) (d := .odic true [] []) (d0 := .bor 0 (.oob 0 ["signs", "many", "edges"] [.str signs, .int m, .tup (E.map edgeD)])) (by simp) rfl rfl ⟨by simp, by decide⟩]
    simp [putN, posOf, obG, KSg, VSo]
  have s5 : sIf (eOr (eB (eBin pLt (eVar 2) (eC (.int 2)))) (eNot (eTru (eApp 1 m_well_ordered (aCons (eVar 1) aNil))))) sUn sPass [some (obG signs m E []), some (.str signs), some (.int m), some X, none, none] = .nx [some (obG signs m E []), some (.str signs), some (.int m), some X, none, none] := by
    have : ¬ ((m : Int) < 2) := by omega
    simp [this, w1]
  have hfe : (eFld [0] "edges" (eVar 0)) [some (obG signs m E []), some (.str signs), some (.int m), some X, none, none] = .ok (.tup (E.map edgeD)) := by
    simp [obG, pFld, posOf, ofO]
  have s6 : sFor (eEnum (aCons (eFld [0] "edges" (eVar 0)) aNil)) (gT fun ds env => if ds.length = 2 then (gsCons (gN 4) (gsCons (gN 5) gsNil)) ds env else none) b0_Machine___init__ [4, 5] [some (obG signs m E []), some (.str signs), some (.int m), some X, none, none] = .nx [some (obG signs m E (leadG E)), some (.str signs), some (.int m), some X, none, none] := by
    rw [sFor_ok (ds := E.zipIdx.map fun p => .tup [.int (p.2 : Nat), edgeD p.1])]
    · exact q
    · rw [eEnum_e, aCons_e, hfe, ← enL_map]; rfl
  rw [sSeq_e, s1, seqR_nx, sSeq_e, s2, seqR_nx, sSeq_e, s3, seqR_nx, sSeq_e, s4, seqR_nx, sSeq_e, s5, seqR_nx, s6]
  show noX (Rs.ok (frzD _)) = _
  rw [noX_ok]
  show Rs.ok (D.ob 0 ["signs", "many", "edges", "_leading"] (frzL [.str signs, .int m, .tup (E.map edgeD), .odic true (KSg kS (leadG E)) (VSo (leadG E))])) = _
  show Rs.ok (D.ob 0 _ [.str signs, .int m, .tup (E.map edgeD), .dic true (KSg kS (leadG E)) (frzL (VSo (leadG E)))]) = _
  rw [frz_vs]
  rfl
end Law

set_option Elab.async false
set_option linter.all false
set_option maxRecDepth 100000
namespace Law
open Z PySem L2
/-! ### dicts of states -/
theorem find_idx (x : Nat) : ∀ L : List Nat, (L.findIdx? fun z => decide (z = x)) = if x ∈ L then some (L.idxOf x) else none
  | [] => rfl
  | y :: L => by
    rw [List.findIdx?_cons, List.idxOf_cons]
    by_cases e : y = x
    · subst e; simp
    · have h1 : ¬ (x = y) := fun z => e z.symm
      rw [decide_eq_false e, beq_eq_false_iff_ne.mpr e, find_idx x L]
      by_cases hx : x ∈ L
      · simp [hx, h1]
      · simp [hx, h1]
theorem posN (L : List Nat) (x : Nat) : posK (L.map kN) (kN x) = if x ∈ L then some (L.idxOf x) else none := by
  unfold posK
  rw [List.findIdx?_map, ← find_idx x L]
  congr 1
  funext z
  exact kN_eq z x
def tr (A : List Nat) : List D := A.map fun _ => D.bl true
def dA (A : List Nat) : D := .odic false (A.map kN) (tr A)
def dAf (A : List Nat) : D := .dic false (A.map kN) (tr A)
theorem dget_A (A : List Nat) (x : Nat) : (if x ∈ A then some (A.idxOf x) else none).bind (fun i => (tr A)[i]?) = if x ∈ A then some (.bl true) else none := by
  by_cases h : x ∈ A
  · have := List.idxOf_lt_length_of_mem h
    simp [h, tr, this]
  · simp [h]
theorem in_A (A : List Nat) (x : Nat) : pIn2 (kN x) (dA A) = some (.bl (decide (x ∈ A))) := by
  unfold pIn2 dA dGet
  simp only [isDic_odic, if_true, kN_ok, posN, dget_A]
  by_cases h : x ∈ A <;> simp [h]
theorem in_Af (A : List Nat) (x : Nat) : pIn2 (kN x) (dAf A) = some (.bl (decide (x ∈ A))) := by
  unfold pIn2 dAf dGet
  simp only [isDic_dic, if_true, kN_ok, posN, dget_A]
  by_cases h : x ∈ A <;> simp [h]
theorem notin_A (A : List Nat) (x : Nat) : pNotIn2 (kN x) (dA A) = some (.bl (!decide (x ∈ A))) := by unfold pNotIn2; rw [in_A]; rfl
theorem notin_Af (A : List Nat) (x : Nat) : pNotIn2 (kN x) (dAf A) = some (.bl (!decide (x ∈ A))) := by unfold pNotIn2; rw [in_Af]; rfl
def addA (A : List Nat) (x : Nat) : List Nat := if x ∈ A then A else A ++ [x]
theorem put_A {A : List Nat} (h : A.length < 16777216) (x : Nat) : Z.putAt (dA A) (kN x) (.bl true) = some (dA (addA A x)) := by
  unfold addA
  show Option.map (fun p : List D × List D => D.odic false p.1 p.2) (putDic false (A.map kN) (tr A) (kN x) (.bl true)) = _
  unfold putDic dA
  rw [posN]
  simp only [kN_ok, List.length_map, h, and_self, if_true]
  by_cases hx : x ∈ A
  · simp only [hx, if_true, Option.map_some]
    have : (tr A).set (A.idxOf x) (.bl true) = tr A := by
      unfold tr
      apply List.ext_getElem?
      intro i
      by_cases hi : A.idxOf x = i
      · subst hi
        have := List.idxOf_lt_length_of_mem hx
        rw [List.getElem?_set_self (by simpa using this)]
        simp [this]
      · rw [List.getElem?_set_ne hi]
    rw [this]
  · simp [hx, tr]
/-- the numbers of the found states -/
def nums (n : Nat) : List D := (List.range n).map fun (i : Nat) => D.int i
def dN (fd : List Nat) : D := .odic false ((NK fd).map kN) (nums (NK fd).length)
theorem in_N (fd : List Nat) (x : Nat) : pIn2 (kN x) (dN fd) = some (.bl (decide (x ∈ NK fd))) := by
  unfold pIn2 dN dGet
  simp only [isDic_odic, if_true, kN_ok, posN]
  by_cases h : x ∈ NK fd
  · have := List.idxOf_lt_length_of_mem h
    simp [h, nums, this]
  · simp [h]
theorem notin_N (fd : List Nat) (x : Nat) : pNotIn2 (kN x) (dN fd) = some (.bl (!decide (x ∈ NK fd))) := by unfold pNotIn2; rw [in_N]; rfl
theorem sub_N {fd : List Nat} {x : Nat} (h : x ∈ NK fd) : pSub2 (dN fd) (kN x) = some (.int (ixF fd x : Nat)) := by
  unfold pSub2 dN dGet
  simp only [isDic_odic, if_true, kN_ok, posN, h]
  have := List.idxOf_lt_length_of_mem h
  simp [nums, this, ixF]
theorem nk_snoc {fd : List Nat} (h : Fnd fd) (x : Nat) : NK (fd ++ [x]) = NK fd ++ [x] := by
  obtain ⟨t, rfl, _⟩ := h
  simp [NK]
theorem put_N {fd : List Nat} (h : Fnd fd) (hl : fd.length < 1000000) {x : Nat} (hx : x ∉ NK fd) : Z.putAt (dN fd) (kN x) (.int ((NK fd).length : Nat)) = some (dN (fd ++ [x])) := by
  show Option.map (fun p : List D × List D => D.odic false p.1 p.2) (putDic false ((NK fd).map kN) (nums (NK fd).length) (kN x) (.int ((NK fd).length : Nat))) = _
  unfold putDic dN
  rw [posN]
  have hn := nk_len h
  have : (NK fd).length < 16777216 := by omega
  simp only [kN_ok, List.length_map, this, and_self, if_true, hx, if_false, Option.map_some]
  rw [nk_snoc h]
  simp [nums, List.range_succ]
theorem len_N (fd : List Nat) : bLen2 [dN fd] = some (.int ((NK fd).length : Nat)) := by
  unfold dN
  rw [bLen2_odic, List.length_map]
theorem len_A (A : List Nat) : bLen2 [dA A] = some (.int (A.length : Nat)) := by
  unfold dA
  rw [bLen2_odic, List.length_map]
theorem mem_addA {A : List Nat} {x y : Nat} : y ∈ addA A x ↔ y ∈ A ∨ y = x := by
  unfold addA
  by_cases h : x ∈ A
  · simp only [h, if_true]
    exact ⟨.inl, fun z => z.elim id fun z => by rw [z]; exact h⟩
  · simp [h]
theorem nodup_addA {A : List Nat} {x : Nat} (h : A.Nodup) : (addA A x).Nodup := by
  unfold addA
  split
  · exact h
  · rename_i hx; exact nodup_snoc h hx
theorem alive_src {E : List Edge} {x : Nat} (h : Alive E x) : x ∈ 1 :: E.map Edge.st := by
  cases h with
  | one => simp
  | step he _ => exact List.mem_cons_of_mem _ (List.mem_map_of_mem he)
theorem alive_len {E : List Edge} {A : List Nat} (hn : A.Nodup) (h : ∀ a ∈ A, Alive E a) : A.length ≤ E.length + 1 := by
  have := nodup_len hn fun a ha => alive_src (h a ha)
  simpa using this
/-! ### ending_states -/
def befG (E : List Edge) : List (Nat × List Nat) := insAll [] (E.map fun e => (e.tg, e.st))
theorem bef_eq (E : List Edge) (t : Nat) : (getG (befG E) t).getD [] = (E.filter fun e => decide (e.tg = t)).map Edge.st := by
  unfold befG
  rw [get_all]
  have : (getG ([] : List (Nat × List Nat)) t).getD [] = [] := rfl
  rw [this, List.nil_append, List.filter_map, List.map_map]
  rfl
def stA (p : List Nat × List Nat) (s : Nat) : List Nat × List Nat := if s ∈ p.1 then p else (p.1 ++ [s], p.2 ++ [s])
def endE (M B : D) (t : Option D) (p : List Nat × List Nat) : En := [some M, some B, none, some (dA p.1), some (.olst (p.2.map kN)), t, none]
theorem all_kN (l : List Nat) : (l.map kN).all isData = true := by
  rw [List.all_map]
  exact List.all_eq_true.mpr fun _ _ => rfl
theorem end_step {M B : D} {t : Nat} {A W : List Nat} (s : Nat) (hA : A.length < 1000000) (hW : W.length < 1000000) :
    ∃ e2, b1_ending_states [some M, some B, none, some (dA A), some (.olst (W.map kN)), some (kN t), some (kN s)] = .nx e2 ∧ wipeE [6] e2 = endE M B (some (kN t)) (stA (A, W) s) := by
  have hni := notin_A A s
  have hp : peel (dA A) = dA A := rfl
  have hk : peel (kN s) = kN s := rfl
  unfold b1_ending_states stA
  by_cases hs : s ∈ A
  · refine ⟨[some M, some B, none, some (dA A), some (.olst (W.map kN)), some (kN t), some (kN s)], ?_, ?_⟩
    · simp [hni, hs, hp, hk]
    · simp [hs, endE]
  · refine ⟨[some M, some B, none, some (dA (A ++ [s])), some (.olst ((W ++ [s]).map kN)), some (kN t), some (kN s)], ?_, ?_⟩
    · have h1 : sPut 3 pmVar (eVar 6) (eDat (eC (.bl true))) [some M, some B, none, some (dA A), some (.olst (W.map kN)), some (kN t), some (kN s)] = .nx [some M, some B, none, some (dA (A ++ [s])), some (.olst (W.map kN)), some (kN t), some (kN s)] := by
        have := put_A (A := A) (by omega) s
        unfold addA at this
        rw [if_neg hs] at this
        rw [sPutV_ok (d := .bl true) (k := kN s) (d0 := dA A) (e' := dA (A ++ [s])) (by simp) rfl (by simp [hk]) this]
        rfl
      have h2 : W.length < 16777216 := by omega
      have hkd : isData (kN s) = true := rfl
      simp [hni, hs, hp, hk, h1, h2, hkd]
    · simp [hs, endE]
end Law

set_option Elab.async false
set_option linter.all false
set_option maxRecDepth 100000
namespace Law
open Z PySem L2
theorem frz_tr : ∀ A : List Nat, frzL (tr A) = tr A
  | [] => rfl
  | a :: A => by
    show frzD (.bl true) :: frzL (tr A) = _
    rw [frz_tr A]; rfl
structure OInv (E : List Edge) (A W : List Nat) : Prop where
  nd : A.Nodup
  al : ∀ a ∈ A, Alive E a
  one : 1 ∈ A
  sub : ∀ w ∈ W, w ∈ A
  len : W.length ≤ A.length
  cl : ∀ a ∈ A, a ∈ W ∨ ∀ e ∈ E, e.tg = a → e.st ∈ A
structure InA (E : List Edge) (A0 W0 ss xs : List Nat) (p : List Nat × List Nat) : Prop where
  nd : p.1.Nodup
  al : ∀ a ∈ p.1, Alive E a
  sub : ∀ w ∈ p.2, w ∈ p.1
  le : p.2.length ≤ p.1.length
  xa : ∀ x ∈ xs, Alive E x
  a0 : ∀ a ∈ A0, a ∈ p.1
  w0 : ∀ w ∈ W0, w ∈ p.2
  new : ∀ a ∈ p.1, a ∈ A0 ∨ a ∈ p.2
  cnt : p.1.length + W0.length = p.2.length + A0.length
  done : ∀ x ∈ ss, x ∈ xs ∨ x ∈ p.1
theorem InA.step {E : List Edge} {A0 W0 ss xs : List Nat} {x : Nat} {p : List Nat × List Nat} (h : InA E A0 W0 ss (x :: xs) p) : InA E A0 W0 ss xs (stA p x) := by
  have hx := h.xa x (by simp)
  unfold stA
  by_cases hm : x ∈ p.1
  · rw [if_pos hm]
    exact ⟨h.nd, h.al, h.sub, h.le, fun y hy => h.xa y (by simp [hy]), h.a0, h.w0, h.new, h.cnt, fun y hy => by
      rcases h.done y hy with z | z
      · rcases List.mem_cons.mp z with z | z
        · rw [z]; exact .inr hm
        · exact .inl z
      · exact .inr z⟩
  · rw [if_neg hm]
    refine ⟨nodup_snoc h.nd hm, fun a ha => ?_, fun w hw => ?_, ?_, fun y hy => h.xa y (by simp [hy]), fun a ha => by simp [h.a0 a ha], fun w hw => by simp [h.w0 w hw], fun a ha => ?_, ?_, fun y hy => ?_⟩
    · rcases List.mem_append.mp ha with z | z
      · exact h.al a z
      · rw [List.mem_singleton.mp z]; exact hx
    · rcases List.mem_append.mp hw with z | z
      · simp [h.sub w z]
      · simp [List.mem_singleton.mp z]
    · simp [h.le]
    · rcases List.mem_append.mp ha with z | z
      · rcases h.new a z with z | z
        · exact .inl z
        · exact .inr (by simp [z])
      · exact .inr (by simp [List.mem_singleton.mp z])
    · have := h.cnt
      simp; omega
    · rcases h.done y hy with z | z
      · rcases List.mem_cons.mp z with z | z
        · exact .inr (by simp [z])
        · exact .inl z
      · exact .inr (by simp [z])
theorem InA.len {E : List Edge} {A0 W0 ss xs : List Nat} {p : List Nat × List Nat} (h : InA E A0 W0 ss xs p) : p.1.length ≤ E.length + 1 := alive_len h.nd h.al
def befD (E : List Edge) : D := .dic false (KSg kN (befG E)) (VSl (befG E))
theorem bef_get (E : List Edge) (t : Nat) {env : En} (h1 : eVar 1 env = .ok (befD E)) (h5 : eVar 5 env = .ok (kN t)) :
    iSeq (eGet2 (eVar 1) (eVar 5) (eTup aNil)) env = .ok (((E.filter fun e => decide (e.tg = t)).map Edge.st).map kN) := by
  have hg : dGet (befD E) (kN t) = some ((getG (befG E) t).map fun l => .lst (l.map kN)) := dGet_g kN kN_eq (t := false) (G := befG E) (k := t) rfl
  have hd : isDic (befD E) = true := rfl
  rw [← bef_eq]
  cases e : getG (befG E) t with
  | none => simp [h1, h5, hg, hd, e]
  | some l => simp [h1, h5, hg, hd, e]
theorem end_body {E : List Edge} {M : D} (hE : E.length ≤ 900000) {A W : List Nat} {t : Nat} (h : OInv E A (W ++ [t])) :
    ∃ e2 A2 W2, b2_ending_states (endE M (befD E) none (A, W ++ [t])) = .nx e2 ∧ wipeE [5, 6] e2 = endE M (befD E) none (A2, W2) ∧ OInv E A2 W2 ∧ 2 * (E.length + 1 - A2.length) + W2.length < 2 * (E.length + 1 - A.length) + (W ++ [t]).length := by
  have hAl := alive_len h.nd h.al
  have hWl := h.len
  rw [List.length_append, List.length_singleton] at hWl
  have ht : t ∈ A := h.sub t (by simp)
  obtain ⟨q, r⟩ := forL_fold (h := gN 6) (body := b1_ending_states) (w := [6]) kN (endE M (befD E) (some (kN t))) stA (InA E A W ((E.filter fun e => decide (e.tg = t)).map Edge.st)) ((E.filter fun e => decide (e.tg = t)).map Edge.st) (A, W)
    ⟨h.nd, h.al, fun w hw => h.sub w (by simp [hw]), by show W.length ≤ A.length; omega, fun x hx => by
      obtain ⟨e, he, rfl⟩ := List.mem_map.mp hx
      have := List.mem_filter.mp he
      exact .step this.1 (by rw [of_decide_eq_true this.2]; exact h.al t ht), fun _ z => z, fun _ z => z, fun _ z => .inl z, by show A.length + W.length = W.length + A.length; omega, fun x hx => .inl hx⟩
    (fun x xs p hi => by
      obtain ⟨p1, p2⟩ := p
      have hl := hi.len
      have hle := hi.le
      obtain ⟨e2, h1, h2⟩ := end_step (M := M) (B := befD E) (t := t) (A := p1) (W := p2) x (by simp at hl hle; omega) (by simp at hl hle; omega)
      exact ⟨_, rfl, ⟨e2, .inl h1, h2⟩, hi.step⟩)
  generalize List.foldl stA (A, W) _ = p at q r
  obtain ⟨A2, W2⟩ := p
  refine ⟨endE M (befD E) (some (kN t)) (A2, W2), A2, W2, ?_, rfl, ?_, ?_⟩
  · have hp : sSetX 5 (xPop 4) (endE M (befD E) none (A, W ++ [t])) = .nx (endE M (befD E) (some (kN t)) (A, W)) := by
      have e1 : (W ++ [t]).map kN = W.map kN ++ [kN t] := by simp
      rw [sSetXpop_ok (xs := W.map kN) (x := kN t) (by unfold endE; rw [e1]; rfl) rfl]
      rfl
    unfold b2_ending_states
    rw [sSeq_e, hp, seqR_nx, sFor_ok (bef_get E t rfl rfl)]
    exact q
  · refine ⟨r.nd, r.al, r.a0 1 h.one, r.sub, r.le, fun a ha => ?_⟩
    rcases r.new a ha with z | z
    · rcases h.cl a z with y | y
      · rcases List.mem_append.mp y with y | y
        · exact .inl (r.w0 a y)
        · right
          intro e he hte
          rw [List.mem_singleton.mp y] at hte
          rcases r.done e.st (List.mem_map_of_mem (List.mem_filter.mpr ⟨he, decide_eq_true hte⟩)) with z | z
          · exact nomatch z
          · exact z
      · exact .inr fun e he hte => r.a0 _ (y e he hte)
    · exact .inl z
  · have h1 := r.cnt
    have h2 := r.len
    have h3 : A.length ≤ A2.length := nodup_len h.nd r.a0
    rw [List.length_append, List.length_singleton]
    simp only at h1 h2
    omega
theorem ending_ok {signs : List Nat} {m : Nat} {E : List Edge} (hE : E.length ≤ 900000) : ∃ A, m_ending_states [machD signs m E] = .ok (dAf A) ∧ ∀ x, x ∈ A ↔ Alive E x := by
  let M := machD signs m E
  have hM : peel M = M := rfl
  -- before
  obtain ⟨q1, _⟩ := forL_fold (h := gN 2) (body := b0_ending_states) (w := [2]) edgeD (fun G : List (Nat × List Nat) => [some M, some (.odic false (KSg kN G) (VSo G)), none, none, none, none, none]) (fun G e => insG G e.tg e.st)
    (fun xs G => G.length + xs.length ≤ 1000000 ∧ ∀ r ∈ G, r.2.length + xs.length ≤ 1000000) E [] ⟨by simp; omega, fun r hr => nomatch hr⟩ (fun e xs G hi => by
      obtain ⟨h2, h3⟩ := hi
      rw [List.length_cons] at h2
      have hs := sSdA_ok (i := 1) (pm := pmVar) (fk := eBin pIx (eVar 2) (eC (.int 3))) (fv := eBin pIx (eVar 2) (eC (.int 0))) (env := [some M, some (.odic false (KSg kN G) (VSo G)), some (edgeD e), none, none, none, none]) (k := kN e.tg) (d := .int e.st)
        (atP_var (d0 := .odic false (KSg kN G) (VSo G)) rfl) (by simp [edgeD, kN, pIx_tup (k := 3)]; rfl) (sda_ins kN kN_eq (by omega) (fun r hr => by have := h3 r hr; rw [List.length_cons] at this; omega) (kN_ok _)) rfl (by simp [edgeD]) (fun x => by simp [edgeD])
      refine ⟨_, rfl, ⟨_, .inl hs, rfl⟩, ?_, ?_⟩
      · have := ins_len G e.tg e.st; omega
      · intro r hr
        have := ins_sz (n := 1000000 - (xs.length + 1)) G e.tg e.st (fun q hq => by have := h3 q hq; rw [List.length_cons] at this; omega) r hr
        omega)
  have hfold : E.foldl (fun G e => insG G e.tg e.st) [] = befG E := by
    unfold befG insAll
    rw [List.foldl_map]
  rw [hfold] at q1
  -- the loop
  obtain ⟨A, hw, hA⟩ : ∃ A, whileL c3_ending_states b2_ending_states [5, 6] 1000000000 (endE M (befD E) none ([1], [1])) = .nx (endE M (befD E) none (A, [])) ∧ OInv E A [] := by
    refine whileL_gen (c := c3_ending_states) (body := b2_ending_states) (w := [5, 6]) (fun k en => ∃ A W, en = endE M (befD E) none (A, W) ∧ OInv E A W ∧ k = 2 * (E.length + 1 - A.length) + W.length) (fun r => ∃ A, r = .nx (endE M (befD E) none (A, [])) ∧ OInv E A [])
      1000000000 _ (2 * (E.length + 1 - 1) + 1) ⟨[1], [1], rfl, ⟨by simp, fun a ha => by rw [List.mem_singleton.mp ha]; exact .one, by simp, fun w hw => hw, Nat.le_refl _, fun a ha => .inl ha⟩, rfl⟩ (by omega) ?_
    rintro k en ⟨A, W, rfl, hi, rfl⟩
    rcases List.eq_nil_or_concat W with rfl | ⟨W', t, rfl⟩
    · have : c3_ending_states (endE M (befD E) none (A, [])) = .ok false := by
        unfold c3_ending_states endE
        simp
      rw [this]
      exact ⟨A, rfl, hi⟩
    · rw [List.concat_eq_append] at hi ⊢
      have : c3_ending_states (endE M (befD E) none (A, W' ++ [t])) = .ok true := by
        unfold c3_ending_states endE
        simp
      rw [this, TsP_t]
      obtain ⟨e2, A2, W2, h1, h2, h3, h4⟩ := end_body (M := M) hE hi
      rw [h1, LpP_nx, h2]
      exact ⟨_, h4, A2, W2, rfl, h3, rfl⟩
  refine ⟨A, ?_, alive_iff hA.one hA.al fun e he ht => by
    rcases hA.cl e.tg ht with z | z
    · exact nomatch z
    · exact z e he rfl⟩
  rw [e_ending_states]
  unfold g_ending_states
  have s1 : sSetN 1 (eNewD false) [some M, none, none, none, none, none, none] = .nx [some M, some (.odic false [] []), none, none, none, none, none] := sSetN_ok (by simp)
  have hfe : iSeq (eFld [0] "edges" (eVar 0)) [some M, some (.odic false [] []), none, none, none, none, none] = .ok (E.map edgeD) := by
    have := fld_edges signs m E
    simp [hM]
    rw [show pFld [0] "edges" M = _ from this]
    rfl
  have s2 : sFor (iSeq (eFld [0] "edges" (eVar 0))) (gN 2) b0_ending_states [2] [some M, some (.odic false [] []), none, none, none, none, none] = .nx [some M, some (.odic false (KSg kN (befG E)) (VSo (befG E))), none, none, none, none, none] := by
    rw [sFor_ok hfe]; exact q1
  have s3 : sSetN 3 (eDisp 0 (psCons (eC (.int 1)) (eC (.bl true)) psNil)) [some M, some (.odic false (KSg kN (befG E)) (VSo (befG E))), none, none, none, none, none] = .nx [some M, some (.odic false (KSg kN (befG E)) (VSo (befG E))), none, some (dA [1]), none, none, none] := by
    rw [sSetN_ok (d := dA [1])]
    · rfl
    · simp; rfl
  have s4 : sSetL 4 (eLst (aCons (eC (.int 1)) aNil)) [some M, some (.odic false (KSg kN (befG E)) (VSo (befG E))), none, some (dA [1]), none, none, none] = .nx [some M, some (.odic false (KSg kN (befG E)) (VSo (befG E))), none, some (dA [1]), some (.olst [kN 1]), none, none] := by
    simp; rfl
  have s5 : sFz 1 (sWhile 1000000000 c3_ending_states b2_ending_states [5, 6]) [some M, some (.odic false (KSg kN (befG E)) (VSo (befG E))), none, some (dA [1]), some (.olst [kN 1]), none, none] = .nx (endE M (befD E) none (A, [])) := by
    rw [sFz_ok (d := .odic false (KSg kN (befG E)) (VSo (befG E))) rfl]
    have : frzD (.odic false (KSg kN (befG E)) (VSo (befG E))) = befD E := by
      show D.dic false _ (frzL (VSo (befG E))) = _
      rw [frz_vs]; rfl
    rw [this]
    exact hw
  have s6 : sFz 3 (sRet (eVar 3)) (endE M (befD E) none (A, [])) = .rt (dAf A) [] := by
    rw [sFz_ok (d := dA A) rfl]
    have : frzD (dA A) = dAf A := by
      show D.dic false _ (frzL (tr A)) = _
      rw [frz_tr]; rfl
    rw [this]
    rfl
  rw [sSeq_e, s1, seqR_nx, sSeq_e, s2, seqR_nx, sSeq_e, s3, seqR_nx, sSeq_e, s4, seqR_nx, sSeq_e, s5, seqR_nx, s6]
  rfl
end Law

set_option Elab.async false
set_option linter.all false
set_option maxRecDepth 100000
namespace Law
open Z PySem L2
/-! ### trimmed -/
def alB (A : List Nat) (x : Nat) : Bool := decide (x ∈ A)
def tE (M : D) (A : List Nat) (S : WS) (a : Nat) (s6 s7 s8 s9 : Option D) : En := [some M, some (dAf A), some (dN S.1), some (.olst (S.1.map kN)), some (.olst (S.2.map edgeD)), some (.int (a : Nat)), s6, s7, s8, s9]
theorem ix_e0 (e : Edge) : pIx (edgeD e) (.int 0) = some (kN e.st) := rfl
theorem ix_e1 (e : Edge) : pIx (edgeD e) (.int 1) = some (.str [e.sg]) := rfl
theorem ix_e2 (e : Edge) : pIx (edgeD e) (.int 2) = some (.str e.wd) := rfl
theorem ix_e3 (e : Edge) : pIx (edgeD e) (.int 3) = some (kN e.tg) := rfl
theorem ix_e4 (e : Edge) : pIx (edgeD e) (.int 4) = some (.tup e.lk) := rfl
theorem kN_data (x : Nat) : isData (kN x) = true := rfl
theorem kN_peel (x : Nat) : peel (kN x) = kN x := rfl
theorem edgeD_peel (e : Edge) : peel (edgeD e) = edgeD e := rfl
theorem trim_step {signs T : List Nat} {m : Nat} {E : List Edge} {A : List Nat} {S : WS} {a s c k : Nat} {e : Edge} (hk : E[k]? = some e) (h : WInv signs T S) (hT : T.length ≤ 1000) (hs : e.st = s) (hc : e.sg = c) (hin : s ∈ NK S.1) (hr : S.2.length < 1000000) :
    ∃ e2, (b0_trimmed (tE (machD signs m E) A S a (some (kN s)) (some (.str [c])) (some (.int (k : Nat))) none) = .nx e2 ∨ b0_trimmed (tE (machD signs m E) A S a (some (kN s)) (some (.str [c])) (some (.int (k : Nat))) none) = .ct e2) ∧
      wipeE [8, 9] e2 = tE (machD signs m E) A (if alB A e.tg then proc S e else S) a (some (kN s)) (some (.str [c])) none none := by
  subst hs; subst hc
  let M := machD signs m E
  have hM : peel M = M := rfl
  have hfld : pFld [0] "edges" M = some (.tup (E.map edgeD)) := fld_edges signs m E
  have hix : pIx (.tup (E.map edgeD)) (.int (k : Nat)) = some (edgeD e) := by rw [pIx_tup, List.getElem?_map, hk]; rfl
  have hlen := h.len
  have p1 : peel (dAf A) = dAf A := rfl
  have pN : ∀ fd, peel (dN fd) = dN fd := fun _ => rfl
  have s1 : sSet 9 (eBin pIx (eFld [0] "edges" (eVar 0)) (eVar 8)) (tE M A S a (some (kN e.st)) (some (.str [e.sg])) (some (.int (k : Nat))) none) = .nx (tE M A S a (some (kN e.st)) (some (.str [e.sg])) (some (.int (k : Nat))) (some (edgeD e))) := by
    unfold tE
    simp [hM, hfld, hix, edgeD_data]
  unfold b0_trimmed
  show ∃ e2, (_ = Fl.nx e2 ∨ _ = Fl.ct e2) ∧ _
  by_cases hal : e.tg ∈ A
  · have s2 : sIf (eB (eBin pNotIn2 (eBin pIx (eVar 9) (eC (.int 3))) (eVar 1))) sCont sPass (tE M A S a (some (kN e.st)) (some (.str [e.sg])) (some (.int (k : Nat))) (some (edgeD e))) = .nx (tE M A S a (some (kN e.st)) (some (.str [e.sg])) (some (.int (k : Nat))) (some (edgeD e))) := by
      unfold tE
      simp [p1, edgeD_peel, ix_e3, notin_Af, hal]
    have s3 : sIf (eB (eBin pNotIn2 (eBin pIx (eVar 9) (eC (.int 3))) (eVar 2)))
        (sSeq (sPut 2 pmVar (eBin pIx (eVar 9) (eC (.int 3))) (eDat (eCall bLen2 (aCons (eVar 2) aNil)))) (sApp 3 (eBin pIx (eVar 9) (eC (.int 3))))) sPass (tE M A S a (some (kN e.st)) (some (.str [e.sg])) (some (.int (k : Nat))) (some (edgeD e)))
        = .nx (tE M A (addF S.1 e.tg, S.2) a (some (kN e.st)) (some (.str [e.sg])) (some (.int (k : Nat))) (some (edgeD e))) := by
      unfold addF
      by_cases hn : e.tg ∈ NK S.1
      · unfold tE
        simp [pN, edgeD_peel, ix_e3, notin_N, hn]
      · have h1 : sPut 2 pmVar (eBin pIx (eVar 9) (eC (.int 3))) (eDat (eCall bLen2 (aCons (eVar 2) aNil))) (tE M A S a (some (kN e.st)) (some (.str [e.sg])) (some (.int (k : Nat))) (some (edgeD e)))
            = .nx ([some M, some (dAf A), some (dN (S.1 ++ [e.tg])), some (.olst (S.1.map kN)), some (.olst (S.2.map edgeD)), some (.int (a : Nat)), some (kN e.st), some (.str [e.sg]), some (.int (k : Nat)), some (edgeD e)]) := by
          rw [sPutV_ok (d := .int ((NK S.1).length : Nat)) (k := kN e.tg) (d0 := dN S.1) (by unfold tE; simp [pN, len_N]) rfl (by unfold tE; simp [edgeD_peel, ix_e3]) (put_N h.fnd (by omega) hn)]
          rfl
        have h2 : S.1.length < 16777216 := by omega
        have h3 : (sSeq (sPut 2 pmVar (eBin pIx (eVar 9) (eC (.int 3))) (eDat (eCall bLen2 (aCons (eVar 2) aNil)))) (sApp 3 (eBin pIx (eVar 9) (eC (.int 3))))) (tE M A S a (some (kN e.st)) (some (.str [e.sg])) (some (.int (k : Nat))) (some (edgeD e)))
            = .nx (tE M A (S.1 ++ [e.tg], S.2) a (some (kN e.st)) (some (.str [e.sg])) (some (.int (k : Nat))) (some (edgeD e))) := by
          rw [sSeq_e, h1, seqR_nx]
          unfold tE
          simp [edgeD_peel, ix_e3, kN_data, h2]
        rw [sIf_e, h3]
        have h4 : (eB (eBin pNotIn2 (eBin pIx (eVar 9) (eC (.int 3))) (eVar 2))) (tE M A S a (some (kN e.st)) (some (.str [e.sg])) (some (.int (k : Nat))) (some (edgeD e))) = .ok true := by
          unfold tE
          simp [pN, edgeD_peel, ix_e3, notin_N, hn]
        rw [h4, ifR_t, if_neg hn]
    have g1 : e.st ∈ NK (addF S.1 e.tg) := ((add_keep h.fnd e.tg).1 _ hin).1
    have g2 : e.tg ∈ NK (addF S.1 e.tg) := add_mem h.fnd e.tg
    have s4 : sApp 4 (eTup (aCons (eBin pSub2 (eVar 2) (eVar 6)) (aCons (eVar 7) (aCons (eBin pIx (eVar 9) (eC (.int 2))) (aCons (eBin pSub2 (eVar 2) (eBin pIx (eVar 9) (eC (.int 3)))) (aCons (eBin pIx (eVar 9) (eC (.int 4))) aNil))))))
        (tE M A (addF S.1 e.tg, S.2) a (some (kN e.st)) (some (.str [e.sg])) (some (.int (k : Nat))) (some (edgeD e))) = .nx (tE M A (proc S e) a (some (kN e.st)) (some (.str [e.sg])) (some (.int (k : Nat))) (some (edgeD e))) := by
      have hz : S.2.length < 16777216 := by omega
      have : edgeD (re (ixF (addF S.1 e.tg)) e) = .tup [.int (ixF (addF S.1 e.tg) e.st : Nat), .str [e.sg], .str e.wd, .int (ixF (addF S.1 e.tg) e.tg : Nat), .tup e.lk] := rfl
      unfold tE proc
      simp [pN, edgeD_peel, kN_peel, ix_e2, ix_e3, ix_e4, sub_N g1, sub_N g2, hz, this]
    refine ⟨tE M A (proc S e) a (some (kN e.st)) (some (.str [e.sg])) (some (.int (k : Nat))) (some (edgeD e)), .inl ?_, ?_⟩
    · rw [sSeq_e, s1, seqR_nx, sSeq_e, s2, seqR_nx, sSeq_e, s3, seqR_nx, s4]
    · have : alB A e.tg = true := decide_eq_true hal
      rw [this, if_pos rfl]
      rfl
  · have s2 : sIf (eB (eBin pNotIn2 (eBin pIx (eVar 9) (eC (.int 3))) (eVar 1))) sCont sPass (tE M A S a (some (kN e.st)) (some (.str [e.sg])) (some (.int (k : Nat))) (some (edgeD e))) = .ct (tE M A S a (some (kN e.st)) (some (.str [e.sg])) (some (.int (k : Nat))) (some (edgeD e))) := by
      unfold tE
      simp [p1, edgeD_peel, ix_e3, notin_Af, hal]
    refine ⟨tE M A S a (some (kN e.st)) (some (.str [e.sg])) (some (.int (k : Nat))) (some (edgeD e)), .inr ?_, ?_⟩
    · rw [sSeq_e, s1, seqR_nx, sSeq_e, s2, seqR_ct]
    · have : alB A e.tg = false := decide_eq_false hal
      rw [this]
      rfl
theorem cand_zip (al : Nat → Bool) (s c : Nat) : ∀ (E : List Edge) (n : Nat) (S : WS), ((E.zipIdx n).filter fun p => decide (p.1.st = s) && decide (p.1.sg = c)).foldl (fun S p => if al p.1.tg then proc S p.1 else S) S = (cand al E s c).foldl proc S
  | [], _, _ => rfl
  | e :: E, n, S => by
    unfold cand
    rw [List.zipIdx_cons, List.filter_cons, List.filter_cons]
    have ih := cand_zip al s c E (n + 1)
    unfold cand at ih
    by_cases h1 : e.st = s
    · by_cases h2 : e.sg = c
      · cases h3 : al e.tg
        · simp [h1, h2, h3, ih]
        · simp [h1, h2, h3, ih]
      · simp [h1, h2, ih]
    · simp [h1, ih]
end Law

set_option Elab.async false
set_option linter.all false
set_option maxRecDepth 100000
namespace Law
open Z PySem L2
theorem pIx_olst {x : List D} {k : Nat} : pIx (.olst x) (.int k) = (x[k]?).bind fun d => if isData d then some d else none := by
  show (atI x (k : Int)).bind _ = _
  rw [atI_nat0]
structure Ctx (signs T : List Nat) (m : Nat) (E : List Edge) : Prop where
  sg : Sgn signs
  sl : signs.length ≤ 9
  m2 : 2 ≤ m
  ok : ∀ e ∈ E, Valid signs m e ∧ (e.tg = 1 ∨ e.tg ∈ T)
  t0 : 0 ∈ T
  tl : T.length ≤ 39
  el : E.length ≤ 1000
def csOf (signs : List Nat) : List Nat := 94 :: signs ++ [36]
theorem cs_len {signs T : List Nat} {m : Nat} {E : List Edge} (C : Ctx signs T m E) : (csOf signs).length ≤ 11 := by
  have := C.sl
  simp [csOf]
  omega
theorem trim_inner {signs T : List Nat} {m : Nat} {E : List Edge} (C : Ctx signs T m E) {A : List Nat} {S : WS} {a s c : Nat} (h : WInv signs T S) (hin : s ∈ NK S.1) (hr : S.2.length + E.length < 1000000) :
    b1_trimmed (tE (machD signs m E) A S a (some (kN s)) (some (.str [c])) none none) = .nx (tE (machD signs m E) A ((cand (alB A) E s c).foldl proc S) a (some (kN s)) (some (.str [c])) none none) := by
  have hM : peel (machD signs m E) = machD signs m E := rfl
  have hob : isOb 0 "leading" (machD signs m E) = true := by simp [isOb, machD, posOf]
  have hlead := lead_ok signs m E s c
  rw [lead_eq] at hlead
  have hit : iSeq (eMeth 0 "leading" 2 m_Machine_leading (eVar 0) (aCons (eVar 6) (aCons (eVar 7) aNil))) (tE (machD signs m E) A S a (some (kN s)) (some (.str [c])) none none) = .ok ((E.zipIdx.filter fun p => decide (p.1.st = s) && decide (p.1.sg = c)).map fun p => .int (p.2 : Nat)) := by
    have hl2 : m_Machine_leading [machD signs m E, kN s, .str [c]] = _ := hlead
    unfold tE
    simp only [iSeq_e, eMeth_e, eVar_z, eVar_s, hM, hob, aCons_e, aNil_e, Rs.bind_ok, kN_peel, peel_data, isData_str, List.all_cons, List.all_nil, kN_data, Bool.and_self, List.length_cons, List.length_nil, decide_true, if_true, hl2, itemsOf_tup]
    rw [List.map_map]
    rfl
  unfold b1_trimmed
  rw [sFor_ok hit]
  obtain ⟨q, _⟩ := forL_fold (h := gN 8) (body := b0_trimmed) (w := [8, 9]) (fun p : Edge × Nat => .int (p.2 : Nat)) (fun S => tE (machD signs m E) A S a (some (kN s)) (some (.str [c])) none none) (fun S p => if alB A p.1.tg then proc S p.1 else S)
    (fun xs S => WInv signs T S ∧ s ∈ NK S.1 ∧ S.2.length + xs.length < 1000000 ∧ ∀ p ∈ xs, p ∈ E.zipIdx ∧ p.1.st = s ∧ p.1.sg = c) (E.zipIdx.filter fun p => decide (p.1.st = s) && decide (p.1.sg = c)) S
    ⟨h, hin, by
      have : (E.zipIdx.filter fun p => decide (p.1.st = s) && decide (p.1.sg = c)).length ≤ E.zipIdx.length := List.length_filter_le _ _
      simp at this ⊢
      omega, fun p hp => by
      have := List.mem_filter.mp hp
      simp at this
      exact ⟨this.1, this.2.1, this.2.2⟩⟩ (fun p xs S hi => by
      obtain ⟨h1, h2, h3, h4⟩ := hi
      obtain ⟨k1, k2, k3⟩ := h4 p (by simp)
      rw [List.length_cons] at h3
      have hk : E[p.2]? = some p.1 := by
        have := List.mem_zipIdx_iff_getElem?.mp (show (p.1, p.2) ∈ E.zipIdx from k1)
        simpa using this
      have hC := C.ok p.1 (List.mem_of_getElem? hk)
      refine ⟨_, rfl, trim_step hk h1 (by have := C.tl; omega) k2 k3 h2 (by omega), ?_⟩
      split
      · have g := h1.proc hC.1 hC.2 (by rw [k2]; exact h2)
        refine ⟨g, ((add_keep h1.fnd p.1.tg).1 _ h2).1, ?_, fun q hq => h4 q (by simp [hq])⟩
        show (S.2 ++ [_]).length + xs.length < _
        simp; omega
      · exact ⟨h1, h2, by omega, fun q hq => h4 q (by simp [hq])⟩)
  rw [cand_zip] at q
  exact q
theorem trim_visit {signs T : List Nat} {m : Nat} {E : List Edge} (C : Ctx signs T m E) {A : List Nat} {S : WS} {a s : Nat} (h : WInv signs T S) (hin : s ∈ S.1) (hr : S.2.length ≤ 500000) :
    sFor (iSeq (eBin pAdd (eBin pAdd (eC (.str [94])) (eFld [0] "signs" (eVar 0))) (eC (.str [36])))) (gN 7) b1_trimmed [7, 8, 9] (tE (machD signs m E) A S a (some (kN s)) none none none) = .nx (tE (machD signs m E) A (visit (alB A) E (csOf signs) S s) a (some (kN s)) none none none) := by
  have hM : peel (machD signs m E) = machD signs m E := rfl
  have hsl := C.sl
  have hel := C.el
  have hcl := cs_len C
  have hit : iSeq (eBin pAdd (eBin pAdd (eC (.str [94])) (eFld [0] "signs" (eVar 0))) (eC (.str [36]))) (tE (machD signs m E) A S a (some (kN s)) none none none) = .ok ((csOf signs).map fun c => .str [c]) := by
    have b1 : 1 + signs.length ≤ 16777216 := by omega
    have b2 : signs.length + 1 + 1 ≤ 16777216 := by omega
    unfold tE
    simp [hM, fld_signs, b1, b2, csOf]
  rw [sFor_ok hit]
  obtain ⟨q, _⟩ := forL_fold (h := gN 7) (body := b1_trimmed) (w := [7, 8, 9]) (fun c : Nat => .str [c]) (fun S => tE (machD signs m E) A S a (some (kN s)) none none none) (fun S c => (cand (alB A) E s c).foldl proc S)
    (fun xs S => WInv signs T S ∧ s ∈ NK S.1 ∧ S.2.length + xs.length * E.length ≤ 511000) (csOf signs) S ⟨h, mem_nk h.fnd hin, by
      have : (csOf signs).length * E.length ≤ 11 * 1000 := Nat.mul_le_mul hcl hel
      omega⟩ (fun c xs S hi => by
      obtain ⟨h1, h2, h3⟩ := hi
      rw [List.length_cons, Nat.add_mul] at h3
      obtain ⟨g1, g2, g3, _⟩ := WInv.procs (cand (alB A) E s c) h1 fun e he => ⟨(C.ok e (cand_sub e he).1).1, (C.ok e (cand_sub e he).1).2, by rw [(cand_sub e he).2.1]; exact h2⟩
      have hl : (cand (alB A) E s c).length ≤ E.length := List.length_filter_le _ _
      exact ⟨_, rfl, ⟨_, .inl (trim_inner C h1 h2 (by omega)), rfl⟩, g1, g2 s h2, by rw [g3]; omega⟩)
  exact q
theorem trim_loop {signs T : List Nat} {m : Nat} {E : List Edge} (C : Ctx signs T m E) (A : List Nat) :
    ∃ a, whileL c3_trimmed b2_trimmed [6, 7, 8, 9] 1000000000 (tE (machD signs m E) A ([0], []) 0 none none none none) = .nx (tE (machD signs m E) A (loopW (alB A) E (csOf signs) 1000 0 ([0], [])) a none none none none) := by
  have hel := C.el
  have htl := C.tl
  have hcl := cs_len C
  have hmul : (csOf signs).length * E.length ≤ 11 * 1000 := Nat.mul_le_mul hcl hel
  refine whileL_gen (c := c3_trimmed) (body := b2_trimmed) (w := [6, 7, 8, 9]) (fun k en => ∃ S a, en = tE (machD signs m E) A S a none none none none ∧ WInv signs T S ∧ a ≤ S.1.length ∧ S.2.length ≤ a * 11000 ∧ loopW (alB A) E (csOf signs) (1000 - a) a S = loopW (alB A) E (csOf signs) 1000 0 ([0], []) ∧ k = 40 - a)
    (fun r => ∃ a, r = .nx (tE (machD signs m E) A (loopW (alB A) E (csOf signs) 1000 0 ([0], [])) a none none none none)) 1000000000 _ 40 ⟨([0], []), 0, rfl, WInv.start signs T C.t0, Nat.zero_le _, Nat.zero_le _, rfl, rfl⟩ (by omega) ?_
  rintro k en ⟨S, a, rfl, h, ha, hr, hl, rfl⟩
  have hlen := h.len
  by_cases hlt : a < S.1.length
  · have e1 : c3_trimmed (tE (machD signs m E) A S a none none none none) = .ok true := by
      unfold c3_trimmed tE
      simp [hlt]
    rw [e1, TsP_t]
    obtain ⟨s, hs⟩ : ∃ s, S.1[a]? = some s := ⟨_, List.getElem?_eq_getElem hlt⟩
    have hmem := List.mem_of_getElem? hs
    have e2 : sSet 6 (eBin pIx (eVar 3) (eVar 5)) (tE (machD signs m E) A S a none none none none) = .nx (tE (machD signs m E) A S a (some (kN s)) none none none) := by
      have : pIx (.olst (S.1.map kN)) (.int (a : Nat)) = some (kN s) := by
        rw [pIx_olst, List.getElem?_map, hs]; rfl
      unfold tE
      simp [this, kN_data]
    have e3 := trim_visit C (A := A) (a := a) h hmem (by omega)
    have e4 : sAug 5 pAddI (eC (.int 1)) (tE (machD signs m E) A (visit (alB A) E (csOf signs) S s) a (some (kN s)) none none none) = .nx (tE (machD signs m E) A (visit (alB A) E (csOf signs) S s) (a + 1) (some (kN s)) none none none) := by
      unfold tE
      simp
    have e5 : b2_trimmed (tE (machD signs m E) A S a none none none none) = .nx (tE (machD signs m E) A (visit (alB A) E (csOf signs) S s) (a + 1) (some (kN s)) none none none) := by
      unfold b2_trimmed
      rw [sSeq_e, e2, seqR_nx, sSeq_e, e3, seqR_nx, e4]
    rw [e5, LpP_nx]
    obtain ⟨g1, g2, t, g3⟩ := WInv.visit (al := alB A) C.ok (csOf signs) h (mem_nk h.fnd hmem)
    refine ⟨40 - (a + 1), by omega, visit (alB A) E (csOf signs) S s, a + 1, rfl, g1, by rw [g3, List.length_append]; omega, by omega, ?_, rfl⟩
    rw [← hl]
    have : 1000 - a = (1000 - (a + 1)) + 1 := by omega
    rw [this]
    show _ = (match S.1[a]? with | none => S | some s => loopW (alB A) E (csOf signs) (1000 - (a + 1)) (a + 1) (visit (alB A) E (csOf signs) S s))
    rw [hs]
  · have e1 : c3_trimmed (tE (machD signs m E) A S a none none none none) = .ok false := by
      unfold c3_trimmed tE
      have : S.1.length ≤ a := by omega
      simp [this]
    rw [e1, TsP_f]
    refine ⟨a, ?_⟩
    have : 1000 - a = (1000 - (a + 1)) + 1 := by omega
    rw [this] at hl
    have hn : S.1[a]? = none := by rw [List.getElem?_eq_none_iff]; omega
    have : loopW (alB A) E (csOf signs) ((1000 - (a + 1)) + 1) a S = S := by
      show (match S.1[a]? with | none => S | some s => _) = S
      rw [hn]
    rw [← hl, this]
theorem loop_rows {signs T : List Nat} {m : Nat} {E : List Edge} (C : Ctx signs T m E) {al : Nat → Bool} : ∀ (n a : Nat) {S : WS}, WInv signs T S → a ≤ S.1.length → S.2.length ≤ a * 11000 → (loopW al E (csOf signs) n a S).2.length ≤ 440000
  | 0, a, S, h, ha, hr => by
    have := h.len
    have := C.tl
    show S.2.length ≤ _
    omega
  | n + 1, a, S, h, ha, hr => by
    have h1 := h.len
    have h2 := C.tl
    unfold loopW
    cases e2 : S.1[a]? with
    | none => show S.2.length ≤ _; omega
    | some s =>
      have hmul : (csOf signs).length * E.length ≤ 11 * 1000 := Nat.mul_le_mul (cs_len C) C.el
      have hlt := (List.getElem?_eq_some_iff.mp e2).1
      obtain ⟨g1, g2, t, g3⟩ := WInv.visit (al := al) C.ok (csOf signs) h (mem_nk h.fnd (List.mem_of_getElem? e2))
      exact loop_rows C n (a + 1) g1 (by rw [g3, List.length_append]; omega) (by omega)
theorem trimmed_ok {signs T : List Nat} {m : Nat} {E : List Edge} (C : Ctx signs T m E) : ∃ A, (∀ x, x ∈ A ↔ Alive E x) ∧ m_trimmed [machD signs m E] = .ok (if 0 ∈ A then machD signs ((loopW (alB A) E (csOf signs) 1000 0 ([0], [])).1.length + 1) (loopW (alB A) E (csOf signs) 1000 0 ([0], [])).2 else machD signs 2 []) := by
  have hel := C.el
  have hsl := C.sl
  obtain ⟨A, hA, hiff⟩ := ending_ok (signs := signs) (m := m) (E := E) (by omega)
  refine ⟨A, hiff, ?_⟩
  have hM : peel (machD signs m E) = machD signs m E := rfl
  have hMd : isData (machD signs m E) = true := rfl
  have p1 : peel (dAf A) = dAf A := rfl
  have d1 : isData (dAf A) = true := rfl
  rw [e_trimmed]
  unfold g_trimmed
  have s1 : sSet 1 (eApp 1 m_ending_states (aCons (eVar 0) aNil)) [some (machD signs m E), none, none, none, none, none, none, none, none, none] = .nx [some (machD signs m E), some (dAf A), none, none, none, none, none, none, none, none] := by
    simp [hM, hMd, hA, d1]
  rw [sSeq_e, s1, seqR_nx]
  unfold t10_trimmed
  by_cases h0 : 0 ∈ A
  · have hn := notin_Af A 0
    have s2 : sIf (eB (eBin pNotIn2 (eC (.int 0)) (eVar 1))) (sRet (eApp 3 m_Machine___init__ (aCons (eFld [0] "signs" (eVar 0)) (aCons (eC (.int 2)) (aCons (eTup aNil) aNil))))) sPass [some (machD signs m E), some (dAf A), none, none, none, none, none, none, none, none] = .nx [some (machD signs m E), some (dAf A), none, none, none, none, none, none, none, none] := by
      have hn' : pNotIn2 (.int 0) (dAf A) = some (.bl false) := by rw [show (D.int 0) = kN 0 from rfl, hn]; simp [h0]
      simp [p1, hn']
    rw [sSeq_e, s2, seqR_nx]
    unfold t9_trimmed
    have s3 : sSetN 2 (eDisp 0 (psCons (eC (.int 0)) (eC (.int 0)) (psCons (eC (.int 1)) (eC (.int 1)) psNil))) [some (machD signs m E), some (dAf A), none, none, none, none, none, none, none, none] = .nx [some (machD signs m E), some (dAf A), some (dN [0]), none, none, none, none, none, none, none] := by
      rw [sSetN_ok (d := dN [0])]
      · rfl
      · simp; rfl
    rw [sSeq_e, s3, seqR_nx]
    unfold t8_trimmed t7_trimmed t6_trimmed
    have s4 : sSetL 3 (eLst (aCons (eC (.int 0)) aNil)) [some (machD signs m E), some (dAf A), some (dN [0]), none, none, none, none, none, none, none] = .nx [some (machD signs m E), some (dAf A), some (dN [0]), some (.olst [kN 0]), none, none, none, none, none, none] := by
      simp; rfl
    rw [sSeq_e, s4, seqR_nx]
    have s5 : sSetL 4 (eLst aNil) [some (machD signs m E), some (dAf A), some (dN [0]), some (.olst [kN 0]), none, none, none, none, none, none] = .nx [some (machD signs m E), some (dAf A), some (dN [0]), some (.olst [kN 0]), some (.olst []), none, none, none, none, none] := by
      simp
    rw [sSeq_e, s5, seqR_nx]
    have s6 : sSet 5 (eC (.int 0)) [some (machD signs m E), some (dAf A), some (dN [0]), some (.olst [kN 0]), some (.olst []), none, none, none, none, none] = .nx (tE (machD signs m E) A ([0], []) 0 none none none none) := by
      simp; rfl
    rw [sSeq_e, s6, seqR_nx]
    unfold t5_trimmed
    obtain ⟨a, hw⟩ := trim_loop C A
    have s7 : sWhile 1000000000 c3_trimmed b2_trimmed [6, 7, 8, 9] (tE (machD signs m E) A ([0], []) 0 none none none none) = _ := hw
    rw [sSeq_e, s7, seqR_nx]
    have W := WInv.loop (al := alB A) C.ok (csOf signs) 1000 0 (WInv.start signs T C.t0)
    have hb := loop_rows C (al := alB A) 1000 0 (WInv.start signs T C.t0) (Nat.zero_le _) (Nat.zero_le _)
    generalize loopW (alB A) E (csOf signs) 1000 0 ([0], []) = R at W hb
    rw [if_pos h0]
    unfold t4_trimmed
    have hlen := W.len
    have htl := C.tl
    have hne : 1 ≤ R.1.length := by
      obtain ⟨t, e, _⟩ := W.fnd
      rw [e]; simp
    have hnk := nk_len W.fnd
    have hmk := mach_ok (signs := signs) (m := R.1.length + 1) (E := R.2) (X := .lst (R.2.map edgeD)) C.sg (by omega) (by omega) W.rows (by have : 0 * 11000 + 1000 * 11000 = 11000000 := rfl; have h9 : R.2.length ≤ 440000 := hb; omega) (.inr rfl)
    have hall : (R.2.map edgeD).all isData = true := by
      rw [List.all_map]
      exact List.all_eq_true.mpr fun _ _ => rfl
    have pN : peel (dN R.1) = dN R.1 := rfl
    have hlN := len_N R.1
    rw [hnk] at hlN
    have hmd : isData (machD signs (R.1.length + 1) R.2) = true := rfl
    unfold tE
    rw [sFrz_e]
    simp only [List.getElem?_cons_succ, List.getElem?_cons_zero, hall, if_true]
    have hmk' : m_Machine___init__ [.str signs, .int ((R.1.length : Int) + 1), .lst (R.2.map edgeD)] = .ok (machD signs (R.1.length + 1) R.2) := hmk
    simp [hM, fld_signs, pN, hlN, hmk', hmd]
  · have hn := notin_Af A 0
    have hmk := mach_ok (signs := signs) (m := 2) (E := []) (X := .tup []) C.sg (by omega) (by omega) (fun e he => nomatch he) (by simp) (.inl rfl)
    have hmd : isData (machD signs 2 []) = true := rfl
    have s2 : sIf (eB (eBin pNotIn2 (eC (.int 0)) (eVar 1))) (sRet (eApp 3 m_Machine___init__ (aCons (eFld [0] "signs" (eVar 0)) (aCons (eC (.int 2)) (aCons (eTup aNil) aNil))))) sPass [some (machD signs m E), some (dAf A), none, none, none, none, none, none, none, none] = .rt (machD signs 2 []) [] := by
      have hn' : pNotIn2 (.int 0) (dAf A) = some (.bl true) := by rw [show (D.int 0) = kN 0 from rfl, hn]; simp [h0]
      have hmk' : m_Machine___init__ [.str signs, .int 2, .tup []] = .ok (machD signs 2 []) := hmk
      simp [p1, hn', hM, fld_signs, hmk', hmd]
    rw [sSeq_e, s2, seqR_rt, if_neg h0]
    rfl
end Law

set_option Elab.async false
set_option linter.all false
set_option maxRecDepth 100000
namespace Law
open Z PySem L2
/-! ### the law's own walk -/
def passS (A : List Nat) (e : Edge) : List Nat := if e.tg ∈ A then addA A e.st else A
theorem addA_len (A : List Nat) (x : Nat) : A.length ≤ (addA A x).length ∧ ((addA A x).length = A.length → x ∈ A) ∧ (addA A x).length ≤ A.length + 1 := by
  unfold addA
  by_cases h : x ∈ A
  · simp [h]
  · simp [h]
theorem pass_len : ∀ (E : List Edge) (A : List Nat), A.length ≤ (E.foldl passS A).length ∧ ((E.foldl passS A).length = A.length → ∀ e ∈ E, e.tg ∈ A → e.st ∈ A)
  | [], A => ⟨Nat.le_refl _, fun _ e he => nomatch he⟩
  | e :: E, A => by
    obtain ⟨h1, h2⟩ := pass_len E (passS A e)
    rw [List.foldl_cons]
    by_cases ht : e.tg ∈ A
    · have hp : passS A e = addA A e.st := if_pos ht
      obtain ⟨k1, k2, k3⟩ := addA_len A e.st
      rw [hp] at h1 h2 ⊢
      refine ⟨by omega, fun hl => ?_⟩
      have hin : e.st ∈ A := k2 (by omega)
      have hA : addA A e.st = A := if_pos hin
      rw [hA] at h2 hl
      intro e' he' ht'
      rcases List.mem_cons.mp he' with z | z
      · rw [z]; exact hin
      · exact h2 hl e' z ht'
    · have hp : passS A e = A := if_neg ht
      rw [hp] at h1 h2 ⊢
      refine ⟨h1, fun hl e' he' ht' => ?_⟩
      rcases List.mem_cons.mp he' with z | z
      · rw [z] at ht'; exact absurd ht' ht
      · exact h2 hl e' z ht'
theorem pass_inv {E0 : List Edge} : ∀ (E : List Edge) (A : List Nat), (∀ e ∈ E, e ∈ E0) → A.Nodup → (∀ a ∈ A, Alive E0 a) → (E.foldl passS A).Nodup ∧ (∀ a ∈ E.foldl passS A, Alive E0 a) ∧ ∀ a ∈ A, a ∈ E.foldl passS A
  | [], A, _, h1, h2 => ⟨h1, h2, fun _ z => z⟩
  | e :: E, A, hs, h1, h2 => by
    rw [List.foldl_cons]
    have q : (passS A e).Nodup ∧ (∀ a ∈ passS A e, Alive E0 a) ∧ ∀ a ∈ A, a ∈ passS A e := by
      unfold passS
      split
      · rename_i ht
        refine ⟨nodup_addA h1, fun a ha => ?_, fun a ha => mem_addA.mpr (.inl ha)⟩
        rcases mem_addA.mp ha with z | z
        · exact h2 a z
        · rw [z]; exact .step (hs e (by simp)) (h2 _ ht)
      · exact ⟨h1, h2, fun _ z => z⟩
    obtain ⟨r1, r2, r3⟩ := pass_inv E (passS A e) (fun e' h' => hs e' (by simp [h'])) q.1 q.2.1
    exact ⟨r1, r2, fun a ha => r3 a (q.2.2 a ha)⟩
def wE (X : D) (signs : List Nat) (A : List Nat) (s3 s4 s5 : Option D) : En := [some X, some (.str signs), some (dA A), s3, s4, s5, none, none, none, none, none, none, none, none, none, none]
theorem walk_round {E : List Edge} {signs A : List Nat} {s3 s4 : Option D} (hA : A.Nodup) (hal : ∀ a ∈ A, Alive E a) (hE : E.length ≤ 1000) :
    forL (gN 5) b0__law_walked [5] (E.map edgeD) (wE (.lst (E.map edgeD)) signs A s3 s4 none) = .nx (wE (.lst (E.map edgeD)) signs (E.foldl passS A) s3 s4 none) := by
  obtain ⟨q, _⟩ := forL_fold (h := gN 5) (body := b0__law_walked) (w := [5]) edgeD (fun A => wE (.lst (E.map edgeD)) signs A s3 s4 none) passS (fun xs A => A.Nodup ∧ (∀ a ∈ A, Alive E a) ∧ ∀ e ∈ xs, e ∈ E) E A ⟨hA, hal, fun _ z => z⟩ (fun e xs A hi => by
    obtain ⟨h1, h2, h3⟩ := hi
    have hl := alive_len h1 h2
    obtain ⟨g1, g2, _⟩ := pass_inv [e] A (fun e' h' => h3 e' (by rw [List.mem_singleton.mp h']; simp)) h1 h2
    have pA : peel (dA A) = dA A := rfl
    refine ⟨_, rfl, ⟨wE (.lst (E.map edgeD)) signs (passS A e) s3 s4 (some (edgeD e)), .inl ?_, rfl⟩, g1, g2, fun e' h' => h3 e' (by simp [h'])⟩
    show b0__law_walked (wE (.lst (E.map edgeD)) signs A s3 s4 (some (edgeD e))) = _
    unfold b0__law_walked passS
    by_cases ht : e.tg ∈ A
    · have h5 : sPut 2 pmVar (eBin pIx (eVar 5) (eC (.int 0))) (eDat (eC (.bl true))) (wE (.lst (E.map edgeD)) signs A s3 s4 (some (edgeD e))) = .nx (wE (.lst (E.map edgeD)) signs (addA A e.st) s3 s4 (some (edgeD e))) := by
        rw [sPutV_ok (d := .bl true) (k := kN e.st) (d0 := dA A) (by simp) rfl (by unfold wE; simp [edgeD_peel, ix_e0]) (put_A (by omega) e.st)]
        rfl
      rw [sIf_e, h5]
      have h4 : (eB (eBin pIn2 (eBin pIx (eVar 5) (eC (.int 3))) (eVar 2))) (wE (.lst (E.map edgeD)) signs A s3 s4 (some (edgeD e))) = .ok true := by
        unfold wE
        simp [pA, edgeD_peel, ix_e3, in_A, ht]
      rw [h4, ifR_t, if_pos ht]
    · rw [sIf_e]
      have h4 : (eB (eBin pIn2 (eBin pIx (eVar 5) (eC (.int 3))) (eVar 2))) (wE (.lst (E.map edgeD)) signs A s3 s4 (some (edgeD e))) = .ok false := by
        unfold wE
        simp [pA, edgeD_peel, ix_e3, in_A, ht]
      rw [h4, ifR_f, if_neg ht, sPass_e])
  exact q
theorem rng_get {n i : Nat} {d : D} (h : (rngL 0 n)[i]? = some d) : i < n ∧ d = .int (i : Nat) := by
  rw [rngL_map, List.getElem?_map] at h
  by_cases hi : i < n
  · simp [hi] at h
    exact ⟨hi, h.symm⟩
  · simp [hi] at h
theorem walk_alive {E : List Edge} {signs : List Nat} (hE : E.length ≤ 1000) :
    ∃ A, forL (gN 3) b1__law_walked [3, 4, 5] (rngL 0 (E.length + 1)) (wE (.lst (E.map edgeD)) signs [1] none none none) = .nx (wE (.lst (E.map edgeD)) signs A none none none) ∧ ∀ x, x ∈ A ↔ Alive E x := by
  refine forL_gen (h := gN 3) (body := b1__law_walked) (w := [3, 4, 5]) (fun i en => ∃ A, en = wE (.lst (E.map edgeD)) signs A none none none ∧ A.Nodup ∧ (∀ a ∈ A, Alive E a) ∧ 1 ∈ A ∧ i + 1 ≤ A.length)
    (fun r => ∃ A, r = .nx (wE (.lst (E.map edgeD)) signs A none none none) ∧ ∀ x, x ∈ A ↔ Alive E x) _ 0 _ ⟨[1], rfl, by simp, fun a ha => by rw [List.mem_singleton.mp ha]; exact .one, by simp, Nat.le_refl _⟩ ?_ ?_
  · rintro i d en hd ⟨A, rfl, h1, h2, h3, h4⟩
    obtain ⟨_, rfl⟩ := rng_get hd
    have hg : gN 3 (.int (i : Nat)) (wE (.lst (E.map edgeD)) signs A none none none) = some (wE (.lst (E.map edgeD)) signs A (some (.int (i : Nat))) none none) := rfl
    rw [hg, SoP_some]
    have pA : ∀ A, peel (dA A) = dA A := fun _ => rfl
    have s1 : sSet 4 (eCall bLen2 (aCons (eVar 2) aNil)) (wE (.lst (E.map edgeD)) signs A (some (.int (i : Nat))) none none) = .nx (wE (.lst (E.map edgeD)) signs A (some (.int (i : Nat))) (some (.int (A.length : Nat))) none) := by
      unfold wE
      simp [pA, len_A]
    have s2 : sFor (iSeq (eVar 0)) (gN 5) b0__law_walked [5] (wE (.lst (E.map edgeD)) signs A (some (.int (i : Nat))) (some (.int (A.length : Nat))) none) = .nx (wE (.lst (E.map edgeD)) signs (E.foldl passS A) (some (.int (i : Nat))) (some (.int (A.length : Nat))) none) := by
      rw [sFor_ok (ds := E.map edgeD) (by unfold wE; simp)]
      exact walk_round h1 h2 hE
    obtain ⟨g1, g2, g3⟩ := pass_inv E A (fun _ z => z) h1 h2
    obtain ⟨k1, k2⟩ := pass_len E A
    unfold b1__law_walked
    rw [sSeq_e, s1, seqR_nx, sSeq_e, s2, seqR_nx, sIf_e]
    have e1 : (eB (eBin pEq (eCall bLen2 (aCons (eVar 2) aNil)) (eVar 4))) (wE (.lst (E.map edgeD)) signs (E.foldl passS A) (some (.int (i : Nat))) (some (.int (A.length : Nat))) none) = .ok (decide ((E.foldl passS A).length = A.length)) := by
      unfold wE
      simp [pA, len_A]
      omega
    rw [e1]
    by_cases hl : (E.foldl passS A).length = A.length
    · rw [decide_eq_true hl, ifR_t, sBreak_e, LpP_bk]
      refine ⟨E.foldl passS A, rfl, alive_iff (g3 1 h3) g2 fun e he ht => ?_⟩
      have hall : ∀ x, x ∈ E.foldl passS A → x ∈ A := fun x hx => Classical.byContradiction fun hn => by
        have : (x :: A).length ≤ (E.foldl passS A).length := nodup_len (List.nodup_cons.mpr ⟨hn, h1⟩) fun y hy => by
          rcases List.mem_cons.mp hy with z | z
          · rw [z]; exact hx
          · exact g3 y z
        rw [List.length_cons] at this
        omega
      exact g3 _ (k2 hl e he (hall _ ht))
    · rw [decide_eq_false hl, ifR_f, sPass_e, LpP_nx]
      exact ⟨E.foldl passS A, rfl, g1, g2, g3 1 h3, by omega⟩
  · rintro en ⟨A, rfl, h1, h2, h3, h4⟩
    rw [rngL_len] at h4
    have := alive_len h1 h2
    omega
def lE (E : List Edge) (signs A : List Nat) (S : WS) (a : Nat) (s10 s11 s12 s13 s14 s15 : Option D) : En := [some (.lst (E.map edgeD)), some (.str signs), some (dA A), none, none, none, some (dN S.1), some (.olst (S.1.map kN)), some (.olst (S.2.map edgeD)), some (.int (a : Nat)), s10, s11, s12, s13, s14, s15]
theorem law_step {signs T : List Nat} {m : Nat} {E : List Edge} (C : Ctx signs T m E) {A : List Nat} {S : WS} {a s c : Nat} {e : Edge} (he : e ∈ E) (h : WInv signs T S) (hs : S.1[a]? = some s) (hr : S.2.length < 1000000) :
    b2__law_walked (lE E signs A S a (some (.str [c])) (some (kN e.st)) (some (.str [e.sg])) (some (.str e.wd)) (some (kN e.tg)) (some (.tup e.lk))) =
      .nx (lE E signs A (if decide (e.st = s) && (decide (e.sg = c) && alB A e.tg) then proc S e else S) a (some (.str [c])) (some (kN e.st)) (some (.str [e.sg])) (some (.str e.wd)) (some (kN e.tg)) (some (.tup e.lk))) := by
  have hC := C.ok e he
  have hlen := h.len
  have htl := C.tl
  have pA : peel (dA A) = dA A := rfl
  have pN : ∀ fd, peel (dN fd) = dN fd := fun _ => rfl
  have hix : pIx (.olst (S.1.map kN)) (.int (a : Nat)) = some (kN s) := by
    rw [pIx_olst, List.getElem?_map, hs]; rfl
  have heq : pEq (kN e.st) (kN s) = some (.bl (decide (e.st = s))) := by
    unfold kN
    rw [pEq_int]
    congr 2
    exact decide_eq_decide.mpr (by omega)
  have hcond : (eAnd (eB (eBin pEq (eVar 11) (eBin pIx (eVar 7) (eVar 9)))) (eAnd (eB (eBin pEq (eVar 12) (eVar 10))) (eB (eBin pIn2 (eVar 14) (eVar 2))))) (lE E signs A S a (some (.str [c])) (some (kN e.st)) (some (.str [e.sg])) (some (.str e.wd)) (some (kN e.tg)) (some (.tup e.lk)))
      = .ok (decide (e.st = s) && (decide (e.sg = c) && alB A e.tg)) := by
    unfold lE alB
    have h1 : decide (([e.sg] : List Nat) = [c]) = decide (e.sg = c) := decide_eq_decide.mpr (by simp)
    have heq2 : pEq (kN s) (kN s) = some (.bl true) := by unfold kN; rw [pEq_int]; simp
    by_cases k1 : e.st = s
    · by_cases k2 : e.sg = c
      · simp [hix, heq2, k1, k2, kN_peel, pA, in_A]
      · simp [hix, heq2, k1, k2, kN_peel, pA, in_A]
    · simp [hix, heq, k1, kN_peel, pA, in_A]
  unfold b2__law_walked
  rw [sIf_e, hcond]
  cases hb : decide (e.st = s) && (decide (e.sg = c) && alB A e.tg) with
  | false => rw [ifR_f, sPass_e]; rfl
  | true =>
    rw [ifR_t, if_pos rfl]
    simp only [Bool.and_eq_true, decide_eq_true_eq] at hb
    obtain ⟨k1, k2, k3⟩ := hb
    have hin : e.st ∈ NK S.1 := by rw [k1]; exact mem_nk h.fnd (List.mem_of_getElem? hs)
    have s3 : sIf (eB (eBin pNotIn2 (eVar 14) (eVar 6))) (sSeq (sPut 6 pmVar (eVar 14) (eDat (eCall bLen2 (aCons (eVar 6) aNil)))) (sApp 7 (eVar 14))) sPass
        (lE E signs A S a (some (.str [c])) (some (kN e.st)) (some (.str [e.sg])) (some (.str e.wd)) (some (kN e.tg)) (some (.tup e.lk))) = .nx (lE E signs A (addF S.1 e.tg, S.2) a (some (.str [c])) (some (kN e.st)) (some (.str [e.sg])) (some (.str e.wd)) (some (kN e.tg)) (some (.tup e.lk))) := by
      unfold addF
      by_cases hn : e.tg ∈ NK S.1
      · have h4 : (eB (eBin pNotIn2 (eVar 14) (eVar 6))) (lE E signs A S a (some (.str [c])) (some (kN e.st)) (some (.str [e.sg])) (some (.str e.wd)) (some (kN e.tg)) (some (.tup e.lk))) = .ok false := by
          unfold lE
          simp [pN, kN_peel, notin_N, hn]
        rw [sIf_e, h4, ifR_f, if_pos hn, sPass_e]
      · have h1 : sPut 6 pmVar (eVar 14) (eDat (eCall bLen2 (aCons (eVar 6) aNil))) (lE E signs A S a (some (.str [c])) (some (kN e.st)) (some (.str [e.sg])) (some (.str e.wd)) (some (kN e.tg)) (some (.tup e.lk)))
            = .nx [some (.lst (E.map edgeD)), some (.str signs), some (dA A), none, none, none, some (dN (S.1 ++ [e.tg])), some (.olst (S.1.map kN)), some (.olst (S.2.map edgeD)), some (.int (a : Nat)), some (.str [c]), some (kN e.st), some (.str [e.sg]), some (.str e.wd), some (kN e.tg), some (.tup e.lk)] := by
          rw [sPutV_ok (d := .int ((NK S.1).length : Nat)) (k := kN e.tg) (d0 := dN S.1) (by unfold lE; simp [pN, len_N]) rfl (by unfold lE; simp [kN_peel]) (put_N h.fnd (by omega) hn)]
          rfl
        have h2 : S.1.length < 16777216 := by omega
        have h3 : (sSeq (sPut 6 pmVar (eVar 14) (eDat (eCall bLen2 (aCons (eVar 6) aNil)))) (sApp 7 (eVar 14))) (lE E signs A S a (some (.str [c])) (some (kN e.st)) (some (.str [e.sg])) (some (.str e.wd)) (some (kN e.tg)) (some (.tup e.lk)))
            = .nx (lE E signs A (S.1 ++ [e.tg], S.2) a (some (.str [c])) (some (kN e.st)) (some (.str [e.sg])) (some (.str e.wd)) (some (kN e.tg)) (some (.tup e.lk))) := by
          rw [sSeq_e, h1, seqR_nx]
          unfold lE
          simp [kN_peel, kN_data, h2]
        have h4 : (eB (eBin pNotIn2 (eVar 14) (eVar 6))) (lE E signs A S a (some (.str [c])) (some (kN e.st)) (some (.str [e.sg])) (some (.str e.wd)) (some (kN e.tg)) (some (.tup e.lk))) = .ok true := by
          unfold lE
          simp [pN, kN_peel, notin_N, hn]
        rw [sIf_e, h3, h4, ifR_t, if_neg hn]
    have g1 : e.st ∈ NK (addF S.1 e.tg) := ((add_keep h.fnd e.tg).1 _ hin).1
    have g2 : e.tg ∈ NK (addF S.1 e.tg) := add_mem h.fnd e.tg
    have s4 : sApp 8 (eTup (aCons (eBin pSub2 (eVar 6) (eVar 11)) (aCons (eVar 10) (aCons (eVar 13) (aCons (eBin pSub2 (eVar 6) (eVar 14)) (aCons (eVar 15) aNil))))))
        (lE E signs A (addF S.1 e.tg, S.2) a (some (.str [c])) (some (kN e.st)) (some (.str [e.sg])) (some (.str e.wd)) (some (kN e.tg)) (some (.tup e.lk))) = .nx (lE E signs A (proc S e) a (some (.str [c])) (some (kN e.st)) (some (.str [e.sg])) (some (.str e.wd)) (some (kN e.tg)) (some (.tup e.lk))) := by
      have hz : S.2.length < 16777216 := by omega
      have : edgeD (re (ixF (addF S.1 e.tg)) e) = .tup [.int (ixF (addF S.1 e.tg) e.st : Nat), .str [e.sg], .str e.wd, .int (ixF (addF S.1 e.tg) e.tg : Nat), .tup e.lk] := rfl
      unfold lE proc
      simp [pN, kN_peel, sub_N g1, sub_N g2, hz, this, k2]
    rw [sSeq_e, s3, seqR_nx, s4]
theorem law_inner {signs T : List Nat} {m : Nat} {E : List Edge} (C : Ctx signs T m E) {A : List Nat} {S : WS} {a s c : Nat} (h : WInv signs T S) (hs : S.1[a]? = some s) (hr : S.2.length + E.length < 1000000) :
    b3__law_walked (lE E signs A S a (some (.str [c])) none none none none none) = .nx (lE E signs A ((cand (alB A) E s c).foldl proc S) a (some (.str [c])) none none none none none) := by
  unfold b3__law_walked
  rw [sFor_ok (ds := E.map edgeD) (by unfold lE; simp)]
  obtain ⟨q, _⟩ := forL_fold (h := gT fun ds env => if ds.length = 5 then (gsCons (gN 11) (gsCons (gN 12) (gsCons (gN 13) (gsCons (gN 14) (gsCons (gN 15) gsNil))))) ds env else none) (body := b2__law_walked) (w := [11, 12, 13, 14, 15]) edgeD
    (fun S => lE E signs A S a (some (.str [c])) none none none none none) (fun S e => if decide (e.st = s) && (decide (e.sg = c) && alB A e.tg) then proc S e else S)
    (fun xs S => WInv signs T S ∧ S.1[a]? = some s ∧ S.2.length + xs.length < 1000000 ∧ ∀ e ∈ xs, e ∈ E) E S ⟨h, hs, hr, fun _ z => z⟩ (fun e xs S hi => by
      obtain ⟨h1, h2, h3, h4⟩ := hi
      rw [List.length_cons] at h3
      refine ⟨_, rfl, ⟨_, .inl (law_step C (h4 e (by simp)) h1 h2 (by omega)), rfl⟩, ?_⟩
      have hC := C.ok e (h4 e (by simp))
      cases hb : decide (e.st = s) && (decide (e.sg = c) && alB A e.tg) with
      | false => exact ⟨h1, h2, by simp; omega, fun e' h' => h4 e' (by simp [h'])⟩
      | true =>
        simp only [Bool.and_eq_true, decide_eq_true_eq] at hb
        have hin : e.st ∈ NK S.1 := by rw [hb.1]; exact mem_nk h1.fnd (List.mem_of_getElem? h2)
        rw [if_pos rfl]
        refine ⟨h1.proc hC.1 hC.2 hin, ?_, ?_, fun e' h' => h4 e' (by simp [h'])⟩
        · show (addF S.1 e.tg)[a]? = some s
          have hlt := (List.getElem?_eq_some_iff.mp h2).1
          unfold addF
          split
          · exact h2
          · rw [List.getElem?_append_left hlt]; exact h2
        · show (S.2 ++ [_]).length + xs.length < _
          simp; omega)
  have : (cand (alB A) E s c).foldl proc S = E.foldl (fun S e => if decide (e.st = s) && (decide (e.sg = c) && alB A e.tg) then proc S e else S) S := by
    unfold cand
    rw [List.foldl_filter]
  rw [this]
  exact q
end Law

set_option Elab.async false
set_option linter.all false
set_option maxRecDepth 100000
namespace Law
open Z PySem L2
def lE2 (E : List Edge) (signs A : List Nat) (S : WS) : En := [some (.lst (E.map edgeD)), some (.str signs), some (dA A), none, none, none, some (dN S.1), some (.olst (S.1.map kN)), some (.olst (S.2.map edgeD)), none, none, none, none, none, none, none]
theorem law_visit {signs T : List Nat} {m : Nat} {E : List Edge} (C : Ctx signs T m E) {A : List Nat} {S : WS} {a s : Nat} (h : WInv signs T S) (hs : S.1[a]? = some s) (hr : S.2.length ≤ 500000) :
    sFor (iSeq (eBin pAdd (eBin pAdd (eC (.str [94])) (eVar 1)) (eC (.str [36])))) (gN 10) b3__law_walked [10, 11, 12, 13, 14, 15] (lE E signs A S a none none none none none none) = .nx (lE E signs A (visit (alB A) E (csOf signs) S s) a none none none none none none) := by
  have hsl := C.sl
  have hel := C.el
  have hcl := cs_len C
  have hit : iSeq (eBin pAdd (eBin pAdd (eC (.str [94])) (eVar 1)) (eC (.str [36]))) (lE E signs A S a none none none none none none) = .ok ((csOf signs).map fun c => .str [c]) := by
    have b1 : 1 + signs.length ≤ 16777216 := by omega
    have b2 : signs.length + 1 + 1 ≤ 16777216 := by omega
    unfold lE
    simp [b1, b2, csOf]
  rw [sFor_ok hit]
  obtain ⟨q, _⟩ := forL_fold (h := gN 10) (body := b3__law_walked) (w := [10, 11, 12, 13, 14, 15]) (fun c : Nat => .str [c]) (fun S => lE E signs A S a none none none none none none) (fun S c => (cand (alB A) E s c).foldl proc S)
    (fun xs S => WInv signs T S ∧ S.1[a]? = some s ∧ S.2.length + xs.length * E.length ≤ 511000) (csOf signs) S ⟨h, hs, by
      have : (csOf signs).length * E.length ≤ 11 * 1000 := Nat.mul_le_mul hcl hel
      omega⟩ (fun c xs S hi => by
      obtain ⟨h1, h2, h3⟩ := hi
      rw [List.length_cons, Nat.add_mul] at h3
      have hin := mem_nk h1.fnd (List.mem_of_getElem? h2)
      obtain ⟨g1, g2, g3, t, g4⟩ := WInv.procs (cand (alB A) E s c) h1 fun e he => ⟨(C.ok e (cand_sub e he).1).1, (C.ok e (cand_sub e he).1).2, by rw [(cand_sub e he).2.1]; exact hin⟩
      have hl : (cand (alB A) E s c).length ≤ E.length := List.length_filter_le _ _
      have hlt := (List.getElem?_eq_some_iff.mp h2).1
      exact ⟨_, rfl, ⟨_, .inl (law_inner C h1 h2 (by omega)), rfl⟩, g1, by rw [g4, List.getElem?_append_left hlt]; exact h2, by rw [g3]; omega⟩)
  exact q
theorem law_loop {signs T : List Nat} {m : Nat} {E : List Edge} (C : Ctx signs T m E) (A : List Nat) :
    forL (gN 9) b4__law_walked [9, 10, 11, 12, 13, 14, 15] (rngL 0 40) (lE2 E signs A ([0], [])) = .nx (lE2 E signs A (loopW (alB A) E (csOf signs) 1000 0 ([0], []))) := by
  have hel := C.el
  have htl := C.tl
  have hcl := cs_len C
  have hmul : (csOf signs).length * E.length ≤ 11 * 1000 := Nat.mul_le_mul hcl hel
  refine forL_gen (h := gN 9) (body := b4__law_walked) (w := [9, 10, 11, 12, 13, 14, 15]) (fun i en => ∃ S, en = lE2 E signs A S ∧ WInv signs T S ∧ i ≤ S.1.length ∧ S.2.length ≤ i * 11000 ∧ loopW (alB A) E (csOf signs) (1000 - i) i S = loopW (alB A) E (csOf signs) 1000 0 ([0], []))
    (fun r => r = .nx (lE2 E signs A (loopW (alB A) E (csOf signs) 1000 0 ([0], [])))) _ 0 _ ⟨([0], []), rfl, WInv.start signs T C.t0, Nat.zero_le _, Nat.zero_le _, rfl⟩ ?_ ?_
  · rintro a d en hd ⟨S, rfl, h, ha, hr, hl⟩
    obtain ⟨ha40, rfl⟩ := rng_get hd
    rw [Nat.zero_add] at ha hr hl ⊢
    have hlen := h.len
    have hg : gN 9 (.int (a : Nat)) (lE2 E signs A S) = some (lE E signs A S a none none none none none none) := rfl
    rw [hg, SoP_some]
    unfold b4__law_walked
    rw [sSeq_e, sIf_e]
    have e1 : (eB (eBin pEq (eVar 9) (eCall bLen (aCons (eVar 7) aNil)))) (lE E signs A S a none none none none none none) = .ok (decide (a = S.1.length)) := by
      unfold lE
      simp
      omega
    rw [e1]
    by_cases hlt : a = S.1.length
    · rw [decide_eq_true hlt, ifR_t, sBreak_e, seqR_bk, LpP_bk]
      have : 1000 - a = (1000 - (a + 1)) + 1 := by omega
      rw [this] at hl
      have hn : S.1[a]? = none := by rw [List.getElem?_eq_none_iff]; omega
      have : loopW (alB A) E (csOf signs) ((1000 - (a + 1)) + 1) a S = S := by
        show (match S.1[a]? with | none => S | some s => _) = S
        rw [hn]
      rw [← hl, this]
      rfl
    · rw [decide_eq_false hlt, ifR_f, sPass_e, seqR_nx]
      obtain ⟨s, hs⟩ : ∃ s, S.1[a]? = some s := ⟨_, List.getElem?_eq_getElem (by omega)⟩
      rw [law_visit C h hs (by omega), LpP_nx]
      obtain ⟨g1, g2, t, g3⟩ := WInv.visit (al := alB A) C.ok (csOf signs) h (mem_nk h.fnd (List.mem_of_getElem? hs))
      refine ⟨visit (alB A) E (csOf signs) S s, rfl, g1, by rw [g3, List.length_append]; omega, by omega, ?_⟩
      rw [← hl]
      have : 1000 - a = (1000 - (a + 1)) + 1 := by omega
      rw [this]
      show _ = (match S.1[a]? with | none => S | some s => loopW (alB A) E (csOf signs) (1000 - (a + 1)) (a + 1) (visit (alB A) E (csOf signs) S s))
      rw [hs]
  · rintro en ⟨S, rfl, h, ha, hr, hl⟩
    rw [rngL_len] at ha
    have := h.len
    omega
theorem walked_ok {signs T : List Nat} {m : Nat} {E : List Edge} (C : Ctx signs T m E) : ∃ A, (∀ x, x ∈ A ↔ Alive E x) ∧ m__law_walked [.lst (E.map edgeD), .str signs] = .ok (if 0 ∈ A then .tup [.str signs, .int ((loopW (alB A) E (csOf signs) 1000 0 ([0], [])).1.length + 1 : Nat), .tup ((loopW (alB A) E (csOf signs) 1000 0 ([0], [])).2.map edgeD)] else .tup [.str signs, .int 2, .tup []]) := by
  have hel := C.el
  obtain ⟨A, hA, hiff⟩ := walk_alive (E := E) (signs := signs) hel
  refine ⟨A, hiff, ?_⟩
  rw [e__law_walked]
  unfold g__law_walked
  have s1 : sSetN 2 (eDisp 0 (psCons (eC (.int 1)) (eC (.bl true)) psNil)) [some (.lst (E.map edgeD)), some (.str signs), none, none, none, none, none, none, none, none, none, none, none, none, none, none] = .nx (wE (.lst (E.map edgeD)) signs [1] none none none) := by
    rw [sSetN_ok (d := dA [1])]
    · rfl
    · simp; rfl
  rw [sSeq_e, s1, seqR_nx]
  unfold t11__law_walked
  have s2 : sFor (eRg1 (aCons (eBin pAdd (eCall bLen (aCons (eVar 0) aNil)) (eC (.int 1))) aNil)) (gN 3) b1__law_walked [3, 4, 5] (wE (.lst (E.map edgeD)) signs [1] none none none) = .nx (wE (.lst (E.map edgeD)) signs A none none none) := by
    rw [sFor_ok (ds := rngL 0 (E.length + 1))]
    · exact hA
    · have h1 : iRng1 [.int ((E.length : Int) + 1)] = .ok (rngL 0 (E.length + 1)) := iRng1_nat (n := E.length + 1) (by omega)
      unfold wE
      simp [h1]
  rw [sSeq_e, s2, seqR_nx]
  unfold t10__law_walked
  have pA : peel (dA A) = dA A := rfl
  have hn := notin_A A 0
  by_cases h0 : 0 ∈ A
  · have s3 : sIf (eB (eBin pNotIn2 (eC (.int 0)) (eVar 2))) (sRet (eTup (aCons (eVar 1) (aCons (eC (.int 2)) (aCons (eTup aNil) aNil))))) sPass (wE (.lst (E.map edgeD)) signs A none none none) = .nx (wE (.lst (E.map edgeD)) signs A none none none) := by
      have hn' : pNotIn2 (.int 0) (dA A) = some (.bl false) := by rw [show (D.int 0) = kN 0 from rfl, hn]; simp [h0]
      unfold wE
      simp [pA, hn']
    rw [sSeq_e, s3, seqR_nx]
    unfold t9__law_walked
    have s4 : sSetN 6 (eDisp 0 (psCons (eC (.int 0)) (eC (.int 0)) (psCons (eC (.int 1)) (eC (.int 1)) psNil))) (wE (.lst (E.map edgeD)) signs A none none none) = .nx [some (.lst (E.map edgeD)), some (.str signs), some (dA A), none, none, none, some (dN [0]), none, none, none, none, none, none, none, none, none] := by
      rw [sSetN_ok (d := dN [0])]
      · rfl
      · simp; rfl
    rw [sSeq_e, s4, seqR_nx]
    unfold t8__law_walked t7__law_walked
    have s5 : sSetL 7 (eLst (aCons (eC (.int 0)) aNil)) [some (.lst (E.map edgeD)), some (.str signs), some (dA A), none, none, none, some (dN [0]), none, none, none, none, none, none, none, none, none] = .nx [some (.lst (E.map edgeD)), some (.str signs), some (dA A), none, none, none, some (dN [0]), some (.olst [kN 0]), none, none, none, none, none, none, none, none] := by
      simp; rfl
    rw [sSeq_e, s5, seqR_nx]
    have s6 : sSetL 8 (eLst aNil) [some (.lst (E.map edgeD)), some (.str signs), some (dA A), none, none, none, some (dN [0]), some (.olst [kN 0]), none, none, none, none, none, none, none, none] = .nx (lE2 E signs A ([0], [])) := by
      simp; rfl
    rw [sSeq_e, s6, seqR_nx]
    unfold t6__law_walked
    have s7 : sFor (eRg1 (aCons (eC (.int 40)) aNil)) (gN 9) b4__law_walked [9, 10, 11, 12, 13, 14, 15] (lE2 E signs A ([0], [])) = _ := (sFor_ok (ds := rngL 0 40) (by simp; exact iRng1_nat (n := 40) (by decide))).trans (law_loop C A)
    rw [sSeq_e, s7, seqR_nx]
    have W := WInv.loop (al := alB A) C.ok (csOf signs) 1000 0 (WInv.start signs T C.t0)
    generalize loopW (alB A) E (csOf signs) 1000 0 ([0], []) = R at W
    rw [if_pos h0]
    have hlN := len_N R.1
    rw [nk_len W.fnd] at hlN
    have pN : peel (dN R.1) = dN R.1 := rfl
    have hbt : bTuple [.olst (R.2.map edgeD)] = some (.tup (R.2.map edgeD)) := by
      have hall : (R.2.map edgeD).all isData = true := by
        rw [List.all_map]
        exact List.all_eq_true.mpr fun _ _ => rfl
      simp [bTuple, seqOf, hall]
    unfold t5__law_walked lE2
    simp [pN, hlN, hbt]
  · have s3 : sIf (eB (eBin pNotIn2 (eC (.int 0)) (eVar 2))) (sRet (eTup (aCons (eVar 1) (aCons (eC (.int 2)) (aCons (eTup aNil) aNil))))) sPass (wE (.lst (E.map edgeD)) signs A none none none) = .rt (.tup [.str signs, .int 2, .tup []]) [] := by
      have hn' : pNotIn2 (.int 0) (dA A) = some (.bl true) := by rw [show (D.int 0) = kN 0 from rfl, hn]; simp [h0]
      unfold wE
      simp [pA, hn']
    rw [sSeq_e, s3, seqR_rt, if_neg h0]
    rfl
end Law

set_option Elab.async false
set_option linter.all false
set_option maxRecDepth 100000
namespace Law
open Z PySem L2
/-! ### _law_same -/
theorem same_int (n : Nat) (i : Int) : m__law_same (n + 1) [.int i, .int i] = .ok (.bl true) := by
  rw [e__law_same]
  unfold g__law_same
  have t1 : pIsi "tuple" (.int i) = some (.bl false) := rfl
  have t2 : pIsi "bool" (.int i) = some (.bl false) := rfl
  have t3 : pIsi "int" (.int i) = some (.bl true) := rfl
  simp [t1, t2, t3]
theorem same_str (n : Nat) (x : List Nat) : m__law_same (n + 1) [.str x, .str x] = .ok (.bl true) := by
  rw [e__law_same]
  unfold g__law_same
  have t1 : pIsi "tuple" (.str x) = some (.bl false) := rfl
  have t2 : pIsi "bool" (.str x) = some (.bl false) := rfl
  have t3 : pIsi "int" (.str x) = some (.bl false) := rfl
  have t4 : pIsi "str" (.str x) = some (.bl true) := rfl
  simp [t1, t2, t3, t4]
theorem plain_data {n : Nat} {d : D} (h : plainD n d = true) : isData d = true := by
  cases d <;> first | rfl | (cases n <;> cases h)
theorem same_ok : ∀ (n : Nat) (d : D), plainD n d = true → m__law_same (n + 1) [d, d] = .ok (.bl true)
  | n, .int i, _ => same_int n i
  | n, .str x, _ => same_str n x
  | n + 1, .tup ds, h => by
    unfold plainD at h
    rw [Bool.and_eq_true] at h
    obtain ⟨h1, h2⟩ := h
    have h2 := of_decide_eq_true h2
    rw [e__law_same]
    unfold g__law_same
    have t1 : pIsi "tuple" (.tup ds) = some (.bl true) := rfl
    have q := forL_find (h := gN 2) (body := b0__law_same (m__law_same (n + 1))) (w := [2]) (env := [some (.tup ds), some (.tup ds), none]) (fun k : Nat => D.int (k : Nat)) (fun _ => false) .non [] (List.range ds.length) (fun k hk => by
      have hk := List.mem_range.mp hk
      have hm : ds[k] ∈ ds := List.getElem_mem hk
      have hp := List.all_eq_true.mp h1 _ hm
      have hs := same_ok n ds[k] hp
      have hx : pIx (.tup ds) (.int (k : Nat)) = some ds[k] := by rw [pIx_tup, List.getElem?_eq_getElem hk]
      have hd := plain_data hp
      refine ⟨_, rfl, fun z => (nomatch z), fun _ => ⟨[some (.tup ds), some (.tup ds), some (.int (k : Nat))], .inl ?_, rfl⟩⟩
      unfold b0__law_same
      simp [hx, hs, hd])
    have hany : ((List.range ds.length).any fun _ => false) = false := by simp
    rw [hany, if_neg (by decide), ← rngL_map] at q
    have hr : iRng1 [.int (ds.length : Nat)] = .ok (rngL 0 ds.length) := iRng1_nat h2
    have hf : sFor (eRg1 (aCons (eCall bLen (aCons (eVar 1) aNil)) aNil)) (gN 2) (b0__law_same (m__law_same (n + 1))) [2] [some (.tup ds), some (.tup ds), none] = .nx [some (.tup ds), some (.tup ds), none] := by
      rw [sFor_ok (ds := rngL 0 ds.length) (by simp [hr])]
      exact q
    simp [t1, hf]
  | 0, .tup _, h => by cases h
  | n, .non, h => by cases n <;> cases h
  | n, .bl _, h => by cases n <;> cases h
  | n, .lst _, h => by cases n <;> cases h
  | n, .olst _, h => by cases n <;> cases h
  | n, .dic _ _ _, h => by cases n <;> cases h
  | n, .odic _ _ _, h => by cases n <;> cases h
  | n, .set _, h => by cases n <;> cases h
  | n, .oset _, h => by cases n <;> cases h
  | n, .ob _ _ _, h => by cases n <;> cases h
  | n, .oob _ _ _, h => by cases n <;> cases h
  | n, .scr _, h => by cases n <;> cases h
  | n, .bor _ _, h => by cases n <;> cases h
  | n, .exn _ _ _ _ _ _, h => by cases n <;> cases h
def dueD (signs : List Nat) (m : Nat) (E : List Edge) : D := .tup [.str signs, .int m, .tup (E.map edgeD)]
theorem due_plain {signs : List Nat} {m M : Nat} {E : List Edge} (hE : ∀ e ∈ E, Valid signs M e) (hl : E.length ≤ 16000000) : plainD 6 (dueD signs m E) = true := by
  have : ∀ d ∈ E.map edgeD, plainD 4 d = true := by
    intro d hd
    obtain ⟨e, he, rfl⟩ := List.mem_map.mp hd
    have v := hE e he
    have h1 : e.lk.all (plainD 2) = true := List.all_eq_true.mpr v.p
    have h2 : e.lk.length ≤ 16000000 := by have := v.q; omega
    simp [edgeD, plainD, h1, h2]
  have h1 : (E.map edgeD).all (plainD 4) = true := List.all_eq_true.mpr this
  unfold dueD
  simp only [plainD, List.all_cons, List.all_nil, h1, Bool.true_and, Bool.and_true, List.length_map, List.length_cons, List.length_nil]
  simp [hl]
/-! ### machines side by side -/
structure Row where
  es : List Edge
  mn : Nat
  mr : List D
def shL (k s : Nat) : Nat := if s < 2 then s else s + 100 * k
def shP (o s : Nat) : Nat := if s < 2 then s else s + o - 2
def uni (l : Nat → Nat) (mk : List D) (e : Edge) : Edge := ⟨l e.st, e.sg, e.wd, l e.tg, if e.st = 0 then mk ++ e.lk else e.lk⟩
def uniL : Nat → List Row → List Edge
  | _, [] => []
  | k, r :: rs => r.es.map (uni (shL k) r.mr) ++ uniL (k + 1) rs
def uniP : Nat → List Row → List Edge
  | _, [] => []
  | o, r :: rs => r.es.map (uni (shP o) r.mr) ++ uniP (o + r.mn - 2) rs
structure RowOk (signs : List Nat) (r : Row) : Prop where
  ok : ∀ e ∈ r.es, Valid signs r.mn e
  m2 : 2 ≤ r.mn
  m6 : r.mn ≤ 6
  len : r.es.length ≤ 200
  mp : ∀ d ∈ r.mr, plainD 2 d = true
  ml : r.mr.length ≤ 2
  lk : ∀ e ∈ r.es, e.lk.length ≤ 2
def offs (R : List Row) (k : Nat) : Nat := 2 + ((R.take k).map fun r => r.mn - 2).sum
def fmap (R : List Row) (x : Nat) : Nat := if x < 2 then x else x % 100 + offs R (x / 100) - 2
theorem offs_succ {R : List Row} {k : Nat} {r : Row} (h : R[k]? = some r) : offs R (k + 1) = offs R k + (r.mn - 2) := by
  unfold offs
  have hl := (List.getElem?_eq_some_iff.mp h).1
  have he := (List.getElem?_eq_some_iff.mp h).2
  rw [List.take_succ_eq_append_getElem hl, he]
  simp
  omega
theorem offs_mono (R : List Row) : ∀ {a b : Nat}, a ≤ b → offs R a ≤ offs R b := by
  intro a b h
  unfold offs
  have : R.take b = R.take a ++ (R.drop a).take (b - a) := by
    rw [← List.take_append_drop a (R.take b), List.take_take, Nat.min_eq_left h, List.drop_take]
  rw [this]
  simp
theorem fmap_sh {R : List Row} {k s : Nat} (hs : s < 100) : fmap R (shL k s) = shP (offs R k) s := by
  unfold fmap shL shP
  by_cases h : s < 2
  · simp [h]
  · have h1 : ¬ (s + 100 * k < 2) := by omega
    have h2 : (s + 100 * k) % 100 = s := by omega
    have h3 : (s + 100 * k) / 100 = k := by omega
    rw [if_neg h, if_neg h1, if_neg h, h2, h3]
theorem uni_map {signs : List Nat} {R : List Row} {k : Nat} {r : Row} (hr : RowOk signs r) : r.es.map (uni (shP (offs R k)) r.mr) = (r.es.map (uni (shL k) r.mr)).map (re (fmap R)) := by
  rw [List.map_map]
  refine List.map_congr_left fun e he => ?_
  have v := hr.ok e he
  have h6 := hr.m6
  have h1 := v.s1
  have h2 := v.t1
  show _ = re (fmap R) (uni (shL k) r.mr e)
  unfold re uni
  dsimp only
  rw [fmap_sh (by omega), fmap_sh (by omega)]
theorem uniP_map {signs : List Nat} (R : List Row) (hR : ∀ r ∈ R, RowOk signs r) : ∀ (rs : List Row) (k : Nat), R.drop k = rs → uniP (offs R k) rs = (uniL k rs).map (re (fmap R))
  | [], _, _ => rfl
  | r :: rs, k, h => by
    have hk : R[k]? = some r := by
      have := congrArg (fun l => l[0]?) h
      simpa using this
    have hr := hR r (List.mem_of_getElem? hk)
    have h2 := hr.m2
    have hd : R.drop (k + 1) = rs := by
      rw [← List.drop_drop, h]; rfl
    have ho : offs R k + r.mn - 2 = offs R (k + 1) := by rw [offs_succ hk]; omega
    unfold uniP uniL
    rw [List.map_append, uni_map hr, ho, uniP_map R hR rs (k + 1) hd]
def PL (R : List Row) (x : Nat) : Prop := x < 2 ∨ ∃ k s r, R[k]? = some r ∧ 2 ≤ s ∧ s < r.mn ∧ x = s + 100 * k
theorem rel_R {signs : List Nat} (R : List Row) (hR : ∀ r ∈ R, RowOk signs r) : Rel (fmap R) (PL R) := by
  have hv : ∀ {k s : Nat} {r : Row}, R[k]? = some r → 2 ≤ s → s < r.mn → fmap R (s + 100 * k) = s + offs R k - 2 ∧ s + offs R k - 2 < offs R (k + 1) ∧ offs R k ≤ s + offs R k - 2 := fun {k s r} hk h2 hm => by
    have h6 := (hR r (List.mem_of_getElem? hk)).m6
    have h1 : ¬ (s + 100 * k < 2) := by omega
    have h3 : (s + 100 * k) % 100 = s := by omega
    have h4 : (s + 100 * k) / 100 = k := by omega
    unfold fmap
    rw [if_neg h1, h3, h4, offs_succ hk]
    exact ⟨rfl, by omega, by omega⟩
  have h2 : ∀ k, 2 ≤ offs R k := fun k => by unfold offs; omega
  refine ⟨?_, rfl, rfl, .inl (by omega), .inl (by omega)⟩
  rintro x y hx hy he
  have low : ∀ x, x < 2 → fmap R x = x := fun x h => by unfold fmap; rw [if_pos h]
  rcases hx with hx | ⟨k, s, r, hk, hs, hm, rfl⟩
  · rcases hy with hy | ⟨k', s', r', hk', hs', hm', rfl⟩
    · rw [low x hx, low y hy] at he; exact he
    · obtain ⟨a, b, c⟩ := hv hk' hs' hm'
      have := h2 k'
      rw [low x hx, a] at he; omega
  · obtain ⟨a, b, c⟩ := hv hk hs hm
    rcases hy with hy | ⟨k', s', r', hk', hs', hm', rfl⟩
    · have := h2 k
      rw [low y hy, a] at he; omega
    · obtain ⟨a', b', c'⟩ := hv hk' hs' hm'
      rw [a, a'] at he
      rcases Nat.lt_trichotomy k k' with h | h | h
      · have := offs_mono R (show k + 1 ≤ k' from h); omega
      · subst h; omega
      · have := offs_mono R (show k' + 1 ≤ k from h); omega
end Law

set_option Elab.async false
set_option linter.all false
set_option maxRecDepth 100000
namespace Law
open Z PySem L2
theorem rng_zip {α : Type} (R : List α) : rngL 0 R.length = R.zipIdx.map fun p => D.int (p.2 : Nat) := by
  rw [rngL_map]
  apply List.ext_getElem?
  intro i
  rw [List.getElem?_map, List.getElem?_map, List.getElem?_zipIdx]
  by_cases h : i < R.length
  · simp [h]
  · simp [h]
theorem shL_ok (k s : Nat) : m__law_shifted [.int (s : Nat), .int (k : Nat)] = .ok (.int (shL k s : Nat)) := by
  rw [e__law_shifted]
  unfold g__law_shifted shL
  have hm : (smallI 100 || smallI (k : Int)) = true := rfl
  by_cases h : s < 2
  · have h' : ((s : Int) < 2) := by omega
    simp [h, h']
  · have h' : ¬ ((s : Int) < 2) := by omega
    simp [h, h', hm]
theorem shP_ok (o s : Nat) (ho : 2 ≤ o) : m_shifted_state [.int (s : Nat), .int (o : Nat)] = .ok (.int (shP o s : Nat)) := by
  rw [e_shifted_state]
  unfold g_shifted_state shP
  by_cases h : s < 2
  · have h' : ((s : Int) < 2) := by omega
    simp [h, h']
  · have h' : ¬ ((s : Int) < 2) := by omega
    have h2 : ((s + o - 2 : Nat) : Int) = (s : Int) + o - 2 := by omega
    simp only [h, if_false, h2]
    simp [h']
def rowsD (R : List Row) : D := .lst (R.map fun r => .lst (r.es.map edgeD))
def marksD (R : List Row) : D := .lst (R.map fun r => .tup r.mr)
theorem all_edges (E : List Edge) : (E.map edgeD).all isData = true := by
  rw [List.all_map]
  exact List.all_eq_true.mpr fun _ _ => rfl
theorem side_step {signs : List Nat} {R : List Row} {k : Nat} {r : Row} {e : Edge} {acc : List Edge} (hk : R[k]? = some r) (hr : RowOk signs r) (he : e ∈ r.es) (hz : acc.length < 1000000) :
    ∃ s8, b0__law_side_by_side [some (rowsD R), some (marksD R), some (.olst (acc.map edgeD)), some (.int (k : Nat)), some (kN e.st), some (.str [e.sg]), some (.str e.wd), some (kN e.tg), some (.tup e.lk)] =
      .nx [some (rowsD R), some (marksD R), some (.olst ((acc ++ [uni (shL k) r.mr e]).map edgeD)), some (.int (k : Nat)), some (kN e.st), some (.str [e.sg]), some (.str e.wd), some (kN e.tg), s8] := by
  have h1 := shL_ok k e.st
  have h2 := shL_ok k e.tg
  have h1' : m__law_shifted [kN e.st, .int (k : Nat)] = .ok (.int (shL k e.st : Nat)) := h1
  have h2' : m__law_shifted [kN e.tg, .int (k : Nat)] = .ok (.int (shL k e.tg : Nat)) := h2
  have hm : pIx (marksD R) (.int (k : Nat)) = some (.tup r.mr) := by unfold marksD; rw [pIx_lst, List.getElem?_map, hk]; rfl
  have pm : peel (marksD R) = marksD R := rfl
  have hml := hr.ml
  have hlk := hr.lk e he
  have hz' : acc.length < 16777216 := by omega
  have hlen : r.mr.length + e.lk.length ≤ 16777216 := by omega
  unfold b0__law_side_by_side
  by_cases h0 : e.st = 0
  · refine ⟨some (.tup (r.mr ++ e.lk)), ?_⟩
    have hu : edgeD (uni (shL k) r.mr e) = .tup [.int (shL k e.st : Nat), .str [e.sg], .str e.wd, .int (shL k e.tg : Nat), .tup (r.mr ++ e.lk)] := by
      unfold uni edgeD
      rw [if_pos h0]
    have hq : pEq (kN e.st) (.int 0) = some (.bl true) := by unfold kN; rw [pEq_int]; simp [h0]
    simp [kN_peel, kN_data, h1', h2', hm, pm, hz', hlen, hu, hq]
  · refine ⟨some (.tup e.lk), ?_⟩
    have hu : edgeD (uni (shL k) r.mr e) = .tup [.int (shL k e.st : Nat), .str [e.sg], .str e.wd, .int (shL k e.tg : Nat), .tup e.lk] := by
      unfold uni edgeD
      rw [if_neg h0]
    have hq : pEq (kN e.st) (.int 0) = some (.bl false) := by unfold kN; rw [pEq_int]; simp [h0]
    simp [kN_peel, kN_data, h1', h2', hm, pm, hz', hu, hq]
theorem fold_snoc {α β : Type} (g : α → β) : ∀ (xs : List α) (acc : List β), xs.foldl (fun acc x => acc ++ [g x]) acc = acc ++ xs.map g
  | [], acc => by simp
  | x :: xs, acc => by rw [List.foldl_cons, fold_snoc g xs]; simp
theorem fold_uniL : ∀ (R : List Row) (k : Nat) (acc : List Edge), (R.zipIdx k).foldl (fun acc p => acc ++ p.1.es.map (uni (shL p.2) p.1.mr)) acc = acc ++ uniL k R
  | [], k, acc => by simp [uniL]
  | r :: R, k, acc => by
    rw [List.zipIdx_cons, List.foldl_cons, fold_uniL R (k + 1)]
    simp [uniL]
theorem side_ok {signs : List Nat} {R : List Row} (hR : ∀ r ∈ R, RowOk signs r) (h4 : R.length ≤ 4) : m__law_side_by_side [rowsD R, marksD R] = .ok (.lst ((uniL 0 R).map edgeD)) := by
  obtain ⟨q, _⟩ := forL_fold (h := gN 3) (body := b1__law_side_by_side) (w := [3, 4, 5, 6, 7, 8]) (fun p : Row × Nat => .int (p.2 : Nat)) (fun acc : List Edge => [some (rowsD R), some (marksD R), some (.olst (acc.map edgeD)), none, none, none, none, none, none]) (fun acc p => acc ++ p.1.es.map (uni (shL p.2) p.1.mr))
    (fun xs acc => acc.length + xs.length * 200 ≤ 900000 ∧ ∀ p ∈ xs, R[p.2]? = some p.1) R.zipIdx [] ⟨by simp; omega, fun p hp => by
      have := List.mem_zipIdx_iff_getElem?.mp (show (p.1, p.2) ∈ R.zipIdx from hp)
      simpa using this⟩ (fun p xs acc hi => by
      obtain ⟨h1, h2⟩ := hi
      obtain ⟨r, k⟩ := p
      have hk : R[k]? = some r := h2 (r, k) (by simp)
      have hr := hR r (List.mem_of_getElem? hk)
      have hl := hr.len
      rw [List.length_cons, Nat.add_mul] at h1
      obtain ⟨q1, _⟩ := forL_fold (h := gT fun ds env => if ds.length = 5 then (gsCons (gN 4) (gsCons (gN 5) (gsCons (gN 6) (gsCons (gN 7) (gsCons (gN 8) gsNil))))) ds env else none) (body := b0__law_side_by_side) (w := [4, 5, 6, 7, 8]) edgeD
        (fun acc : List Edge => [some (rowsD R), some (marksD R), some (.olst (acc.map edgeD)), some (.int (k : Nat)), none, none, none, none, none]) (fun acc e => acc ++ [uni (shL k) r.mr e]) (fun xs acc => acc.length + xs.length ≤ 900000 ∧ ∀ e ∈ xs, e ∈ r.es) r.es acc ⟨by omega, fun _ z => z⟩ (fun e xs acc hi => by
          obtain ⟨g1, g2⟩ := hi
          rw [List.length_cons] at g1
          obtain ⟨s8, hs⟩ := side_step hk hr (g2 e (by simp)) (acc := acc) (by omega)
          exact ⟨_, rfl, ⟨_, .inl hs, rfl⟩, by simp; omega, fun e' h' => g2 e' (by simp [h'])⟩)
      rw [fold_snoc] at q1
      have hx : pIx (rowsD R) (.int (k : Nat)) = some (.lst (r.es.map edgeD)) := by unfold rowsD; rw [pIx_lst, List.getElem?_map, hk]; rfl
      have pr : peel (rowsD R) = rowsD R := rfl
      refine ⟨_, rfl, ⟨[some (rowsD R), some (marksD R), some (.olst ((acc ++ r.es.map (uni (shL k) r.mr)).map edgeD)), some (.int (k : Nat)), none, none, none, none, none], .inl ?_, rfl⟩, ?_, fun q hq => h2 q (by simp [hq])⟩
      · unfold b1__law_side_by_side
        rw [sFor_ok (ds := r.es.map edgeD) (by simp [pr, hx])]
        exact q1
      · simp; omega)
  rw [fold_uniL, List.nil_append] at q
  rw [e__law_side_by_side]
  unfold g__law_side_by_side
  have s1 : sSetL 2 (eLst aNil) [some (rowsD R), some (marksD R), none, none, none, none, none, none, none] = .nx [some (rowsD R), some (marksD R), some (.olst []), none, none, none, none, none, none] := by simp
  have s2 : sFor (eRg1 (aCons (eCall bLen (aCons (eVar 0) aNil)) aNil)) (gN 3) b1__law_side_by_side [3, 4, 5, 6, 7, 8] [some (rowsD R), some (marksD R), some (.olst []), none, none, none, none, none, none] = .nx [some (rowsD R), some (marksD R), some (.olst ((uniL 0 R).map edgeD)), none, none, none, none, none, none] := by
    rw [sFor_ok (ds := R.zipIdx.map fun p => D.int (p.2 : Nat))]
    · exact q
    · have hb : bLen [rowsD R] = some (.int (R.length : Nat)) := by unfold rowsD; simp
      have pr : peel (rowsD R) = rowsD R := rfl
      have hr : iRng1 [.int (R.length : Nat)] = .ok (rngL 0 R.length) := iRng1_nat (by omega)
      rw [← rng_zip]
      simp [pr, hb, hr]
  rw [sSeq_e, s1, seqR_nx, sSeq_e, s2, seqR_nx]
  simp [edgeD_data]
/-! united -/
theorem unit_step {signs : List Nat} {M K X : D} {o : Nat} {r : Row} {e : Edge} {acc : List Edge} (ho : 2 ≤ o) (hr : RowOk signs r) (he : e ∈ r.es) (hz : acc.length < 1000000) {s11 : Option D} :
    ∃ s11', b0_united [some M, some K, some (.olst (acc.map edgeD)), some (.int (o : Nat)), some X, some (.tup r.mr), some (kN e.st), some (.str [e.sg]), some (.str e.wd), some (kN e.tg), some (.tup e.lk), s11] =
      .nx [some M, some K, some (.olst ((acc ++ [uni (shP o) r.mr e]).map edgeD)), some (.int (o : Nat)), some X, some (.tup r.mr), some (kN e.st), some (.str [e.sg]), some (.str e.wd), some (kN e.tg), some (.tup e.lk), s11'] := by
  have h1' : m_shifted_state [kN e.st, .int (o : Nat)] = .ok (.int (shP o e.st : Nat)) := shP_ok o e.st ho
  have h2' : m_shifted_state [kN e.tg, .int (o : Nat)] = .ok (.int (shP o e.tg : Nat)) := shP_ok o e.tg ho
  have hml := hr.ml
  have hlk := hr.lk e he
  have hz' : acc.length < 16777216 := by omega
  have hlen : r.mr.length + e.lk.length ≤ 16777216 := by omega
  have hlen2 : e.lk.length ≤ 16777216 := by omega
  unfold b0_united
  by_cases h0 : e.st = 0
  · refine ⟨some (.tup r.mr), ?_⟩
    have hu : edgeD (uni (shP o) r.mr e) = .tup [.int (shP o e.st : Nat), .str [e.sg], .str e.wd, .int (shP o e.tg : Nat), .tup (r.mr ++ e.lk)] := by
      unfold uni edgeD
      rw [if_pos h0]
    have hq : pEq (kN e.st) (.int 0) = some (.bl true) := by unfold kN; rw [pEq_int]; simp [h0]
    simp [kN_peel, kN_data, h1', h2', hz', hlen, hu, hq]
  · refine ⟨some (.tup []), ?_⟩
    have hu : edgeD (uni (shP o) r.mr e) = .tup [.int (shP o e.st : Nat), .str [e.sg], .str e.wd, .int (shP o e.tg : Nat), .tup e.lk] := by
      unfold uni edgeD
      rw [if_neg h0]
    have hq : pEq (kN e.st) (.int 0) = some (.bl false) := by unfold kN; rw [pEq_int]; simp [h0]
    have ha : pAdd (.tup []) (.tup e.lk) = some (.tup e.lk) := by rw [pAdd_tup (by simpa using hlen2)]; rfl
    simp [kN_peel, kN_data, h1', h2', hz', hu, hq, ha]
end Law

set_option Elab.async false
set_option linter.all false
set_option maxRecDepth 100000
namespace Law
open Z PySem L2
def machR (signs : List Nat) (r : Row) : D := machD signs r.mn r.es
theorem fold_uniP : ∀ (R : List Row) (acc : List Edge) (o : Nat), R.foldl (fun (S : List Edge × Nat) r => (S.1 ++ r.es.map (uni (shP S.2) r.mr), S.2 + r.mn - 2)) (acc, o) = (acc ++ uniP o R, R.foldl (fun o r => o + r.mn - 2) o)
  | [], acc, o => by simp [uniP]
  | r :: R, acc, o => by
    rw [List.foldl_cons, fold_uniP R]
    simp [uniP]
theorem off_end {signs : List Nat} : ∀ (R : List Row) (o : Nat), (∀ r ∈ R, RowOk signs r) → 2 ≤ o → R.foldl (fun o r => o + r.mn - 2) o = o + (R.map fun r => r.mn - 2).sum
  | [], o, _, _ => by simp
  | r :: R, o, hR, h => by
    have h2 := (hR r (by simp)).m2
    rw [List.foldl_cons, off_end R (o + r.mn - 2) (fun r' h' => hR r' (by simp [h'])) (by omega)]
    simp
    omega
/-! the contexts -/
theorem mem_uniL {R0 : List Row} : ∀ (R : List Row) (k : Nat), R0.drop k = R → ∀ e ∈ uniL k R, ∃ k' r e0, R0[k']? = some r ∧ e0 ∈ r.es ∧ e = uni (shL k') r.mr e0
  | [], _, _, e, he => nomatch he
  | r :: R, k, h, e, he => by
    have hk : R0[k]? = some r := by
      have := congrArg (fun l => l[0]?) h
      simpa using this
    have hd : R0.drop (k + 1) = R := by rw [← List.drop_drop, h]; rfl
    rcases List.mem_append.mp he with z | z
    · obtain ⟨e0, h0, rfl⟩ := List.mem_map.mp z
      exact ⟨k, r, e0, hk, h0, rfl⟩
    · exact mem_uniL R (k + 1) hd e z
theorem len_uniL {signs : List Nat} : ∀ (R : List Row) (k : Nat), (∀ r ∈ R, RowOk signs r) → (uniL k R).length ≤ R.length * 200
  | [], _, _ => Nat.le_refl _
  | r :: R, k, hR => by
    have h1 := (hR r (by simp)).len
    have h2 := len_uniL R (k + 1) fun r' h' => hR r' (by simp [h'])
    unfold uniL
    rw [List.length_append, List.length_map, List.length_cons, Nat.add_mul]
    omega
theorem valid_uni {signs : List Nat} {m M : Nat} {l : Nat → Nat} {mr : List D} {e : Edge} (v : Valid signs m e) (hl : ∀ s, s < m → l s < M) (h0 : ∀ s, s < m → (l s = 0 ↔ s = 0)) (h1 : ∀ s, s < m → (l s = 1 ↔ s = 1)) (hm : ∀ d ∈ mr, plainD 2 d = true) (hml : mr.length ≤ 2) (hlk : e.lk.length ≤ 2) : Valid signs M (uni l mr e) where
  s1 := hl _ v.s1
  t1 := hl _ v.t1
  s2 := fun z => v.s2 ((h1 _ v.s1).mp z)
  t2 := fun z => v.t2 ((h0 _ v.t1).mp z)
  b := v.b.trans (h0 _ v.s1).symm
  z := v.z.trans (h1 _ v.t1).symm
  g := v.g
  w := v.w
  p := by
    intro d hd
    have hd : d ∈ (if e.st = 0 then mr ++ e.lk else e.lk) := hd
    split at hd
    · rcases List.mem_append.mp hd with z | z
      · exact hm d z
      · exact v.p d z
    · exact v.p d hd
  q := by
    show (if e.st = 0 then mr ++ e.lk else e.lk).length ≤ 100
    split
    · rw [List.length_append]; omega
    · omega
theorem shL_props (k : Nat) {s : Nat} (hs : s < 6) (hk : k < 4) : shL k s < 1000 ∧ (shL k s = 0 ↔ s = 0) ∧ (shL k s = 1 ↔ s = 1) := by
  unfold shL
  split <;> omega
theorem shP_props {o s : Nat} (ho : 2 ≤ o) : (shP o s = 0 ↔ s = 0) ∧ (shP o s = 1 ↔ s = 1) := by
  unfold shP
  split <;> omega
def TL (R : List Row) : List Nat := 0 :: R.zipIdx.flatMap fun p => ((List.range 4).map fun s => s + 2 + 100 * p.2)
theorem sum_four {α : Type} : ∀ l : List α, (l.map fun _ => 4).sum = 4 * l.length
  | [] => rfl
  | a :: l => by rw [List.map_cons, List.sum_cons, sum_four l, List.length_cons]; omega
theorem tl_len (R : List Row) : (TL R).length ≤ 1 + 4 * R.length := by
  unfold TL
  rw [List.length_cons, List.length_flatMap]
  have : (R.zipIdx.map fun p : Row × Nat => ((List.range 4).map fun s => s + 2 + 100 * p.2).length).sum = 4 * R.length := by
    have := sum_four R.zipIdx
    simpa using this
  omega
theorem tl_mem {R : List Row} {k s : Nat} {r : Row} (hk : R[k]? = some r) (h2 : 2 ≤ s) (h6 : s < 6) : s + 100 * k ∈ TL R := by
  unfold TL
  refine List.mem_cons_of_mem _ (List.mem_flatMap.mpr ⟨(r, k), List.mem_zipIdx_iff_getElem?.mpr (by simpa using hk), List.mem_map.mpr ⟨s - 2, by simp; omega, by simp; omega⟩⟩)
structure Many (signs : List Nat) (R : List Row) : Prop where
  sg : Sgn signs
  sl : signs.length ≤ 9
  ok : ∀ r ∈ R, RowOk signs r
  ne : R ≠ []
  l4 : R.length ≤ 4
theorem uni_st {signs : List Nat} {R : List Row} (H : Many signs R) : ∀ e ∈ uniL 0 R, Valid signs 1000 e ∧ (e.tg = 1 ∨ e.tg ∈ TL R) ∧ PL R e.st ∧ PL R e.tg := by
  intro e he
  obtain ⟨k, r, e0, hk, h0, rfl⟩ := mem_uniL (R0 := R) R 0 rfl e he
  have hr := H.ok r (List.mem_of_getElem? hk)
  have v := hr.ok e0 h0
  have h6 := hr.m6
  have hk4 : k < 4 := by have := (List.getElem?_eq_some_iff.mp hk).1; have := H.l4; omega
  have hp : ∀ s, s < r.mn → PL R (shL k s) := fun s hs => by
    unfold shL PL
    by_cases h : s < 2
    · rw [if_pos h]; exact .inl h
    · rw [if_neg h]; exact .inr ⟨k, s, r, hk, by omega, hs, rfl⟩
  refine ⟨valid_uni v (fun s hs => (shL_props k (by omega) hk4).1) (fun s hs => (shL_props k (by omega) hk4).2.1) (fun s hs => (shL_props k (by omega) hk4).2.2) hr.mp hr.ml (hr.lk e0 h0), ?_, hp _ v.s1, hp _ v.t1⟩
  show shL k e0.tg = 1 ∨ shL k e0.tg ∈ TL R
  have h1 := v.t1
  have h2 := v.t2
  by_cases h : e0.tg = 1
  · left; unfold shL; rw [if_pos (by omega)]; exact h
  · right
    unfold shL
    rw [if_neg (by omega)]
    exact tl_mem hk (by omega) (by omega)
theorem ctxL {signs : List Nat} {R : List Row} (H : Many signs R) : Ctx signs (TL R) 1000 (uniL 0 R) where
  sg := H.sg
  sl := H.sl
  m2 := by omega
  ok := fun e he => ⟨(uni_st H e he).1, (uni_st H e he).2.1⟩
  t0 := by simp [TL]
  tl := by have := tl_len R; have := H.l4; omega
  el := by have := len_uniL R 0 H.ok; have := H.l4; omega
theorem uniP_eq {signs : List Nat} {R : List Row} (H : Many signs R) : uniP 2 R = (uniL 0 R).map (re (fmap R)) := by
  have := uniP_map R H.ok R 0 rfl
  have h0 : offs R 0 = 2 := rfl
  rw [h0] at this
  exact this
theorem valid_P {signs : List Nat} {R : List Row} (H : Many signs R) : ∀ e ∈ uniP 2 R, Valid signs (offs R R.length) e := by
  intro e he
  rw [uniP_eq H] at he
  obtain ⟨e1, h1, rfl⟩ := List.mem_map.mp he
  obtain ⟨k, r, e0, hk, h0, rfl⟩ := mem_uniL (R0 := R) R 0 rfl e1 h1
  have hr := H.ok r (List.mem_of_getElem? hk)
  have v := hr.ok e0 h0
  have h6 := hr.m6
  have hm2 := hr.m2
  have ho : 2 ≤ offs R k := by unfold offs; omega
  have hlt := (List.getElem?_eq_some_iff.mp hk).1
  have hs := offs_succ hk
  have hmono := offs_mono R (show k + 1 ≤ R.length from hlt)
  have he' : re (fmap R) (uni (shL k) r.mr e0) = uni (shP (offs R k)) r.mr e0 := by
    have q1 := v.s1
    have q2 := v.t1
    unfold re uni
    dsimp only
    rw [fmap_sh (by omega), fmap_sh (by omega)]
  rw [he']
  refine valid_uni v (fun s hs' => ?_) (fun s _ => (shP_props ho).1) (fun s _ => (shP_props ho).2) hr.mp hr.ml (hr.lk e0 h0)
  unfold shP
  split <;> omega
theorem ctxP {signs : List Nat} {R : List Row} (H : Many signs R) : Ctx signs ((TL R).map (fmap R)) (offs R R.length) (uniP 2 R) where
  sg := H.sg
  sl := H.sl
  m2 := by unfold offs; omega
  ok := fun e he => by
    refine ⟨valid_P H e he, ?_⟩
    rw [uniP_eq H] at he
    obtain ⟨e1, h1, rfl⟩ := List.mem_map.mp he
    rcases (uni_st H e1 h1).2.1 with z | z
    · left; show fmap R e1.tg = 1; rw [z]; rfl
    · right; exact List.mem_map_of_mem z
  t0 := List.mem_map.mpr ⟨0, by simp [TL], rfl⟩
  tl := by have := tl_len R; have := H.l4; rw [List.length_map]; omega
  el := by rw [uniP_eq H, List.length_map]; have := len_uniL R 0 H.ok; have := H.l4; omega
theorem prL_map {α : Type} (f g : α → D) : ∀ xs : List α, prL (xs.map f) (xs.map g) = xs.map fun x => .tup [f x, g x]
  | [] => rfl
  | x :: xs => by
    have ih := prL_map f g xs
    unfold prL at ih ⊢
    rw [List.map_cons, List.map_cons, List.zipWith_cons_cons, ih]
    rfl
def mtupD (signs : List Nat) (R : List Row) : D := .tup (R.map (machR signs))
def ktupD (R : List Row) : D := .tup (R.map fun r => .tup r.mr)
theorem united_ok {signs : List Nat} {R : List Row} (H : Many signs R) : m_united [mtupD signs R, ktupD R] = m_trimmed [machD signs (offs R R.length) (uniP 2 R)] := by
  let M := mtupD signs R
  let K := ktupD R
  have pM : peel M = M := rfl
  have pK : peel K = K := rfl
  obtain ⟨q, _⟩ := forL_fold (h := gT fun ds env => if ds.length = 2 then (gsCons (gN 4) (gsCons (gN 5) gsNil)) ds env else none) (body := b1_united) (w := [4, 5, 6, 7, 8, 9, 10, 11]) (fun r : Row => .tup [machR signs r, .tup r.mr])
    (fun S : List Edge × Nat => [some M, some K, some (.olst (S.1.map edgeD)), some (.int (S.2 : Nat)), none, none, none, none, none, none, none, none]) (fun S r => (S.1 ++ r.es.map (uni (shP S.2) r.mr), S.2 + r.mn - 2))
    (fun xs S => S.1.length + xs.length * 200 ≤ 900000 ∧ 2 ≤ S.2 ∧ ∀ r ∈ xs, r ∈ R) R ([], 2) ⟨by have := H.l4; simp; omega, Nat.le_refl _, fun _ z => z⟩ (fun r xs S hi => by
      obtain ⟨h1, h2, h3⟩ := hi
      obtain ⟨acc, o⟩ := S
      have hr := H.ok r (h3 r (by simp))
      have hl := hr.len
      have hm2 := hr.m2
      rw [List.length_cons, Nat.add_mul] at h1
      dsimp only at h1 h2
      have pX : peel (machR signs r) = machR signs r := rfl
      obtain ⟨q1, _⟩ := forL_fold (h := gT fun ds env => if ds.length = 5 then (gsCons (gN 6) (gsCons (gN 7) (gsCons (gN 8) (gsCons (gN 9) (gsCons (gN 10) gsNil))))) ds env else none) (body := b0_united) (w := [6, 7, 8, 9, 10, 11]) edgeD
        (fun acc : List Edge => [some M, some K, some (.olst (acc.map edgeD)), some (.int (o : Nat)), some (machR signs r), some (.tup r.mr), none, none, none, none, none, none]) (fun acc e => acc ++ [uni (shP o) r.mr e]) (fun xs acc => acc.length + xs.length ≤ 900000 ∧ ∀ e ∈ xs, e ∈ r.es) r.es acc ⟨by omega, fun _ z => z⟩ (fun e xs acc hi => by
          obtain ⟨g1, g2⟩ := hi
          rw [List.length_cons] at g1
          obtain ⟨s, hs⟩ := unit_step (M := M) (K := K) (X := machR signs r) (s11 := none) h2 hr (g2 e (by simp)) (acc := acc) (by omega)
          exact ⟨_, rfl, ⟨_, .inl hs, rfl⟩, by simp; omega, fun e' h' => g2 e' (by simp [h'])⟩)
      rw [fold_snoc] at q1
      refine ⟨_, rfl, ⟨[some M, some K, some (.olst ((acc ++ r.es.map (uni (shP o) r.mr)).map edgeD)), some (.int (o + r.mn - 2 : Nat)), some (machR signs r), some (.tup r.mr), none, none, none, none, none, none], .inl ?_, rfl⟩, ?_, ?_, fun q hq => h3 q (by simp [hq])⟩
      · unfold b1_united
        have hf : sFor (iSeq (eFld [0] "edges" (eVar 4))) (gT fun ds env => if ds.length = 5 then (gsCons (gN 6) (gsCons (gN 7) (gsCons (gN 8) (gsCons (gN 9) (gsCons (gN 10) gsNil))))) ds env else none) b0_united [6, 7, 8, 9, 10, 11] [some M, some K, some (.olst (acc.map edgeD)), some (.int (o : Nat)), some (machR signs r), some (.tup r.mr), none, none, none, none, none, none] = .nx [some M, some K, some (.olst ((acc ++ r.es.map (uni (shP o) r.mr)).map edgeD)), some (.int (o : Nat)), some (machR signs r), some (.tup r.mr), none, none, none, none, none, none] := by
          have hfe : pFld [0] "edges" (machR signs r) = some (.tup (r.es.map edgeD)) := fld_edges _ _ _
          rw [sFor_ok (ds := r.es.map edgeD) (by simp [pX, hfe])]
          exact q1
        have hfm : pFld [0] "many" (machR signs r) = some (.int (r.mn : Nat)) := fld_many _ _ _
        have hcast : ((o + r.mn - 2 : Nat) : Int) = (o : Int) + r.mn - 2 := by omega
        show sSeq _ _ [some M, some K, some (.olst (acc.map edgeD)), some (.int (o : Nat)), some (machR signs r), some (.tup r.mr), none, none, none, none, none, none] = _
        rw [sSeq_e, hf, seqR_nx, hcast]
        simp [pX, hfm]
      · simp; omega
      · dsimp only; omega)
  rw [fold_uniP, List.nil_append, off_end R 2 H.ok (Nat.le_refl _)] at q
  have hoff : 2 + (R.map fun r => r.mn - 2).sum = offs R R.length := by unfold offs; rw [List.take_length]
  rw [hoff] at q
  rw [e_united]
  unfold g_united
  have s1 : sSetL 2 (eLst aNil) [some M, some K, none, none, none, none, none, none, none, none, none, none] = .nx [some M, some K, some (.olst []), none, none, none, none, none, none, none, none, none] := by simp
  have s2 : sSet 3 (eC (.int 2)) [some M, some K, some (.olst []), none, none, none, none, none, none, none, none, none] = .nx [some M, some K, some (.olst []), some (.int 2), none, none, none, none, none, none, none, none] := by simp
  have s3 : sFor (eZip (aCons (eVar 0) (aCons (eVar 1) aNil))) (gT fun ds env => if ds.length = 2 then (gsCons (gN 4) (gsCons (gN 5) gsNil)) ds env else none) b1_united [4, 5, 6, 7, 8, 9, 10, 11] [some M, some K, some (.olst []), some (.int 2), none, none, none, none, none, none, none, none]
      = .nx [some M, some K, some (.olst ((uniP 2 R).map edgeD)), some (.int (offs R R.length : Nat)), none, none, none, none, none, none, none, none] := by
    rw [sFor_ok (ds := R.map fun r => .tup [machR signs r, .tup r.mr])]
    · exact q
    · have : iZip2 [M, K] = .ok (R.map fun r => .tup [machR signs r, .tup r.mr]) := by
        show iZip2 [.tup (R.map (machR signs)), .tup (R.map fun r => .tup r.mr)] = _
        rw [iZip2_t, prL_map]
      simp [pM, pK, this]
  have hel := (ctxP H).el
  have hmk := mach_ok (signs := signs) (m := offs R R.length) (E := uniP 2 R) (X := .lst ((uniP 2 R).map edgeD)) H.sg (by have := H.sl; omega) (ctxP H).m2 (valid_P H) (by omega) (.inr rfl)
  have hx : pIx M (.int 0) = some (machR signs (R.head H.ne)) := by
    show pIx (.tup (R.map (machR signs))) (.int ((0 : Nat) : Int)) = _
    rw [pIx_tup, List.getElem?_map]
    cases R with
    | nil => exact absurd rfl H.ne
    | cons r R => rfl
  have hfs : pFld [0] "signs" (machR signs (R.head H.ne)) = some (.str signs) := fld_signs _ _ _
  have hd : isData (machD signs (offs R R.length) (uniP 2 R)) = true := rfl
  show noX (outB (sSeq _ _ [some M, some K, none, none, none, none, none, none, none, none, none, none])) = _
  rw [sSeq_e, s1, seqR_nx, sSeq_e, s2, seqR_nx, sSeq_e, s3, seqR_nx, sFrz_e]
  simp only [List.getElem?_cons_succ, List.getElem?_cons_zero, all_edges, if_true]
  have hres := trimmed_ok (ctxP H)
  obtain ⟨A, _, hres⟩ := hres
  have hdm : ∀ s m E, isData (machD s m E) = true := fun _ _ _ => rfl
  split at hres <;> simp [pM, hx, hfs, hmk, hdm, hres]
end Law

set_option Elab.async false
set_option linter.all false
set_option maxRecDepth 100000
namespace Law
open Z PySem L2
theorem right_ok {signs : List Nat} {R : List Row} (H : Many signs R) : m__law_right [.lst (R.map (machR signs)), marksD R, rowsD R, .str signs] = .ok (.bl true) := by
  obtain ⟨AL, hL, eL⟩ := walked_ok (ctxL H)
  obtain ⟨AP, hP, eP⟩ := trimmed_ok (ctxP H)
  have rel := rel_R R H.ok
  have hE : ∀ e ∈ uniL 0 R, PL R e.st ∧ PL R e.tg := fun e he => ⟨(uni_st H e he).2.2.1, (uni_st H e he).2.2.2⟩
  have hal : ∀ x, PL R x → alB AP (fmap R x) = alB AL x := fun x hx => decide_eq_decide.mpr ((hP _).trans (by rw [uniP_eq H]; exact (alive_map rel hE hx).trans (hL x).symm))
  have hloop : loopW (alB AP) (uniP 2 R) (csOf signs) 1000 0 ([0], []) = mpS (fmap R) (loopW (alB AL) (uniL 0 R) (csOf signs) 1000 0 ([0], [])) := by
    rw [uniP_eq H]
    exact loop_map rel hal hE (csOf signs) 1000 0 (S := ([0], [])) fun x hx => by rw [List.mem_singleton.mp hx]; exact rel.P0
  have h0 : (0 ∈ AP) ↔ 0 ∈ AL := by
    have := hal 0 rel.P0
    rw [show fmap R 0 = 0 from rfl] at this
    exact decide_eq_decide.mp this
  have W := WInv.loop (al := alB AL) (ctxL H).ok (csOf signs) 1000 0 (WInv.start signs (TL R) (ctxL H).t0)
  have hb := loop_rows (ctxL H) (al := alB AL) 1000 0 (WInv.start signs (TL R) (ctxL H).t0) (Nat.zero_le _) (Nat.zero_le _)
  rw [hloop] at eP
  generalize loopW (alB AL) (uniL 0 R) (csOf signs) 1000 0 ([0], []) = RES at eL eP W hb
  have hside := side_ok H.ok H.l4
  have hun := united_ok H
  have key : ∃ m E, plainD 6 (dueD signs m E) = true ∧ m__law_walked [.lst ((uniL 0 R).map edgeD), .str signs] = .ok (dueD signs m E) ∧ m_united [mtupD signs R, ktupD R] = .ok (machD signs m E) := by
    by_cases hz : 0 ∈ AL
    · rw [if_pos hz] at eL
      rw [if_pos (h0.mpr hz)] at eP
      refine ⟨RES.1.length + 1, RES.2, due_plain W.rows (by omega), eL, ?_⟩
      rw [hun, eP]
      unfold mpS
      rw [List.length_map]
    · rw [if_neg hz] at eL
      rw [if_neg fun z => hz (h0.mp z)] at eP
      exact ⟨2, [], due_plain (M := 2) (fun e he => nomatch he) (by simp), eL, by rw [hun, eP]⟩
  obtain ⟨m, E, k1, k2, k3⟩ := key
  have k4 := same_ok 6 _ k1
  rw [e__law_right]
  unfold g__law_right
  have pr : peel (rowsD R) = rowsD R := rfl
  have pk : peel (marksD R) = marksD R := rfl
  have dr : isData (rowsD R) = true := rfl
  have dk : isData (marksD R) = true := rfl
  have dd : isData (dueD signs m E) = true := rfl
  have dm : isData (machD signs m E) = true := rfl
  have pd : peel (dueD signs m E) = dueD signs m E := rfl
  have pm : peel (machD signs m E) = machD signs m E := rfl
  have hk : bTuple [marksD R] = some (ktupD R) := rfl
  have hm : bTuple [.lst (R.map (machR signs))] = some (mtupD signs R) := rfl
  have d3 : isData (mtupD signs R) = true := rfl
  have d4 : isData (ktupD R) = true := rfl
  have s1 : sSet 4 (eApp 2 m__law_walked (aCons (eApp 2 m__law_side_by_side (aCons (eVar 2) (aCons (eVar 1) aNil))) (aCons (eVar 3) aNil))) [some (.lst (R.map (machR signs))), some (marksD R), some (rowsD R), some (.str signs), none, none]
      = .nx [some (.lst (R.map (machR signs))), some (marksD R), some (rowsD R), some (.str signs), some (dueD signs m E), none] := by
    simp [pr, pk, dr, dk, hside, k2, dd]
  have s2 : sSet 5 (eApp 2 m_united (aCons (eCall bTuple (aCons (eVar 0) aNil)) (aCons (eCall bTuple (aCons (eVar 1) aNil)) aNil))) [some (.lst (R.map (machR signs))), some (marksD R), some (rowsD R), some (.str signs), some (dueD signs m E), none]
      = .nx [some (.lst (R.map (machR signs))), some (marksD R), some (rowsD R), some (.str signs), some (dueD signs m E), some (machD signs m E)] := by
    have h1 : (eCall bTuple (aCons (eVar 0) aNil)) [some (.lst (R.map (machR signs))), some (marksD R), some (rowsD R), some (.str signs), some (dueD signs m E), none] = .ok (mtupD signs R) := rfl
    have h2 : (eCall bTuple (aCons (eVar 1) aNil)) [some (.lst (R.map (machR signs))), some (marksD R), some (rowsD R), some (.str signs), some (dueD signs m E), none] = .ok (ktupD R) := rfl
    rw [sSet_e, eApp_e, aCons_e, h1, Rs.bind_ok, aCons_e, h2, Rs.bind_ok, aNil_e, Rs.bind_ok, Rs.bind_ok, Rs.bind_ok, if_pos (show ([mtupD signs R, ktupD R].all isData && decide ([mtupD signs R, ktupD R].length = 2)) = true from rfl), k3]
    rfl
  have s3 : (eIsC 0 (eVar 5)) [some (.lst (R.map (machR signs))), some (marksD R), some (rowsD R), some (.str signs), some (dueD signs m E), some (machD signs m E)] = .ok (.bl true) := rfl
  have s4 : (eTup (aCons (eFld [0] "signs" (eVar 5)) (aCons (eFld [0] "many" (eVar 5)) (aCons (eFld [0] "edges" (eVar 5)) aNil)))) [some (.lst (R.map (machR signs))), some (marksD R), some (rowsD R), some (.str signs), some (dueD signs m E), some (machD signs m E)] = .ok (dueD signs m E) := by
    simp [pm, fld_signs, fld_many, fld_edges, dueD]
  rw [sSeq_e, s1, seqR_nx, sSeq_e, s2, seqR_nx, sRet_e, eAndV_e, s3, asB_bl, Rs.bind_ok, if_pos rfl, eApp_e, aCons_e, s4, Rs.bind_ok]
  simp [pd, dd, k4]
end Law

set_option Elab.async false
set_option linter.all false
set_option maxRecDepth 100000
namespace Law
open Z PySem L2
def cellS (ns : List Int) (k : Nat) : Int := ns.getD k (5 * k + 2)
theorem cell_ok (ns : List Int) (k : Nat) (hk : k < 1000000) : m__law_cell [.scr ns, .int k] = .ok (.int (cellS ns k)) := by
  show noX (outB (g__law_cell [some (.scr ns), some (.int k)])) = _
  unfold g__law_cell cellS
  have hm : (smallI 5 || smallI (k : Int)) = true := rfl
  by_cases h : k < ns.length
  · simp [h, pIx_scr]
  · simp [h, hm]
theorem smallC (i : Int) (j : Int) (h : smallI j = true) : (smallI i || smallI j) = true := by rw [h]; exact Bool.or_true _
def absI (c : Int) : Int := if c < 0 then -c else c
def numE (c many : Int) (n : Nat) (r mx : Int) (xs : List Int) : En :=
  [some (.int c), some (.int many), some (.int n), some (.int r), some (.bl (decide ((1000000000000000000:Int) ≤ absI c))), some (.int mx), some (.olst (xs.map .int)), none]
def numP (c many : Int) (n : Nat) (i : Nat) (e : En) : Prop := ∃ r mx xs, e = numE c many n r mx xs ∧ xs.length = i ∧ ∀ x ∈ xs, 0 ≤ x ∧ x < many
theorem num_step {c many : Int} {n i : Nat} (h1 : 0 < many) (h2 : many < 1073741824) (r mx : Int) (xs : List Int) (hz : xs.length < 16777216) (hl : xs.length = i) (hx : ∀ x ∈ xs, 0 ≤ x ∧ x < many) :
    LpP [7] (b0__law_numbers [some (.int c), some (.int many), some (.int n), some (.int r), some (.bl (decide ((1000000000000000000:Int) ≤ absI c))), some (.int mx), some (.olst (xs.map .int)), some (.int (0 + (i : Int)))])
      (numP c many n (i + 1)) fun _ => False := by
  have s1 : smallI 48271 = true := by decide
  have s2 : smallI 11 = true := by decide
  have key : ∀ r' mx' y, numP c many n (i + 1) (numE c many n r' mx' (xs ++ [y % many])) := fun r' mx' y => ⟨r', mx', _, rfl, by simp [hl], by
    intro x hm
    rcases List.mem_append.mp hm with hm | hm
    · exact hx x hm
    · rw [List.mem_singleton.mp hm]
      exact ⟨Int.emod_nonneg _ (by omega), Int.emod_lt_of_pos _ h1⟩⟩
  unfold numE at key
  simp only [List.map_append, List.map_cons, List.map_nil] at key
  unfold b0__law_numbers
  generalize decide ((1000000000000000000:Int) ≤ absI c) = b at key ⊢
  cases b with
  | true => simp [h1, h2, hz, key]
  | false => simp [h1, h2, hz, s1, s2, key]
theorem numbers_ok (c many : Int) (n : Nat) (h1 : 0 < many) (h2 : many < 1073741824) (hn : n ≤ 16000000) : ∃ xs : List Int, m__law_numbers [.int c, .int many, .int n] = .ok (.lst (xs.map .int)) ∧ xs.length = n ∧ ∀ x ∈ xs, 0 ≤ x ∧ x < many := by
  obtain ⟨e, he, r, mx, xs, rfl, hl, hx⟩ := forL_inv (h := gN 7) (body := b0__law_numbers) (w := [7]) (ds := rngL 0 n) (env := numE c many n (absI c) (absI c % 2147483647 + 1) []) (numP c many n)
    ⟨_, _, [], rfl, rfl, fun x h => nomatch h⟩ (by
      rintro i d e hd ⟨r, mx, xs, rfl, hl, hx⟩
      obtain ⟨hi, rfl⟩ := rng_at hd
      exact num_step h1 h2 r mx xs (by omega) hl hx)
  rw [rngL_len] at hl
  refine ⟨xs, ?_, hl, hx⟩
  show noX (outB (g__law_numbers [some (.int c), some (.int many), some (.int n), none, none, none, none, none])) = _
  unfold g__law_numbers
  unfold absI numE at he
  unfold absI at he
  simp only [List.map_nil] at he
  simp [sFor_ok (ds := rngL 0 n), hn, he]

theorem modN (c : Int) (n : Nat) (h : 0 < n) : ∃ k : Nat, c % (n : Int) = k ∧ k < n := ⟨(c % n).toNat, by
  have := Int.emod_nonneg c (show (n : Int) ≠ 0 by omega)
  omega, by
  have := Int.emod_nonneg c (show (n : Int) ≠ 0 by omega)
  have := Int.emod_lt_of_pos c (show (0 : Int) < n by omega)
  omega⟩
theorem cell_ok' (ns : List Int) (i : Int) (k : Nat) (hi : i = k) (hk : k < 1000000) : m__law_cell [.scr ns, .int i] = .ok (.int (cellS ns k)) := by rw [hi]; exact cell_ok ns k hk
theorem nums_nat (c : Int) (b n : Nat) (h1 : 0 < b) (h2 : b < 1073741824) (hn : n ≤ 16000000) : ∃ xs : List Nat, m__law_numbers [.int c, .int b, .int n] = .ok (.lst (xs.map fun (x : Nat) => D.int x)) ∧ xs.length = n ∧ ∀ x ∈ xs, x < b := by
  obtain ⟨xs, e, hl, hx⟩ := numbers_ok c b n (by omega) (by omega) hn
  refine ⟨xs.map Int.toNat, ?_, by simpa using hl, fun x h => ?_⟩
  · rw [e, List.map_map]
    congr 2
    apply List.map_congr_left
    intro x hm
    have := hx x hm
    simp [Int.toNat_of_nonneg this.1]
  · obtain ⟨y, hy, rfl⟩ := List.mem_map.mp h
    have := hx y hy
    omega

/-! ### signs, words, looks -/
theorem sg_asc : ∀ i j : Nat, i < j → j < 9 → SG.getD i 0 < SG.getD j 0 := by
  intro i j h1 h2
  have : ∀ j, j < 9 → ∀ i, i < j → SG.getD i 0 < SG.getD j 0 := by decide
  exact this j h2 i h1
def sgAt (k : Nat) : Nat := SG.getD k 0
theorem signs_ok (c : Int) : ∃ signs : List Nat, m__law_signs [.int c] = .ok (.str signs) ∧ Sgn signs ∧ signs.length ≤ 9 := by
  obtain ⟨n, hn, hcount⟩ : ∃ n : Nat, 1 ≤ n ∧ n ≤ 9 ∧ (sSeq (sSet 1 (eC (.int 3))) (sIf (eB (eBin pEq (eBin pMod (eCall bInt (aCons (eVar 0) aNil)) (eC (.int 8))) (eC (.int 5)))) (sSet 1 (eC (.int 9))) sPass)) [some (.int c), none, none, none] = .nx [some (.int c), some (.int (n : Nat)), none, none] := by
    by_cases h : c % 8 = 5
    · exact ⟨9, by decide, by decide, by simp [h]⟩
    · exact ⟨3, by decide, by decide, by simp [h]⟩
  obtain ⟨h9, hcount⟩ := hcount
  obtain ⟨xs, e, hl, hx⟩ := nums_nat c 9 n (by decide) (by decide) (by omega)
  let signs := ((List.range 9).filter fun k => decide (k ∈ xs)).map fun k => sgAt k
  have hc : eComp (eRg1 (aCons (eC (.int 9)) aNil)) (gN 3) (eB (eBin pIn (eVar 3) (eVar 2))) (eBin pIx (eC (.str [35, 97, 98, 99, 100, 101, 102, 103, 104])) (eVar 3)) [3] [some (.int c), some (.int (n : Nat)), some (.lst (xs.map fun (x : Nat) => D.int x)), none] = .ok (((List.range 9).filter fun k => decide (k ∈ xs)).map fun k => .str [sgAt k]) := by
    refine eComp_T (fun k : Nat => D.int (k : Nat)) (fun k => decide (k ∈ xs)) _ (List.range 9) ?_ fun k hk => ⟨_, rfl, ?_, fun _ => ⟨?_, rfl⟩⟩
    · have : iRng1 [.int 9] = .ok (rngL 0 9) := iRng1_nat (n := 9) (by decide)
      simp [this, rngL_map]
    · have := pIn_nats_l xs k
      simp [this]
    · have hk' : k < 9 := List.mem_range.mp hk
      have : pIx (.str [35, 97, 98, 99, 100, 101, 102, 103, 104]) (.int (k : Nat)) = some (.str [sgAt k]) := by
        rw [pIx_str]
        have : k < SG.length := hk'
        unfold sgAt
        show (SG[k]?).map _ = _
        rw [List.getD_eq_getElem?_getD, List.getElem?_eq_getElem this]
        rfl
      simp [this]
  have hlen : ((List.range 9).filter fun k => decide (k ∈ xs)).length ≤ 9 := by
    have := List.length_filter_le (fun k => decide (k ∈ xs)) (List.range 9)
    simpa using this
  have hj := pJoin_single (sgAt) ((List.range 9).filter fun k => decide (k ∈ xs)) (by omega)
  refine ⟨signs, ?_, ⟨?_, ?_, ?_⟩, by show (List.map _ _).length ≤ 9; rw [List.length_map]; exact hlen⟩
  · rw [e__law_signs]
    unfold g__law_signs
    rw [sSeq_e] at hcount
    have s0 : sSet 1 (eC (.int 3)) [some (.int c), none, none, none] = .nx [some (.int c), some (.int 3), none, none] := by simp
    rw [s0, seqR_nx] at hcount
    rw [sSeq_e, s0, seqR_nx, sSeq_e, hcount, seqR_nx]
    have e' : m__law_numbers [.int c, .int 9, .int (n : Nat)] = .ok (.lst (xs.map fun (x : Nat) => D.int x)) := e
    simp [e', hc, hj]
    rfl
  · intro z
    have : ∃ x, x ∈ xs := by
      cases xs with
      | nil => simp at hl; omega
      | cons a l => exact ⟨a, by simp⟩
    obtain ⟨x, hxm⟩ := this
    have hmem : sgAt x ∈ signs := List.mem_map.mpr ⟨x, List.mem_filter.mpr ⟨List.mem_range.mpr (hx x hxm), decide_eq_true hxm⟩, rfl⟩
    rw [z] at hmem
    exact nomatch hmem
  · intro d hd
    obtain ⟨k, hk, rfl⟩ := List.mem_map.mp hd
    have hk' : k < SG.length := List.mem_range.mp (List.mem_filter.mp hk).1
    unfold sgAt
    rw [List.getD_eq_getElem?_getD, List.getElem?_eq_getElem hk']
    exact List.getElem_mem hk'
  · refine List.pairwise_map.mpr ?_
    have h1 : (List.range 9).Pairwise (· < ·) := List.pairwise_lt_range
    have h2 : ((List.range 9).filter fun k => decide (k ∈ xs)).Pairwise (· < ·) := h1.filter _
    refine List.Pairwise.imp_of_mem ?_ h2
    intro a b ha hb hab
    exact sg_asc a b hab (List.mem_range.mp (List.mem_filter.mp hb).1)
theorem cut_to {α : Type} (x : List α) (k : Nat) : cutL x none (some (k : Int)) = x.take k := by
  unfold cutL
  rw [HT.sIx_none, HT.sIx_nat, List.drop_zero, Nat.sub_zero]
  rcases Nat.le_total k x.length with h | h
  · rw [Nat.min_eq_left h]
  · rw [Nat.min_eq_right h, List.take_of_length_le (Nat.le_refl _), List.take_of_length_le h]
theorem cut_from {α : Type} (x : List α) (k : Nat) : cutL x (some (k : Int)) none = x.drop k := by
  unfold cutL
  rw [HT.sIx_none, HT.sIx_nat]
  rcases Nat.le_total k x.length with h | h
  · rw [Nat.min_eq_left h, List.take_of_length_le (by rw [List.length_drop]; exact Nat.le_refl _)]
  · rw [Nat.min_eq_right h, List.drop_of_length_le (Nat.le_refl _), List.drop_of_length_le h]; simp
theorem cut_mid {α : Type} (x : List α) (a b : Nat) (h : a ≤ b) (hb : b ≤ x.length) : cutL x (some (a : Int)) (some (b : Int)) = (x.drop a).take (b - a) := by
  unfold cutL
  rw [HT.sIx_nat, HT.sIx_nat, Nat.min_eq_left (Nat.le_trans h hb), Nat.min_eq_left hb]
theorem idiv_nat (a b : Nat) : ((a : Int) / (b : Int)) = ((a / b : Nat) : Int) := (Int.natCast_ediv a b).symm
theorem imod_nat (a b : Nat) : ((a : Int) % (b : Int)) = ((a % b : Nat) : Int) := (Int.natCast_emod a b).symm
theorem word_ok {signs : List Nat} (h : Sgn signs) (n : Nat) : ∃ w : List Nat, m__law_word [.str signs, .int (n : Nat)] = .ok (.str w) ∧ ∀ c ∈ w, c ∈ signs := by
  have hp : 0 < signs.length := List.length_pos_iff.mpr h.ne
  obtain ⟨a, ha⟩ : ∃ a, signs[n / 3 % signs.length]? = some a := ⟨_, List.getElem?_eq_getElem (Nat.mod_lt _ hp)⟩
  obtain ⟨b, hb⟩ : ∃ b, signs[n / 27 % signs.length]? = some b := ⟨_, List.getElem?_eq_getElem (Nat.mod_lt _ hp)⟩
  have ma := List.mem_of_getElem? ha
  have mb := List.mem_of_getElem? hb
  have i1 : (eBin pIx (eVar 0) (eBin pMod (eBin pDiv (eCall bInt (aCons (eVar 1) aNil)) (eC (.int 3))) (eCall bLen (aCons (eVar 0) aNil)))) [some (.str signs), some (.int (n : Nat)), none] = .ok (.str [a]) := by
    have e1 : ((n : Int) / 3) = ((n / 3 : Nat) : Int) := idiv_nat n 3
    have e2 : (((n / 3 : Nat) : Int) % (signs.length : Int)) = ((n / 3 % signs.length : Nat) : Int) := imod_nat _ _
    have e3 : pIx (.str signs) (.int ((n / 3 % signs.length : Nat) : Int)) = some (.str [a]) := by rw [pIx_str, ha]; rfl
    have e4 : pMod (.int ((n / 3 : Nat) : Int)) (.int (signs.length : Int)) = some (.int ((n / 3 % signs.length : Nat) : Int)) := by rw [pMod_int (by omega), e2]
    have e5 : pDiv (.int (n : Int)) (.int 3) = some (.int ((n / 3 : Nat) : Int)) := by rw [pDiv_int (by decide), e1]
    simp only [eBin_e, eVar_z, eVar_s, peel_data, isData_str, isData_int, Rs.bind_ok, eCall_e, aCons_e, aNil_e, bInt_int, bLen_str, eC_e, ofO_some, e5, e4, e3]
  have i2 : (eBin pIx (eVar 0) (eBin pMod (eBin pDiv (eCall bInt (aCons (eVar 1) aNil)) (eC (.int 27))) (eCall bLen (aCons (eVar 0) aNil)))) [some (.str signs), some (.int (n : Nat)), none] = .ok (.str [b]) := by
    have e1 : ((n : Int) / 27) = ((n / 27 : Nat) : Int) := idiv_nat n 27
    have e2 : (((n / 27 : Nat) : Int) % (signs.length : Int)) = ((n / 27 % signs.length : Nat) : Int) := imod_nat _ _
    have e3 : pIx (.str signs) (.int ((n / 27 % signs.length : Nat) : Int)) = some (.str [b]) := by rw [pIx_str, hb]; rfl
    have e4 : pMod (.int ((n / 27 : Nat) : Int)) (.int (signs.length : Int)) = some (.int ((n / 27 % signs.length : Nat) : Int)) := by rw [pMod_int (by omega), e2]
    have e5 : pDiv (.int (n : Int)) (.int 27) = some (.int ((n / 27 : Nat) : Int)) := by rw [pDiv_int (by decide), e1]
    simp only [eBin_e, eVar_z, eVar_s, peel_data, isData_str, isData_int, Rs.bind_ok, eCall_e, aCons_e, aNil_e, bInt_int, bLen_str, eC_e, ofO_some, e5, e4, e3]
  have e6 : ((n : Int) % 3) = ((n % 3 : Nat) : Int) := imod_nat n 3
  have hs : pSl (.lst [.str [a], .str [b]]) none (some ((n % 3 : Nat) : Int)) = some (.lst (([a, b].take (n % 3)).map fun c => .str [c])) := by
    show some (D.lst (cutL [.str [a], .str [b]] none (some ((n % 3 : Nat) : Int)))) = _
    rw [cut_to]
    simp [List.map_take]
  have hj := pJoin_single (fun c => c) ([a, b].take (n % 3)) (by simp; omega)
  rw [List.map_id'] at hj
  refine ⟨[a, b].take (n % 3), ?_, fun c hc => ?_⟩
  · rw [e__law_word]
    unfold g__law_word
    have s1 : sSet 2 (eOfL (eLst (aCons (eBin pIx (eVar 0) (eBin pMod (eBin pDiv (eCall bInt (aCons (eVar 1) aNil)) (eC (.int 3))) (eCall bLen (aCons (eVar 0) aNil)))) (aCons (eBin pIx (eVar 0) (eBin pMod (eBin pDiv (eCall bInt (aCons (eVar 1) aNil)) (eC (.int 27))) (eCall bLen (aCons (eVar 0) aNil)))) aNil)))) [some (.str signs), some (.int (n : Nat)), none]
        = .nx [some (.str signs), some (.int (n : Nat)), some (.lst [.str [a], .str [b]])] := by
      rw [sSet_e, eOfL_e, eLst_e, aCons_e, i1, Rs.bind_ok, aCons_e, i2]
      rfl
    have hm : pMod (.int (n : Int)) (.int 3) = some (.int ((n % 3 : Nat) : Int)) := by rw [pMod_int (by decide), e6]
    rw [sSeq_e, s1, seqR_nx]
    simp only [sRet_e, eBin_e, eC_e, Rs.bind_ok, eSl_e, eVar_s, eVar_z, peel_data, isData_lst, isData_int, oNone_e, oSome_e, eCall_e, aCons_e, aNil_e, bInt_int, ofO_some, hm, asI_int, hs, hj, isData_str, if_true, outB_rt, noX_ok]
  · have := List.mem_of_mem_take hc
    rcases List.mem_cons.mp this with z | z
    · rw [z]; exact ma
    · rw [List.mem_singleton.mp z]; exact mb
theorem looks_ok (n step : Nat) : ∃ lk : List D, m__law_looks [.int (n : Nat), .int (step : Nat)] = .ok (.tup lk) ∧ (∀ d ∈ lk, plainD 2 d = true) ∧ lk.length ≤ 2 := by
  let d1 : D := .tup [.int (step : Nat), .str [99, 108, 111, 99, 107], .int ((n / 3 % 4 : Nat) : Int)]
  let d2 : D := .tup [.int ((step + 1 : Nat) : Int), .str [112, 108, 97, 99, 101], .int ((n / 12 % 2 : Nat) : Int)]
  have e1 : pDiv (.int (n : Int)) (.int 3) = some (.int ((n / 3 : Nat) : Int)) := by rw [pDiv_int (by decide)]; rfl
  have e2 : pMod (.int ((n / 3 : Nat) : Int)) (.int 4) = some (.int ((n / 3 % 4 : Nat) : Int)) := by rw [pMod_int (by decide)]; rfl
  have e3 : pDiv (.int (n : Int)) (.int 12) = some (.int ((n / 12 : Nat) : Int)) := by rw [pDiv_int (by decide)]; rfl
  have e4 : pMod (.int ((n / 12 : Nat) : Int)) (.int 2) = some (.int ((n / 12 % 2 : Nat) : Int)) := by rw [pMod_int (by decide)]; rfl
  have e5 : pMod (.int (n : Int)) (.int 3) = some (.int ((n % 3 : Nat) : Int)) := by rw [pMod_int (by decide)]; rfl
  have hs : pSl (.tup [d1, d2]) none (some ((n % 3 : Nat) : Int)) = some (.tup ([d1, d2].take (n % 3))) := by
    show some (D.tup (cutL [d1, d2] none (some ((n % 3 : Nat) : Int)))) = _
    rw [cut_to]
  have p1 : plainD 2 d1 = true := rfl
  have p2 : plainD 2 d2 = true := rfl
  refine ⟨[d1, d2].take (n % 3), ?_, fun d hd => ?_, by simp; omega⟩
  · rw [e__law_looks]
    unfold g__law_looks
    have s1 : sSet 2 (eTup (aCons (eTup (aCons (eVar 1) (aCons (eC (.str [99, 108, 111, 99, 107])) (aCons (eBin pMod (eBin pDiv (eCall bInt (aCons (eVar 0) aNil)) (eC (.int 3))) (eC (.int 4))) aNil)))) (aCons (eTup (aCons (eBin pAdd (eVar 1) (eC (.int 1))) (aCons (eC (.str [112, 108, 97, 99, 101])) (aCons (eBin pMod (eBin pDiv (eCall bInt (aCons (eVar 0) aNil)) (eC (.int 12))) (eC (.int 2))) aNil)))) aNil))) [some (.int (n : Nat)), some (.int (step : Nat)), none]
        = .nx [some (.int (n : Nat)), some (.int (step : Nat)), some (.tup [d1, d2])] := by
      simp [e1, e2, e3, e4]
      exact ⟨rfl, rfl⟩
    rw [sSeq_e, s1, seqR_nx]
    simp only [sRet_e, eSl_e, eVar_s, eVar_z, Rs.bind_ok, peel_data, isData_tup, isData_int, oNone_e, oSome_e, eBin_e, eCall_e, aCons_e, aNil_e, bInt_int, eC_e, ofO_some, e5, asI_int, hs, if_true, outB_rt, noX_ok]
  · have := List.mem_of_mem_take hd
    rcases List.mem_cons.mp this with z | z
    · rw [z]; exact p1
    · rw [List.mem_singleton.mp z]; exact p2
end Law

set_option Elab.async false
set_option linter.all false
set_option maxRecDepth 100000
namespace Law
open Z PySem L2
/-! ### places -/
def xsD (xs : List Nat) : D := .lst (xs.map fun (x : Nat) => D.int x)
theorem xs_get {xs : List Nat} {j : Nat} (h : j < xs.length) : pIx (xsD xs) (.int (j : Nat)) = some (.int (xs.getD j 0 : Nat)) := by
  unfold xsD
  rw [pIx_lst, List.getElem?_map, List.getD_eq_getElem?_getD, List.getElem?_eq_getElem h]
  rfl
theorem xs_lt {xs : List Nat} {j b : Nat} (h : j < xs.length) (hx : ∀ x ∈ xs, x < b) : xs.getD j 0 < b := by
  rw [List.getD_eq_getElem?_getD, List.getElem?_eq_getElem h]
  exact hx _ (List.getElem_mem h)
theorem xs_peel (xs : List Nat) : peel (xsD xs) = xsD xs := rfl
theorem xs_data (xs : List Nat) : isData (xsD xs) = true := rfl
def plD (p : Nat × Nat) : D := .tup [.str [p.1], .int p.2]
def OkP (signs : List Nat) (many : Nat) (p : Nat × Nat) : Prop := (p.1 = 94 ∧ p.2 = 0) ∨ ((p.1 ∈ signs ∨ p.1 = 36) ∧ 2 ≤ p.2 ∧ p.2 < many)
theorem all_pl (ps : List (Nat × Nat)) : (ps.map plD).all isData = true := by
  rw [List.all_map]
  exact List.all_eq_true.mpr fun _ _ => rfl
structure Pls (signs : List Nat) (many : Nat) (ps : List (Nat × Nat)) : Prop where
  ok : ∀ p ∈ ps, OkP signs many p
  hd : ∃ r, ps = (94, 0) :: r
def pE (signs : List Nat) (many : Nat) (xs : List Nat) (ps : List (Nat × Nat)) (s4 s5 s6 : Option D) : En := [some (.str signs), some (.int (many : Nat)), some (xsD xs), some (.olst (ps.map plD)), s4, s5, s6]
theorem places_ok {signs : List Nat} {many : Nat} {xs : List Nat} (hs : signs.length ≤ 9) (h3 : 3 ≤ many) (h6 : many ≤ 6) (hl : xs.length = 60) :
    ∃ ps, m__law_places [.str signs, .int (many : Nat), xsD xs] = .ok (.lst (ps.map plD)) ∧ Pls signs many ps ∧ ps.length ≤ 50 := by
  -- the first loop
  obtain ⟨en, he, ps, rfl, hp, hpl⟩ := forL_inv (h := gN 4) (body := b0__law_places) (w := [4]) (ds := rngL 2 (many - 2)) (env := pE signs many xs [(94, 0)] none none none) (fun i en => ∃ ps, en = pE signs many xs ps none none none ∧ Pls signs many ps ∧ ps.length ≤ 1 + i * 10)
    ⟨[(94, 0)], rfl, ⟨fun p hp => by rw [List.mem_singleton.mp hp]; exact .inl ⟨rfl, rfl⟩, [], rfl⟩, Nat.le_refl _⟩ (by
      rintro i d en hd ⟨ps, rfl, hp, hpl⟩
      obtain ⟨hi, rfl⟩ := rng_at hd
      have hg : gN 4 (.int (2 + (i : Int))) (pE signs many xs ps none none none) = some (pE signs many xs ps (some (.int ((2 + i : Nat) : Int))) none none) := by
        have : (2 + (i : Int)) = ((2 + i : Nat) : Int) := by omega
        rw [this]; rfl
      rw [hg, SoP_some]
      have hc : eComp (iSeqO (eBin pAdd (eVar 0) (eC (.str [36])))) (gN 5) cYes (eTup (aCons (eVar 5) (aCons (eVar 4) aNil))) [5] (pE signs many xs ps (some (.int ((2 + i : Nat) : Int))) none none) = .ok (((signs ++ [36]).map fun c => (c, 2 + i)).map plD) := by
        rw [List.map_map]
        refine eComp_M (fun c : Nat => D.str [c]) _ (signs ++ [36]) ?_ fun c hc => ⟨_, rfl, rfl, rfl⟩
        have : signs.length + 1 ≤ 16777216 := by omega
        unfold pE
        simp [this]
      have hlen : ((signs ++ [36]).map fun c => (c, 2 + i)).length ≤ 10 := by simp; omega
      have e1 : b0__law_places (pE signs many xs ps (some (.int ((2 + i : Nat) : Int))) none none) = .nx (pE signs many xs (ps ++ (signs ++ [36]).map fun c => (c, 2 + i)) (some (.int ((2 + i : Nat) : Int))) none none) := by
        unfold b0__law_places
        have hcat : eCat (eVar 3) (eOfL (eComp (iSeqO (eBin pAdd (eVar 0) (eC (.str [36])))) (gN 5) cYes (eTup (aCons (eVar 5) (aCons (eVar 4) aNil))) [5])) (pE signs many xs ps (some (.int ((2 + i : Nat) : Int))) none none) = .ok ((ps ++ (signs ++ [36]).map fun c => (c, 2 + i)).map plD) := by
          have hv : eVar 3 (pE signs many xs ps (some (.int ((2 + i : Nat) : Int))) none none) = .ok (.olst (ps.map plD)) := rfl
          rw [eCat_e, hv, Rs.bind_ok, eOfL_e, hc, Rs.bind_ok, Rs.bind_ok]
          have l1 : Z.listOf (.olst (ps.map plD)) = some (ps.map plD) := by
            show (if (ps.map plD).all isData then some (ps.map plD) else none) = _
            rw [all_pl]; rfl
          rw [l1, listOf_lst, Option.bind_some, Option.bind_some, if_pos (by rw [List.length_map, List.length_map]; omega)]
          exact congrArg Rs.ok List.map_append.symm
        rw [sSetL_e, hcat]
        rfl
      rw [e1, LpP_nx]
      refine ⟨_, rfl, ⟨fun p h => ?_, ?_⟩, by rw [List.length_append]; omega⟩
      · rcases List.mem_append.mp h with z | z
        · exact hp.ok p z
        · obtain ⟨c, hc', rfl⟩ := List.mem_map.mp z
          refine .inr ⟨?_, by show 2 ≤ 2 + i; omega, by show 2 + i < many; omega⟩
          rcases List.mem_append.mp hc' with y | y
          · exact .inl y
          · exact .inr (List.mem_singleton.mp y)
      · obtain ⟨r, hr⟩ := hp.hd
        exact ⟨r ++ (signs ++ [36]).map fun c => (c, 2 + i), by rw [hr]; rfl⟩)
  rw [rngL_len] at hpl
  -- the second loop
  let n := xs.getD 59 0 % 4
  have hn : n < 4 := Nat.mod_lt _ (by decide)
  obtain ⟨en, he2, ps2, rfl, hp2, hpl2⟩ := forL_inv (h := gN 6) (body := b1__law_places) (w := [4, 5, 6]) (ds := rngL 0 n) (env := pE signs many xs ps none none none) (fun i en => ∃ ps, en = pE signs many xs ps none none none ∧ Pls signs many ps ∧ ps.length ≤ 41 + i)
    ⟨ps, rfl, hp, by omega⟩ (by
      rintro i d en hd ⟨ps, rfl, hp, hpl⟩
      obtain ⟨hi, rfl⟩ := rng_get hd
      have hg : gN 6 (.int (i : Nat)) (pE signs many xs ps none none none) = some (pE signs many xs ps none none (some (.int (i : Nat)))) := rfl
      rw [hg, SoP_some]
      let al := 94 :: signs ++ [36]
      have hal : al.length = signs.length + 2 := by simp [al]
      let j := xs.getD (56 + i) 0 % (signs.length + 2)
      have hj : j < al.length := by rw [hal]; exact Nat.mod_lt _ (by omega)
      let c := al[j]
      have hcm : c ∈ al := List.getElem_mem hj
      let st := 2 + xs.getD (53 + i) 0 % (many - 2)
      have hst : 2 ≤ st ∧ st < many := by
        have := Nat.mod_lt (xs.getD (53 + i) 0) (show 0 < many - 2 by omega)
        simp only [st]
        omega
      have g1 : pIx (xsD xs) (.int ((56 + i : Nat) : Int)) = some (.int (xs.getD (56 + i) 0 : Nat)) := xs_get (by omega)
      have g2 : pIx (xsD xs) (.int ((53 + i : Nat) : Int)) = some (.int (xs.getD (53 + i) 0 : Nat)) := xs_get (by omega)
      have c1 : (56 : Int) + (i : Int) = ((56 + i : Nat) : Int) := by omega
      have c2 : (53 : Int) + (i : Int) = ((53 + i : Nat) : Int) := by omega
      have m1 : pMod (.int (xs.getD (56 + i) 0 : Nat)) (.int ((signs.length + 2 : Nat) : Int)) = some (.int (j : Nat)) := by rw [pMod_int (by omega)]; rfl
      have c3 : ((many : Int) - 2) = ((many - 2 : Nat) : Int) := by omega
      have m2 : pMod (.int (xs.getD (53 + i) 0 : Nat)) (.int ((many - 2 : Nat) : Int)) = some (.int (xs.getD (53 + i) 0 % (many - 2) : Nat)) := by rw [pMod_int (by omega)]; rfl
      have m3 : pIx (.str al) (.int (j : Nat)) = some (.str [c]) := by rw [pIx_str, List.getElem?_eq_getElem hj]; rfl
      have s1 : sSet 5 (eBin pIx (eBin pAdd (eBin pAdd (eC (.str [94])) (eVar 0)) (eC (.str [36]))) (eBin pMod (eCall bInt (aCons (eBin pIx (eVar 2) (eBin pAdd (eC (.int 56)) (eVar 6))) aNil)) (eBin pAdd (eCall bLen (aCons (eVar 0) aNil)) (eC (.int 2))))) (pE signs many xs ps none none (some (.int (i : Nat)))) = .nx (pE signs many xs ps none (some (.str [c])) (some (.int (i : Nat)))) := by
        have a1 : pAdd (.str [94]) (.str signs) = some (.str (94 :: signs)) := by rw [pAdd_str (by simp; omega)]; rfl
        have a2 : pAdd (.str (94 :: signs)) (.str [36]) = some (.str al) := by rw [pAdd_str (by simp; omega)]
        have a3 : pAdd (.int (signs.length : Nat)) (.int 2) = some (.int ((signs.length + 2 : Nat) : Int)) := rfl
        have a4 : pAdd (.int 56) (.int (i : Nat)) = some (.int ((56 + i : Nat) : Int)) := by rw [pAdd_int, c1]
        unfold pE
        simp only [sSet_e, eBin_e, eC_e, Rs.bind_ok, eVar_z, eVar_s, peel_data, isData_str, isData_int, a1, ofO_some, a2, eCall_e, aCons_e, aNil_e, xs_peel, a4, g1, bInt_int, bLen_str, a3, m1, m3, if_true]
        rfl
      have s2 : sSet 4 (eBin pAdd (eC (.int 2)) (eBin pMod (eCall bInt (aCons (eBin pIx (eVar 2) (eBin pAdd (eC (.int 53)) (eVar 6))) aNil)) (eBin pSub (eVar 1) (eC (.int 2))))) (pE signs many xs ps none (some (.str [c])) (some (.int (i : Nat)))) = .nx (pE signs many xs ps (some (.int (st : Nat))) (some (.str [c])) (some (.int (i : Nat)))) := by
        have a4 : pAdd (.int 53) (.int (i : Nat)) = some (.int ((53 + i : Nat) : Int)) := by rw [pAdd_int, c2]
        have a5 : pSub (.int (many : Nat)) (.int 2) = some (.int ((many - 2 : Nat) : Int)) := by rw [pSub_int, c3]
        have a6 : pAdd (.int 2) (.int (xs.getD (53 + i) 0 % (many - 2) : Nat)) = some (.int (st : Nat)) := rfl
        unfold pE
        simp only [sSet_e, eBin_e, eC_e, Rs.bind_ok, eVar_z, eVar_s, peel_data, isData_str, isData_int, ofO_some, eCall_e, aCons_e, aNil_e, xs_peel, a4, a5, a6, g2, bInt_int, m2, if_true]
        rfl
      let st' := if c = 94 then 0 else st
      have s3 : sIf (eB (eBin pEq (eVar 5) (eC (.str [94])))) (sSet 4 (eC (.int 0))) sPass (pE signs many xs ps (some (.int (st : Nat))) (some (.str [c])) (some (.int (i : Nat)))) = .nx (pE signs many xs ps (some (.int (st' : Nat))) (some (.str [c])) (some (.int (i : Nat)))) := by
        have e1 : (eB (eBin pEq (eVar 5) (eC (.str [94])))) (pE signs many xs ps (some (.int (st : Nat))) (some (.str [c])) (some (.int (i : Nat)))) = .ok (decide (c = 94)) := by
          have : decide (([c] : List Nat) = [94]) = decide (c = 94) := decide_eq_decide.mpr (by simp)
          unfold pE
          simp only [eB_e, eBin_e, eVar_s, eVar_z, peel_data, isData_str, Rs.bind_ok, eC_e, pEq_str, this, ofO_some, asB_bl]
        rw [sIf_e, e1]
        by_cases hc : c = 94
        · rw [decide_eq_true hc, ifR_t]
          simp only [st', hc, if_true]
          rfl
        · rw [decide_eq_false hc, ifR_f, sPass_e]
          simp only [st', hc, if_false]
      have s4 : sApp 3 (eTup (aCons (eVar 5) (aCons (eVar 4) aNil))) (pE signs many xs ps (some (.int (st' : Nat))) (some (.str [c])) (some (.int (i : Nat)))) = .nx (pE signs many xs (ps ++ [(c, st')]) (some (.int (st' : Nat))) (some (.str [c])) (some (.int (i : Nat)))) := by
        have hz : ps.length < 16777216 := by omega
        unfold pE
        simp [hz, plD]
      have e1 : b1__law_places (pE signs many xs ps none none (some (.int (i : Nat)))) = .nx (pE signs many xs (ps ++ [(c, st')]) (some (.int (st' : Nat))) (some (.str [c])) (some (.int (i : Nat)))) := by
        unfold b1__law_places
        rw [sSeq_e, s1, seqR_nx, sSeq_e, s2, seqR_nx, sSeq_e, s3, seqR_nx, s4]
      rw [e1, LpP_nx]
      refine ⟨_, rfl, ⟨fun p h => ?_, ?_⟩, by simp; omega⟩
      · rcases List.mem_append.mp h with z | z
        · exact hp.ok p z
        · rw [List.mem_singleton.mp z]
          by_cases hc : c = 94
          · exact .inl ⟨hc, if_pos hc⟩
          · have h1 : (c, st').2 = st := if_neg hc
            refine .inr ⟨?_, by rw [h1]; exact hst.1, by rw [h1]; exact hst.2⟩
            rcases List.mem_append.mp hcm with y | y
            · rcases List.mem_cons.mp y with y | y
              · exact absurd y hc
              · exact .inl y
            · exact .inr (List.mem_singleton.mp y)
      · obtain ⟨r, hr⟩ := hp.hd
        exact ⟨r ++ [(c, st')], by rw [hr]; rfl⟩)
  rw [rngL_len] at hpl2
  refine ⟨ps2, ?_, hp2, by omega⟩
  rw [e__law_places]
  unfold g__law_places
  have s1 : sSetL 3 (eLst (aCons (eTup (aCons (eC (.str [94])) (aCons (eC (.int 0)) aNil))) aNil)) [some (.str signs), some (.int (many : Nat)), some (xsD xs), none, none, none, none] = .nx (pE signs many xs [(94, 0)] none none none) := rfl
  have s2 : sFor (eRg2 (aCons (eC (.int 2)) (aCons (eVar 1) aNil))) (gN 4) b0__law_places [4] (pE signs many xs [(94, 0)] none none none) = .nx (pE signs many xs ps none none none) := by
    rw [sFor_ok (ds := rngL 2 (many - 2))]
    · exact he
    · have : iRng2 [.int 2, .int (many : Nat)] = .ok (rngL 2 (many - 2)) := iRng2_nat (a := 2) (b := many) (by omega) (by decide)
      unfold pE
      simp [this]
  have s3 : sFor (eRg1 (aCons (eBin pMod (eCall bInt (aCons (eBin pIx (eVar 2) (eC (.int 59))) aNil)) (eC (.int 4))) aNil)) (gN 6) b1__law_places [4, 5, 6] (pE signs many xs ps none none none) = .nx (pE signs many xs ps2 none none none) := by
    rw [sFor_ok (ds := rngL 0 n)]
    · exact he2
    · have g1 : pIx (xsD xs) (.int 59) = some (.int (xs.getD 59 0 : Nat)) := xs_get (j := 59) (by omega)
      have m1 : pMod (.int (xs.getD 59 0 : Nat)) (.int 4) = some (.int (n : Nat)) := by rw [pMod_int (by decide)]; rfl
      have r1 : iRng1 [.int (n : Nat)] = .ok (rngL 0 n) := iRng1_nat (by omega)
      unfold pE
      simp only [eRg1_e, aCons_e, aNil_e, eBin_e, eCall_e, eVar_s, eVar_z, xs_peel, eC_e, Rs.bind_ok, g1, ofO_some, bInt_int, m1, r1]
  rw [sSeq_e, s1, seqR_nx, sSeq_e, s2, seqR_nx, sSeq_e, s3, seqR_nx, sFrz_e]
  unfold pE
  simp only [List.getElem?_cons_succ, List.getElem?_cons_zero, all_pl, if_true]
  rfl
end Law

set_option Elab.async false
set_option linter.all false
set_option maxRecDepth 100000
namespace Law
open Z PySem L2
/-! ### edges -/
structure ROk (signs : List Nat) (many : Nat) (E : List Edge) : Prop where
  ok : ∀ e ∈ E, Valid signs many e ∧ e.lk.length ≤ 2
def gE (ns : List Int) (at_ : Nat) (signs : List Nat) (many step : Nat) (xs : List Nat) (s6 s7 s8 s9 s10 s11 s12 s13 s14 : Option D) : En := [some (.scr ns), some (.int (at_ : Nat)), some (.str signs), some (.int (many : Nat)), some (.int (step : Nat)), some (xsD xs), s6, s7, s8, s9, s10, s11, s12, s13, s14]
theorem draws_ok {ns : List Int} {at_ : Nat} {signs : List Nat} {many step : Nat} (ha : at_ < 1000) :
    ∃ xs : List Nat, sFor (eRg1 (aCons (eC (.int 4)) aNil)) (gN 6) b0__law_edges [6] (gE ns at_ signs many step [] none none none none none none none none none) = .nx (gE ns at_ signs many step xs none none none none none none none none none) ∧ xs.length = 60 ∧ ∀ x ∈ xs, x < 360 := by
  obtain ⟨en, he, xs, rfl, hl, hx⟩ := forL_inv (h := gN 6) (body := b0__law_edges) (w := [6]) (ds := rngL 0 4) (env := gE ns at_ signs many step [] none none none none none none none none none) (fun i en => ∃ xs : List Nat, en = gE ns at_ signs many step xs none none none none none none none none none ∧ xs.length = 15 * i ∧ ∀ x ∈ xs, x < 360)
    ⟨[], rfl, rfl, fun x h => nomatch h⟩ (by
      rintro i d en hd ⟨xs, rfl, hl, hx⟩
      obtain ⟨hi, rfl⟩ := rng_get hd
      have hg : gN 6 (.int (i : Nat)) (gE ns at_ signs many step xs none none none none none none none none none) = some (gE ns at_ signs many step xs (some (.int (i : Nat))) none none none none none none none none) := rfl
      rw [hg, SoP_some]
      have hcell := cell_ok ns (at_ + i) (by omega)
      obtain ⟨ys, hy, hyl, hyx⟩ := nums_nat (cellS ns (at_ + i)) 360 15 (by decide) (by decide) (by decide)
      have hcell' : m__law_cell [.scr ns, .int ((at_ : Int) + (i : Int))] = .ok (.int (cellS ns (at_ + i))) := hcell
      have a2 : pAdd (xsD xs) (xsD ys) = some (xsD (xs ++ ys)) := by
        unfold xsD
        rw [pAdd_lst (by rw [List.length_map, List.length_map]; omega), List.map_append]
      have hy' : m__law_numbers [.int (cellS ns (at_ + i)), .int 360, .int 15] = .ok (xsD ys) := hy
      have e1 : b0__law_edges (gE ns at_ signs many step xs (some (.int (i : Nat))) none none none none none none none none) = .nx (gE ns at_ signs many step (xs ++ ys) (some (.int (i : Nat))) none none none none none none none none) := by
        unfold b0__law_edges gE
        simp [xs_peel, xs_data, a2, hcell', hy']
      rw [e1, LpP_nx]
      exact ⟨_, rfl, by rw [List.length_append, hl, hyl]; omega, fun x h => (List.mem_append.mp h).elim (hx x) (hyx x)⟩)
  rw [rngL_len] at hl
  refine ⟨xs, ?_, by omega, hx⟩
  rw [sFor_ok (ds := rngL 0 4)]
  · exact he
  · have : iRng1 [.int 4] = .ok (rngL 0 4) := iRng1_nat (n := 4) (by decide)
    simp [this]
theorem edge_step {ns : List Int} {at_ : Nat} {signs : List Nat} {many step : Nat} {xs : List Nat} {ps : List (Nat × Nat)} {E : List Edge} {k : Nat} (sg : Sgn signs) (h3 : 3 ≤ many) (h6 : many ≤ 6) (hl : xs.length = 60) (hx : ∀ x ∈ xs, x < 360) (hp : Pls signs many ps) (hk : k < ps.length) (hr : ROk signs many E) (hz : E.length ≤ k) (hk2 : k < 1000) :
    ∃ e2 E2, b1__law_edges (gE ns at_ signs many step xs (some (.int (k : Nat))) (some (.lst (ps.map plD))) (some (.olst (E.map edgeD))) none none none none none none) = .nx e2 ∧ wipeE [6, 9, 10, 11, 12, 13] e2 = gE ns at_ signs many step xs none (some (.lst (ps.map plD))) (some (.olst (E2.map edgeD))) none none none none none none ∧ ROk signs many E2 ∧ E2.length ≤ k + 1 ∧ (k = 0 → 1 ≤ E2.length) ∧ E.length ≤ E2.length := by
  let p := ps[k]
  have hpm : p ∈ ps := List.getElem_mem hk
  have hok := hp.ok p hpm
  obtain ⟨c, s⟩ : Nat × Nat := p
  have hpe : ∃ c s, ps[k] = (c, s) ∧ OkP signs many (c, s) ∧ (k = 0 → c = 94) := by
    refine ⟨ps[k].1, ps[k].2, rfl, hp.ok _ (List.getElem_mem hk), fun hz => ?_⟩
    subst hz
    obtain ⟨r, hr⟩ := hp.hd
    simp [hr]
  clear hok hpm
  obtain ⟨c, s, hps, hok, h94⟩ := hpe
  -- the draw
  let a := 3 * (k % 17)
  have ha : a + 3 ≤ xs.length := by have := Nat.mod_lt k (show 0 < 17 by decide); simp only [a]; omega
  obtain ⟨y0, y1, y2, hy, b0⟩ : ∃ y0 y1 y2, (xs.drop a).take 3 = [y0, y1, y2] ∧ y0 < 360 := by
    have hlen : ((xs.drop a).take 3).length = 3 := by simp; omega
    match hq : (xs.drop a).take 3, hlen with
    | [y0, y1, y2], _ => exact ⟨y0, y1, y2, rfl, hx y0 (List.mem_of_mem_drop (List.mem_of_mem_take (by rw [hq]; simp)))⟩
  have hsl : pSl (xsD xs) (some ((a : Nat) : Int)) (some ((a + 3 : Nat) : Int)) = some (xsD [y0, y1, y2]) := by
    show some (D.lst (cutL (xs.map fun (x : Nat) => D.int x) (some ((a : Nat) : Int)) (some ((a + 3 : Nat) : Int)))) = _
    rw [cut_mid _ a (a + 3) (by omega) (by rw [List.length_map]; exact ha)]
    have : a + 3 - a = 3 := by omega
    rw [this, ← List.map_drop, ← List.map_take, hy]
    rfl
  let E0 := gE ns at_ signs many step xs (some (.int (k : Nat))) (some (.lst (ps.map plD))) (some (.olst (E.map edgeD)))
  have hix : pIx (.lst (ps.map plD)) (.int (k : Nat)) = some (.tup [.str [c], .int (s : Nat)]) := by
    rw [pIx_lst, List.getElem?_map, List.getElem?_eq_getElem hk, hps]; rfl
  have s1 : sUnp (gT fun ds env => if ds.length = 2 then (gsCons (gN 9) (gsCons (gN 10) gsNil)) ds env else none) (eBin pIx (eVar 7) (eVar 6)) (E0 none none none none none none) = .nx (E0 (some (.str [c])) (some (.int (s : Nat))) none none none none) := by
    simp only [E0]
    unfold gE
    simp [hix]
  have s2 : sSet 11 (eSl (eVar 5) (oSome (eBin pMul (eC (.int 3)) (eBin pMod (eVar 6) (eC (.int 17))))) (oSome (eBin pAdd (eBin pMul (eC (.int 3)) (eBin pMod (eVar 6) (eC (.int 17)))) (eC (.int 3))))) (E0 (some (.str [c])) (some (.int (s : Nat))) none none none none) = .nx (E0 (some (.str [c])) (some (.int (s : Nat))) (some (xsD [y0, y1, y2])) none none none) := by
    have m1 : pMod (.int (k : Nat)) (.int 17) = some (.int ((k % 17 : Nat) : Int)) := by rw [pMod_int (by decide)]; rfl
    have m2 : pMul (.int 3) (.int ((k % 17 : Nat) : Int)) = some (.int ((a : Nat) : Int)) := by rw [pMul_int rfl]; rfl
    have m3 : pAdd (.int ((a : Nat) : Int)) (.int 3) = some (.int ((a + 3 : Nat) : Int)) := rfl
    simp only [E0]
    unfold gE
    simp only [sSet_e, eSl_e, eVar_s, eVar_z, xs_peel, Rs.bind_ok, oSome_e, eBin_e, eC_e, peel_data, isData_int, m1, ofO_some, m2, asI_int, m3, hsl, xs_data, if_true]
    rfl
  let t := 2 + y0 % (many - 2)
  have ht : 2 ≤ t ∧ t < many := by
    have := Nat.mod_lt y0 (show 0 < many - 2 by omega)
    simp only [t]; omega
  have x0 : pIx (xsD [y0, y1, y2]) (.int 0) = some (.int (y0 : Nat)) := pIx_l0
  have x1 : pIx (xsD [y0, y1, y2]) (.int 1) = some (.int (y1 : Nat)) := pIx_l1
  have x2 : pIx (xsD [y0, y1, y2]) (.int 2) = some (.int (y2 : Nat)) := pIx_l2
  have s3 : sSet 12 (eBin pAdd (eC (.int 2)) (eBin pMod (eCall bInt (aCons (eBin pIx (eVar 11) (eC (.int 0))) aNil)) (eBin pSub (eVar 3) (eC (.int 2))))) (E0 (some (.str [c])) (some (.int (s : Nat))) (some (xsD [y0, y1, y2])) none none none) = .nx (E0 (some (.str [c])) (some (.int (s : Nat))) (some (xsD [y0, y1, y2])) (some (.int (t : Nat))) none none) := by
    have c3 : ((many : Int) - 2) = ((many - 2 : Nat) : Int) := by omega
    have m2 : pMod (.int (y0 : Nat)) (.int ((many - 2 : Nat) : Int)) = some (.int ((y0 % (many - 2) : Nat) : Int)) := by rw [pMod_int (by omega)]; rfl
    have a5 : pSub (.int (many : Nat)) (.int 2) = some (.int ((many - 2 : Nat) : Int)) := by rw [pSub_int, c3]
    have a6 : pAdd (.int 2) (.int ((y0 % (many - 2) : Nat) : Int)) = some (.int (t : Nat)) := rfl
    simp only [E0]
    unfold gE
    simp only [sSet_e, eBin_e, eC_e, Rs.bind_ok, eVar_z, eVar_s, peel_data, isData_int, ofO_some, eCall_e, aCons_e, aNil_e, xs_peel, x0, bInt_int, a5, m2, a6, if_true]
    rfl
  obtain ⟨b, hb0, s4⟩ : ∃ b : Bool, (k = 0 → b = false) ∧ sSet 13 (eAndV (eBin pGt (eVar 6) (eC (.int 0))) (eBin pLt (eBin pIx (eVar 11) (eC (.int 0))) (eC (.int 36)))) (E0 (some (.str [c])) (some (.int (s : Nat))) (some (xsD [y0, y1, y2])) (some (.int (t : Nat))) none none) = .nx (E0 (some (.str [c])) (some (.int (s : Nat))) (some (xsD [y0, y1, y2])) (some (.int (t : Nat))) (some (.bl b)) none) := by
    by_cases hk0 : k = 0
    · refine ⟨false, fun _ => rfl, ?_⟩
      simp only [E0]
      unfold gE
      simp [hk0]
    · refine ⟨decide ((y0 : Int) < 36), fun z => absurd z hk0, ?_⟩
      have : (0 : Int) < (k : Int) := by omega
      simp only [E0]
      unfold gE
      simp [this, xs_peel, x0, Nat.pos_of_ne_zero hk0]
  obtain ⟨b', t', hb', ht', s5⟩ : ∃ (b' : Bool) (t' : Nat), (c ≠ 36 → b' = b) ∧ t' = (if c = 36 then 1 else t) ∧ sIf (eB (eBin pEq (eVar 9) (eC (.str [36])))) (sSeq (sSet 12 (eC (.int 1))) (sSet 13 (eAndV (eBin pGt (eVar 10) (eC (.int 2))) (eBin pLt (eBin pIx (eVar 11) (eC (.int 0))) (eC (.int 144)))))) sPass
      (E0 (some (.str [c])) (some (.int (s : Nat))) (some (xsD [y0, y1, y2])) (some (.int (t : Nat))) (some (.bl b)) none) = .nx (E0 (some (.str [c])) (some (.int (s : Nat))) (some (xsD [y0, y1, y2])) (some (.int (t' : Nat))) (some (.bl b')) none) := by
    have e1 : (eB (eBin pEq (eVar 9) (eC (.str [36])))) (E0 (some (.str [c])) (some (.int (s : Nat))) (some (xsD [y0, y1, y2])) (some (.int (t : Nat))) (some (.bl b)) none) = .ok (decide (c = 36)) := by
      have : decide (([c] : List Nat) = [36]) = decide (c = 36) := decide_eq_decide.mpr (by simp)
      simp only [E0]
      unfold gE
      simp only [eB_e, eBin_e, eVar_s, eVar_z, peel_data, isData_str, Rs.bind_ok, eC_e, pEq_str, this, ofO_some, asB_bl]
    by_cases hc : c = 36
    · by_cases hs2 : 2 < s
      · refine ⟨decide ((y0 : Int) < 144), 1, fun z => absurd hc z, (if_pos hc).symm, ?_⟩
        have : (2 : Int) < (s : Int) := by omega
        rw [sIf_e, e1, decide_eq_true hc, ifR_t]
        simp only [E0]
        unfold gE
        simp [this, xs_peel, x0, hs2]
      · refine ⟨false, 1, fun z => absurd hc z, (if_pos hc).symm, ?_⟩
        have : ¬ ((2 : Int) < (s : Int)) := by omega
        rw [sIf_e, e1, decide_eq_true hc, ifR_t]
        simp only [E0]
        unfold gE
        simp [this, xs_peel, x0, hs2]
    · exact ⟨b, t, fun _ => rfl, (if_neg hc).symm, by rw [sIf_e, e1, decide_eq_false hc, ifR_f, sPass_e]⟩
  have hrun : ∀ r, sIf (eNot (eTru (eVar 13))) (sApp 8 (eTup (aCons (eVar 10) (aCons (eVar 9) (aCons (eApp 2 m__law_word (aCons (eVar 2) (aCons (eBin pAdd (eBin pIx (eVar 11) (eC (.int 1))) (eVar 6)) aNil))) (aCons (eVar 12) (aCons (eApp 2 m__law_looks (aCons (eBin pIx (eVar 11) (eC (.int 2))) (aCons (eVar 4) aNil))) aNil))))))) sPass (E0 (some (.str [c])) (some (.int (s : Nat))) (some (xsD [y0, y1, y2])) (some (.int (t' : Nat))) (some (.bl b')) none) = r →
      b1__law_edges (gE ns at_ signs many step xs (some (.int (k : Nat))) (some (.lst (ps.map plD))) (some (.olst (E.map edgeD))) none none none none none none) = r := fun r hr => by
    unfold b1__law_edges
    show sSeq _ _ (E0 none none none none none none) = _
    rw [sSeq_e, s1, seqR_nx, sSeq_e, s2, seqR_nx, sSeq_e, s3, seqR_nx, sSeq_e, s4, seqR_nx, sSeq_e, s5, seqR_nx, hr]
  have htru : (eNot (eTru (eVar 13))) (E0 (some (.str [c])) (some (.int (s : Nat))) (some (xsD [y0, y1, y2])) (some (.int (t' : Nat))) (some (.bl b')) none) = .ok (!b') := rfl
  cases hbb : b' with
  | true =>
    refine ⟨E0 (some (.str [c])) (some (.int (s : Nat))) (some (xsD [y0, y1, y2])) (some (.int (t' : Nat))) (some (.bl b')) none, E, hrun _ (by rw [sIf_e, htru, hbb]; rfl), rfl, hr, by omega, fun hk0 => ?_, Nat.le_refl _⟩
    have h1 : c ≠ 36 := by rw [h94 hk0]; decide
    rw [hb' h1, hb0 hk0] at hbb
    cases hbb
  | false =>
    obtain ⟨w, hw, hwm⟩ := word_ok sg (y1 + k)
    obtain ⟨lk, hlk, hlp, hll⟩ := looks_ok y2 step
    let e : Edge := ⟨s, c, w, t', lk⟩
    have n94 : ∀ z ∈ signs, z ≠ 94 := fun z hz hh => by
      have := sg.mem z hz
      rw [hh] at this
      revert this
      decide
    have n36 : ∀ z ∈ signs, z ≠ 36 := fun z hz hh => by
      have := sg.mem z hz
      rw [hh] at this
      revert this
      decide
    have v : Valid signs many e := by
      have ht1 : t' < many ∧ t' ≠ 0 ∧ (c = 36 ↔ t' = 1) := by
        rw [ht']
        by_cases hc : c = 36
        · simp [hc]; omega
        · simp [hc]; omega
      have hcs : s < many ∧ s ≠ 1 ∧ (c = 94 ↔ s = 0) ∧ (c ≠ 94 → c ≠ 36 → c ∈ signs) := by
        rcases hok with ⟨q1, q2⟩ | ⟨q1, q2, q3⟩
        · have q1 : c = 94 := q1
          have q2 : s = 0 := q2
          exact ⟨by omega, by omega, ⟨fun _ => q2, fun _ => q1⟩, fun z => absurd q1 z⟩
        · have q2 : 2 ≤ s := q2
          have q3 : s < many := q3
          refine ⟨q3, by omega, ⟨fun z => ?_, fun z => by omega⟩, fun _ z => q1.elim id fun y => absurd y z⟩
          rcases q1 with y | y
          · exact absurd z (n94 c y)
          · have y : c = 36 := y
            rw [z] at y; cases y
      exact ⟨hcs.1, ht1.1, hcs.2.1, ht1.2.1, hcs.2.2.1, ht1.2.2, hcs.2.2.2, hwm, hlp, by show lk.length ≤ 100; omega⟩
    have s6 : sApp 8 (eTup (aCons (eVar 10) (aCons (eVar 9) (aCons (eApp 2 m__law_word (aCons (eVar 2) (aCons (eBin pAdd (eBin pIx (eVar 11) (eC (.int 1))) (eVar 6)) aNil))) (aCons (eVar 12) (aCons (eApp 2 m__law_looks (aCons (eBin pIx (eVar 11) (eC (.int 2))) (aCons (eVar 4) aNil))) aNil)))))) (E0 (some (.str [c])) (some (.int (s : Nat))) (some (xsD [y0, y1, y2])) (some (.int (t' : Nat))) (some (.bl b')) none)
        = .nx (gE ns at_ signs many step xs (some (.int (k : Nat))) (some (.lst (ps.map plD))) (some (.olst ((E ++ [e]).map edgeD))) (some (.str [c])) (some (.int (s : Nat))) (some (xsD [y0, y1, y2])) (some (.int (t' : Nat))) (some (.bl b')) none) := by
      have hz' : E.length < 16777216 := by omega
      have hw' : m__law_word [.str signs, .int ((y1 : Int) + (k : Int))] = .ok (.str w) := hw
      have he : edgeD e = .tup [.int (s : Nat), .str [c], .str w, .int (t' : Nat), .tup lk] := rfl
      simp only [E0]
      unfold gE
      simp [xs_peel, x1, x2, hw', hlk, hz', he]
    refine ⟨_, E ++ [e], hrun _ (by rw [sIf_e, htru, show (!b') = true by rw [hbb]; rfl, ifR_t]; exact s6), rfl, ⟨fun e' h' => ?_⟩, by simp; omega, fun _ => by simp, by simp⟩
    rcases List.mem_append.mp h' with z | z
    · exact hr.ok e' z
    · rw [List.mem_singleton.mp z]; exact ⟨v, hll⟩
end Law

set_option Elab.async false
set_option linter.all false
set_option maxRecDepth 100000
namespace Law
open Z PySem L2
theorem edges_ok {ns : List Int} {at_ : Nat} {signs : List Nat} {many step : Nat} (sg : Sgn signs) (hs : signs.length ≤ 9) (h3 : 3 ≤ many) (h6 : many ≤ 6) (ha : at_ < 1000) :
    ∃ E, m__law_edges [.scr ns, .int (at_ : Nat), .str signs, .int (many : Nat), .int (step : Nat)] = .ok (.lst (E.map edgeD)) ∧ ROk signs many E ∧ E.length ≤ 50 := by
  obtain ⟨xs, hd, hl, hx⟩ := draws_ok (ns := ns) (at_ := at_) (signs := signs) (many := many) (step := step) ha
  obtain ⟨ps, hps, hp, hpl⟩ := places_ok hs h3 h6 hl
  obtain ⟨en, he, E, rfl, hr, hel, hne⟩ := forL_inv (h := gN 6) (body := b1__law_edges) (w := [6, 9, 10, 11, 12, 13]) (ds := rngL 0 ps.length) (env := gE ns at_ signs many step xs none (some (.lst (ps.map plD))) (some (.olst [])) none none none none none none)
    (fun i en => ∃ E, en = gE ns at_ signs many step xs none (some (.lst (ps.map plD))) (some (.olst (E.map edgeD))) none none none none none none ∧ ROk signs many E ∧ E.length ≤ i ∧ (1 ≤ i → 1 ≤ E.length)) ⟨[], rfl, ⟨fun e h => nomatch h⟩, Nat.le_refl _, fun z => by omega⟩ (by
      rintro i d en hdd ⟨E, rfl, hr, hel, hne⟩
      obtain ⟨hi, rfl⟩ := rng_get hdd
      have hg : gN 6 (.int (i : Nat)) (gE ns at_ signs many step xs none (some (.lst (ps.map plD))) (some (.olst (E.map edgeD))) none none none none none none) = some (gE ns at_ signs many step xs (some (.int (i : Nat))) (some (.lst (ps.map plD))) (some (.olst (E.map edgeD))) none none none none none none) := rfl
      rw [hg, SoP_some]
      obtain ⟨e2, E2, q1, q2, q3, q4, q5, q6⟩ := edge_step (ns := ns) (at_ := at_) (step := step) sg h3 h6 hl hx hp hi hr hel (by omega)
      rw [q1, LpP_nx, q2]
      exact ⟨E2, rfl, q3, q4, fun _ => by
        by_cases hz : i = 0
        · exact q5 hz
        · have := hne (by omega); omega⟩)
  rw [rngL_len] at hel hne
  have hps1 : 1 ≤ ps.length := by obtain ⟨r, h⟩ := hp.hd; rw [h]; simp
  have hE1 := hne hps1
  let t := xs.getD 52 0 % E.length
  have ht : t < E.length := Nat.mod_lt _ (by omega)
  refine ⟨E.drop t ++ E.take t, ?_, ⟨fun e h => ?_⟩, by rw [List.length_append, List.length_drop, List.length_take]; omega⟩
  · rw [e__law_edges]
    unfold g__law_edges
    have s1 : sSet 5 (eOfL (eLst aNil)) [some (.scr ns), some (.int (at_ : Nat)), some (.str signs), some (.int (many : Nat)), some (.int (step : Nat)), none, none, none, none, none, none, none, none, none, none] = .nx (gE ns at_ signs many step [] none none none none none none none none none) := rfl
    rw [sSeq_e, s1, seqR_nx]
    unfold t7__law_edges
    rw [sSeq_e, hd, seqR_nx]
    unfold t6__law_edges
    have s2 : sSet 7 (eApp 3 m__law_places (aCons (eVar 2) (aCons (eVar 3) (aCons (eVar 5) aNil)))) (gE ns at_ signs many step xs none none none none none none none none none) = .nx (gE ns at_ signs many step xs none (some (.lst (ps.map plD))) none none none none none none none) := by
      unfold gE
      simp [xs_peel, xs_data, hps]
    rw [sSeq_e, s2, seqR_nx]
    unfold t5__law_edges
    have s3 : sSetL 8 (eLst aNil) (gE ns at_ signs many step xs none (some (.lst (ps.map plD))) none none none none none none none) = .nx (gE ns at_ signs many step xs none (some (.lst (ps.map plD))) (some (.olst [])) none none none none none none) := rfl
    rw [sSeq_e, s3, seqR_nx]
    unfold t4__law_edges
    have s4 : sFor (eRg1 (aCons (eCall bLen (aCons (eVar 7) aNil)) aNil)) (gN 6) b1__law_edges [6, 9, 10, 11, 12, 13] (gE ns at_ signs many step xs none (some (.lst (ps.map plD))) (some (.olst [])) none none none none none none) = .nx (gE ns at_ signs many step xs none (some (.lst (ps.map plD))) (some (.olst (E.map edgeD))) none none none none none none) := by
      rw [sFor_ok (ds := rngL 0 ps.length)]
      · exact he
      · have : iRng1 [.int (ps.length : Nat)] = .ok (rngL 0 ps.length) := iRng1_nat (by omega)
        unfold gE
        simp [this]
    rw [sSeq_e, s4, seqR_nx]
    unfold t3__law_edges
    have s5 : sSet 14 (eBin pMod (eCall bInt (aCons (eBin pIx (eVar 5) (eC (.int 52))) aNil)) (eCall bLen (aCons (eVar 8) aNil))) (gE ns at_ signs many step xs none (some (.lst (ps.map plD))) (some (.olst (E.map edgeD))) none none none none none none) = .nx (gE ns at_ signs many step xs none (some (.lst (ps.map plD))) (some (.olst (E.map edgeD))) none none none none none (some (.int (t : Nat)))) := by
      have g1 : pIx (xsD xs) (.int 52) = some (.int (xs.getD 52 0 : Nat)) := xs_get (j := 52) (by omega)
      have m1 : pMod (.int (xs.getD 52 0 : Nat)) (.int (E.length : Nat)) = some (.int (t : Nat)) := by rw [pMod_int (by omega)]; rfl
      have b1 : bLen [.olst (E.map edgeD)] = some (.int (E.length : Nat)) := by simp
      unfold gE
      simp only [sSet_e, eBin_e, eCall_e, aCons_e, aNil_e, eVar_s, eVar_z, xs_peel, eC_e, Rs.bind_ok, g1, ofO_some, bInt_int, peel_olst, b1, m1, isData_int, if_true]
      rfl
    rw [sSeq_e, s5, seqR_nx]
    unfold t2__law_edges
    have l1 : Z.listOf (.olst (E.map edgeD)) = some (E.map edgeD) := by
      show (if (E.map edgeD).all isData then some (E.map edgeD) else none) = _
      rw [all_edges]; rfl
    have p1 : pSl (.olst (E.map edgeD)) (some (t : Int)) none = some (.lst ((E.drop t).map edgeD)) := by
      show (Z.listOf (.olst (E.map edgeD))).map (fun xs => D.lst (cutL xs (some (t : Int)) none)) = _
      rw [l1, Option.map_some, cut_from, List.map_drop]
    have p2 : pSl (.olst (E.map edgeD)) none (some (t : Int)) = some (.lst ((E.take t).map edgeD)) := by
      show (Z.listOf (.olst (E.map edgeD))).map (fun xs => D.lst (cutL xs none (some (t : Int)))) = _
      rw [l1, Option.map_some, cut_to, List.map_take]
    have p3 : pAdd (.lst ((E.drop t).map edgeD)) (.lst ((E.take t).map edgeD)) = some (.lst ((E.drop t ++ E.take t).map edgeD)) := by
      rw [pAdd_lst (by rw [List.length_map, List.length_map, List.length_drop, List.length_take]; omega), List.map_append]
    unfold gE
    simp only [sRet_e, eBin_e, eSl_e, eVar_s, eVar_z, peel_olst, Rs.bind_ok, oSome_e, oNone_e, peel_data, isData_int, asI_int, p1, p2, ofO_some, p3, isData_lst, if_true, outB_rt, noX_ok]
  · rcases List.mem_append.mp h with z | z
    · exact hr.ok e (List.mem_of_mem_drop z)
    · exact hr.ok e (List.mem_of_mem_take z)
/-! ### the rows -/
structure RwOk (signs : List Nat) (r : Row) : Prop where
  ok : ROk signs r.mn r.es
  m2 : 2 ≤ r.mn
  m6 : r.mn ≤ 6
  len : r.es.length ≤ 50
def mansD (R : List Row) : D := .olst (R.map fun r => .int (r.mn : Nat))
def rwsD (R : List Row) : D := .olst (R.map fun r => .lst (r.es.map edgeD))
def rE (ns : List Int) (dr : List Nat) (signs : List Nat) (R : List Row) (s5 s6 s7 : Option D) : En := [some (.scr ns), some (xsD dr), some (.str signs), some (mansD R), some (rwsD R), s5, s6, s7]
theorem rwOk_all {signs : List Nat} {R : List Row} {r : Row} {j : Nat} (h : ∀ r ∈ R, RwOk signs r) (hr : RwOk signs r) : ∀ q ∈ R.set j r, RwOk signs q := fun q hq => by
  rcases List.mem_or_eq_of_mem_set hq with z | z
  · exact h q z
  · rw [z]; exact hr
theorem rows_ok {ns : List Int} {dr : List Nat} {signs : List Nat} (sg : Sgn signs) (hs : signs.length ≤ 9) (hl : dr.length = 12) :
    ∃ R, m__law_rows [.scr ns, xsD dr, .str signs] = .ok (mansD R, rwsD R) ∧ (∀ r ∈ R, RwOk signs r) ∧ R ≠ [] ∧ R.length ≤ 3 := by
  let n := 1 + dr.getD 0 0 % 3
  have hn : 1 ≤ n ∧ n ≤ 3 := by have := Nat.mod_lt (dr.getD 0 0) (show 0 < 3 by decide); simp only [n]; omega
  obtain ⟨en, he, R, rfl, hR, hRl⟩ := forL_inv (h := gN 5) (body := b0__law_rows) (w := [5]) (ds := rngL 0 n) (env := rE ns dr signs [] none none none) (fun i en => ∃ R, en = rE ns dr signs R none none none ∧ (∀ r ∈ R, RwOk signs r) ∧ R.length = i)
    ⟨[], rfl, (fun r h => nomatch h), rfl⟩ (by
      rintro i d en hd ⟨R, rfl, hR, hRl⟩
      obtain ⟨hi, rfl⟩ := rng_get hd
      have hg : gN 5 (.int (i : Nat)) (rE ns dr signs R none none none) = some (rE ns dr signs R (some (.int (i : Nat))) none none) := rfl
      rw [hg, SoP_some]
      let mn := 3 + dr.getD (1 + i) 0 % 4
      have hmn : 3 ≤ mn ∧ mn ≤ 6 := by have := Nat.mod_lt (dr.getD (1 + i) 0) (show 0 < 4 by decide); simp only [mn]; omega
      obtain ⟨E, hE, hr, hel⟩ := edges_ok (ns := ns) (at_ := 1 + 4 * i) (step := i) sg hs hmn.1 hmn.2 (by omega)
      have s1 : sApp 3 (eBin pAdd (eC (.int 3)) (eBin pMod (eBin pIx (eVar 1) (eBin pAdd (eC (.int 1)) (eVar 5))) (eC (.int 4)))) (rE ns dr signs R (some (.int (i : Nat))) none none) = .nx [some (.scr ns), some (xsD dr), some (.str signs), some (.olst ((R.map fun r => D.int (r.mn : Nat)) ++ [.int (mn : Nat)])), some (rwsD R), some (.int (i : Nat)), none, none] := by
        have g1 : pIx (xsD dr) (.int ((1 + i : Nat) : Int)) = some (.int (dr.getD (1 + i) 0 : Nat)) := xs_get (by omega)
        have g2 : pAdd (.int 1) (.int (i : Nat)) = some (.int ((1 + i : Nat) : Int)) := by rw [pAdd_int]; congr 2
        have m1 : pMod (.int (dr.getD (1 + i) 0 : Nat)) (.int 4) = some (.int ((dr.getD (1 + i) 0 % 4 : Nat) : Int)) := by rw [pMod_int (by decide)]; rfl
        have m2 : pAdd (.int 3) (.int ((dr.getD (1 + i) 0 % 4 : Nat) : Int)) = some (.int (mn : Nat)) := rfl
        have hz : (R.map fun r => D.int (r.mn : Nat)).length < 16777216 := by rw [List.length_map]; omega
        unfold rE mansD
        simp only [sApp_e, eBin_e, eC_e, Rs.bind_ok, eVar_s, eVar_z, xs_peel, peel_data, isData_int, g2, ofO_some, g1, m1, m2, List.getElem?_cons_succ, List.getElem?_cons_zero, hz, decide_true, Bool.and_self, if_true]
        rfl
      have s2 : sApp 4 (eApp 5 m__law_edges (aCons (eVar 0) (aCons (eBin pAdd (eC (.int 1)) (eBin pMul (eC (.int 4)) (eVar 5))) (aCons (eVar 2) (aCons (eBin pIx (eVar 3) (eVar 5)) (aCons (eVar 5) aNil)))))) [some (.scr ns), some (xsD dr), some (.str signs), some (.olst ((R.map fun r => D.int (r.mn : Nat)) ++ [.int (mn : Nat)])), some (rwsD R), some (.int (i : Nat)), none, none]
          = .nx (rE ns dr signs (R ++ [⟨E, mn, []⟩]) (some (.int (i : Nat))) none none) := by
        have g1 : pIx (.olst ((R.map fun r => D.int (r.mn : Nat)) ++ [.int (mn : Nat)])) (.int (i : Nat)) = some (.int (mn : Nat)) := by
          rw [pIx_olst, List.getElem?_append_right (by rw [List.length_map]; omega), List.length_map, hRl, Nat.sub_self]
          rfl
        have g2 : pMul (.int 4) (.int (i : Nat)) = some (.int ((4 * i : Nat) : Int)) := by rw [pMul_int rfl]; rfl
        have g3 : pAdd (.int 1) (.int ((4 * i : Nat) : Int)) = some (.int ((1 + 4 * i : Nat) : Int)) := by rw [pAdd_int]; congr 2
        have hz : (R.map fun r => D.lst (r.es.map edgeD)).length < 16777216 := by rw [List.length_map]; omega
        have hv : (eApp 5 m__law_edges (aCons (eVar 0) (aCons (eBin pAdd (eC (.int 1)) (eBin pMul (eC (.int 4)) (eVar 5))) (aCons (eVar 2) (aCons (eBin pIx (eVar 3) (eVar 5)) (aCons (eVar 5) aNil)))))) [some (.scr ns), some (xsD dr), some (.str signs), some (.olst ((R.map fun r => D.int (r.mn : Nat)) ++ [.int (mn : Nat)])), some (rwsD R), some (.int (i : Nat)), none, none] = .ok (.lst (E.map edgeD)) := by
          rw [eApp_e]
          simp only [aCons_e, aNil_e, eVar_z, eVar_s, peel_data, peel_olst, isData_scr, isData_int, isData_str, Rs.bind_ok, eBin_e, eC_e, g2, ofO_some, g3, g1, List.all_cons, List.all_nil, Bool.and_self, List.length_cons, List.length_nil, decide_true, if_true]
          exact hE
        rw [sApp_e, hv]
        unfold rE mansD rwsD
        simp only [List.getElem?_cons_succ, List.getElem?_cons_zero, hz, isData_lst, decide_true, Bool.and_self, if_true, List.map_append, List.map_cons, List.map_nil]
        rfl
      have e1 : b0__law_rows (rE ns dr signs R (some (.int (i : Nat))) none none) = .nx (rE ns dr signs (R ++ [⟨E, mn, []⟩]) (some (.int (i : Nat))) none none) := by
        unfold b0__law_rows
        rw [sSeq_e, s1, seqR_nx, s2]
      rw [e1, LpP_nx]
      refine ⟨_, rfl, fun r h => ?_, by simp [hRl]⟩
      rcases List.mem_append.mp h with z | z
      · exact hR r z
      · rw [List.mem_singleton.mp z]
        exact ⟨hr, by show 2 ≤ mn; omega, hmn.2, hel⟩)
  rw [rngL_len] at hRl
  let a := dr.getD 4 0 % R.length
  have ha : a < R.length := Nat.mod_lt _ (by omega)
  let r0 := R[a]
  have hr0 := hR r0 (List.getElem_mem ha)
  -- the first change
  obtain ⟨R1, hR1, hl1, c1⟩ : ∃ R1 : List Row, (∀ r ∈ R1, RwOk signs r) ∧ R1.length = R.length ∧ sIf (eB (eBin pEq (eBin pMod (eBin pIx (eVar 1) (eC (.int 5))) (eC (.int 3))) (eC (.int 1)))) (sPut 4 pmVar (eVar 6) (eDat (eOfL (eComp (iSeqO (eBin pIx (eVar 4) (eVar 6))) (gN 7) (eB (eBin pNe (eBin pIx (eVar 7) (eC (.int 1))) (eC (.str [36])))) (eVar 7) [7])))) sPass (rE ns dr signs R none (some (.int (a : Nat))) none) = .nx (rE ns dr signs R1 none (some (.int (a : Nat))) none) := by
    have g1 : pIx (xsD dr) (.int 5) = some (.int (dr.getD 5 0 : Nat)) := xs_get (j := 5) (by omega)
    have m1 : pMod (.int (dr.getD 5 0 : Nat)) (.int 3) = some (.int ((dr.getD 5 0 % 3 : Nat) : Int)) := by rw [pMod_int (by decide)]; rfl
    have e1 : (eB (eBin pEq (eBin pMod (eBin pIx (eVar 1) (eC (.int 5))) (eC (.int 3))) (eC (.int 1)))) (rE ns dr signs R none (some (.int (a : Nat))) none) = .ok (decide (((dr.getD 5 0 % 3 : Nat) : Int) = 1)) := by
      unfold rE
      simp only [eB_e, eBin_e, eVar_s, eVar_z, xs_peel, eC_e, Rs.bind_ok, g1, ofO_some, m1, pEq_int, asB_bl]
    rw [sIf_e, e1]
    by_cases hb : ((dr.getD 5 0 % 3 : Nat) : Int) = 1
    · let es' := r0.es.filter fun e => !decide (e.sg = 36)
      refine ⟨R.set a ⟨es', r0.mn, []⟩, rwOk_all hR ⟨⟨fun e h => hr0.ok.ok e (List.mem_filter.mp h).1⟩, hr0.m2, hr0.m6, Nat.le_trans (List.length_filter_le _ _) hr0.len⟩, List.length_set, ?_⟩
      have hc : eComp (iSeqO (eBin pIx (eVar 4) (eVar 6))) (gN 7) (eB (eBin pNe (eBin pIx (eVar 7) (eC (.int 1))) (eC (.str [36])))) (eVar 7) [7] (rE ns dr signs R none (some (.int (a : Nat))) none) = .ok (es'.map edgeD) := by
        refine eComp_T edgeD (fun e => !decide (e.sg = 36)) edgeD r0.es ?_ fun e he => ⟨_, rfl, ?_, fun _ => ⟨rfl, rfl⟩⟩
        · have : pIx (rwsD R) (.int (a : Nat)) = some (.lst (r0.es.map edgeD)) := by
            unfold rwsD
            rw [pIx_olst, List.getElem?_map, List.getElem?_eq_getElem ha]; rfl
          have pr : peel (rwsD R) = rwsD R := rfl
          unfold rE
          simp [pr, this]
        · have : decide (([e.sg] : List Nat) = [36]) = decide (e.sg = 36) := decide_eq_decide.mpr (by simp)
          show (eB (eBin pNe (eBin pIx (eVar 7) (eC (.int 1))) (eC (.str [36])))) [some (.scr ns), some (xsD dr), some (.str signs), some (mansD R), some (rwsD R), none, some (.int (a : Nat)), some (edgeD e)] = _
          simp only [eB_e, eBin_e, eVar_s, eVar_z, edgeD_peel, eC_e, Rs.bind_ok, ix_e1, ofO_some, pNe_str, asB_bl, this]
      rw [decide_eq_true hb, ifR_t, sPutV_ok (d := .lst (es'.map edgeD)) (k := .int (a : Nat)) (d0 := rwsD R) (e' := rwsD (R.set a ⟨es', r0.mn, []⟩)) (by rw [eDat_e, eOfL_e, hc]; rfl) rfl rfl]
      · have hm : mansD (R.set a ⟨es', r0.mn, []⟩) = mansD R := by
          unfold mansD
          rw [List.map_set]
          congr 1
          apply List.ext_getElem?
          intro j
          by_cases hj : a = j
          · subst hj
            rw [List.getElem?_set_self (by rw [List.length_map]; exact ha), List.getElem?_map, List.getElem?_eq_getElem ha]
            rfl
          · rw [List.getElem?_set_ne hj]
        unfold rE
        rw [hm]
        rfl
      · show (ixN (R.map fun r => D.lst (r.es.map edgeD)).length (a : Int)).map (fun j => D.olst ((R.map fun r => D.lst (r.es.map edgeD)).set j (.lst (es'.map edgeD)))) = _
        rw [ix_nat (by rw [List.length_map]; exact ha)]
        unfold rwsD
        rw [List.map_set]
        rfl
    · exact ⟨R, hR, rfl, by rw [decide_eq_false hb, ifR_f, sPass_e]⟩
  -- the second change
  obtain ⟨R2, hR2, hl2, c2⟩ : ∃ R2 : List Row, (∀ r ∈ R2, RwOk signs r) ∧ R2.length = R.length ∧ sIf (eB (eBin pEq (eBin pMod (eBin pIx (eVar 1) (eC (.int 5))) (eC (.int 6))) (eC (.int 2)))) (sSeq (sPut 4 pmVar (eVar 6) (eDat (eOfL (eLst aNil)))) (sPut 3 pmVar (eVar 6) (eDat (eC (.int 2))))) sPass (rE ns dr signs R1 none (some (.int (a : Nat))) none) = .nx (rE ns dr signs R2 none (some (.int (a : Nat))) none) := by
    have ha1 : a < R1.length := by rw [hl1]; exact ha
    have g1 : pIx (xsD dr) (.int 5) = some (.int (dr.getD 5 0 : Nat)) := xs_get (j := 5) (by omega)
    have m1 : pMod (.int (dr.getD 5 0 : Nat)) (.int 6) = some (.int ((dr.getD 5 0 % 6 : Nat) : Int)) := by rw [pMod_int (by decide)]; rfl
    have e1 : (eB (eBin pEq (eBin pMod (eBin pIx (eVar 1) (eC (.int 5))) (eC (.int 6))) (eC (.int 2)))) (rE ns dr signs R1 none (some (.int (a : Nat))) none) = .ok (decide (((dr.getD 5 0 % 6 : Nat) : Int) = 2)) := by
      unfold rE
      simp only [eB_e, eBin_e, eVar_s, eVar_z, xs_peel, eC_e, Rs.bind_ok, g1, ofO_some, m1, pEq_int, asB_bl]
    rw [sIf_e, e1]
    by_cases hb : ((dr.getD 5 0 % 6 : Nat) : Int) = 2
    · refine ⟨R1.set a ⟨[], 2, []⟩, rwOk_all hR1 ⟨⟨fun e h => nomatch h⟩, Nat.le_refl _, by decide, by simp⟩, by rw [List.length_set, hl1], ?_⟩
      have q1 : sPut 4 pmVar (eVar 6) (eDat (eOfL (eLst aNil))) (rE ns dr signs R1 none (some (.int (a : Nat))) none) = .nx [some (.scr ns), some (xsD dr), some (.str signs), some (mansD R1), some (rwsD (R1.set a ⟨[], 2, []⟩)), none, some (.int (a : Nat)), none] := by
        rw [sPutV_ok (d := .lst []) (k := .int (a : Nat)) (d0 := rwsD R1) (e' := rwsD (R1.set a ⟨[], 2, []⟩)) rfl rfl rfl]
        · rfl
        · show (ixN (R1.map fun r => D.lst (r.es.map edgeD)).length (a : Int)).map (fun j => D.olst ((R1.map fun r => D.lst (r.es.map edgeD)).set j (.lst []))) = _
          rw [ix_nat (by rw [List.length_map]; exact ha1)]
          unfold rwsD
          rw [List.map_set]
          rfl
      have q2 : sPut 3 pmVar (eVar 6) (eDat (eC (.int 2))) [some (.scr ns), some (xsD dr), some (.str signs), some (mansD R1), some (rwsD (R1.set a ⟨[], 2, []⟩)), none, some (.int (a : Nat)), none] = .nx (rE ns dr signs (R1.set a ⟨[], 2, []⟩) none (some (.int (a : Nat))) none) := by
        rw [sPutV_ok (d := .int 2) (k := .int (a : Nat)) (d0 := mansD R1) (e' := mansD (R1.set a ⟨[], 2, []⟩)) rfl rfl rfl]
        · rfl
        · show (ixN (R1.map fun r => D.int (r.mn : Nat)).length (a : Int)).map (fun j => D.olst ((R1.map fun r => D.int (r.mn : Nat)).set j (.int 2))) = _
          rw [ix_nat (by rw [List.length_map]; exact ha1)]
          unfold mansD
          rw [List.map_set]
          rfl
      rw [decide_eq_true hb, ifR_t, sSeq_e, q1, seqR_nx, q2]
    · exact ⟨R1, hR1, hl1, by rw [decide_eq_false hb, ifR_f, sPass_e]⟩
  refine ⟨R2, ?_, hR2, fun z => by rw [z] at hl2; simp at hl2; omega, by omega⟩
  rw [e__law_rows]
  unfold g__law_rows
  have s1 : sSetL 3 (eLst aNil) [some (.scr ns), some (xsD dr), some (.str signs), none, none, none, none, none] = .nx [some (.scr ns), some (xsD dr), some (.str signs), some (.olst []), none, none, none, none] := rfl
  have s2 : sSetL 4 (eLst aNil) [some (.scr ns), some (xsD dr), some (.str signs), some (.olst []), none, none, none, none] = .nx (rE ns dr signs [] none none none) := rfl
  have s3 : sFor (eRg1 (aCons (eBin pAdd (eC (.int 1)) (eBin pMod (eBin pIx (eVar 1) (eC (.int 0))) (eC (.int 3)))) aNil)) (gN 5) b0__law_rows [5] (rE ns dr signs [] none none none) = .nx (rE ns dr signs R none none none) := by
    rw [sFor_ok (ds := rngL 0 n)]
    · exact he
    · have g1 : pIx (xsD dr) (.int 0) = some (.int (dr.getD 0 0 : Nat)) := xs_get (j := 0) (by omega)
      have m1 : pMod (.int (dr.getD 0 0 : Nat)) (.int 3) = some (.int ((dr.getD 0 0 % 3 : Nat) : Int)) := by rw [pMod_int (by decide)]; rfl
      have m2 : pAdd (.int 1) (.int ((dr.getD 0 0 % 3 : Nat) : Int)) = some (.int (n : Nat)) := rfl
      have r1 : iRng1 [.int (n : Nat)] = .ok (rngL 0 n) := iRng1_nat (by omega)
      unfold rE
      simp only [eRg1_e, aCons_e, aNil_e, eBin_e, eVar_s, eVar_z, xs_peel, eC_e, Rs.bind_ok, g1, ofO_some, m1, m2, r1]
  have s4 : sSet 6 (eBin pMod (eBin pIx (eVar 1) (eC (.int 4))) (eCall bLen (aCons (eVar 4) aNil))) (rE ns dr signs R none none none) = .nx (rE ns dr signs R none (some (.int (a : Nat))) none) := by
    have g1 : pIx (xsD dr) (.int 4) = some (.int (dr.getD 4 0 : Nat)) := xs_get (j := 4) (by omega)
    have m1 : pMod (.int (dr.getD 4 0 : Nat)) (.int (R.length : Nat)) = some (.int (a : Nat)) := by rw [pMod_int (by omega)]; rfl
    have b1 : bLen [rwsD R] = some (.int (R.length : Nat)) := by unfold rwsD; simp
    have pr : peel (rwsD R) = rwsD R := rfl
    unfold rE
    simp only [sSet_e, eBin_e, eCall_e, aCons_e, aNil_e, eVar_s, eVar_z, xs_peel, eC_e, Rs.bind_ok, g1, ofO_some, pr, b1, m1, isData_int, if_true]
    rfl
  rw [sqO_nx s1, sqO_nx s2, sqO_nx s3, sqO_nx s4, sqO_nx c1, sqO_nx c2]
  rfl
end Law

set_option Elab.async false
set_option linter.all false
set_option maxRecDepth 100000
namespace Law
open Z PySem L2
/-! ### the law -/
noncomputable def lkF (n : Nat) : List D := Classical.choose (looks_ok n 0)
theorem lkF_ok (n : Nat) : m__law_looks [.int (n : Nat), .int 0] = .ok (.tup (lkF n)) ∧ (∀ d ∈ lkF n, plainD 2 d = true) ∧ (lkF n).length ≤ 2 := Classical.choose_spec (looks_ok n 0)
noncomputable def withM (dr : List Nat) (R : List Row) : List Row := R.zipIdx.map fun p => ⟨p.1.es, p.1.mn, lkF (dr.getD (7 + p.2) 0)⟩
theorem zip_fst {α β : Type} (f : α → β) (R : List α) : (R.zipIdx.map fun p => f p.1) = R.map f := by
  apply List.ext_getElem?
  intro i
  rw [List.getElem?_map, List.getElem?_map, List.getElem?_zipIdx]
  cases R[i]? <;> rfl
theorem withM_map {β : Type} (F : Row → β) (hF : ∀ e m k k', F ⟨e, m, k⟩ = F ⟨e, m, k'⟩) (dr : List Nat) (R : List Row) : (withM dr R).map F = R.map F := by
  unfold withM
  rw [List.map_map, ← zip_fst F R]
  refine List.map_congr_left fun p _ => ?_
  exact hF _ _ _ p.1.mr
theorem rw_row {signs : List Nat} {r : Row} (h : RwOk signs r) (mr : List D) (h1 : ∀ d ∈ mr, plainD 2 d = true) (h2 : mr.length ≤ 2) : RowOk signs ⟨r.es, r.mn, mr⟩ :=
  ⟨fun e he => (h.ok.ok e he).1, h.m2, h.m6, Nat.le_trans h.len (by decide), h1, h2, fun e he => (h.ok.ok e he).2⟩
def lw (ns : List Int) (dr signs : List Nat) (a3 a4 a5 : D) (s6 s7 s8 : Option D) : En := [some (.scr ns), some (xsD dr), some (.str signs), some a3, some a4, some a5, s6, s7, s8]
theorem all_mach (signs : List Nat) (R : List Row) : (R.map (machR signs)).all isData = true := by
  rw [List.all_map]
  exact List.all_eq_true.mpr fun _ _ => rfl
theorem all_rws (R : List Row) : (R.map fun r => D.lst (r.es.map edgeD)).all isData = true := by
  rw [List.all_map]
  exact List.all_eq_true.mpr fun _ _ => rfl
theorem law_true (ns : List Int) (hl : ns.length ≤ 63) : m_law [.scr ns] = .ok (.bl true) := by
  obtain ⟨dr, hd, hdl, _⟩ := nums_nat (cellS ns 0) 60 12 (by decide) (by decide) (by decide)
  have hd' : m__law_numbers [.int (cellS ns 0), .int 60, .int 12] = .ok (xsD dr) := hd
  obtain ⟨signs, hsg, sg, hs9⟩ := signs_ok (cellS ns 13)
  obtain ⟨R0, hrows, hR0, hne0, h3⟩ := rows_ok (ns := ns) (dr := dr) sg hs9 hdl
  have hc0 : m__law_cell [.scr ns, .int 0] = .ok (.int (cellS ns 0)) := cell_ok ns 0 (by decide)
  have hc13 : m__law_cell [.scr ns, .int 13] = .ok (.int (cellS ns 13)) := cell_ok ns 13 (by decide)
  have hmk : ∀ r ∈ R0, m_Machine___init__ [.str signs, .int (r.mn : Nat), .tup (r.es.map edgeD)] = .ok (machR signs r) := fun r hr => by
    have h := hR0 r hr
    exact mach_ok sg (by omega) h.m2 (fun e he => (h.ok.ok e he).1) (by have := h.len; omega) (.inl rfl)
  rw [e_law]
  unfold g_law
  have s1 : sSet 1 (eApp 3 m__law_numbers (aCons (eApp 2 m__law_cell (aCons (eVar 0) (aCons (eC (.int 0)) aNil))) (aCons (eC (.int 60)) (aCons (eC (.int 12)) aNil)))) [some (.scr ns), none, none, none, none, none, none, none, none] = .nx [some (.scr ns), some (xsD dr), none, none, none, none, none, none, none] := by
    simp [hc0, hd', xs_data]
  rw [sSeq_e, s1, seqR_nx]
  unfold t10_law
  have s2 : sSet 2 (eApp 1 m__law_signs (aCons (eApp 2 m__law_cell (aCons (eVar 0) (aCons (eC (.int 13)) aNil))) aNil)) [some (.scr ns), some (xsD dr), none, none, none, none, none, none, none] = .nx [some (.scr ns), some (xsD dr), some (.str signs), none, none, none, none, none, none] := by
    simp [hc13, hsg]
  rw [sSeq_e, s2, seqR_nx]
  unfold t9_law
  have s3 : sUnp2 3 4 (eAppG 3 m__law_rows (aCons (eVar 0) (aCons (eVar 1) (aCons (eVar 2) aNil)))) [some (.scr ns), some (xsD dr), some (.str signs), none, none, none, none, none, none] = .nx [some (.scr ns), some (xsD dr), some (.str signs), some (mansD R0), some (rwsD R0), none, none, none, none] := by
    unfold sUnp2
    have : eAppG 3 m__law_rows (aCons (eVar 0) (aCons (eVar 1) (aCons (eVar 2) aNil))) [some (.scr ns), some (xsD dr), some (.str signs), none, none, none, none, none, none] = .ok (mansD R0, rwsD R0) := by
      simp [xs_peel, xs_data, hrows]
    rw [this]
    rfl
  rw [sSeq_e, s3, seqR_nx]
  unfold t8_law
  have bR : ∀ R, bLen [rwsD R] = some (.int (R.length : Nat)) := fun R => by unfold rwsD; simp
  have pR : ∀ R, peel (rwsD R) = rwsD R := fun _ => rfl
  have pM : ∀ R, peel (mansD R) = mansD R := fun _ => rfl
  have s4 : sSetL 5 (eComp (eRg1 (aCons (eCall bLen (aCons (eVar 4) aNil)) aNil)) (gN 6) cYes (eApp 3 m_Machine___init__ (aCons (eVar 2) (aCons (eBin pIx (eVar 3) (eVar 6)) (aCons (eCall bTuple (aCons (eBin pIx (eVar 4) (eVar 6)) aNil)) aNil)))) [6]) [some (.scr ns), some (xsD dr), some (.str signs), some (mansD R0), some (rwsD R0), none, none, none, none]
      = .nx (lw ns dr signs (mansD R0) (rwsD R0) (.olst (R0.map (machR signs))) none none none) := by
    have hcmp : eComp (eRg1 (aCons (eCall bLen (aCons (eVar 4) aNil)) aNil)) (gN 6) cYes (eApp 3 m_Machine___init__ (aCons (eVar 2) (aCons (eBin pIx (eVar 3) (eVar 6)) (aCons (eCall bTuple (aCons (eBin pIx (eVar 4) (eVar 6)) aNil)) aNil)))) [6] [some (.scr ns), some (xsD dr), some (.str signs), some (mansD R0), some (rwsD R0), none, none, none, none] = .ok (R0.map (machR signs)) := by
      rw [← zip_fst (machR signs) R0]
      refine eComp_M (fun p : Row × Nat => .int (p.2 : Nat)) (fun p => machR signs p.1) R0.zipIdx ?_ fun p hp => ?_
      · have : iRng1 [.int (R0.length : Nat)] = .ok (rngL 0 R0.length) := iRng1_nat (by omega)
        rw [← rng_zip]
        simp [pR, bR, this]
      · obtain ⟨r, k⟩ := p
        have hk : R0[k]? = some r := by
          have := List.mem_zipIdx_iff_getElem?.mp hp
          simpa using this
        have g1 : pIx (mansD R0) (.int (k : Nat)) = some (.int (r.mn : Nat)) := by unfold mansD; rw [pIx_olst, List.getElem?_map, hk]; rfl
        have g2 : pIx (rwsD R0) (.int (k : Nat)) = some (.lst (r.es.map edgeD)) := by unfold rwsD; rw [pIx_olst, List.getElem?_map, hk]; rfl
        have hm := hmk r (List.mem_of_getElem? hk)
        refine ⟨[some (.scr ns), some (xsD dr), some (.str signs), some (mansD R0), some (rwsD R0), none, some (.int (k : Nat)), none, none], rfl, ?_, rfl⟩
        simp [pM, pR, g1, g2, hm]
    rw [sSetL_e, hcmp]
    rfl
  rw [sSeq_e, s4, seqR_nx]
  unfold t7_law
  -- a machine more
  obtain ⟨R1, hR1, hne1, h4, c1⟩ : ∃ R1 : List Row, (∀ r ∈ R1, RwOk signs r) ∧ R1 ≠ [] ∧ R1.length ≤ 4 ∧ sIf (eB (eBin pEq (eBin pMod (eBin pIx (eVar 1) (eC (.int 6))) (eC (.int 3))) (eC (.int 0)))) (sSeq (sApp 5 (eBin pIx (eVar 5) (eC (.int 0)))) (sSeq (sApp 4 (eBin pIx (eVar 4) (eC (.int 0)))) (sApp 3 (eBin pIx (eVar 3) (eC (.int 0)))))) sPass (lw ns dr signs (mansD R0) (rwsD R0) (.olst (R0.map (machR signs))) none none none)
      = .nx (lw ns dr signs (mansD R1) (rwsD R1) (.olst (R1.map (machR signs))) none none none) := by
    have g1 : pIx (xsD dr) (.int 6) = some (.int (dr.getD 6 0 : Nat)) := xs_get (j := 6) (by omega)
    have m1 : pMod (.int (dr.getD 6 0 : Nat)) (.int 3) = some (.int ((dr.getD 6 0 % 3 : Nat) : Int)) := by rw [pMod_int (by decide)]; rfl
    have e1 : (eB (eBin pEq (eBin pMod (eBin pIx (eVar 1) (eC (.int 6))) (eC (.int 3))) (eC (.int 0)))) (lw ns dr signs (mansD R0) (rwsD R0) (.olst (R0.map (machR signs))) none none none) = .ok (decide (((dr.getD 6 0 % 3 : Nat) : Int) = 0)) := by
      unfold lw
      simp only [eB_e, eBin_e, eVar_s, eVar_z, xs_peel, eC_e, Rs.bind_ok, g1, ofO_some, m1, pEq_int, asB_bl]
    rw [sIf_e, e1]
    by_cases hb : ((dr.getD 6 0 % 3 : Nat) : Int) = 0
    · obtain ⟨r0, R', rfl⟩ : ∃ r0 R', R0 = r0 :: R' := by
        cases R0 with
        | nil => exact absurd rfl hne0
        | cons a b => exact ⟨a, b, rfl⟩
      refine ⟨r0 :: R' ++ [r0], fun r h => ?_, by simp, by simp at h3 ⊢; omega, ?_⟩
      · rcases List.mem_append.mp h with z | z
        · exact hR0 r z
        · rw [List.mem_singleton.mp z]; exact hR0 r0 (by simp)
      · have z1 : ((r0 :: R').map (machR signs)).length < 16777216 := by rw [List.length_map]; omega
        have z2 : ((r0 :: R').map fun r => D.lst (r.es.map edgeD)).length < 16777216 := by rw [List.length_map]; omega
        have z3 : ((r0 :: R').map fun r => D.int (r.mn : Nat)).length < 16777216 := by rw [List.length_map]; omega
        have q1 : sApp 5 (eBin pIx (eVar 5) (eC (.int 0))) (lw ns dr signs (mansD (r0 :: R')) (rwsD (r0 :: R')) (.olst ((r0 :: R').map (machR signs))) none none none) = .nx (lw ns dr signs (mansD (r0 :: R')) (rwsD (r0 :: R')) (.olst ((r0 :: R' ++ [r0]).map (machR signs))) none none none) := by
          have hv : (eBin pIx (eVar 5) (eC (.int 0))) (lw ns dr signs (mansD (r0 :: R')) (rwsD (r0 :: R')) (.olst ((r0 :: R').map (machR signs))) none none none) = .ok (machR signs r0) := by
            show ofO (pIx (.olst (machR signs r0 :: R'.map (machR signs))) (.int ((0 : Nat) : Int))) = _
            rw [pIx_olst]; rfl
          rw [sApp_e, hv]
          unfold lw
          simp only [List.getElem?_cons_succ, List.getElem?_cons_zero, z1, decide_true, Bool.and_true]
          rw [if_pos (show isData (machR signs r0) = true from rfl)]
          simp only [List.map_append, List.map_cons, List.map_nil]
          rfl
        have q2 : sApp 4 (eBin pIx (eVar 4) (eC (.int 0))) (lw ns dr signs (mansD (r0 :: R')) (rwsD (r0 :: R')) (.olst ((r0 :: R' ++ [r0]).map (machR signs))) none none none) = .nx (lw ns dr signs (mansD (r0 :: R')) (rwsD (r0 :: R' ++ [r0])) (.olst ((r0 :: R' ++ [r0]).map (machR signs))) none none none) := by
          have hv : (eBin pIx (eVar 4) (eC (.int 0))) (lw ns dr signs (mansD (r0 :: R')) (rwsD (r0 :: R')) (.olst ((r0 :: R' ++ [r0]).map (machR signs))) none none none) = .ok (.lst (r0.es.map edgeD)) := by
            show ofO (pIx (.olst (D.lst (r0.es.map edgeD) :: R'.map fun r => D.lst (r.es.map edgeD))) (.int ((0 : Nat) : Int))) = _
            rw [pIx_olst]; rfl
          rw [sApp_e, hv]
          unfold lw rwsD
          simp only [List.getElem?_cons_succ, List.getElem?_cons_zero, z2, decide_true, Bool.and_true]
          rw [if_pos (show isData (D.lst (r0.es.map edgeD)) = true from rfl)]
          simp only [List.map_append, List.map_cons, List.map_nil]
          rfl
        have q3 : sApp 3 (eBin pIx (eVar 3) (eC (.int 0))) (lw ns dr signs (mansD (r0 :: R')) (rwsD (r0 :: R' ++ [r0])) (.olst ((r0 :: R' ++ [r0]).map (machR signs))) none none none) = .nx (lw ns dr signs (mansD (r0 :: R' ++ [r0])) (rwsD (r0 :: R' ++ [r0])) (.olst ((r0 :: R' ++ [r0]).map (machR signs))) none none none) := by
          have hv : (eBin pIx (eVar 3) (eC (.int 0))) (lw ns dr signs (mansD (r0 :: R')) (rwsD (r0 :: R' ++ [r0])) (.olst ((r0 :: R' ++ [r0]).map (machR signs))) none none none) = .ok (.int (r0.mn : Nat)) := by
            show ofO (pIx (.olst (D.int (r0.mn : Nat) :: R'.map fun r => D.int (r.mn : Nat))) (.int ((0 : Nat) : Int))) = _
            rw [pIx_olst]; rfl
          rw [sApp_e, hv]
          unfold lw mansD
          simp only [List.getElem?_cons_succ, List.getElem?_cons_zero, z3, decide_true, Bool.and_true]
          rw [if_pos (show isData (D.int (r0.mn : Nat)) = true from rfl)]
          simp only [List.map_append, List.map_cons, List.map_nil]
          rfl
        rw [decide_eq_true hb, ifR_t, sSeq_e, q1, seqR_nx, sSeq_e, q2, seqR_nx, q3]
    · exact ⟨R0, hR0, hne0, by omega, by rw [decide_eq_false hb, ifR_f, sPass_e]⟩
  rw [sSeq_e, c1, seqR_nx]
  unfold t6_law
  have s6 : sSet 7 (eOfL (eComp (eRg1 (aCons (eCall bLen (aCons (eVar 4) aNil)) aNil)) (gN 6) cYes (eApp 2 m__law_looks (aCons (eBin pIx (eVar 1) (eBin pAdd (eC (.int 7)) (eVar 6))) (aCons (eC (.int 0)) aNil))) [6])) (lw ns dr signs (mansD R1) (rwsD R1) (.olst (R1.map (machR signs))) none none none) = .nx (lw ns dr signs (mansD R1) (rwsD R1) (.olst (R1.map (machR signs))) none (some (marksD (withM dr R1))) none) := by
    have hcmp : eComp (eRg1 (aCons (eCall bLen (aCons (eVar 4) aNil)) aNil)) (gN 6) cYes (eApp 2 m__law_looks (aCons (eBin pIx (eVar 1) (eBin pAdd (eC (.int 7)) (eVar 6))) (aCons (eC (.int 0)) aNil))) [6] (lw ns dr signs (mansD R1) (rwsD R1) (.olst (R1.map (machR signs))) none none none) = .ok ((withM dr R1).map fun r => .tup r.mr) := by
      unfold withM
      rw [List.map_map]
      refine eComp_M (fun p : Row × Nat => .int (p.2 : Nat)) (fun p => .tup (lkF (dr.getD (7 + p.2) 0))) R1.zipIdx ?_ fun p hp => ?_
      · have : iRng1 [.int (R1.length : Nat)] = .ok (rngL 0 R1.length) := iRng1_nat (by omega)
        rw [← rng_zip]
        unfold lw
        simp [pR, bR, this]
      · obtain ⟨r, k⟩ := p
        have hk : R1[k]? = some r := by
          have := List.mem_zipIdx_iff_getElem?.mp hp
          simpa using this
        have hk4 : k < R1.length := (List.getElem?_eq_some_iff.mp hk).1
        have g1 : pIx (xsD dr) (.int ((7 + k : Nat) : Int)) = some (.int (dr.getD (7 + k) 0 : Nat)) := xs_get (by omega)
        have g1' : pIx (xsD dr) (.int (7 + (k : Int))) = some (.int (dr.getD (7 + k) 0 : Nat)) := g1
        have hlk := (lkF_ok (dr.getD (7 + k) 0)).1
        refine ⟨lw ns dr signs (mansD R1) (rwsD R1) (.olst (R1.map (machR signs))) (some (.int (k : Nat))) none none, rfl, ?_, rfl⟩
        unfold lw
        simp only [eApp_e, aCons_e, aNil_e, eBin_e, eVar_s, eVar_z, xs_peel, eC_e, Rs.bind_ok, peel_data, isData_int, pAdd_int, ofO_some, g1', List.all_cons, List.all_nil, Bool.and_self, List.length_cons, List.length_nil, decide_true, if_true]
        exact hlk
    rw [sSet_e, eOfL_e, hcmp]
    rfl
  rw [sSeq_e, s6, seqR_nx]
  -- the rows with their marks
  let R := withM dr R1
  have hRlen : R.length = R1.length := by
    have := congrArg List.length (withM_map (fun _ => 0) (fun _ _ _ _ => rfl) dr R1)
    simpa using this
  have mMach : R1.map (machR signs) = R.map (machR signs) := (withM_map (machR signs) (fun _ _ _ _ => rfl) dr R1).symm
  have mRws : (R1.map fun r => D.lst (r.es.map edgeD)) = R.map fun r => D.lst (r.es.map edgeD) := (withM_map (fun r => D.lst (r.es.map edgeD)) (fun _ _ _ _ => rfl) dr R1).symm
  have mMan : (R1.map fun r => D.int (r.mn : Nat)) = R.map fun r => D.int (r.mn : Nat) := (withM_map (fun r => D.int (r.mn : Nat)) (fun _ _ _ _ => rfl) dr R1).symm
  have hM : Many signs R := by
    refine ⟨sg, hs9, fun r hr => ?_, fun z => ?_, by omega⟩
    · obtain ⟨p, hp, rfl⟩ := List.mem_map.mp hr
      have h := hR1 p.1 (List.fst_mem_of_mem_zipIdx hp)
      have k := lkF_ok (dr.getD (7 + p.2) 0)
      exact rw_row h _ k.2.1 k.2.2
    · have : R1.length = 0 := by rw [← hRlen, z]; rfl
      exact hne1 (List.length_eq_zero_iff.mp this)
  have right := right_ok hM
  have pr : peel (rowsD R) = rowsD R := rfl
  have pk : peel (marksD R) = marksD R := rfl
  have dr_ : isData (rowsD R) = true := rfl
  have dk : isData (marksD R) = true := rfl
  let E1 := lw ns dr signs (mansD R) (rowsD R) (.lst (R.map (machR signs))) none (some (marksD R)) none
  have hcall : (eApp 4 m__law_right (aCons (eVar 5) (aCons (eVar 7) (aCons (eVar 4) (aCons (eVar 2) aNil))))) E1 = .ok (.bl true) := by
    simp only [E1]
    unfold lw
    simp only [eApp_e, aCons_e, aNil_e, eVar_s, eVar_z, pr, pk, peel_data, isData_lst, isData_str, Rs.bind_ok, List.all_cons, List.all_nil, dr_, dk, Bool.and_self, List.length_cons, List.length_nil, decide_true, if_true]
    exact right
  unfold t5_law
  have f1 : ∀ gs : En → Fl, (sFrz 5 (sFrz 4 gs)) (lw ns dr signs (mansD R1) (rwsD R1) (.olst (R1.map (machR signs))) none (some (marksD (withM dr R1))) none) = gs E1 := fun gs => by
    have a1 := all_mach signs R1
    have a2 := all_rws R1
    simp only [E1]
    unfold lw mansD rwsD rowsD
    rw [sFrz_e]
    simp only [List.getElem?_cons_succ, List.getElem?_cons_zero, a1, if_true]
    rw [sFrz_e]
    simp only [List.set_cons_succ, List.set_cons_zero, List.getElem?_cons_succ, List.getElem?_cons_zero, a2, if_true]
    rw [mMach, mRws, mMan]
  have s7 : ∀ gt : En → Fl, sSeq (sFrz 5 (sFrz 4 (sIf (eNot (eTru (eApp 4 m__law_right (aCons (eVar 5) (aCons (eVar 7) (aCons (eVar 4) (aCons (eVar 2) aNil))))))) (sRet (eC (.bl false))) sPass))) gt (lw ns dr signs (mansD R1) (rwsD R1) (.olst (R1.map (machR signs))) none (some (marksD (withM dr R1))) none) = gt E1 := fun gt => by
    rw [sSeq_e, f1, sIf_e, eNot_e, eTru_e, hcall]
    rfl
  rw [s7]
  unfold t4_law
  have hrev := right_ok (signs := signs) (R := R.reverse) ⟨sg, hs9, fun r hr => hM.ok r (List.mem_reverse.mp hr), fun z => hM.ne (List.reverse_eq_nil_iff.mp z), by rw [List.length_reverse]; exact hM.l4⟩
  have hcall2 : (eApp 4 m__law_right (aCons (eOfL (eRevL (eVar 5))) (aCons (eOfL (eRevL (eVar 7))) (aCons (eOfL (eRevL (eVar 4))) (aCons (eVar 2) aNil))))) E1 = .ok (.bl true) := by
    have v5 : (eOfL (eRevL (eVar 5))) E1 = .ok (.lst (R.reverse.map (machR signs))) := by
      show Rs.ok (D.lst (R.map (machR signs)).reverse) = _
      rw [List.map_reverse]
    have v7 : (eOfL (eRevL (eVar 7))) E1 = .ok (marksD R.reverse) := by
      show Rs.ok (D.lst (R.map fun r => D.tup r.mr).reverse) = _
      unfold marksD
      rw [List.map_reverse]
    have v4 : (eOfL (eRevL (eVar 4))) E1 = .ok (rowsD R.reverse) := by
      show Rs.ok (D.lst (R.map fun r => D.lst (r.es.map edgeD)).reverse) = _
      unfold rowsD
      rw [List.map_reverse]
    rw [eApp_e, aCons_e, v5, Rs.bind_ok, aCons_e, v7, Rs.bind_ok, aCons_e, v4, Rs.bind_ok]
    exact hrev
  have s8 : ∀ gt : En → Fl, sSeq (sIf (eNot (eTru (eApp 4 m__law_right (aCons (eOfL (eRevL (eVar 5))) (aCons (eOfL (eRevL (eVar 7))) (aCons (eOfL (eRevL (eVar 4))) (aCons (eVar 2) aNil))))))) (sRet (eC (.bl false))) sPass) gt E1 = gt E1 := fun gt => by
    rw [sSeq_e, sIf_e, eNot_e, eTru_e, hcall2]
    rfl
  rw [s8]
  unfold t3_law
  -- the last one alone
  obtain ⟨R', rl, hRl⟩ : ∃ R' rl, R = R' ++ [rl] := by
    rcases List.eq_nil_or_concat R with z | ⟨a, b, z⟩
    · exact absurd z hM.ne
    · exact ⟨a, b, by rw [z, List.concat_eq_append]⟩
  have hrl := hM.ok rl (by rw [hRl]; simp)
  have hone := right_ok (signs := signs) (R := [⟨rl.es, rl.mn, []⟩]) ⟨sg, hs9, fun r hr => by
    rw [List.mem_singleton.mp hr]
    exact ⟨hrl.ok, hrl.m2, hrl.m6, hrl.len, (fun d h => nomatch h), by simp, hrl.lk⟩, by simp, by simp⟩
  have hlast : ∀ {xs : List D} {x : D}, pIx (.lst (xs ++ [x])) (.int (-1)) = some x := fun {xs x} => by
    show atI (xs ++ [x]) (-1) = some x
    unfold atI ixN
    rw [if_neg (by decide), if_pos (by simp; omega)]
    rw [Option.bind_some]
    have : (-1 + ((xs ++ [x]).length : Int)).toNat = xs.length := by simp; omega
    rw [this]
    simp
  have hcall3 : (eApp 4 m__law_right (aCons (eOfL (eLst (aCons (eBin pIx (eVar 5) (eNeg (eC (.int 1)))) aNil))) (aCons (eOfL (eLst (aCons (eTup aNil) aNil))) (aCons (eOfL (eLst (aCons (eBin pIx (eVar 4) (eNeg (eC (.int 1)))) aNil))) (aCons (eVar 2) aNil))))) E1 = .ok (.bl true) := by
    have v5 : (eBin pIx (eVar 5) (eNeg (eC (.int 1)))) E1 = .ok (machR signs rl) := by
      show ofO (pIx (.lst (R.map (machR signs))) (.int (-1))) = _
      rw [hRl, List.map_append]
      rw [show [rl].map (machR signs) = [machR signs rl] from rfl, hlast]
      rfl
    have v4 : (eBin pIx (eVar 4) (eNeg (eC (.int 1)))) E1 = .ok (.lst (rl.es.map edgeD)) := by
      show ofO (pIx (.lst (R.map fun r => D.lst (r.es.map edgeD))) (.int (-1))) = _
      rw [hRl, List.map_append]
      rw [show ([rl].map fun r => D.lst (r.es.map edgeD)) = [D.lst (rl.es.map edgeD)] from rfl, hlast]
      rfl
    rw [eApp_e, aCons_e, eOfL_e, eLst_e, aCons_e, v5, Rs.bind_ok, aCons_e, aCons_e, eOfL_e, eOfL_e, eLst_e, eLst_e, aCons_e, aCons_e, v4]
    exact hone
  have s9 : ∀ gt : En → Fl, sSeq (sIf (eNot (eTru (eApp 4 m__law_right (aCons (eOfL (eLst (aCons (eBin pIx (eVar 5) (eNeg (eC (.int 1)))) aNil))) (aCons (eOfL (eLst (aCons (eTup aNil) aNil))) (aCons (eOfL (eLst (aCons (eBin pIx (eVar 4) (eNeg (eC (.int 1)))) aNil))) (aCons (eVar 2) aNil))))))) (sRet (eC (.bl false))) sPass) gt E1 = gt E1 := fun gt => by
    rw [sSeq_e, sIf_e, eNot_e, eTru_e, hcall3]
    rfl
  rw [s9]
  unfold t2_law
  have s10 : sFor (eRg1 (aCons (eCall bLen (aCons (eVar 4) aNil)) aNil)) (gN 6) b0_law [6, 8] E1 = .nx E1 := by
    have hr : iRng1 [.int (R.length : Nat)] = .ok (rngL 0 R.length) := iRng1_nat (by omega)
    have hb : bLen [rowsD R] = some (.int (R.length : Nat)) := by unfold rowsD; simp
    rw [sFor_ok (ds := R.zipIdx.map fun p => D.int (p.2 : Nat))]
    · have q := forL_find (h := gN 6) (body := b0_law) (w := [6, 8]) (env := E1) (fun p : Row × Nat => D.int (p.2 : Nat)) (fun _ => false) .non [] R.zipIdx (fun p hp => by
        obtain ⟨r, k⟩ := p
        have hk : R[k]? = some r := by
          have := List.mem_zipIdx_iff_getElem?.mp hp
          simpa using this
        have hrk := hM.ok r (List.mem_of_getElem? hk)
        have hsame := same_ok 6 (dueD signs r.mn r.es) (due_plain hrk.ok (by have := hrk.len; omega))
        refine ⟨lw ns dr signs (mansD R) (rowsD R) (.lst (R.map (machR signs))) (some (.int (k : Nat))) (some (marksD R)) none, rfl, fun z => (nomatch z), fun _ => ⟨lw ns dr signs (mansD R) (rowsD R) (.lst (R.map (machR signs))) (some (.int (k : Nat))) (some (marksD R)) (some (dueD signs r.mn r.es)), .inl ?_, rfl⟩⟩
        have g5 : pIx (.lst (R.map (machR signs))) (.int (k : Nat)) = some (machR signs r) := by rw [pIx_lst, List.getElem?_map, hk]; rfl
        have g4 : pIx (rowsD R) (.int (k : Nat)) = some (.lst (r.es.map edgeD)) := by unfold rowsD; rw [pIx_lst, List.getElem?_map, hk]; rfl
        have g3 : pIx (mansD R) (.int (k : Nat)) = some (.int (r.mn : Nat)) := by unfold mansD; rw [pIx_olst, List.getElem?_map, hk]; rfl
        have f1' : pFld [0] "signs" (machR signs r) = some (.str signs) := fld_signs _ _ _
        have f2' : pFld [0] "many" (machR signs r) = some (.int (r.mn : Nat)) := fld_many _ _ _
        have f3' : pFld [0] "edges" (machR signs r) = some (.tup (r.es.map edgeD)) := fld_edges _ _ _
        have pd : peel (dueD signs r.mn r.es) = dueD signs r.mn r.es := rfl
        have q1 : sSet 8 (eTup (aCons (eFld [0] "signs" (eBin pIx (eVar 5) (eVar 6))) (aCons (eFld [0] "many" (eBin pIx (eVar 5) (eVar 6))) (aCons (eFld [0] "edges" (eBin pIx (eVar 5) (eVar 6))) aNil)))) (lw ns dr signs (mansD R) (rowsD R) (.lst (R.map (machR signs))) (some (.int (k : Nat))) (some (marksD R)) none)
            = .nx (lw ns dr signs (mansD R) (rowsD R) (.lst (R.map (machR signs))) (some (.int (k : Nat))) (some (marksD R)) (some (dueD signs r.mn r.es))) := by
          unfold lw dueD
          simp [g5, f1', f2', f3']
        have q2 : (eApp 2 (m__law_same 7) (aCons (eVar 8) (aCons (eTup (aCons (eVar 2) (aCons (eBin pIx (eVar 3) (eVar 6)) (aCons (eCall bTuple (aCons (eBin pIx (eVar 4) (eVar 6)) aNil)) aNil)))) aNil))) (lw ns dr signs (mansD R) (rowsD R) (.lst (R.map (machR signs))) (some (.int (k : Nat))) (some (marksD R)) (some (dueD signs r.mn r.es))) = .ok (.bl true) := by
          have v2 : (eTup (aCons (eVar 2) (aCons (eBin pIx (eVar 3) (eVar 6)) (aCons (eCall bTuple (aCons (eBin pIx (eVar 4) (eVar 6)) aNil)) aNil)))) (lw ns dr signs (mansD R) (rowsD R) (.lst (R.map (machR signs))) (some (.int (k : Nat))) (some (marksD R)) (some (dueD signs r.mn r.es))) = .ok (dueD signs r.mn r.es) := by
            unfold lw dueD
            simp [pM, pr, g3, g4]
          have v1 : (eVar 8) (lw ns dr signs (mansD R) (rowsD R) (.lst (R.map (machR signs))) (some (.int (k : Nat))) (some (marksD R)) (some (dueD signs r.mn r.es))) = .ok (dueD signs r.mn r.es) := rfl
          rw [eApp_e, aCons_e, v1, Rs.bind_ok, aCons_e, v2, Rs.bind_ok, aNil_e, Rs.bind_ok, Rs.bind_ok, Rs.bind_ok, if_pos (show ([dueD signs r.mn r.es, dueD signs r.mn r.es].all isData && decide ([dueD signs r.mn r.es, dueD signs r.mn r.es].length = 2)) = true from rfl)]
          exact hsame
        unfold b0_law
        rw [sSeq_e, q1, seqR_nx, sIf_e, eNot_e, eTru_e, q2]
        rfl)
      have hany : (R.zipIdx.any fun _ => false) = false := by simp
      rw [hany, if_neg (by decide)] at q
      exact q
    · rw [← rng_zip]
      simp only [E1]
      unfold lw
      simp [pr, hb, hr]
  rw [sSeq_e, s10, seqR_nx]
  unfold t1_law
  have f2 : ∀ gs : En → Fl, (sFrz 5 (sFrz 4 gs)) E1 = gs E1 := fun gs => rfl
  rw [f2, sRet_e, hcall]
  rfl
end Law

set_option Elab.async false
set_option linter.all false
set_option maxRecDepth 100000
set_option maxHeartbeats 4000000
namespace Law
open PySem L2 Z
def top (i : Nat) : Stmt := PySem.Challenge.pw_samebytesanywhere_k28_united_texts_and_m.main.body.getD i (.Pass ⟨0, 0, 0, 0⟩)
structure Pg (K : PySem.W.Frag) (ca : Nat → Addr) (mg : Str → Option Value) (fa : Nat → Addr) (fd : Nat → FuncData) : Prop where
  z_abs : mg "abs" = none
  z_all : mg "all" = none
  z_bool : mg "bool" = none
  z_enumerate : mg "enumerate" = none
  z_int : mg "int" = none
  z_isinstance : mg "isinstance" = none
  z_len : mg "len" = none
  z_range : mg "range" = none
  z_str : mg "str" = none
  z_tuple : mg "tuple" = none
  z_zip : mg "zip" = none
  c_BEGIN : ∃ t, mg "BEGIN" = some (.str ⟨[94].toArray⟩ t)
  c_SIGNS : ∃ t, mg "SIGNS" = some (.str ⟨[35, 97, 98, 99, 100, 101, 102, 103, 104].toArray⟩ t)
  c_STOP : ∃ t, mg "STOP" = some (.str ⟨[36].toArray⟩ t)
  f_Machine_leading : Fun K "leading" "Machine.leading" (inClass (top 7) 1) (fa 1701) (fd 1701)
  b_Machine_leading : Binds K (fd 1701) ["self", "state", "sign"] []
  me_Machine_leading : Meth K (ca 0) (Str.ofString "leading") (fa 1701)
  f_well_ordered : Fun K "well_ordered" "well_ordered" (top 8) (fa 8) (fd 8)
  m_well_ordered : mg "well_ordered" = some (.ref (fa 8))
  b_well_ordered : Binds K (fd 8) ["signs"] []
  f_edge_fits : Fun K "edge_fits" "edge_fits" (top 9) (fa 9) (fd 9)
  m_edge_fits : mg "edge_fits" = some (.ref (fa 9))
  b_edge_fits : Binds K (fd 9) ["signs", "many", "edge"] []
  f_ending_states : Fun K "ending_states" "ending_states" (top 11) (fa 11) (fd 11)
  m_ending_states : mg "ending_states" = some (.ref (fa 11))
  b_ending_states : Binds K (fd 11) ["machine"] []
  f_shifted_state : Fun K "shifted_state" "shifted_state" (top 15) (fa 15) (fd 15)
  m_shifted_state : mg "shifted_state" = some (.ref (fa 15))
  b_shifted_state : Binds K (fd 15) ["state", "many"] []
  f__law_cell : Fun K "_law_cell" "_law_cell" (top 17) (fa 17) (fd 17)
  m__law_cell : mg "_law_cell" = some (.ref (fa 17))
  b__law_cell : Binds K (fd 17) ["script", "k"] []
  f__law_numbers : Fun K "_law_numbers" "_law_numbers" (top 18) (fa 18) (fd 18)
  m__law_numbers : mg "_law_numbers" = some (.ref (fa 18))
  b__law_numbers : Binds K (fd 18) ["cell", "many", "count"] []
  f__law_same : Fun K "_law_same" "_law_same" (top 19) (fa 19) (fd 19)
  m__law_same : mg "_law_same" = some (.ref (fa 19))
  b__law_same : Binds K (fd 19) ["told", "due"] []
  f__law_word : Fun K "_law_word" "_law_word" (top 21) (fa 21) (fd 21)
  m__law_word : mg "_law_word" = some (.ref (fa 21))
  b__law_word : Binds K (fd 21) ["signs", "number"] []
  f__law_looks : Fun K "_law_looks" "_law_looks" (top 22) (fa 22) (fd 22)
  m__law_looks : mg "_law_looks" = some (.ref (fa 22))
  b__law_looks : Binds K (fd 22) ["number", "step"] []
  f__law_places : Fun K "_law_places" "_law_places" (top 23) (fa 23) (fd 23)
  m__law_places : mg "_law_places" = some (.ref (fa 23))
  b__law_places : Binds K (fd 23) ["signs", "many", "draws"] []
  f__law_shifted : Fun K "_law_shifted" "_law_shifted" (top 25) (fa 25) (fd 25)
  m__law_shifted : mg "_law_shifted" = some (.ref (fa 25))
  b__law_shifted : Binds K (fd 25) ["state", "k"] []
  f__law_walked : Fun K "_law_walked" "_law_walked" (top 27) (fa 27) (fd 27)
  m__law_walked : mg "_law_walked" = some (.ref (fa 27))
  b__law_walked : Binds K (fd 27) ["edges", "signs"] []
  f_Machine___init__ : Fun K "__init__" "Machine.__init__" (inClass (top 7) 0) (fa 1700) (fd 1700)
  b_Machine___init__ : Binds K (fd 1700) ["self", "signs", "many", "edges"] []
  f__law_signs : Fun K "_law_signs" "_law_signs" (top 20) (fa 20) (fd 20)
  m__law_signs : mg "_law_signs" = some (.ref (fa 20))
  b__law_signs : Binds K (fd 20) ["cell"] []
  f__law_edges : Fun K "_law_edges" "_law_edges" (top 24) (fa 24) (fd 24)
  m__law_edges : mg "_law_edges" = some (.ref (fa 24))
  b__law_edges : Binds K (fd 24) ["script", "at", "signs", "many", "step"] []
  f__law_side_by_side : Fun K "_law_side_by_side" "_law_side_by_side" (top 26) (fa 26) (fd 26)
  m__law_side_by_side : mg "_law_side_by_side" = some (.ref (fa 26))
  b__law_side_by_side : Binds K (fd 26) ["rows", "marks"] []
  f__law_rows : Fun K "_law_rows" "_law_rows" (top 29) (fa 29) (fd 29)
  m__law_rows : mg "_law_rows" = some (.ref (fa 29))
  b__law_rows : Binds K (fd 29) ["script", "draw", "signs"] []
  f_trimmed : Fun K "trimmed" "trimmed" (top 12) (fa 12) (fd 12)
  m_trimmed : mg "trimmed" = some (.ref (fa 12))
  b_trimmed : Binds K (fd 12) ["machine"] []
  f_united : Fun K "united" "united" (top 14) (fa 14) (fd 14)
  m_united : mg "united" = some (.ref (fa 14))
  b_united : Binds K (fd 14) ["machines", "marks"] []
  f__law_right : Fun K "_law_right" "_law_right" (top 28) (fa 28) (fd 28)
  m__law_right : mg "_law_right" = some (.ref (fa 28))
  b__law_right : Binds K (fd 28) ["machines", "marks", "rows", "signs"] []
  f_law : Fun K "law" "law" (top 30) (fa 30) (fd 30)
  m_law : mg "law" = some (.ref (fa 30))
  b_law : Binds K (fd 30) ["script"] []
  g_Machine : mg "Machine" = some (.ref (ca 0))
  cl_Machine : Cls K (ca 0)
  mk_Machine : Mk K (ca 0) (fa 1700)
  is_Machine : IsC K (ca 0)
  fl__leading : ∀ c ∈ [0], Cls K (ca c) ∧ NoAttr K (ca c) (Str.ofString "_leading")
  fl_edges : ∀ c ∈ [0], Cls K (ca c) ∧ NoAttr K (ca c) (Str.ofString "edges")
  fl_many : ∀ c ∈ [0], Cls K (ca c) ∧ NoAttr K (ca c) (Str.ofString "many")
  fl_signs : ∀ c ∈ [0], Cls K (ca c) ∧ NoAttr K (ca c) (Str.ofString "signs")
section
variable {P : Program} {w : World} {K : Kx} {mg : Str → Option Value} {base : Heap} {fa : Nat → Addr} {fd : Nat → FuncData}
theorem sc_Machine_leading : FnScope ["self", "state", "sign"] ["self", "state", "sign"] (defScope (inClass (top 7) 1)) := ⟨rfl, rfl, rfl, by decide +kernel, rfl, by decide +kernel, by decide +kernel⟩
theorem ok_Machine_leading (T : Pg K.k K.ca mg fa fd) : FnOk P w K.k mg base CX0 1 (fa 1701) (fd 1701) ["self", "state", "sign"] (spP K 3 m_Machine_leading) := by
  have nd := sc_Machine_leading.nd
  refine fn1 (k := 0) (g := g_Machine_leading) T.f_Machine_leading sc_Machine_leading rfl rfl rfl fun cdv A outer s H Ex F0 hr => ?_
  exact (SB.one (SS.ret (SE.callT (BS.tuple rfl) T.z_tuple bo_tuple (SA.cons (SE.get2 (SE.fld [0] "_leading" T.fl__leading (SE.var 0)) (SE.tup (SA.cons (SE.var 1) (SA.cons (SE.var 2) SA.nil))) (SE.tup SA.nil) (hu_of hr) ⟨rfl, rfl, rfl, rfl⟩) SA.nil))))
theorem sc_well_ordered : FnScope ["signs", "last", "sign"] ["signs"] (defScope (top 8)) := ⟨rfl, rfl, rfl, by decide +kernel, rfl, by decide +kernel, by decide +kernel⟩
theorem ok_well_ordered (T : Pg K.k K.ca mg fa fd) : FnOk P w K.k mg base CX0 1 (fa 8) (fd 8) ["signs"] (spP K 1 m_well_ordered) := by
  have nd := sc_well_ordered.nd
  refine fn1 (k := 0) (g := g_well_ordered) T.f_well_ordered sc_well_ordered rfl rfl rfl fun cdv A outer s H Ex F0 hr => ?_
  exact (SB.cons (SS.set 1 (SE.str []) nd)
  (SB.cons (SS.for [2] PassesOwn.never rfl (SI.seq (SE.var 0)) (SG.name 2 nd) (show SB _ _ _ _ b0_well_ordered from (SB.cons (SS.ite (ST.w (SW.or (ST.cmp (OpS.notin rfl (u65 hr)) (SE.var 2) (SE.gstr [35, 97, 98, 99, 100, 101, 102, 103, 104] T.c_SIGNS.choose_spec)) (SW.or1 (ST.cmp OpS.le (SE.var 2) (SE.var 1)))))
  (SB.one (SS.ret SE.bl))
  SB.nil)
  (SB.one (SS.set 1 (SE.var 2) nd)))))
  (SB.one (SS.ret (SE.cmp (OpS.ne rfl (u64 hr)) (SE.var 1) (SE.str []))))))
theorem sc_edge_fits : FnScope ["signs", "many", "edge", "state", "sign", "word", "target", "one"] ["signs", "many", "edge"] (defScope (top 9)) := ⟨rfl, rfl, rfl, by decide +kernel, rfl, by decide +kernel, by decide +kernel⟩
theorem ok_edge_fits (T : Pg K.k K.ca mg fa fd) : FnOk P w K.k mg base CX0 1 (fa 9) (fd 9) ["signs", "many", "edge"] (spP K 3 m_edge_fits) := by
  have nd := sc_edge_fits.nd
  refine fn1 (k := 0) (g := g_edge_fits) T.f_edge_fits sc_edge_fits rfl rfl rfl fun cdv A outer s H Ex F0 hr => ?_
  exact (SB.cons (SS.unp (SG.tup 4 rfl (SGs.cons (SG.name 3 nd) (SGs.cons (SG.name 4 nd) (SGs.cons (SG.name 5 nd) (SGs.cons (SG.name 6 nd) SGs.nil))))) (SE.sl (SE.var 2) SO.none (SO.some SE.int)))
  (SB.cons (SS.ite (ST.w (SW.or (ST.not (ST.chain (OpS.le) (OpS.lt) SE.int (SE.var 3) (SE.var 1))) (SW.or1 (ST.not (ST.chain (OpS.le) (OpS.lt) SE.int (SE.var 6) (SE.var 1))))))
  (SB.one (SS.ret SE.bl))
  SB.nil)
  (SB.cons (SS.ite (ST.w (SW.or (ST.cmp (OpS.eq rfl (u64 hr)) (SE.var 3) SE.int) (SW.or1 (ST.cmp (OpS.eq rfl (u64 hr)) (SE.var 6) SE.int))))
  (SB.one (SS.ret SE.bl))
  SB.nil)
  (SB.cons (SS.ite (ST.w (SW.or (ST.cmp (OpS.ne rfl (u64 hr)) (SE.cmp (OpS.eq rfl (u64 hr)) (SE.var 4) (SE.gstr [94] T.c_BEGIN.choose_spec)) (SE.cmp (OpS.eq rfl (u64 hr)) (SE.var 3) SE.int)) (SW.or1 (ST.cmp (OpS.ne rfl (u64 hr)) (SE.cmp (OpS.eq rfl (u64 hr)) (SE.var 4) (SE.gstr [36] T.c_STOP.choose_spec)) (SE.cmp (OpS.eq rfl (u64 hr)) (SE.var 6) SE.int)))))
  (SB.one (SS.ret SE.bl))
  SB.nil)
  (SB.cons (SS.ite (ST.w (SW.and (ST.cmp (OpS.notin rfl (u65 hr)) (SE.var 4) (SE.tup (SA.cons (SE.gstr [94] T.c_BEGIN.choose_spec) (SA.cons (SE.gstr [36] T.c_STOP.choose_spec) SA.nil)))) (SW.and1 (ST.w (SW.or (ST.cmp (OpS.ne rfl (u64 hr)) (SE.callB (BS.len rfl) T.z_len bo_len (SA.cons (SE.var 4) SA.nil)) SE.int) (SW.or1 (ST.cmp (OpS.notin rfl (u65 hr)) (SE.var 4) (SE.var 0))))))))
  (SB.one (SS.ret SE.bl))
  SB.nil)
  (SB.one (SS.ret (SE.callB (BS.all rfl) T.z_all bo_all (SA.cons (SE.ofL (SL.comp (own := [("one", 7)]) rfl nd (SJ.seq (SE.var 5)) (blkOk_by (by kernel_rfl)) (Blk.mk' (fun _ _ _ _ _ => (SG.name 7 nd)) (fun _ _ _ _ _ => SC.nil) (fun _ _ _ _ _ => (SE.cmp (OpS.isin rfl (u65 hr)) (SE.var 7) (SE.var 0)))))) SA.nil)))))))))
theorem sc_ending_states : FnScope ["machine", "before", "edge", "ending", "waiting", "target", "state"] ["machine"] (defScope (top 11)) := ⟨rfl, rfl, rfl, by decide +kernel, rfl, by decide +kernel, by decide +kernel⟩
theorem ok_ending_states (T : Pg K.k K.ca mg fa fd) : FnOk P w K.k mg base CX0 1 (fa 11) (fd 11) ["machine"] (spP K 1 m_ending_states) := by
  have nd := sc_ending_states.nd
  refine fn1 (k := 0) (g := g_ending_states) T.f_ending_states sc_ending_states rfl rfl rfl fun cdv A outer s H Ex F0 hr => ?_
  exact (SB.cons (SS.setN 1 SN.dicK nd)
  (SB.cons (SS.for [2] PassesOwn.never rfl (SI.seq (SE.fld [0] "edges" T.fl_edges (SE.var 0))) (SG.name 2 nd) (show SB _ _ _ _ b0_ending_states from (SB.one (SS.sda (SP.var 1) (SE.ix (SE.var 2) SE.int) (SE.ix (SE.var 2) SE.int) (hu_of hr) ⟨rfl, rfl, rfl, rfl⟩))))
  (SB.cons (SS.setN 3 (SN.disp (SPs.cons SE.int SE.bl SPs.nil)) nd)
  (SB.cons (SS.setL 4 (SL.lst (SA.cons SE.int SA.nil)) nd)
  (SB.cons (SS.fz 1 (SS.while 1000000000 [5, 6] PassesOwn.never (show ST _ _ _ _ c3_ending_states from (ST.cmp OpS.gt (SE.callB (BS.len rfl) T.z_len bo_len (SA.cons (SE.var 4) SA.nil)) SE.int)) (show SB _ _ _ _ b2_ending_states from (SB.cons (SS.setX 5 (SX.pop 4) nd)
  (SB.one (SS.for [6] PassesOwn.never rfl (SI.seq (SE.get2 (SE.var 1) (SE.var 5) (SE.tup SA.nil) (hu_of hr) ⟨rfl, rfl, rfl, rfl⟩)) (SG.name 6 nd) (show SB _ _ _ _ b1_ending_states from (SB.one (SS.ite (ST.notin (SE.var 6) (SE.var 3) (u65 hr))
  (SB.cons (SS.put (SP.var 3) (SE.var 6) (SN.dat SE.bl) (hu_of hr))
  (SB.one (SS.app 4 (SE.var 6))))
  SB.nil)))))))))
  (SB.one (SS.fz 3 (SS.ret (SE.var 3)))))))))
theorem sc_shifted_state : FnScope ["state", "many"] ["state", "many"] (defScope (top 15)) := ⟨rfl, rfl, rfl, by decide +kernel, rfl, by decide +kernel, by decide +kernel⟩
theorem ok_shifted_state (T : Pg K.k K.ca mg fa fd) : FnOk P w K.k mg base CX0 1 (fa 15) (fd 15) ["state", "many"] (spP K 2 m_shifted_state) := by
  have nd := sc_shifted_state.nd
  refine fn1 (k := 0) (g := g_shifted_state) T.f_shifted_state sc_shifted_state rfl rfl rfl fun cdv A outer s H Ex F0 hr => ?_
  exact (SB.one (SS.ret (SE.ite (ST.cmp OpS.lt (SE.var 0) SE.int) (SE.var 0) (SE.bin (OpS.sub) (SE.bin (OpS.add rfl) (SE.var 0) (SE.var 1)) SE.int))))
theorem sc__law_cell : FnScope ["script", "k"] ["script", "k"] (defScope (top 17)) := ⟨rfl, rfl, rfl, by decide +kernel, rfl, by decide +kernel, by decide +kernel⟩
theorem ok__law_cell (T : Pg K.k K.ca mg fa fd) : FnOk P w K.k mg base CX0 1 (fa 17) (fd 17) ["script", "k"] (spP K 2 m__law_cell) := by
  have nd := sc__law_cell.nd
  refine fn1 (k := 0) (g := g__law_cell) T.f__law_cell sc__law_cell rfl rfl rfl fun cdv A outer s H Ex F0 hr => ?_
  exact (SB.cons (SS.ite (ST.cmp OpS.lt (SE.var 1) (SE.callB (BS.len rfl) T.z_len bo_len (SA.cons (SE.var 0) SA.nil)))
  (SB.one (SS.ret (SE.ix (SE.var 0) (SE.var 1))))
  SB.nil)
  (SB.one (SS.ret (SE.bin (OpS.add rfl) (SE.bin (OpS.mul) SE.int (SE.var 1)) SE.int))))
theorem sc__law_numbers : FnScope ["cell", "many", "count", "rest", "large", "mixed", "found", "k"] ["cell", "many", "count"] (defScope (top 18)) := ⟨rfl, rfl, rfl, by decide +kernel, rfl, by decide +kernel, by decide +kernel⟩
theorem ok__law_numbers (T : Pg K.k K.ca mg fa fd) : FnOk P w K.k mg base CX0 1 (fa 18) (fd 18) ["cell", "many", "count"] (spP K 3 m__law_numbers) := by
  have nd := sc__law_numbers.nd
  refine fn1 (k := 0) (g := g__law_numbers) T.f__law_numbers sc__law_numbers rfl rfl rfl fun cdv A outer s H Ex F0 hr => ?_
  exact (SB.cons (SS.set 3 (SE.callB (BS.abs) T.z_abs bo_abs (SA.cons (SE.callT (BS.int) T.z_int bo_int (SA.cons (SE.var 0) SA.nil)) SA.nil)) nd)
  (SB.cons (SS.set 4 (SE.cmp OpS.ge (SE.var 3) (SE.bin (OpS.pow) SE.int SE.int)) nd)
  (SB.cons (SS.set 5 (SE.bin (OpS.add rfl) (SE.bin (OpS.mod) (SE.callT (BS.int) T.z_int bo_int (SA.cons (SE.var 3) SA.nil)) SE.int) SE.int) nd)
  (SB.cons (SS.setL 6 (SL.lst SA.nil) nd)
  (SB.cons (SS.for [7] PassesOwn.never rfl (SI.range1 (SA.cons (SE.var 2) SA.nil) T.z_range) (SG.name 7 nd) (show SB _ _ _ _ b0__law_numbers from (SB.one (SS.ite (ST.tru (SE.var 4))
  (SB.cons (SS.app 6 (SE.bin (OpS.mod) (SE.callT (BS.int) T.z_int bo_int (SA.cons (SE.var 3) SA.nil)) (SE.var 1)))
  (SB.one (SS.set 3 (SE.bin (OpS.div) (SE.var 3) (SE.var 1)) nd)))
  (SB.cons (SS.set 5 (SE.bin (OpS.mod) (SE.callT (BS.int) T.z_int bo_int (SA.cons (SE.bin (OpS.add rfl) (SE.bin (OpS.add rfl) (SE.bin (OpS.mul) (SE.var 5) SE.int) (SE.bin (OpS.mul) SE.int (SE.var 7))) SE.int) SA.nil)) SE.int) nd)
  (SB.one (SS.app 6 (SE.bin (OpS.mod) (SE.callT (BS.int) T.z_int bo_int (SA.cons (SE.bin (OpS.div) (SE.var 5) SE.int) SA.nil)) (SE.var 1)))))))))
  (SB.one (SS.frz 6 (SS.ret (SE.var 6)))))))))
theorem sc__law_same : FnScope ["told", "due", "k"] ["told", "due"] (defScope (top 19)) := ⟨rfl, rfl, rfl, by decide +kernel, rfl, by decide +kernel, by decide +kernel⟩
theorem ok__law_same (T : Pg K.k K.ca mg fa fd) : ∀ n, FnOk P w K.k mg base CX0 (1 + n) (fa 19) (fd 19) ["told", "due"] (spP K 2 (m__law_same n))
  | 0 => fn1 (k := 0) (g := sUn) T.f__law_same sc__law_same (n := 3) rfl rfl rfl fun cdv A outer s H Ex F0 hr => SB.unk
  | n + 1 => by
    have nd := sc__law_same.nd
    have okr := ok__law_same T n
    have nor := nox__law_same n
    refine fn1 (k := 1 + n) (g := g__law_same (m__law_same n)) T.f__law_same sc__law_same rfl rfl rfl fun cdv A outer s H Ex F0 hr => ?_
    exact (SB.cons (SS.ite (ST.tru (SE.isi "tuple" (SE.var 1) T.z_isinstance T.z_tuple bo_tuple))
  (SB.cons (SS.ite (ST.w (SW.or (ST.not (ST.tru (SE.isi "tuple" (SE.var 0) T.z_isinstance T.z_tuple bo_tuple))) (SW.or1 (ST.cmp (OpS.ne rfl (u64 hr)) (SE.callB (BS.len rfl) T.z_len bo_len (SA.cons (SE.var 0) SA.nil)) (SE.callB (BS.len rfl) T.z_len bo_len (SA.cons (SE.var 1) SA.nil))))))
  (SB.one (SS.ret SE.bl))
  SB.nil)
  (SB.cons (SS.for [2] PassesOwn.never rfl (SI.range1 (SA.cons (SE.callB (BS.len rfl) T.z_len bo_len (SA.cons (SE.var 1) SA.nil)) SA.nil) T.z_range) (SG.name 2 nd) (show SB _ _ _ _ (b0__law_same (m__law_same n)) from (SB.one (SS.ite (ST.not (ST.tru (SE.call0 okr nor (hr.mono (by omega)) T.m__law_same T.f__law_same.kp T.b__law_same (SA.cons (SE.ix (SE.var 0) (SE.var 2)) (SA.cons (SE.ix (SE.var 1) (SE.var 2)) SA.nil)))))
  (SB.one (SS.ret SE.bl))
  SB.nil))))
  (SB.one (SS.ret SE.bl))))
  SB.nil)
  (SB.cons (SS.ite (ST.cmp OpS.is (SE.var 1) SE.non)
  (SB.one (SS.ret (SE.cmp OpS.is (SE.var 0) SE.non)))
  SB.nil)
  (SB.cons (SS.ite (ST.tru (SE.isi "bool" (SE.var 1) T.z_isinstance T.z_bool bo_bool))
  (SB.one (SS.ret (SE.and (SE.isi "bool" (SE.var 0) T.z_isinstance T.z_bool bo_bool) (SE.one (SE.cmp (OpS.eq rfl (u64 hr)) (SE.var 0) (SE.var 1))))))
  SB.nil)
  (SB.cons (SS.ite (ST.tru (SE.isi "int" (SE.var 1) T.z_isinstance T.z_int bo_int))
  (SB.one (SS.ret (SE.and (SE.isi "int" (SE.var 0) T.z_isinstance T.z_int bo_int) (SE.and (SE.not (SE.isi "bool" (SE.var 0) T.z_isinstance T.z_bool bo_bool)) (SE.one (SE.cmp (OpS.eq rfl (u64 hr)) (SE.var 0) (SE.var 1)))))))
  SB.nil)
  (SB.one (SS.ret (SE.and (SE.isi "str" (SE.var 0) T.z_isinstance T.z_str bo_str) (SE.one (SE.cmp (OpS.eq rfl (u64 hr)) (SE.var 0) (SE.var 1))))))))))
theorem sc__law_word : FnScope ["signs", "number", "letters"] ["signs", "number"] (defScope (top 21)) := ⟨rfl, rfl, rfl, by decide +kernel, rfl, by decide +kernel, by decide +kernel⟩
theorem ok__law_word (T : Pg K.k K.ca mg fa fd) : FnOk P w K.k mg base CX0 1 (fa 21) (fd 21) ["signs", "number"] (spP K 2 m__law_word) := by
  have nd := sc__law_word.nd
  refine fn1 (k := 0) (g := g__law_word) T.f__law_word sc__law_word rfl rfl rfl fun cdv A outer s H Ex F0 hr => ?_
  exact (SB.cons (SS.set 2 (SE.ofL (SL.lst (SA.cons (SE.ix (SE.var 0) (SE.bin (OpS.mod) (SE.bin (OpS.div) (SE.callT (BS.int) T.z_int bo_int (SA.cons (SE.var 1) SA.nil)) SE.int) (SE.callB (BS.len rfl) T.z_len bo_len (SA.cons (SE.var 0) SA.nil)))) (SA.cons (SE.ix (SE.var 0) (SE.bin (OpS.mod) (SE.bin (OpS.div) (SE.callT (BS.int) T.z_int bo_int (SA.cons (SE.var 1) SA.nil)) SE.int) (SE.callB (BS.len rfl) T.z_len bo_len (SA.cons (SE.var 0) SA.nil)))) SA.nil)))) nd)
  (SB.one (SS.ret (SE.join (sep := []) (SE.sl (SE.var 2) SO.none (SO.some (SE.bin (OpS.mod) (SE.callT (BS.int) T.z_int bo_int (SA.cons (SE.var 1) SA.nil)) SE.int)))))))
theorem sc__law_looks : FnScope ["number", "step", "looks"] ["number", "step"] (defScope (top 22)) := ⟨rfl, rfl, rfl, by decide +kernel, rfl, by decide +kernel, by decide +kernel⟩
theorem ok__law_looks (T : Pg K.k K.ca mg fa fd) : FnOk P w K.k mg base CX0 1 (fa 22) (fd 22) ["number", "step"] (spP K 2 m__law_looks) := by
  have nd := sc__law_looks.nd
  refine fn1 (k := 0) (g := g__law_looks) T.f__law_looks sc__law_looks rfl rfl rfl fun cdv A outer s H Ex F0 hr => ?_
  exact (SB.cons (SS.set 2 (SE.tup (SA.cons (SE.tup (SA.cons (SE.var 1) (SA.cons (SE.str [99, 108, 111, 99, 107]) (SA.cons (SE.bin (OpS.mod) (SE.bin (OpS.div) (SE.callT (BS.int) T.z_int bo_int (SA.cons (SE.var 0) SA.nil)) SE.int) SE.int) SA.nil)))) (SA.cons (SE.tup (SA.cons (SE.bin (OpS.add rfl) (SE.var 1) SE.int) (SA.cons (SE.str [112, 108, 97, 99, 101]) (SA.cons (SE.bin (OpS.mod) (SE.bin (OpS.div) (SE.callT (BS.int) T.z_int bo_int (SA.cons (SE.var 0) SA.nil)) SE.int) SE.int) SA.nil)))) SA.nil))) nd)
  (SB.one (SS.ret (SE.sl (SE.var 2) SO.none (SO.some (SE.bin (OpS.mod) (SE.callT (BS.int) T.z_int bo_int (SA.cons (SE.var 0) SA.nil)) SE.int))))))
theorem sc__law_places : FnScope ["signs", "many", "draws", "places", "state", "sign", "k"] ["signs", "many", "draws"] (defScope (top 23)) := ⟨rfl, rfl, rfl, by decide +kernel, rfl, by decide +kernel, by decide +kernel⟩
theorem ok__law_places (T : Pg K.k K.ca mg fa fd) : FnOk P w K.k mg base CX0 1 (fa 23) (fd 23) ["signs", "many", "draws"] (spP K 3 m__law_places) := by
  have nd := sc__law_places.nd
  refine fn1 (k := 0) (g := g__law_places) T.f__law_places sc__law_places rfl rfl rfl fun cdv A outer s H Ex F0 hr => ?_
  exact (SB.cons (SS.setL 3 (SL.lst (SA.cons (SE.tup (SA.cons (SE.str [94]) (SA.cons SE.int SA.nil))) SA.nil)) nd)
  (SB.cons (SS.for [4] PassesOwn.never rfl (SI.range2 (SA.cons SE.int (SA.cons (SE.var 1) SA.nil)) T.z_range) (SG.name 4 nd) (show SB _ _ _ _ b0__law_places from (SB.one (SS.setL 3 (SL.cat (SE.var 3) (SE.ofL (SL.comp (own := [("sign", 5)]) rfl nd (SJ.seq (SE.bin (OpS.add rfl) (SE.var 0) (SE.str [36]))) (blkOk_by (by kernel_rfl)) (Blk.mk' (fun _ _ _ _ _ => (SG.name 5 nd)) (fun _ _ _ _ _ => SC.nil) (fun _ _ _ _ _ => (SE.tup (SA.cons (SE.var 5) (SA.cons (SE.var 4) SA.nil)))))))) nd))))
  (SB.cons (SS.for [4, 5, 6] PassesOwn.never rfl (SI.range1 (SA.cons (SE.bin (OpS.mod) (SE.callT (BS.int) T.z_int bo_int (SA.cons (SE.ix (SE.var 2) SE.int) SA.nil)) SE.int) SA.nil) T.z_range) (SG.name 6 nd) (show SB _ _ _ _ b1__law_places from (SB.cons (SS.set 5 (SE.ix (SE.bin (OpS.add rfl) (SE.bin (OpS.add rfl) (SE.str [94]) (SE.var 0)) (SE.str [36])) (SE.bin (OpS.mod) (SE.callT (BS.int) T.z_int bo_int (SA.cons (SE.ix (SE.var 2) (SE.bin (OpS.add rfl) SE.int (SE.var 6))) SA.nil)) (SE.bin (OpS.add rfl) (SE.callB (BS.len rfl) T.z_len bo_len (SA.cons (SE.var 0) SA.nil)) SE.int))) nd)
  (SB.cons (SS.set 4 (SE.bin (OpS.add rfl) SE.int (SE.bin (OpS.mod) (SE.callT (BS.int) T.z_int bo_int (SA.cons (SE.ix (SE.var 2) (SE.bin (OpS.add rfl) SE.int (SE.var 6))) SA.nil)) (SE.bin (OpS.sub) (SE.var 1) SE.int))) nd)
  (SB.cons (SS.ite (ST.cmp (OpS.eq rfl (u64 hr)) (SE.var 5) (SE.str [94]))
  (SB.one (SS.set 4 SE.int nd))
  SB.nil)
  (SB.one (SS.app 3 (SE.tup (SA.cons (SE.var 5) (SA.cons (SE.var 4) SA.nil))))))))))
  (SB.one (SS.frz 3 (SS.ret (SE.var 3)))))))
theorem sc__law_shifted : FnScope ["state", "k"] ["state", "k"] (defScope (top 25)) := ⟨rfl, rfl, rfl, by decide +kernel, rfl, by decide +kernel, by decide +kernel⟩
theorem ok__law_shifted (T : Pg K.k K.ca mg fa fd) : FnOk P w K.k mg base CX0 1 (fa 25) (fd 25) ["state", "k"] (spP K 2 m__law_shifted) := by
  have nd := sc__law_shifted.nd
  refine fn1 (k := 0) (g := g__law_shifted) T.f__law_shifted sc__law_shifted rfl rfl rfl fun cdv A outer s H Ex F0 hr => ?_
  exact (SB.cons (SS.ite (ST.cmp OpS.lt (SE.var 0) SE.int)
  (SB.one (SS.ret (SE.var 0)))
  SB.nil)
  (SB.one (SS.ret (SE.bin (OpS.add rfl) (SE.var 0) (SE.bin (OpS.mul) SE.int (SE.var 1))))))
theorem sc__law_walked : FnScope ["edges", "signs", "alive", "k", "before", "edge", "numbers", "found", "rows", "at", "sign", "state", "read", "word", "target", "looks"] ["edges", "signs"] (defScope (top 27)) := ⟨rfl, rfl, rfl, by decide +kernel, rfl, by decide +kernel, by decide +kernel⟩
theorem ok__law_walked (T : Pg K.k K.ca mg fa fd) : FnOk P w K.k mg base CX0 1 (fa 27) (fd 27) ["edges", "signs"] (spP K 2 m__law_walked) := by
  have nd := sc__law_walked.nd
  refine fn1 (k := 0) (g := g__law_walked) T.f__law_walked sc__law_walked rfl rfl rfl fun cdv A outer s H Ex F0 hr => ?_
  exact (SB.cons (SS.setN 2 (SN.disp (SPs.cons SE.int SE.bl SPs.nil)) nd)
  (SB.cons (SS.for [3, 4, 5] PassesOwn.never rfl (SI.range1 (SA.cons (SE.bin (OpS.add rfl) (SE.callB (BS.len rfl) T.z_len bo_len (SA.cons (SE.var 0) SA.nil)) SE.int) SA.nil) T.z_range) (SG.name 3 nd) (show SB _ _ _ _ b1__law_walked from (SB.cons (SS.set 4 (SE.callB (BS.len2 rfl) T.z_len bo_len (SA.cons (SE.var 2) SA.nil)) nd)
  (SB.cons (SS.for [5] PassesOwn.never rfl (SI.seq (SE.var 0)) (SG.name 5 nd) (show SB _ _ _ _ b0__law_walked from (SB.one (SS.ite (ST.isin (SE.ix (SE.var 5) SE.int) (SE.var 2) (u65 hr))
  (SB.one (SS.put (SP.var 2) (SE.ix (SE.var 5) SE.int) (SN.dat SE.bl) (hu_of hr)))
  SB.nil))))
  (SB.one (SS.ite (ST.cmp (OpS.eq rfl (u64 hr)) (SE.callB (BS.len2 rfl) T.z_len bo_len (SA.cons (SE.var 2) SA.nil)) (SE.var 4))
  (SB.one SS.brk)
  SB.nil))))))
  (SB.cons (SS.ite (ST.notin SE.int (SE.var 2) (u65 hr))
  (SB.one (SS.ret (SE.tup (SA.cons (SE.var 1) (SA.cons SE.int (SA.cons (SE.tup SA.nil) SA.nil))))))
  SB.nil)
  (SB.cons (SS.setN 6 (SN.disp (SPs.cons SE.int SE.int (SPs.cons SE.int SE.int SPs.nil))) nd)
  (SB.cons (SS.setL 7 (SL.lst (SA.cons SE.int SA.nil)) nd)
  (SB.cons (SS.setL 8 (SL.lst SA.nil) nd)
  (SB.cons (SS.for [9, 10, 11, 12, 13, 14, 15] PassesOwn.never rfl (SI.range1 (SA.cons SE.int SA.nil) T.z_range) (SG.name 9 nd) (show SB _ _ _ _ b4__law_walked from (SB.cons (SS.ite (ST.cmp (OpS.eq rfl (u64 hr)) (SE.var 9) (SE.callB (BS.len rfl) T.z_len bo_len (SA.cons (SE.var 7) SA.nil)))
  (SB.one SS.brk)
  SB.nil)
  (SB.one (SS.for [10, 11, 12, 13, 14, 15] PassesOwn.never rfl (SI.seq (SE.bin (OpS.add rfl) (SE.bin (OpS.add rfl) (SE.str [94]) (SE.var 1)) (SE.str [36]))) (SG.name 10 nd) (show SB _ _ _ _ b3__law_walked from (SB.one (SS.for [11, 12, 13, 14, 15] PassesOwn.never rfl (SI.seq (SE.var 0)) (SG.tup 5 rfl (SGs.cons (SG.name 11 nd) (SGs.cons (SG.name 12 nd) (SGs.cons (SG.name 13 nd) (SGs.cons (SG.name 14 nd) (SGs.cons (SG.name 15 nd) SGs.nil)))))) (show SB _ _ _ _ b2__law_walked from (SB.one (SS.ite (ST.w (SW.and (ST.cmp (OpS.eq rfl (u64 hr)) (SE.var 11) (SE.ix (SE.var 7) (SE.var 9))) (SW.and (ST.cmp (OpS.eq rfl (u64 hr)) (SE.var 12) (SE.var 10)) (SW.and1 (ST.isin (SE.var 14) (SE.var 2) (u65 hr))))))
  (SB.cons (SS.ite (ST.notin (SE.var 14) (SE.var 6) (u65 hr))
  (SB.cons (SS.put (SP.var 6) (SE.var 14) (SN.dat (SE.callB (BS.len2 rfl) T.z_len bo_len (SA.cons (SE.var 6) SA.nil))) (hu_of hr))
  (SB.one (SS.app 7 (SE.var 14))))
  SB.nil)
  (SB.one (SS.app 8 (SE.tup (SA.cons (SE.sub (SE.var 6) (SE.var 11) (hu_of hr)) (SA.cons (SE.var 10) (SA.cons (SE.var 13) (SA.cons (SE.sub (SE.var 6) (SE.var 14) (hu_of hr)) (SA.cons (SE.var 15) SA.nil)))))))))
  SB.nil)))))))))))
  (SB.one (SS.ret (SE.tup (SA.cons (SE.var 1) (SA.cons (SE.callB (BS.len2 rfl) T.z_len bo_len (SA.cons (SE.var 6) SA.nil)) (SA.cons (SE.callT (BS.tuple rfl) T.z_tuple bo_tuple (SA.cons (SE.var 8) SA.nil)) SA.nil)))))))))))))
theorem sc_Machine___init__ : FnScope ["self", "signs", "many", "edges", "at", "edge"] ["self", "signs", "many", "edges"] (defScope (inClass (top 7) 0)) := ⟨rfl, rfl, rfl, by decide +kernel, rfl, by decide +kernel, by decide +kernel⟩
theorem ok_Machine___init__ (T : Pg K.k K.ca mg fa fd) : FnOk P w K.k mg base CX0 2 (fa 1700) (fd 1700) ["self", "signs", "many", "edges"] (spI K 0 4 m_Machine___init__) := by
  have nd := sc_Machine___init__.nd
  refine fnI0 (k := 1) (c := 0) (g := g_Machine___init__) T.f_Machine___init__ sc_Machine___init__ rfl rfl rfl fun cdv A outer s H Ex F0 al dx hr => ?_
  exact (SB.cons (SS.setF [0] 0 "signs" T.fl_signs (SN.dat (SE.var 1)))
  (SB.cons (SS.setF [0] 0 "many" T.fl_many (SN.dat (SE.var 2)))
  (SB.cons (SS.setF [0] 0 "edges" T.fl_edges (SN.dat (SE.callT (BS.tuple rfl) T.z_tuple bo_tuple (SA.cons (SE.var 3) SA.nil))))
  (SB.cons (SS.setF [0] 0 "_leading" T.fl__leading SN.dicT)
  (SB.cons (SS.ite (ST.w (SW.or (ST.cmp OpS.lt (SE.var 2) SE.int) (SW.or1 (ST.not (ST.tru (SE.call0 (ok_well_ordered (K := ⟨K.k, K.ca, fun _ => al⟩) T) runB0_nox (hr.mono (by decide)) T.m_well_ordered T.f_well_ordered.kp T.b_well_ordered (SA.cons (SE.var 1) SA.nil)))))))
  (SB.one SS.unk)
  SB.nil)
  (SB.one (SS.for [4, 5] PassesOwn.never rfl (show SI _ _ _ _ _ (eEnum (aCons (eFld [0] "edges" (eVar 0)) aNil)) from SI.enum (SA.cons (SE.fld [0] "edges" T.fl_edges (SE.var 0)) SA.nil) T.z_enumerate) (SG.tup 2 rfl (SGs.cons (SG.name 4 nd) (SGs.cons (SG.name 5 nd) SGs.nil))) (show SB _ _ _ _ b0_Machine___init__ from (SB.cons (SS.ite (ST.not (ST.tru (SE.call0 (ok_edge_fits (K := ⟨K.k, K.ca, fun _ => al⟩) T) runB0_nox (hr.mono (by decide)) T.m_edge_fits T.f_edge_fits.kp T.b_edge_fits (SA.cons (SE.var 1) (SA.cons (SE.var 2) (SA.cons (SE.var 5) SA.nil))))))
  (SB.one SS.unk)
  SB.nil)
  (SB.one (SS.sda (SP.fld [0] "_leading" T.fl__leading (SP.var 0)) (SE.tup (SA.cons (SE.ix (SE.var 5) SE.int) (SA.cons (SE.ix (SE.var 5) SE.int) SA.nil))) (SE.var 4) (hu_of hr) ⟨rfl, rfl, rfl, rfl⟩)))))))))))
theorem sc__law_signs : FnScope ["cell", "count", "numbers", "k"] ["cell"] (defScope (top 20)) := ⟨rfl, rfl, rfl, by decide +kernel, rfl, by decide +kernel, by decide +kernel⟩
theorem ok__law_signs (T : Pg K.k K.ca mg fa fd) : FnOk P w K.k mg base CX0 2 (fa 20) (fd 20) ["cell"] (spP K 1 m__law_signs) := by
  have nd := sc__law_signs.nd
  refine fn1 (k := 1) (g := g__law_signs) T.f__law_signs sc__law_signs rfl rfl rfl fun cdv A outer s H Ex F0 hr => ?_
  exact (SB.cons (SS.set 1 SE.int nd)
  (SB.cons (SS.ite (ST.cmp (OpS.eq rfl (u64 hr)) (SE.bin (OpS.mod) (SE.callT (BS.int) T.z_int bo_int (SA.cons (SE.var 0) SA.nil)) SE.int) SE.int)
  (SB.one (SS.set 1 SE.int nd))
  SB.nil)
  (SB.cons (SS.set 2 (SE.call0 (ok__law_numbers T) runB0_nox (hr.mono (by decide)) T.m__law_numbers T.f__law_numbers.kp T.b__law_numbers (SA.cons (SE.var 0) (SA.cons SE.int (SA.cons (SE.var 1) SA.nil)))) nd)
  (SB.one (SS.ret (SE.join (sep := []) (SE.ofL (SL.comp (own := [("k", 3)]) rfl nd (SJ.of (SI.range1 (SA.cons SE.int SA.nil) T.z_range)) (blkOk_by (by kernel_rfl)) (Blk.mk' (fun _ _ _ _ _ => (SG.name 3 nd)) (fun _ _ _ _ _ => (SC.one (ST.cmp (OpS.isin rfl (u65 hr)) (SE.var 3) (SE.var 2)))) (fun _ _ _ _ _ => (SE.ix (SE.str [35, 97, 98, 99, 100, 101, 102, 103, 104]) (SE.var 3))))))))))))
theorem sc__law_edges : FnScope ["script", "at", "signs", "many", "step", "draws", "k", "places", "edges", "sign", "state", "draw", "target", "left_out", "turn"] ["script", "at", "signs", "many", "step"] (defScope (top 24)) := ⟨rfl, rfl, rfl, by decide +kernel, rfl, by decide +kernel, by decide +kernel⟩
theorem ok__law_edges (T : Pg K.k K.ca mg fa fd) : FnOk P w K.k mg base CX0 2 (fa 24) (fd 24) ["script", "at", "signs", "many", "step"] (spP K 5 m__law_edges) := by
  have nd := sc__law_edges.nd
  refine fn1 (k := 1) (g := g__law_edges) T.f__law_edges sc__law_edges rfl rfl rfl fun cdv A outer s H Ex F0 hr => ?_
  exact (SB.cons (SS.set 5 (SE.ofL (SL.lst SA.nil)) nd)
  (SB.cons (SS.for [6] PassesOwn.never rfl (SI.range1 (SA.cons SE.int SA.nil) T.z_range) (SG.name 6 nd) (show SB _ _ _ _ b0__law_edges from (SB.one (SS.set 5 (SE.bin (OpS.add rfl) (SE.var 5) (SE.call0 (ok__law_numbers T) runB0_nox (hr.mono (by decide)) T.m__law_numbers T.f__law_numbers.kp T.b__law_numbers (SA.cons (SE.call0 (ok__law_cell T) runB0_nox (hr.mono (by decide)) T.m__law_cell T.f__law_cell.kp T.b__law_cell (SA.cons (SE.var 0) (SA.cons (SE.bin (OpS.add rfl) (SE.var 1) (SE.var 6)) SA.nil))) (SA.cons SE.int (SA.cons SE.int SA.nil))))) nd))))
  (SB.cons (SS.set 7 (SE.call0 (ok__law_places T) runB0_nox (hr.mono (by decide)) T.m__law_places T.f__law_places.kp T.b__law_places (SA.cons (SE.var 2) (SA.cons (SE.var 3) (SA.cons (SE.var 5) SA.nil)))) nd)
  (SB.cons (SS.setL 8 (SL.lst SA.nil) nd)
  (SB.cons (SS.for [6, 9, 10, 11, 12, 13] PassesOwn.never rfl (SI.range1 (SA.cons (SE.callB (BS.len rfl) T.z_len bo_len (SA.cons (SE.var 7) SA.nil)) SA.nil) T.z_range) (SG.name 6 nd) (show SB _ _ _ _ b1__law_edges from (SB.cons (SS.unp (SG.tup 2 rfl (SGs.cons (SG.name 9 nd) (SGs.cons (SG.name 10 nd) SGs.nil))) (SE.ix (SE.var 7) (SE.var 6)))
  (SB.cons (SS.set 11 (SE.sl (SE.var 5) (SO.some (SE.bin (OpS.mul) SE.int (SE.bin (OpS.mod) (SE.var 6) SE.int))) (SO.some (SE.bin (OpS.add rfl) (SE.bin (OpS.mul) SE.int (SE.bin (OpS.mod) (SE.var 6) SE.int)) SE.int))) nd)
  (SB.cons (SS.set 12 (SE.bin (OpS.add rfl) SE.int (SE.bin (OpS.mod) (SE.callT (BS.int) T.z_int bo_int (SA.cons (SE.ix (SE.var 11) SE.int) SA.nil)) (SE.bin (OpS.sub) (SE.var 3) SE.int))) nd)
  (SB.cons (SS.set 13 (SE.and (SE.cmp OpS.gt (SE.var 6) SE.int) (SE.one (SE.cmp OpS.lt (SE.ix (SE.var 11) SE.int) SE.int))) nd)
  (SB.cons (SS.ite (ST.cmp (OpS.eq rfl (u64 hr)) (SE.var 9) (SE.str [36]))
  (SB.cons (SS.set 12 SE.int nd)
  (SB.one (SS.set 13 (SE.and (SE.cmp OpS.gt (SE.var 10) SE.int) (SE.one (SE.cmp OpS.lt (SE.ix (SE.var 11) SE.int) SE.int))) nd)))
  SB.nil)
  (SB.one (SS.ite (ST.not (ST.tru (SE.var 13)))
  (SB.one (SS.app 8 (SE.tup (SA.cons (SE.var 10) (SA.cons (SE.var 9) (SA.cons (SE.call0 (ok__law_word T) runB0_nox (hr.mono (by decide)) T.m__law_word T.f__law_word.kp T.b__law_word (SA.cons (SE.var 2) (SA.cons (SE.bin (OpS.add rfl) (SE.ix (SE.var 11) SE.int) (SE.var 6)) SA.nil))) (SA.cons (SE.var 12) (SA.cons (SE.call0 (ok__law_looks T) runB0_nox (hr.mono (by decide)) T.m__law_looks T.f__law_looks.kp T.b__law_looks (SA.cons (SE.ix (SE.var 11) SE.int) (SA.cons (SE.var 4) SA.nil))) SA.nil))))))))
  SB.nil)))))))))
  (SB.cons (SS.set 14 (SE.bin (OpS.mod) (SE.callT (BS.int) T.z_int bo_int (SA.cons (SE.ix (SE.var 5) SE.int) SA.nil)) (SE.callB (BS.len rfl) T.z_len bo_len (SA.cons (SE.var 8) SA.nil))) nd)
  (SB.one (SS.ret (SE.bin (OpS.add rfl) (SE.sl (SE.var 8) (SO.some (SE.var 14)) SO.none) (SE.sl (SE.var 8) SO.none (SO.some (SE.var 14))))))))))))
theorem sc__law_side_by_side : FnScope ["rows", "marks", "edges", "k", "state", "sign", "word", "target", "looks"] ["rows", "marks"] (defScope (top 26)) := ⟨rfl, rfl, rfl, by decide +kernel, rfl, by decide +kernel, by decide +kernel⟩
theorem ok__law_side_by_side (T : Pg K.k K.ca mg fa fd) : FnOk P w K.k mg base CX0 2 (fa 26) (fd 26) ["rows", "marks"] (spP K 2 m__law_side_by_side) := by
  have nd := sc__law_side_by_side.nd
  refine fn1 (k := 1) (g := g__law_side_by_side) T.f__law_side_by_side sc__law_side_by_side rfl rfl rfl fun cdv A outer s H Ex F0 hr => ?_
  exact (SB.cons (SS.setL 2 (SL.lst SA.nil) nd)
  (SB.cons (SS.for [3, 4, 5, 6, 7, 8] PassesOwn.never rfl (SI.range1 (SA.cons (SE.callB (BS.len rfl) T.z_len bo_len (SA.cons (SE.var 0) SA.nil)) SA.nil) T.z_range) (SG.name 3 nd) (show SB _ _ _ _ b1__law_side_by_side from (SB.one (SS.for [4, 5, 6, 7, 8] PassesOwn.never rfl (SI.seq (SE.ix (SE.var 0) (SE.var 3))) (SG.tup 5 rfl (SGs.cons (SG.name 4 nd) (SGs.cons (SG.name 5 nd) (SGs.cons (SG.name 6 nd) (SGs.cons (SG.name 7 nd) (SGs.cons (SG.name 8 nd) SGs.nil)))))) (show SB _ _ _ _ b0__law_side_by_side from (SB.cons (SS.ite (ST.cmp (OpS.eq rfl (u64 hr)) (SE.var 4) SE.int)
  (SB.one (SS.set 8 (SE.bin (OpS.add rfl) (SE.ix (SE.var 1) (SE.var 3)) (SE.var 8)) nd))
  SB.nil)
  (SB.one (SS.app 2 (SE.tup (SA.cons (SE.call0 (ok__law_shifted T) runB0_nox (hr.mono (by decide)) T.m__law_shifted T.f__law_shifted.kp T.b__law_shifted (SA.cons (SE.var 4) (SA.cons (SE.var 3) SA.nil))) (SA.cons (SE.var 5) (SA.cons (SE.var 6) (SA.cons (SE.call0 (ok__law_shifted T) runB0_nox (hr.mono (by decide)) T.m__law_shifted T.f__law_shifted.kp T.b__law_shifted (SA.cons (SE.var 7) (SA.cons (SE.var 3) SA.nil))) (SA.cons (SE.var 8) SA.nil))))))))))))))
  (SB.one (SS.frz 2 (SS.ret (SE.var 2))))))
theorem sc__law_rows : FnScope ["script", "draw", "signs", "manies", "rows", "k", "at", "edge"] ["script", "draw", "signs"] (defScope (top 29)) := ⟨rfl, rfl, rfl, by decide +kernel, rfl, by decide +kernel, by decide +kernel⟩
theorem ok__law_rows (T : Pg K.k K.ca mg fa fd) : FnOk P w K.k mg base CX0 3 (fa 29) (fd 29) ["script", "draw", "signs"] (spG Good2 K 3 m__law_rows) := by
  have nd := sc__law_rows.nd
  refine fnO (k := 2) (g := g__law_rows) T.f__law_rows sc__law_rows rfl rfl rfl fun cdv A outer s H Ex F0 hr => ?_
  exact (SBO.cons (SS.setL 3 (SL.lst SA.nil) nd)
  (SBO.cons (SS.setL 4 (SL.lst SA.nil) nd)
  (SBO.cons (SS.for [5] PassesOwn.never rfl (SI.range1 (SA.cons (SE.bin (OpS.add rfl) SE.int (SE.bin (OpS.mod) (SE.ix (SE.var 1) SE.int) SE.int)) SA.nil) T.z_range) (SG.name 5 nd) (show SB _ _ _ _ b0__law_rows from (SB.cons (SS.app 3 (SE.bin (OpS.add rfl) SE.int (SE.bin (OpS.mod) (SE.ix (SE.var 1) (SE.bin (OpS.add rfl) SE.int (SE.var 5))) SE.int)))
  (SB.one (SS.app 4 (SE.call0 (ok__law_edges T) runB0_nox (hr.mono (by decide)) T.m__law_edges T.f__law_edges.kp T.b__law_edges (SA.cons (SE.var 0) (SA.cons (SE.bin (OpS.add rfl) SE.int (SE.bin (OpS.mul) SE.int (SE.var 5))) (SA.cons (SE.var 2) (SA.cons (SE.ix (SE.var 3) (SE.var 5)) (SA.cons (SE.var 5) SA.nil)))))))))))
  (SBO.cons (SS.set 6 (SE.bin (OpS.mod) (SE.ix (SE.var 1) SE.int) (SE.callB (BS.len rfl) T.z_len bo_len (SA.cons (SE.var 4) SA.nil))) nd)
  (SBO.cons (SS.ite (ST.cmp (OpS.eq rfl (u64 hr)) (SE.bin (OpS.mod) (SE.ix (SE.var 1) SE.int) SE.int) SE.int)
  (SB.one (SS.put (SP.var 4) (SE.var 6) (SN.dat (SE.ofL (SL.comp (own := [("edge", 7)]) rfl nd (SJ.seq (SE.ix (SE.var 4) (SE.var 6))) (blkOk_by (by kernel_rfl)) (Blk.mk' (fun _ _ _ _ _ => (SG.name 7 nd)) (fun _ _ _ _ _ => (SC.one (ST.cmp (OpS.ne rfl (u64 hr)) (SE.ix (SE.var 7) SE.int) (SE.str [36])))) (fun _ _ _ _ _ => (SE.var 7)))))) (hu_of hr)))
  SB.nil)
  (SBO.cons (SS.ite (ST.cmp (OpS.eq rfl (u64 hr)) (SE.bin (OpS.mod) (SE.ix (SE.var 1) SE.int) SE.int) SE.int)
  (SB.cons (SS.put (SP.var 4) (SE.var 6) (SN.dat (SE.ofL (SL.lst SA.nil))) (hu_of hr))
  (SB.one (SS.put (SP.var 3) (SE.var 6) (SN.dat SE.int) (hu_of hr))))
  SB.nil)
  (SBO.ret2 3 4)))))))
theorem sc_trimmed : FnScope ["machine", "ending", "numbers", "found", "edges", "at", "state", "sign", "number", "edge"] ["machine"] (defScope (top 12)) := ⟨rfl, rfl, rfl, by decide +kernel, rfl, by decide +kernel, by decide +kernel⟩
theorem ok_trimmed (T : Pg K.k K.ca mg fa fd) : FnOk P w K.k mg base CX0 4 (fa 12) (fd 12) ["machine"] (spP K 1 m_trimmed) := by
  have nd := sc_trimmed.nd
  refine fn1 (k := 3) (g := g_trimmed) T.f_trimmed sc_trimmed rfl rfl rfl fun cdv A outer s H Ex F0 hr => ?_
  exact (SB.cons (SS.set 1 (SE.call0 (ok_ending_states T) runB0_nox (hr.mono (by decide)) T.m_ending_states T.f_ending_states.kp T.b_ending_states (SA.cons (SE.var 0) SA.nil)) nd)
  (SB.cons (SS.ite (ST.notin SE.int (SE.var 1) (u65 hr))
  (SB.one (SS.ret (SE.make0 T.mk_Machine (ok_Machine___init__ T) (noX_no _) (hr.mono (by decide)) T.g_Machine T.b_Machine___init__ (SA.cons (SE.fld [0] "signs" T.fl_signs (SE.var 0)) (SA.cons SE.int (SA.cons (SE.tup SA.nil) SA.nil))))))
  SB.nil)
  (SB.cons (SS.setN 2 (SN.disp (SPs.cons SE.int SE.int (SPs.cons SE.int SE.int SPs.nil))) nd)
  (SB.cons (SS.setL 3 (SL.lst (SA.cons SE.int SA.nil)) nd)
  (SB.cons (SS.setL 4 (SL.lst SA.nil) nd)
  (SB.cons (SS.set 5 SE.int nd)
  (SB.cons (SS.while 1000000000 [6, 7, 8, 9] PassesOwn.never (show ST _ _ _ _ c3_trimmed from (ST.cmp OpS.lt (SE.var 5) (SE.callB (BS.len rfl) T.z_len bo_len (SA.cons (SE.var 3) SA.nil)))) (show SB _ _ _ _ b2_trimmed from (SB.cons (SS.set 6 (SE.ix (SE.var 3) (SE.var 5)) nd)
  (SB.cons (SS.for [7, 8, 9] PassesOwn.never rfl (SI.seq (SE.bin (OpS.add rfl) (SE.bin (OpS.add rfl) (SE.gstr [94] T.c_BEGIN.choose_spec) (SE.fld [0] "signs" T.fl_signs (SE.var 0))) (SE.gstr [36] T.c_STOP.choose_spec))) (SG.name 7 nd) (show SB _ _ _ _ b1_trimmed from (SB.one (SS.for [8, 9] PassesOwn.never rfl (SI.seq (SE.meth (c := 0) (mn := "leading") (SE.var 0) T.cl_Machine T.me_Machine_leading (ok_Machine_leading T) runB0_nox (hr.mono (by decide)) T.b_Machine_leading (SA.cons (SE.var 6) (SA.cons (SE.var 7) SA.nil)))) (SG.name 8 nd) (show SB _ _ _ _ b0_trimmed from (SB.cons (SS.set 9 (SE.ix (SE.fld [0] "edges" T.fl_edges (SE.var 0)) (SE.var 8)) nd)
  (SB.cons (SS.ite (ST.notin (SE.ix (SE.var 9) SE.int) (SE.var 1) (u65 hr))
  (SB.one SS.cont)
  SB.nil)
  (SB.cons (SS.ite (ST.notin (SE.ix (SE.var 9) SE.int) (SE.var 2) (u65 hr))
  (SB.cons (SS.put (SP.var 2) (SE.ix (SE.var 9) SE.int) (SN.dat (SE.callB (BS.len2 rfl) T.z_len bo_len (SA.cons (SE.var 2) SA.nil))) (hu_of hr))
  (SB.one (SS.app 3 (SE.ix (SE.var 9) SE.int))))
  SB.nil)
  (SB.one (SS.app 4 (SE.tup (SA.cons (SE.sub (SE.var 2) (SE.var 6) (hu_of hr)) (SA.cons (SE.var 7) (SA.cons (SE.ix (SE.var 9) SE.int) (SA.cons (SE.sub (SE.var 2) (SE.ix (SE.var 9) SE.int) (hu_of hr)) (SA.cons (SE.ix (SE.var 9) SE.int) SA.nil))))))))))))))))
  (SB.one (SS.aug 5 IpS.add SE.int nd))))))
  (SB.one (SS.frz 4 (SS.ret (SE.make0 T.mk_Machine (ok_Machine___init__ T) (noX_no _) (hr.mono (by decide)) T.g_Machine T.b_Machine___init__ (SA.cons (SE.fld [0] "signs" T.fl_signs (SE.var 0)) (SA.cons (SE.callB (BS.len2 rfl) T.z_len bo_len (SA.cons (SE.var 2) SA.nil)) (SA.cons (SE.var 4) SA.nil))))))))))))))
theorem sc_united : FnScope ["machines", "marks", "edges", "many", "machine", "mark", "state", "sign", "word", "target", "looks", "ahead"] ["machines", "marks"] (defScope (top 14)) := ⟨rfl, rfl, rfl, by decide +kernel, rfl, by decide +kernel, by decide +kernel⟩
theorem ok_united (T : Pg K.k K.ca mg fa fd) : FnOk P w K.k mg base CX0 5 (fa 14) (fd 14) ["machines", "marks"] (spP K 2 m_united) := by
  have nd := sc_united.nd
  refine fn1 (k := 4) (g := g_united) T.f_united sc_united rfl rfl rfl fun cdv A outer s H Ex F0 hr => ?_
  exact (SB.cons (SS.setL 2 (SL.lst SA.nil) nd)
  (SB.cons (SS.set 3 SE.int nd)
  (SB.cons (SS.for [4, 5, 6, 7, 8, 9, 10, 11] PassesOwn.never rfl (show SI _ _ _ _ _ (eZip (aCons (eVar 0) (aCons (eVar 1) aNil))) from SI.zip (SA.cons (SE.var 0) (SA.cons (SE.var 1) SA.nil)) T.z_zip) (SG.tup 2 rfl (SGs.cons (SG.name 4 nd) (SGs.cons (SG.name 5 nd) SGs.nil))) (show SB _ _ _ _ b1_united from (SB.cons (SS.for [6, 7, 8, 9, 10, 11] PassesOwn.never rfl (SI.seq (SE.fld [0] "edges" T.fl_edges (SE.var 4))) (SG.tup 5 rfl (SGs.cons (SG.name 6 nd) (SGs.cons (SG.name 7 nd) (SGs.cons (SG.name 8 nd) (SGs.cons (SG.name 9 nd) (SGs.cons (SG.name 10 nd) SGs.nil)))))) (show SB _ _ _ _ b0_united from (SB.cons (SS.set 11 (SE.ite (ST.cmp (OpS.eq rfl (u64 hr)) (SE.var 6) SE.int) (SE.var 5) (SE.tup SA.nil)) nd)
  (SB.one (SS.app 2 (SE.tup (SA.cons (SE.call0 (ok_shifted_state T) runB0_nox (hr.mono (by decide)) T.m_shifted_state T.f_shifted_state.kp T.b_shifted_state (SA.cons (SE.var 6) (SA.cons (SE.var 3) SA.nil))) (SA.cons (SE.var 7) (SA.cons (SE.var 8) (SA.cons (SE.call0 (ok_shifted_state T) runB0_nox (hr.mono (by decide)) T.m_shifted_state T.f_shifted_state.kp T.b_shifted_state (SA.cons (SE.var 9) (SA.cons (SE.var 3) SA.nil))) (SA.cons (SE.bin (OpS.add rfl) (SE.var 11) (SE.var 10)) SA.nil)))))))))))
  (SB.one (SS.set 3 (SE.bin (OpS.sub) (SE.bin (OpS.add rfl) (SE.var 3) (SE.fld [0] "many" T.fl_many (SE.var 4))) SE.int) nd)))))
  (SB.one (SS.frz 2 (SS.ret (SE.call0 (ok_trimmed T) runB0_nox (hr.mono (by decide)) T.m_trimmed T.f_trimmed.kp T.b_trimmed (SA.cons (SE.make0 T.mk_Machine (ok_Machine___init__ T) (noX_no _) (hr.mono (by decide)) T.g_Machine T.b_Machine___init__ (SA.cons (SE.fld [0] "signs" T.fl_signs (SE.ix (SE.var 0) SE.int)) (SA.cons (SE.var 3) (SA.cons (SE.var 2) SA.nil)))) SA.nil))))))))
theorem sc__law_right : FnScope ["machines", "marks", "rows", "signs", "due", "told"] ["machines", "marks", "rows", "signs"] (defScope (top 28)) := ⟨rfl, rfl, rfl, by decide +kernel, rfl, by decide +kernel, by decide +kernel⟩
theorem ok__law_right (T : Pg K.k K.ca mg fa fd) : FnOk P w K.k mg base CX0 9 (fa 28) (fd 28) ["machines", "marks", "rows", "signs"] (spP K 4 m__law_right) := by
  have nd := sc__law_right.nd
  refine fn1 (k := 8) (g := g__law_right) T.f__law_right sc__law_right rfl rfl rfl fun cdv A outer s H Ex F0 hr => ?_
  exact (SB.cons (SS.set 4 (SE.call0 (ok__law_walked T) runB0_nox (hr.mono (by decide)) T.m__law_walked T.f__law_walked.kp T.b__law_walked (SA.cons (SE.call0 (ok__law_side_by_side T) runB0_nox (hr.mono (by decide)) T.m__law_side_by_side T.f__law_side_by_side.kp T.b__law_side_by_side (SA.cons (SE.var 2) (SA.cons (SE.var 1) SA.nil))) (SA.cons (SE.var 3) SA.nil))) nd)
  (SB.cons (SS.set 5 (SE.call0 (ok_united T) runB0_nox (hr.mono (by decide)) T.m_united T.f_united.kp T.b_united (SA.cons (SE.callT (BS.tuple rfl) T.z_tuple bo_tuple (SA.cons (SE.var 0) SA.nil)) (SA.cons (SE.callT (BS.tuple rfl) T.z_tuple bo_tuple (SA.cons (SE.var 1) SA.nil)) SA.nil))) nd)
  (SB.one (SS.ret (SE.and (SE.isC 0 T.is_Machine (SE.var 5) T.z_isinstance T.g_Machine) (SE.one (SE.call0 (ok__law_same T 7) (nox__law_same 7) (hr.mono (by decide)) T.m__law_same T.f__law_same.kp T.b__law_same (SA.cons (SE.tup (SA.cons (SE.fld [0] "signs" T.fl_signs (SE.var 5)) (SA.cons (SE.fld [0] "many" T.fl_many (SE.var 5)) (SA.cons (SE.fld [0] "edges" T.fl_edges (SE.var 5)) SA.nil)))) (SA.cons (SE.var 4) SA.nil)))))))))
theorem sc_law : FnScope ["script", "draw", "signs", "manies", "rows", "machines", "k", "marks", "told"] ["script"] (defScope (top 30)) := ⟨rfl, rfl, rfl, by decide +kernel, rfl, by decide +kernel, by decide +kernel⟩
theorem ok_law (T : Pg K.k K.ca mg fa fd) : FnOk P w K.k mg base CX0 10 (fa 30) (fd 30) ["script"] (spP K 1 m_law) := by
  have nd := sc_law.nd
  refine fn1 (k := 9) (g := g_law) T.f_law sc_law rfl rfl rfl fun cdv A outer s H Ex F0 hr => ?_
  exact (SB.cons (SS.set 1 (SE.call0 (ok__law_numbers T) runB0_nox (hr.mono (by decide)) T.m__law_numbers T.f__law_numbers.kp T.b__law_numbers (SA.cons (SE.call0 (ok__law_cell T) runB0_nox (hr.mono (by decide)) T.m__law_cell T.f__law_cell.kp T.b__law_cell (SA.cons (SE.var 0) (SA.cons SE.int SA.nil))) (SA.cons SE.int (SA.cons SE.int SA.nil)))) nd)
  (SB.cons (SS.set 2 (SE.call0 (ok__law_signs T) runB0_nox (hr.mono (by decide)) T.m__law_signs T.f__law_signs.kp T.b__law_signs (SA.cons (SE.call0 (ok__law_cell T) runB0_nox (hr.mono (by decide)) T.m__law_cell T.f__law_cell.kp T.b__law_cell (SA.cons (SE.var 0) (SA.cons SE.int SA.nil))) SA.nil)) nd)
  (SB.cons (SS.unp2 3 4 (ok__law_rows T) (hr.mono (by decide)) T.m__law_rows T.f__law_rows.kp T.b__law_rows (SA.cons (SE.var 0) (SA.cons (SE.var 1) (SA.cons (SE.var 2) SA.nil))) nd)
  (SB.cons (SS.setCL (own := [("k", 6)]) 5 rfl nd (SJ.of (SI.range1 (SA.cons (SE.callB (BS.len rfl) T.z_len bo_len (SA.cons (SE.var 4) SA.nil)) SA.nil) T.z_range)) (blkOk_by (by kernel_rfl)) (Blk.mk' (fun _ _ _ _ _ => (SG.name 6 nd)) (fun _ _ _ _ _ => SC.nil) (fun _ _ _ _ _ => (SE.make0 T.mk_Machine (ok_Machine___init__ T) (noX_no _) (hr.mono (by decide)) T.g_Machine T.b_Machine___init__ (SA.cons (SE.var 2) (SA.cons (SE.ix (SE.var 3) (SE.var 6)) (SA.cons (SE.callT (BS.tuple rfl) T.z_tuple bo_tuple (SA.cons (SE.ix (SE.var 4) (SE.var 6)) SA.nil)) SA.nil)))))))
  (SB.cons (SS.ite (ST.cmp (OpS.eq rfl (u64 hr)) (SE.bin (OpS.mod) (SE.ix (SE.var 1) SE.int) SE.int) SE.int)
  (SB.cons (SS.app 5 (SE.ix (SE.var 5) SE.int))
  (SB.cons (SS.app 4 (SE.ix (SE.var 4) SE.int))
  (SB.one (SS.app 3 (SE.ix (SE.var 3) SE.int)))))
  SB.nil)
  (SB.cons (SS.setC (own := [("k", 6)]) 7 rfl nd (SJ.of (SI.range1 (SA.cons (SE.callB (BS.len rfl) T.z_len bo_len (SA.cons (SE.var 4) SA.nil)) SA.nil) T.z_range)) (blkOk_by (by kernel_rfl)) (Blk.mk' (fun _ _ _ _ _ => (SG.name 6 nd)) (fun _ _ _ _ _ => SC.nil) (fun _ _ _ _ _ => (SE.call0 (ok__law_looks T) runB0_nox (hr.mono (by decide)) T.m__law_looks T.f__law_looks.kp T.b__law_looks (SA.cons (SE.ix (SE.var 1) (SE.bin (OpS.add rfl) SE.int (SE.var 6))) (SA.cons SE.int SA.nil))))))
  (SB.cons (SS.frz 5 (SS.frz 4 (SS.ite (ST.not (ST.tru (SE.call0 (ok__law_right T) runB0_nox (hr.mono (by decide)) T.m__law_right T.f__law_right.kp T.b__law_right (SA.cons (SE.var 5) (SA.cons (SE.var 7) (SA.cons (SE.var 4) (SA.cons (SE.var 2) SA.nil)))))))
  (SB.one (SS.ret SE.bl))
  SB.nil)))
  (SB.cons (SS.ite (ST.not (ST.tru (SE.call0 (ok__law_right T) runB0_nox (hr.mono (by decide)) T.m__law_right T.f__law_right.kp T.b__law_right (SA.cons (SE.ofL (SL.revL (SE.var 5))) (SA.cons (SE.ofL (SL.revL (SE.var 7))) (SA.cons (SE.ofL (SL.revL (SE.var 4))) (SA.cons (SE.var 2) SA.nil)))))))
  (SB.one (SS.ret SE.bl))
  SB.nil)
  (SB.cons (SS.ite (ST.not (ST.tru (SE.call0 (ok__law_right T) runB0_nox (hr.mono (by decide)) T.m__law_right T.f__law_right.kp T.b__law_right (SA.cons (SE.ofL (SL.lst (SA.cons (SE.ix (SE.var 5) (SE.neg SE.int)) SA.nil))) (SA.cons (SE.ofL (SL.lst (SA.cons (SE.tup SA.nil) SA.nil))) (SA.cons (SE.ofL (SL.lst (SA.cons (SE.ix (SE.var 4) (SE.neg SE.int)) SA.nil))) (SA.cons (SE.var 2) SA.nil)))))))
  (SB.one (SS.ret SE.bl))
  SB.nil)
  (SB.cons (SS.for [6, 8] PassesOwn.never rfl (SI.range1 (SA.cons (SE.callB (BS.len rfl) T.z_len bo_len (SA.cons (SE.var 4) SA.nil)) SA.nil) T.z_range) (SG.name 6 nd) (show SB _ _ _ _ b0_law from (SB.cons (SS.set 8 (SE.tup (SA.cons (SE.fld [0] "signs" T.fl_signs (SE.ix (SE.var 5) (SE.var 6))) (SA.cons (SE.fld [0] "many" T.fl_many (SE.ix (SE.var 5) (SE.var 6))) (SA.cons (SE.fld [0] "edges" T.fl_edges (SE.ix (SE.var 5) (SE.var 6))) SA.nil)))) nd)
  (SB.one (SS.ite (ST.not (ST.tru (SE.call0 (ok__law_same T 7) (nox__law_same 7) (hr.mono (by decide)) T.m__law_same T.f__law_same.kp T.b__law_same (SA.cons (SE.var 8) (SA.cons (SE.tup (SA.cons (SE.var 2) (SA.cons (SE.ix (SE.var 3) (SE.var 6)) (SA.cons (SE.callT (BS.tuple rfl) T.z_tuple bo_tuple (SA.cons (SE.ix (SE.var 4) (SE.var 6)) SA.nil)) SA.nil)))) SA.nil)))))
  (SB.one (SS.ret SE.bl))
  SB.nil)))))
  (SB.one (SS.frz 5 (SS.frz 4 (SS.ret (SE.call0 (ok__law_right T) runB0_nox (hr.mono (by decide)) T.m__law_right T.f__law_right.kp T.b__law_right (SA.cons (SE.var 5) (SA.cons (SE.var 7) (SA.cons (SE.var 4) (SA.cons (SE.var 2) SA.nil)))))))))))))))))))
end
end Law

set_option Elab.async false
set_option linter.all false
set_option maxRecDepth 100000
set_option maxHeartbeats 4000000
namespace Law
open PySem L2 Z
theorem all_mk {l : PySem.W.OpenLaw} {w : World} {K : PySem.W.Frag} {h : Heap} {mg : Str → Option Value} {fa0 f1701 f8 f9 f11 f15 f17 f18 f19 f21 f22 f23 f25 f27 f1700 f20 f24 f26 f29 f12 f14 f28 f30 C0 : Addr} (X : K.In h) (G : h.Ns mainGlobals mg) (hfa : mg "law" = some (.ref fa0))
    {od1701 an1701 od8 an8 od9 an9 od11 an11 od15 an15 od17 an17 od18 an18 od19 an19 od21 an21 od22 an22 od23 an23 od25 an25 od27 an27 od1700 an1700 od20 an20 od24 an24 od26 an26 od29 an29 od12 an12 od14 an14 od28 an28 od30 an30 : Option Addr} {sl1701 sl8 sl9 sl11 sl15 sl17 sl18 sl19 sl21 sl22 sl23 sl25 sl27 sl1700 sl20 sl24 sl26 sl29 sl12 sl14 sl28 sl30 : Array (Option Value)} {oc1701 kV1701 dc1701 pm1701 cd1701 ct1701 oc8 kV8 dc8 pm8 cd8 ct8 oc9 kV9 dc9 pm9 cd9 ct9 oc11 kV11 dc11 pm11 cd11 ct11 oc15 kV15 dc15 pm15 cd15 ct15 oc17 kV17 dc17 pm17 cd17 ct17 oc18 kV18 dc18 pm18 cd18 ct18 oc19 kV19 dc19 pm19 cd19 ct19 oc21 kV21 dc21 pm21 cd21 ct21 oc22 kV22 dc22 pm22 cd22 ct22 oc23 kV23 dc23 pm23 cd23 ct23 oc25 kV25 dc25 pm25 cd25 ct25 oc27 kV27 dc27 pm27 cd27 ct27 oc1700 kV1700 dc1700 pm1700 cd1700 ct1700 oc20 kV20 dc20 pm20 cd20 ct20 oc24 kV24 dc24 pm24 cd24 ct24 oc26 kV26 dc26 pm26 cd26 ct26 oc29 kV29 dc29 pm29 cd29 ct29 oc12 kV12 dc12 pm12 cd12 ct12 oc14 kV14 dc14 pm14 cd14 ct14 oc28 kV28 dc28 pm28 cd28 ct28 oc30 kV30 dc30 pm30 cd30 ct30 : Value} {tk_BEGIN tk_SIGNS tk_STOP : Tok}
    (gC0 : PySem.W.nsIn K mainGlobals "Machine" = some (some (.ref C0)))
    (a1701 : PySem.W.findIn K (.ref C0) "leading" = some (some (.ref f1701)))
    (i1701 : PySem.W.isFn K (.ref f1701) = true)
    (l1701 : K.lookup f1701 = some ⟨oc1701, od1701, .func (PySem.W.fnOf "leading" "Machine.leading" (defArgs (inClass (top 7) 1)) (defBody (inClass (top 7) 1)) (defScope (inClass (top 7) 1)) .none kV1701 dc1701 pm1701 an1701 cd1701 ct1701), sl1701⟩)
    (c1701 : PySem.W.codeIn K cd1701 "Machine.leading" = true)
    (k1701 : PySem.W.keepIn K (.ref f1701) = true)
    (a8 : PySem.W.nsIn K mainGlobals "well_ordered" = some (some (.ref f8)))
    (l8 : K.lookup f8 = some ⟨oc8, od8, .func (PySem.W.fnOf "well_ordered" "well_ordered" (defArgs (top 8)) (defBody (top 8)) (defScope (top 8)) .none kV8 dc8 pm8 an8 cd8 ct8), sl8⟩)
    (c8 : PySem.W.codeIn K cd8 "well_ordered" = true)
    (k8 : PySem.W.keepIn K (.ref f8) = true)
    (a9 : PySem.W.nsIn K mainGlobals "edge_fits" = some (some (.ref f9)))
    (l9 : K.lookup f9 = some ⟨oc9, od9, .func (PySem.W.fnOf "edge_fits" "edge_fits" (defArgs (top 9)) (defBody (top 9)) (defScope (top 9)) .none kV9 dc9 pm9 an9 cd9 ct9), sl9⟩)
    (c9 : PySem.W.codeIn K cd9 "edge_fits" = true)
    (k9 : PySem.W.keepIn K (.ref f9) = true)
    (a11 : PySem.W.nsIn K mainGlobals "ending_states" = some (some (.ref f11)))
    (l11 : K.lookup f11 = some ⟨oc11, od11, .func (PySem.W.fnOf "ending_states" "ending_states" (defArgs (top 11)) (defBody (top 11)) (defScope (top 11)) .none kV11 dc11 pm11 an11 cd11 ct11), sl11⟩)
    (c11 : PySem.W.codeIn K cd11 "ending_states" = true)
    (k11 : PySem.W.keepIn K (.ref f11) = true)
    (a15 : PySem.W.nsIn K mainGlobals "shifted_state" = some (some (.ref f15)))
    (l15 : K.lookup f15 = some ⟨oc15, od15, .func (PySem.W.fnOf "shifted_state" "shifted_state" (defArgs (top 15)) (defBody (top 15)) (defScope (top 15)) .none kV15 dc15 pm15 an15 cd15 ct15), sl15⟩)
    (c15 : PySem.W.codeIn K cd15 "shifted_state" = true)
    (k15 : PySem.W.keepIn K (.ref f15) = true)
    (a17 : PySem.W.nsIn K mainGlobals "_law_cell" = some (some (.ref f17)))
    (l17 : K.lookup f17 = some ⟨oc17, od17, .func (PySem.W.fnOf "_law_cell" "_law_cell" (defArgs (top 17)) (defBody (top 17)) (defScope (top 17)) .none kV17 dc17 pm17 an17 cd17 ct17), sl17⟩)
    (c17 : PySem.W.codeIn K cd17 "_law_cell" = true)
    (k17 : PySem.W.keepIn K (.ref f17) = true)
    (a18 : PySem.W.nsIn K mainGlobals "_law_numbers" = some (some (.ref f18)))
    (l18 : K.lookup f18 = some ⟨oc18, od18, .func (PySem.W.fnOf "_law_numbers" "_law_numbers" (defArgs (top 18)) (defBody (top 18)) (defScope (top 18)) .none kV18 dc18 pm18 an18 cd18 ct18), sl18⟩)
    (c18 : PySem.W.codeIn K cd18 "_law_numbers" = true)
    (k18 : PySem.W.keepIn K (.ref f18) = true)
    (a19 : PySem.W.nsIn K mainGlobals "_law_same" = some (some (.ref f19)))
    (l19 : K.lookup f19 = some ⟨oc19, od19, .func (PySem.W.fnOf "_law_same" "_law_same" (defArgs (top 19)) (defBody (top 19)) (defScope (top 19)) .none kV19 dc19 pm19 an19 cd19 ct19), sl19⟩)
    (c19 : PySem.W.codeIn K cd19 "_law_same" = true)
    (k19 : PySem.W.keepIn K (.ref f19) = true)
    (a21 : PySem.W.nsIn K mainGlobals "_law_word" = some (some (.ref f21)))
    (l21 : K.lookup f21 = some ⟨oc21, od21, .func (PySem.W.fnOf "_law_word" "_law_word" (defArgs (top 21)) (defBody (top 21)) (defScope (top 21)) .none kV21 dc21 pm21 an21 cd21 ct21), sl21⟩)
    (c21 : PySem.W.codeIn K cd21 "_law_word" = true)
    (k21 : PySem.W.keepIn K (.ref f21) = true)
    (a22 : PySem.W.nsIn K mainGlobals "_law_looks" = some (some (.ref f22)))
    (l22 : K.lookup f22 = some ⟨oc22, od22, .func (PySem.W.fnOf "_law_looks" "_law_looks" (defArgs (top 22)) (defBody (top 22)) (defScope (top 22)) .none kV22 dc22 pm22 an22 cd22 ct22), sl22⟩)
    (c22 : PySem.W.codeIn K cd22 "_law_looks" = true)
    (k22 : PySem.W.keepIn K (.ref f22) = true)
    (a23 : PySem.W.nsIn K mainGlobals "_law_places" = some (some (.ref f23)))
    (l23 : K.lookup f23 = some ⟨oc23, od23, .func (PySem.W.fnOf "_law_places" "_law_places" (defArgs (top 23)) (defBody (top 23)) (defScope (top 23)) .none kV23 dc23 pm23 an23 cd23 ct23), sl23⟩)
    (c23 : PySem.W.codeIn K cd23 "_law_places" = true)
    (k23 : PySem.W.keepIn K (.ref f23) = true)
    (a25 : PySem.W.nsIn K mainGlobals "_law_shifted" = some (some (.ref f25)))
    (l25 : K.lookup f25 = some ⟨oc25, od25, .func (PySem.W.fnOf "_law_shifted" "_law_shifted" (defArgs (top 25)) (defBody (top 25)) (defScope (top 25)) .none kV25 dc25 pm25 an25 cd25 ct25), sl25⟩)
    (c25 : PySem.W.codeIn K cd25 "_law_shifted" = true)
    (k25 : PySem.W.keepIn K (.ref f25) = true)
    (a27 : PySem.W.nsIn K mainGlobals "_law_walked" = some (some (.ref f27)))
    (l27 : K.lookup f27 = some ⟨oc27, od27, .func (PySem.W.fnOf "_law_walked" "_law_walked" (defArgs (top 27)) (defBody (top 27)) (defScope (top 27)) .none kV27 dc27 pm27 an27 cd27 ct27), sl27⟩)
    (c27 : PySem.W.codeIn K cd27 "_law_walked" = true)
    (k27 : PySem.W.keepIn K (.ref f27) = true)
    (a1700 : PySem.W.findIn K (.ref C0) "__init__" = some (some (.ref f1700)))
    (i1700 : PySem.W.isFn K (.ref f1700) = true)
    (l1700 : K.lookup f1700 = some ⟨oc1700, od1700, .func (PySem.W.fnOf "__init__" "Machine.__init__" (defArgs (inClass (top 7) 0)) (defBody (inClass (top 7) 0)) (defScope (inClass (top 7) 0)) .none kV1700 dc1700 pm1700 an1700 cd1700 ct1700), sl1700⟩)
    (c1700 : PySem.W.codeIn K cd1700 "Machine.__init__" = true)
    (k1700 : PySem.W.keepIn K (.ref f1700) = true)
    (a20 : PySem.W.nsIn K mainGlobals "_law_signs" = some (some (.ref f20)))
    (l20 : K.lookup f20 = some ⟨oc20, od20, .func (PySem.W.fnOf "_law_signs" "_law_signs" (defArgs (top 20)) (defBody (top 20)) (defScope (top 20)) .none kV20 dc20 pm20 an20 cd20 ct20), sl20⟩)
    (c20 : PySem.W.codeIn K cd20 "_law_signs" = true)
    (k20 : PySem.W.keepIn K (.ref f20) = true)
    (a24 : PySem.W.nsIn K mainGlobals "_law_edges" = some (some (.ref f24)))
    (l24 : K.lookup f24 = some ⟨oc24, od24, .func (PySem.W.fnOf "_law_edges" "_law_edges" (defArgs (top 24)) (defBody (top 24)) (defScope (top 24)) .none kV24 dc24 pm24 an24 cd24 ct24), sl24⟩)
    (c24 : PySem.W.codeIn K cd24 "_law_edges" = true)
    (k24 : PySem.W.keepIn K (.ref f24) = true)
    (a26 : PySem.W.nsIn K mainGlobals "_law_side_by_side" = some (some (.ref f26)))
    (l26 : K.lookup f26 = some ⟨oc26, od26, .func (PySem.W.fnOf "_law_side_by_side" "_law_side_by_side" (defArgs (top 26)) (defBody (top 26)) (defScope (top 26)) .none kV26 dc26 pm26 an26 cd26 ct26), sl26⟩)
    (c26 : PySem.W.codeIn K cd26 "_law_side_by_side" = true)
    (k26 : PySem.W.keepIn K (.ref f26) = true)
    (a29 : PySem.W.nsIn K mainGlobals "_law_rows" = some (some (.ref f29)))
    (l29 : K.lookup f29 = some ⟨oc29, od29, .func (PySem.W.fnOf "_law_rows" "_law_rows" (defArgs (top 29)) (defBody (top 29)) (defScope (top 29)) .none kV29 dc29 pm29 an29 cd29 ct29), sl29⟩)
    (c29 : PySem.W.codeIn K cd29 "_law_rows" = true)
    (k29 : PySem.W.keepIn K (.ref f29) = true)
    (a12 : PySem.W.nsIn K mainGlobals "trimmed" = some (some (.ref f12)))
    (l12 : K.lookup f12 = some ⟨oc12, od12, .func (PySem.W.fnOf "trimmed" "trimmed" (defArgs (top 12)) (defBody (top 12)) (defScope (top 12)) .none kV12 dc12 pm12 an12 cd12 ct12), sl12⟩)
    (c12 : PySem.W.codeIn K cd12 "trimmed" = true)
    (k12 : PySem.W.keepIn K (.ref f12) = true)
    (a14 : PySem.W.nsIn K mainGlobals "united" = some (some (.ref f14)))
    (l14 : K.lookup f14 = some ⟨oc14, od14, .func (PySem.W.fnOf "united" "united" (defArgs (top 14)) (defBody (top 14)) (defScope (top 14)) .none kV14 dc14 pm14 an14 cd14 ct14), sl14⟩)
    (c14 : PySem.W.codeIn K cd14 "united" = true)
    (k14 : PySem.W.keepIn K (.ref f14) = true)
    (a28 : PySem.W.nsIn K mainGlobals "_law_right" = some (some (.ref f28)))
    (l28 : K.lookup f28 = some ⟨oc28, od28, .func (PySem.W.fnOf "_law_right" "_law_right" (defArgs (top 28)) (defBody (top 28)) (defScope (top 28)) .none kV28 dc28 pm28 an28 cd28 ct28), sl28⟩)
    (c28 : PySem.W.codeIn K cd28 "_law_right" = true)
    (k28 : PySem.W.keepIn K (.ref f28) = true)
    (a30 : PySem.W.nsIn K mainGlobals "law" = some (some (.ref f30)))
    (l30 : K.lookup f30 = some ⟨oc30, od30, .func (PySem.W.fnOf "law" "law" (defArgs (top 30)) (defBody (top 30)) (defScope (top 30)) .none kV30 dc30 pm30 an30 cd30 ct30), sl30⟩)
    (c30 : PySem.W.codeIn K cd30 "law" = true)
    (k30 : PySem.W.keepIn K (.ref f30) = true)
    (pg0 : PySem.W.plainGet K C0 Str.empty = true)
    (hd0 : PySem.W.hasDictIn K C0 = true)
    (po0 : PySem.W.plainOver K C0 = true)
    (sa0 : PySem.W.findIn K (.ref C0) "__setattr__" = some (some (.builtin "object.__setattr__")))
    (mk0 : PySem.W.makesIn K C0 = true)
    (kc0 : PySem.W.keepIn K (.ref C0) = true)
    (ia0 : PySem.W.findIn K (.ref C0) "__class__" = some (some (.builtin "object.__class__")))
    (in0 : PySem.W.specialIn K (.builtin "object.__class__") "__get__" = some (some (.builtin "getset_descriptor.__get__")))
    (it0 : PySem.W.takesIn K (.builtin "object.__class__") = some true)
    (im0 : PySem.W.mroIn K C0 (.type "object") = some true)
    (nf__leading_0 : PySem.W.findIn K (.ref C0) "_leading" = some none)
    (nf_edges_0 : PySem.W.findIn K (.ref C0) "edges" = some none)
    (nf_many_0 : PySem.W.findIn K (.ref C0) "many" = some none)
    (nf_signs_0 : PySem.W.findIn K (.ref C0) "signs" = some none)
    (cs_BEGIN : PySem.W.nsIn K mainGlobals "BEGIN" = some (some (.str ⟨[94].toArray⟩ tk_BEGIN)))
    (cs_SIGNS : PySem.W.nsIn K mainGlobals "SIGNS" = some (some (.str ⟨[35, 97, 98, 99, 100, 101, 102, 103, 104].toArray⟩ tk_SIGNS)))
    (cs_STOP : PySem.W.nsIn K mainGlobals "STOP" = some (some (.str ⟨[36].toArray⟩ tk_STOP)))
    (z_abs : PySem.W.nsIn K mainGlobals "abs" = some none)
    (z_all : PySem.W.nsIn K mainGlobals "all" = some none)
    (z_bool : PySem.W.nsIn K mainGlobals "bool" = some none)
    (z_enumerate : PySem.W.nsIn K mainGlobals "enumerate" = some none)
    (z_int : PySem.W.nsIn K mainGlobals "int" = some none)
    (z_isinstance : PySem.W.nsIn K mainGlobals "isinstance" = some none)
    (z_len : PySem.W.nsIn K mainGlobals "len" = some none)
    (z_range : PySem.W.nsIn K mainGlobals "range" = some none)
    (z_str : PySem.W.nsIn K mainGlobals "str" = some none)
    (z_tuple : PySem.W.nsIn K mainGlobals "tuple" = some none)
    (z_zip : PySem.W.nsIn K mainGlobals "zip" = some none)
    : ∃ fd : FuncData, (∀ (s : Shared) (v : Value), BindsTo s fd ⟨[v], []⟩ [("script", v)]) ∧ ∀ base : Heap, K.In base → base.Ns mainGlobals mg → FnOk l.prog w K mg base CX0 10 fa0 fd ["script"] (spLaw K) := by
  have e := hfa.symm.trans (PySem.W.mg_of X G a30)
  cases e
  have F1701 := fun_mk (st := (inClass (top 7) 1)) l1701 c1701 k1701
  have F8 := fun_mk (st := (top 8)) l8 c8 k8
  have F9 := fun_mk (st := (top 9)) l9 c9 k9
  have F11 := fun_mk (st := (top 11)) l11 c11 k11
  have F15 := fun_mk (st := (top 15)) l15 c15 k15
  have F17 := fun_mk (st := (top 17)) l17 c17 k17
  have F18 := fun_mk (st := (top 18)) l18 c18 k18
  have F19 := fun_mk (st := (top 19)) l19 c19 k19
  have F21 := fun_mk (st := (top 21)) l21 c21 k21
  have F22 := fun_mk (st := (top 22)) l22 c22 k22
  have F23 := fun_mk (st := (top 23)) l23 c23 k23
  have F25 := fun_mk (st := (top 25)) l25 c25 k25
  have F27 := fun_mk (st := (top 27)) l27 c27 k27
  have F1700 := fun_mk (st := (inClass (top 7) 0)) l1700 c1700 k1700
  have F20 := fun_mk (st := (top 20)) l20 c20 k20
  have F24 := fun_mk (st := (top 24)) l24 c24 k24
  have F26 := fun_mk (st := (top 26)) l26 c26 k26
  have F29 := fun_mk (st := (top 29)) l29 c29 k29
  have F12 := fun_mk (st := (top 12)) l12 c12 k12
  have F14 := fun_mk (st := (top 14)) l14 c14 k14
  have F28 := fun_mk (st := (top 28)) l28 c28 k28
  have F30 := fun_mk (st := (top 30)) l30 c30 k30
  have T : Pg K (fun i => if i = 0 then C0 else 0) mg (fun i => if i = 1701 then f1701 else if i = 8 then f8 else if i = 9 then f9 else if i = 11 then f11 else if i = 15 then f15 else if i = 17 then f17 else if i = 18 then f18 else if i = 19 then f19 else if i = 21 then f21 else if i = 22 then f22 else if i = 23 then f23 else if i = 25 then f25 else if i = 27 then f27 else if i = 1700 then f1700 else if i = 20 then f20 else if i = 24 then f24 else if i = 26 then f26 else if i = 29 then f29 else if i = 12 then f12 else if i = 14 then f14 else if i = 28 then f28 else if i = 30 then fa0 else 0) (fun i => if i = 1701 then PySem.W.fnOf "leading" "Machine.leading" (defArgs (inClass (top 7) 1)) (defBody (inClass (top 7) 1)) (defScope (inClass (top 7) 1)) .none kV1701 dc1701 pm1701 an1701 cd1701 ct1701 else if i = 8 then PySem.W.fnOf "well_ordered" "well_ordered" (defArgs (top 8)) (defBody (top 8)) (defScope (top 8)) .none kV8 dc8 pm8 an8 cd8 ct8 else if i = 9 then PySem.W.fnOf "edge_fits" "edge_fits" (defArgs (top 9)) (defBody (top 9)) (defScope (top 9)) .none kV9 dc9 pm9 an9 cd9 ct9 else if i = 11 then PySem.W.fnOf "ending_states" "ending_states" (defArgs (top 11)) (defBody (top 11)) (defScope (top 11)) .none kV11 dc11 pm11 an11 cd11 ct11 else if i = 15 then PySem.W.fnOf "shifted_state" "shifted_state" (defArgs (top 15)) (defBody (top 15)) (defScope (top 15)) .none kV15 dc15 pm15 an15 cd15 ct15 else if i = 17 then PySem.W.fnOf "_law_cell" "_law_cell" (defArgs (top 17)) (defBody (top 17)) (defScope (top 17)) .none kV17 dc17 pm17 an17 cd17 ct17 else if i = 18 then PySem.W.fnOf "_law_numbers" "_law_numbers" (defArgs (top 18)) (defBody (top 18)) (defScope (top 18)) .none kV18 dc18 pm18 an18 cd18 ct18 else if i = 19 then PySem.W.fnOf "_law_same" "_law_same" (defArgs (top 19)) (defBody (top 19)) (defScope (top 19)) .none kV19 dc19 pm19 an19 cd19 ct19 else if i = 21 then PySem.W.fnOf "_law_word" "_law_word" (defArgs (top 21)) (defBody (top 21)) (defScope (top 21)) .none kV21 dc21 pm21 an21 cd21 ct21 else if i = 22 then PySem.W.fnOf "_law_looks" "_law_looks" (defArgs (top 22)) (defBody (top 22)) (defScope (top 22)) .none kV22 dc22 pm22 an22 cd22 ct22 else if i = 23 then PySem.W.fnOf "_law_places" "_law_places" (defArgs (top 23)) (defBody (top 23)) (defScope (top 23)) .none kV23 dc23 pm23 an23 cd23 ct23 else if i = 25 then PySem.W.fnOf "_law_shifted" "_law_shifted" (defArgs (top 25)) (defBody (top 25)) (defScope (top 25)) .none kV25 dc25 pm25 an25 cd25 ct25 else if i = 27 then PySem.W.fnOf "_law_walked" "_law_walked" (defArgs (top 27)) (defBody (top 27)) (defScope (top 27)) .none kV27 dc27 pm27 an27 cd27 ct27 else if i = 1700 then PySem.W.fnOf "__init__" "Machine.__init__" (defArgs (inClass (top 7) 0)) (defBody (inClass (top 7) 0)) (defScope (inClass (top 7) 0)) .none kV1700 dc1700 pm1700 an1700 cd1700 ct1700 else if i = 20 then PySem.W.fnOf "_law_signs" "_law_signs" (defArgs (top 20)) (defBody (top 20)) (defScope (top 20)) .none kV20 dc20 pm20 an20 cd20 ct20 else if i = 24 then PySem.W.fnOf "_law_edges" "_law_edges" (defArgs (top 24)) (defBody (top 24)) (defScope (top 24)) .none kV24 dc24 pm24 an24 cd24 ct24 else if i = 26 then PySem.W.fnOf "_law_side_by_side" "_law_side_by_side" (defArgs (top 26)) (defBody (top 26)) (defScope (top 26)) .none kV26 dc26 pm26 an26 cd26 ct26 else if i = 29 then PySem.W.fnOf "_law_rows" "_law_rows" (defArgs (top 29)) (defBody (top 29)) (defScope (top 29)) .none kV29 dc29 pm29 an29 cd29 ct29 else if i = 12 then PySem.W.fnOf "trimmed" "trimmed" (defArgs (top 12)) (defBody (top 12)) (defScope (top 12)) .none kV12 dc12 pm12 an12 cd12 ct12 else if i = 14 then PySem.W.fnOf "united" "united" (defArgs (top 14)) (defBody (top 14)) (defScope (top 14)) .none kV14 dc14 pm14 an14 cd14 ct14 else if i = 28 then PySem.W.fnOf "_law_right" "_law_right" (defArgs (top 28)) (defBody (top 28)) (defScope (top 28)) .none kV28 dc28 pm28 an28 cd28 ct28 else if i = 30 then PySem.W.fnOf "law" "law" (defArgs (top 30)) (defBody (top 30)) (defScope (top 30)) .none kV30 dc30 pm30 an30 cd30 ct30 else PySem.W.fnOf "law" "law" (defArgs (top 30)) (defBody (top 30)) (defScope (top 30)) .none kV30 dc30 pm30 an30 cd30 ct30) := {
    z_abs := PySem.W.mg_none_of X G z_abs
    z_all := PySem.W.mg_none_of X G z_all
    z_bool := PySem.W.mg_none_of X G z_bool
    z_enumerate := PySem.W.mg_none_of X G z_enumerate
    z_int := PySem.W.mg_none_of X G z_int
    z_isinstance := PySem.W.mg_none_of X G z_isinstance
    z_len := PySem.W.mg_none_of X G z_len
    z_range := PySem.W.mg_none_of X G z_range
    z_str := PySem.W.mg_none_of X G z_str
    z_tuple := PySem.W.mg_none_of X G z_tuple
    z_zip := PySem.W.mg_none_of X G z_zip
    c_BEGIN := ⟨_, PySem.W.mg_of X G cs_BEGIN⟩
    c_SIGNS := ⟨_, PySem.W.mg_of X G cs_SIGNS⟩
    c_STOP := ⟨_, PySem.W.mg_of X G cs_STOP⟩
    f_Machine_leading := F1701
    b_Machine_leading := F1701.binds (ps := ["self", "state", "sign"]) fun _ _ _ _ _ _ us hl => match us, hl with | [_, _, _], _ => rfl
    me_Machine_leading := ⟨a1701, i1701, k1701⟩
    f_well_ordered := F8
    m_well_ordered := PySem.W.mg_of X G a8
    b_well_ordered := F8.binds (ps := ["signs"]) fun _ _ _ _ _ _ us hl => match us, hl with | [_], _ => rfl
    f_edge_fits := F9
    m_edge_fits := PySem.W.mg_of X G a9
    b_edge_fits := F9.binds (ps := ["signs", "many", "edge"]) fun _ _ _ _ _ _ us hl => match us, hl with | [_, _, _], _ => rfl
    f_ending_states := F11
    m_ending_states := PySem.W.mg_of X G a11
    b_ending_states := F11.binds (ps := ["machine"]) fun _ _ _ _ _ _ us hl => match us, hl with | [_], _ => rfl
    f_shifted_state := F15
    m_shifted_state := PySem.W.mg_of X G a15
    b_shifted_state := F15.binds (ps := ["state", "many"]) fun _ _ _ _ _ _ us hl => match us, hl with | [_, _], _ => rfl
    f__law_cell := F17
    m__law_cell := PySem.W.mg_of X G a17
    b__law_cell := F17.binds (ps := ["script", "k"]) fun _ _ _ _ _ _ us hl => match us, hl with | [_, _], _ => rfl
    f__law_numbers := F18
    m__law_numbers := PySem.W.mg_of X G a18
    b__law_numbers := F18.binds (ps := ["cell", "many", "count"]) fun _ _ _ _ _ _ us hl => match us, hl with | [_, _, _], _ => rfl
    f__law_same := F19
    m__law_same := PySem.W.mg_of X G a19
    b__law_same := F19.binds (ps := ["told", "due"]) fun _ _ _ _ _ _ us hl => match us, hl with | [_, _], _ => rfl
    f__law_word := F21
    m__law_word := PySem.W.mg_of X G a21
    b__law_word := F21.binds (ps := ["signs", "number"]) fun _ _ _ _ _ _ us hl => match us, hl with | [_, _], _ => rfl
    f__law_looks := F22
    m__law_looks := PySem.W.mg_of X G a22
    b__law_looks := F22.binds (ps := ["number", "step"]) fun _ _ _ _ _ _ us hl => match us, hl with | [_, _], _ => rfl
    f__law_places := F23
    m__law_places := PySem.W.mg_of X G a23
    b__law_places := F23.binds (ps := ["signs", "many", "draws"]) fun _ _ _ _ _ _ us hl => match us, hl with | [_, _, _], _ => rfl
    f__law_shifted := F25
    m__law_shifted := PySem.W.mg_of X G a25
    b__law_shifted := F25.binds (ps := ["state", "k"]) fun _ _ _ _ _ _ us hl => match us, hl with | [_, _], _ => rfl
    f__law_walked := F27
    m__law_walked := PySem.W.mg_of X G a27
    b__law_walked := F27.binds (ps := ["edges", "signs"]) fun _ _ _ _ _ _ us hl => match us, hl with | [_, _], _ => rfl
    f_Machine___init__ := F1700
    b_Machine___init__ := F1700.binds (ps := ["self", "signs", "many", "edges"]) fun _ _ _ _ _ _ us hl => match us, hl with | [_, _, _, _], _ => rfl
    f__law_signs := F20
    m__law_signs := PySem.W.mg_of X G a20
    b__law_signs := F20.binds (ps := ["cell"]) fun _ _ _ _ _ _ us hl => match us, hl with | [_], _ => rfl
    f__law_edges := F24
    m__law_edges := PySem.W.mg_of X G a24
    b__law_edges := F24.binds (ps := ["script", "at", "signs", "many", "step"]) fun _ _ _ _ _ _ us hl => match us, hl with | [_, _, _, _, _], _ => rfl
    f__law_side_by_side := F26
    m__law_side_by_side := PySem.W.mg_of X G a26
    b__law_side_by_side := F26.binds (ps := ["rows", "marks"]) fun _ _ _ _ _ _ us hl => match us, hl with | [_, _], _ => rfl
    f__law_rows := F29
    m__law_rows := PySem.W.mg_of X G a29
    b__law_rows := F29.binds (ps := ["script", "draw", "signs"]) fun _ _ _ _ _ _ us hl => match us, hl with | [_, _, _], _ => rfl
    f_trimmed := F12
    m_trimmed := PySem.W.mg_of X G a12
    b_trimmed := F12.binds (ps := ["machine"]) fun _ _ _ _ _ _ us hl => match us, hl with | [_], _ => rfl
    f_united := F14
    m_united := PySem.W.mg_of X G a14
    b_united := F14.binds (ps := ["machines", "marks"]) fun _ _ _ _ _ _ us hl => match us, hl with | [_, _], _ => rfl
    f__law_right := F28
    m__law_right := PySem.W.mg_of X G a28
    b__law_right := F28.binds (ps := ["machines", "marks", "rows", "signs"]) fun _ _ _ _ _ _ us hl => match us, hl with | [_, _, _, _], _ => rfl
    f_law := F30
    m_law := PySem.W.mg_of X G a30
    b_law := F30.binds (ps := ["script"]) fun _ _ _ _ _ _ us hl => match us, hl with | [_], _ => rfl
    g_Machine := PySem.W.mg_of X G gC0
    cl_Machine := ⟨pg0, hd0, po0, sa0⟩
    mk_Machine := ⟨mk0, a1700, i1700, kc0⟩
    is_Machine := ⟨⟨pg0, hd0, po0, sa0⟩, ia0, in0, it0, im0, kit_self _ _⟩
    fl__leading := fun c hc => by cases List.mem_singleton.mp hc; exact ⟨⟨pg0, hd0, po0, sa0⟩, nf__leading_0⟩
    fl_edges := fun c hc => by cases List.mem_singleton.mp hc; exact ⟨⟨pg0, hd0, po0, sa0⟩, nf_edges_0⟩
    fl_many := fun c hc => by cases List.mem_singleton.mp hc; exact ⟨⟨pg0, hd0, po0, sa0⟩, nf_many_0⟩
    fl_signs := fun c hc => by cases List.mem_singleton.mp hc; exact ⟨⟨pg0, hd0, po0, sa0⟩, nf_signs_0⟩
  }
  exact ⟨PySem.W.fnOf "law" "law" (defArgs (top 30)) (defBody (top 30)) (defScope (top 30)) .none kV30 dc30 pm30 an30 cd30 ct30, fun s v => .of_eq rfl, fun base _ _ => law_of2 (ok_law (K := ⟨K, (fun i => if i = 0 then C0 else 0), fun _ => 0⟩) T) law_true⟩
end Law
open PySem PySem.W PyProof.Rows in
set_option maxRecDepth 100000 in
set_option maxHeartbeats 0 in
theorem PySem.Challenge.cw_samebytesanywhere_k28_united_texts_and_m_holds : PySem.Challenge.rw_samebytesanywhere_k28_united_texts_and_m.Holds := by
  w_on; o_law; k_head; (case hw => w_witness2)
  k_fill
  refine Z.walk (k := 10) (l := PySem.Challenge.rw_samebytesanywhere_k28_united_texts_and_m) rfl rfl ⟨rfl, by decide, by decide⟩ (fun w h Y => PySem.W.kIn_of Y) ?F
  case F =>
    intro w mg fa h KX G hmg
    refine' Law.all_mk KX G hmg ?gC0 ?a1701 ?i1701 ?l1701 ?c1701 ?k1701 ?a8 ?l8 ?c8 ?k8 ?a9 ?l9 ?c9 ?k9 ?a11 ?l11 ?c11 ?k11 ?a15 ?l15 ?c15 ?k15 ?a17 ?l17 ?c17 ?k17 ?a18 ?l18 ?c18 ?k18 ?a19 ?l19 ?c19 ?k19 ?a21 ?l21 ?c21 ?k21 ?a22 ?l22 ?c22 ?k22 ?a23 ?l23 ?c23 ?k23 ?a25 ?l25 ?c25 ?k25 ?a27 ?l27 ?c27 ?k27 ?a1700 ?i1700 ?l1700 ?c1700 ?k1700 ?a20 ?l20 ?c20 ?k20 ?a24 ?l24 ?c24 ?k24 ?a26 ?l26 ?c26 ?k26 ?a29 ?l29 ?c29 ?k29 ?a12 ?l12 ?c12 ?k12 ?a14 ?l14 ?c14 ?k14 ?a28 ?l28 ?c28 ?k28 ?a30 ?l30 ?c30 ?k30 ?pg0 ?hd0 ?po0 ?sa0 ?mk0 ?kc0 ?ia0 ?in0 ?it0 ?im0 ?nf__leading_0 ?nf_edges_0 ?nf_many_0 ?nf_signs_0 ?cs_BEGIN ?cs_SIGNS ?cs_STOP ?z_abs ?z_all ?z_bool ?z_enumerate ?z_int ?z_isinstance ?z_len ?z_range ?z_str ?z_tuple ?z_zip
    (case gC0 => k_is)
    (case a1701 => k_is)
    (case i1701 => k_is)
    (case l1701 => k_is)
    (case c1701 => k_is)
    (case k1701 => k_is)
    (case a8 => k_is)
    (case l8 => k_is)
    (case c8 => k_is)
    (case k8 => k_is)
    (case a9 => k_is)
    (case l9 => k_is)
    (case c9 => k_is)
    (case k9 => k_is)
    (case a11 => k_is)
    (case l11 => k_is)
    (case c11 => k_is)
    (case k11 => k_is)
    (case a15 => k_is)
    (case l15 => k_is)
    (case c15 => k_is)
    (case k15 => k_is)
    (case a17 => k_is)
    (case l17 => k_is)
    (case c17 => k_is)
    (case k17 => k_is)
    (case a18 => k_is)
    (case l18 => k_is)
    (case c18 => k_is)
    (case k18 => k_is)
    (case a19 => k_is)
    (case l19 => k_is)
    (case c19 => k_is)
    (case k19 => k_is)
    (case a21 => k_is)
    (case l21 => k_is)
    (case c21 => k_is)
    (case k21 => k_is)
    (case a22 => k_is)
    (case l22 => k_is)
    (case c22 => k_is)
    (case k22 => k_is)
    (case a23 => k_is)
    (case l23 => k_is)
    (case c23 => k_is)
    (case k23 => k_is)
    (case a25 => k_is)
    (case l25 => k_is)
    (case c25 => k_is)
    (case k25 => k_is)
    (case a27 => k_is)
    (case l27 => k_is)
    (case c27 => k_is)
    (case k27 => k_is)
    (case a1700 => k_is)
    (case i1700 => k_is)
    (case l1700 => k_is)
    (case c1700 => k_is)
    (case k1700 => k_is)
    (case a20 => k_is)
    (case l20 => k_is)
    (case c20 => k_is)
    (case k20 => k_is)
    (case a24 => k_is)
    (case l24 => k_is)
    (case c24 => k_is)
    (case k24 => k_is)
    (case a26 => k_is)
    (case l26 => k_is)
    (case c26 => k_is)
    (case k26 => k_is)
    (case a29 => k_is)
    (case l29 => k_is)
    (case c29 => k_is)
    (case k29 => k_is)
    (case a12 => k_is)
    (case l12 => k_is)
    (case c12 => k_is)
    (case k12 => k_is)
    (case a14 => k_is)
    (case l14 => k_is)
    (case c14 => k_is)
    (case k14 => k_is)
    (case a28 => k_is)
    (case l28 => k_is)
    (case c28 => k_is)
    (case k28 => k_is)
    (case a30 => k_is)
    (case l30 => k_is)
    (case c30 => k_is)
    (case k30 => k_is)
    (case pg0 => k_is)
    (case hd0 => k_is)
    (case po0 => k_is)
    (case sa0 => k_is)
    (case mk0 => k_is)
    (case kc0 => k_is)
    (case ia0 => k_is)
    (case in0 => k_is)
    (case it0 => k_is)
    (case im0 => k_is)
    (case nf__leading_0 => k_is)
    (case nf_edges_0 => k_is)
    (case nf_many_0 => k_is)
    (case nf_signs_0 => k_is)
    (case cs_BEGIN => k_is)
    (case cs_SIGNS => k_is)
    (case cs_STOP => k_is)
    (case z_abs => k_is)
    (case z_all => k_is)
    (case z_bool => k_is)
    (case z_enumerate => k_is)
    (case z_int => k_is)
    (case z_isinstance => k_is)
    (case z_len => k_is)
    (case z_range => k_is)
    (case z_str => k_is)
    (case z_tuple => k_is)
    (case z_zip => k_is)

