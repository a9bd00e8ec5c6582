import PyProof.Rows.All
import Wide.All
import OpenK.AllK
import Wide.FinOn
import HandS.ForMost
import HandS.Walk
import HandS.Flow
import HandS.IsInst
import HandS.TupAny
import HandS.TupLen
import HandS.Rev
import HandS.Deep
import HandS.Exc
import HandS.ExcInit
import HandS.TryOnly
import HandS.WordsExc
import PyProof.StrBlock2
import HandS.More
import HandS.Star
import PySem.Challenge.RW_samebytesanywhere_k09_roots_and_places
set_option Elab.async false
set_option linter.all false
set_option maxRecDepth 100000
set_option maxHeartbeats 1000000
/-! Z: values as data, without a heap. A def's meaning is a plain function of data; the soundness of each construct is proved once over the hand layer. -/
namespace Z
open PySem L2

/-- data. The o-forms are owned by the frame that runs (they may change); all other forms stand still. -/
inductive D where
  | non | bl (b : Bool) | int (i : Int) | str (x : List Nat)
  | tup (xs : List D) | lst (xs : List D) | olst (xs : List D)
  | dic (kvs : List (D × D)) | odic (kvs : List (D × D)) | set (xs : List D) | oset (xs : List D)
  | ob (c : Nat) (fs : List (String × D)) | oob (c : Nat) (fs : List (String × D))
  /-- the law's own list -/
  | scr (ns : List Int)

/-- outcome of an expression: a value, an exception raised, or nothing known -/
inductive Rs (α : Type) where
  | ok (a : α) | ex (x : D) | un
def Rs.bind {α β : Type} (r : Rs α) (f : α → Rs β) : Rs β := match r with
  | .ok a => f a
  | .ex x => .ex x
  | .un => .un
instance : Monad Rs where
  pure := .ok
  bind := Rs.bind
@[simp] theorem Rs.bind_ok {α β : Type} (a : α) (f : α → Rs β) : Rs.bind (.ok a) f = f a := id rfl
@[simp] theorem Rs.bind_ex {α β : Type} (x : D) (f : α → Rs β) : Rs.bind (.ex x) f = .ex x := id rfl
@[simp] theorem Rs.bind_un {α β : Type} (f : α → Rs β) : Rs.bind .un f = .un := id rfl

def isData : D → Bool
  | .olst _ => false
  | .odic _ => false
  | .oset _ => false
  | .oob _ _ => false
  | _ => true

abbrev En := List (Option D)
/-- a text that may stand in the heap -/
structure StrOk (x : List Nat) : Prop where
  len : x.length ≤ sizeLine
  cps : ∀ c ∈ x, c < 1114112

/-- the written part, and where the program's classes stand -/
structure Kx where
  k : PySem.W.Frag
  ca : Nat → Addr
variable (K : Kx)
/-! ### what stands for what. F: the part of the heap that stands still; H: the heap; the last list: the addresses owned -/
mutual
inductive R (F H : Hp) : D → V → List Addr → Prop
  | non : R F H .non .non []
  | bl (b : Bool) : R F H (.bl b) (.bl b) []
  | int (i : Int) : R F H (.int i) (.int i) []
  | str {x : List Nat} : StrOk x → R F H (.str x) (.str ⟨x.toArray⟩) []
  | tup {a : Addr} {vs : List V} {ds : List D} : SqT K.k F a vs → RL F H ds vs [] → ds.length ≤ 16777216 → R F H (.tup ds) (.ref a) []
  | lst {a : Addr} {vs : List V} {ds : List D} : F a = some (.lst vs) → RL F H ds vs [] → ds.length ≤ 16777216 → R F H (.lst ds) (.ref a) []
  | scr {a : Addr} {ns : List Int} : SqL K.k F a (ns.map V.int) → ns.length ≤ 16777216 → R F H (.scr ns) (.ref a) []
  | olst {a : Addr} {vs : List V} {ds : List D} {fp : List Addr} : H a = some (.lst vs) → RL F H ds vs fp → ds.length ≤ 16777216 → R F H (.olst ds) (.ref a) (a :: fp)
inductive RL (F H : Hp) : List D → List V → List Addr → Prop
  | nil : RL F H [] [] []
  | cons {d : D} {ds : List D} {v : V} {vs : List V} {fp fq : List Addr} : R F H d v fp → RL F H ds vs fq → RL F H (d :: ds) (v :: vs) (fp ++ fq)
end
variable {K} {F F' F1 F2 H H' H1 H2 : Hp} {d : D} {ds : List D} {v : V} {vs : List V} {fp fq : List Addr}

theorem same_t {K : PySem.W.Frag} {a : Addr} {xs : List V} (e : Same F F') (h : SqT K F a xs) : SqT K F' a xs := by
  rcases h with (h | ⟨o, h⟩) | h
  · exact .inl (.inl (e _ _ h))
  · exact .inl (.inr ⟨o, e _ _ h⟩)
  · exact .inr h

mutual
theorem R.mono (e : Same F F') : ∀ (d : D) {v : V} {fp : List Addr}, (∀ a ∈ fp, H' a = H a) → R K F H d v fp → R K F' H' d v fp
  | .non, _, _, _, h => by cases h; exact .non
  | .bl _, _, _, _, h => by cases h; exact .bl _
  | .int _, _, _, _, h => by cases h; exact .int _
  | .str _, _, _, _, h => by
    cases h with
    | str k => exact .str k
  | .tup ds, _, _, _, h => by
    cases h with
    | tup hs hl hz => exact .tup (same_t e hs) (RL.mono e ds (fun a z => nomatch z) hl) hz
  | .lst ds, _, _, _, h => by
    cases h with
    | lst hs hl hz => exact .lst (e _ _ hs) (RL.mono e ds (fun a z => nomatch z) hl) hz
  | .olst ds, _, _, k, h => by
    cases h with
    | olst hs hl hz => exact .olst (by rw [k _ List.mem_cons_self]; exact hs) (RL.mono e ds (fun a z => k a (List.mem_cons_of_mem _ z)) hl) hz
  | .scr ns, _, _, _, h => by
    cases h with
    | scr hs hz => exact .scr (e.seq hs) hz
  | .dic _, _, _, _, h => nomatch h
  | .odic _, _, _, _, h => nomatch h
  | .set _, _, _, _, h => nomatch h
  | .oset _, _, _, _, h => nomatch h
  | .ob _ _, _, _, _, h => nomatch h
  | .oob _ _, _, _, _, h => nomatch h
theorem RL.mono (e : Same F F') : ∀ (ds : List D) {vs : List V} {fp : List Addr}, (∀ a ∈ fp, H' a = H a) → RL K F H ds vs fp → RL K F' H' ds vs fp
  | [], _, _, _, h => by cases h; exact .nil
  | d :: ds, _, _, k, h => by
    cases h with
    | cons h1 h2 => exact .cons (R.mono e d (fun a z => k a (List.mem_append_left _ z)) h1) (RL.mono e ds (fun a z => k a (List.mem_append_right _ z)) h2)
end
mutual
theorem R.fp_some : ∀ (d : D) {v : V} {fp : List Addr}, R K F H d v fp → ∀ a ∈ fp, ∃ o, H a = some o
  | .non, _, _, h, _, z => by cases h; cases z
  | .bl _, _, _, h, _, z => by cases h; cases z
  | .int _, _, _, h, _, z => by cases h; cases z
  | .str _, _, _, h, _, z => by cases h; cases z
  | .tup ds, _, _, h, _, z => by cases h; cases z
  | .lst ds, _, _, h, _, z => by cases h; cases z
  | .olst ds, _, _, h, a, z => by
    cases h with
    | olst hs hl =>
      rcases List.mem_cons.mp z with z | z
      · rw [z]; exact ⟨_, hs⟩
      · exact RL.fp_some ds hl a z
  | .scr _, _, _, h, _, z => by cases h; cases z
  | .dic _, _, _, h, _, _ => nomatch h
  | .odic _, _, _, h, _, _ => nomatch h
  | .set _, _, _, h, _, _ => nomatch h
  | .oset _, _, _, h, _, _ => nomatch h
  | .ob _ _, _, _, h, _, _ => nomatch h
  | .oob _ _, _, _, h, _, _ => nomatch h
theorem RL.fp_some : ∀ (ds : List D) {vs : List V} {fp : List Addr}, RL K F H ds vs fp → ∀ a ∈ fp, ∃ o, H a = some o
  | [], _, _, h, _, z => by cases h; cases z
  | d :: ds, _, _, h, a, z => by
    cases h with
    | cons h1 h2 =>
      rcases List.mem_append.mp z with z | z
      · exact R.fp_some d h1 a z
      · exact RL.fp_some ds h2 a z
end
theorem R.data (h : R K F H d v fp) (hd : isData d = true) : fp = [] := by
  cases h <;> first | rfl | cases hd
theorem R.toData (h : R K F H d v fp) (hd : isData d = true) : R K F H d v [] := by
  have e := h.data hd
  rw [e] at h
  exact h
theorem RL.toData : ∀ {ds : List D} {vs : List V} {fp : List Addr}, RL K F H ds vs fp → ds.all isData = true → RL K F H ds vs []
  | _, _, _, .nil, _ => .nil
  | _, _, _, .cons h t, hd => by
    rw [List.all_cons, Bool.and_eq_true] at hd
    exact RL.cons (fp := []) (fq := []) (h.toData hd.1) (RL.toData t hd.2)
theorem RL.len : ∀ {ds : List D} {vs : List V} {fp : List Addr}, RL K F H ds vs fp → vs.length = ds.length
  | _, _, _, .nil => rfl
  | _, _, _, .cons _ t => congrArg (· + 1) (RL.len t)
theorem RL.tail0 (h : RL K F H (d :: ds) (v :: vs) []) : R K F H d v [] ∧ RL K F H ds vs [] := by
  generalize e : ([] : List Addr) = fp at h
  cases h with
  | cons h1 h2 =>
    obtain ⟨e1, e2⟩ := List.append_eq_nil_iff.mp e.symm
    subst e1; subst e2
    exact ⟨h1, h2⟩
theorem RL.mk0 (h1 : R K F H d v []) (h2 : RL K F H ds vs []) : RL K F H (d :: ds) (v :: vs) [] := RL.cons (fp := []) (fq := []) h1 h2
theorem RL.inv_cons (h : RL K F H (d :: ds) vs []) : ∃ v vs', vs = v :: vs' ∧ R K F H d v [] ∧ RL K F H ds vs' [] := by
  cases vs with
  | nil => generalize e : ([] : List Addr) = fp at h; cases h
  | cons v vs' => exact ⟨v, vs', rfl, h.tail0⟩
theorem RL.get0 : ∀ {ds : List D} {vs : List V} {i : Nat} {d : D}, RL K F H ds vs [] → ds[i]? = some d → ∃ v, vs[i]? = some v ∧ R K F H d v []
  | [], _, _, _, _, e => by simp at e
  | d :: ds, vs, 0, d', h, e => by
    obtain ⟨v, vs', rfl, h1, h2⟩ := h.inv_cons
    simp at e; subst e
    exact ⟨v, rfl, h1⟩
  | d :: ds, vs, i + 1, d', h, e => by
    obtain ⟨v, vs', rfl, h1, h2⟩ := h.inv_cons
    obtain ⟨u, e1, e2⟩ := RL.get0 (i := i) h2 (by simpa using e)
    exact ⟨u, by simpa using e1, e2⟩
theorem RL.app0 : ∀ {ds es : List D} {vs us : List V}, RL K F H ds vs [] → RL K F H es us [] → RL K F H (ds ++ es) (vs ++ us) []
  | [], _, vs, _, h, k => by
    have : vs = [] := by cases vs with | nil => rfl | cons a b => exact absurd h.len (by simp)
    subst this
    exact k
  | d :: ds, es, vs, us, h, k => by
    obtain ⟨v, vs', rfl, h1, h2⟩ := h.inv_cons
    exact RL.mk0 h1 (RL.app0 h2 k)
theorem RL.drop0 : ∀ {ds : List D} {vs : List V} (n : Nat), RL K F H ds vs [] → RL K F H (ds.drop n) (vs.drop n) []
  | _, _, 0, h => h
  | [], vs, n + 1, h => by
    have : vs = [] := by cases vs with | nil => rfl | cons a b => exact absurd h.len (by simp)
    subst this
    exact h
  | d :: ds, vs, n + 1, h => by
    obtain ⟨v, vs', rfl, h1, h2⟩ := h.inv_cons
    exact RL.drop0 n h2
theorem RL.take0 : ∀ {ds : List D} {vs : List V} (n : Nat), RL K F H ds vs [] → RL K F H (ds.take n) (vs.take n) []
  | ds, vs, 0, h => by simp; exact .nil
  | [], vs, n + 1, h => by
    have : vs = [] := by cases vs with | nil => rfl | cons a b => exact absurd h.len (by simp)
    subst this
    exact h
  | d :: ds, vs, n + 1, h => by
    obtain ⟨v, vs', rfl, h1, h2⟩ := h.inv_cons
    exact RL.mk0 h1 (RL.take0 n h2)
theorem RL.rev0 : ∀ {ds : List D} {vs : List V}, RL K F H ds vs [] → RL K F H ds.reverse vs.reverse []
  | [], vs, h => by
    have : vs = [] := by cases vs with | nil => rfl | cons a b => exact absurd h.len (by simp)
    subst this
    exact h
  | d :: ds, vs, h => by
    obtain ⟨v, vs', rfl, h1, h2⟩ := h.inv_cons
    rw [List.reverse_cons, List.reverse_cons]
    exact RL.app0 (RL.rev0 h2) (RL.mk0 h1 .nil)
theorem RL.snoc : ∀ {ds : List D} {vs : List V} {fp fq : List Addr} {d : D} {v : V}, RL K F H ds vs fp → R K F H d v fq → RL K F H (ds ++ [d]) (vs ++ [v]) (fp ++ fq)
  | _, _, _, fq, _, _, .nil, k => by
    have q := RL.cons k (RL.nil (K := K) (F := F) (H := H))
    rw [List.append_nil] at q
    exact q
  | _, _, _, fq, _, _, .cons h t, k => by
    rw [List.append_assoc]
    exact RL.cons h (RL.snoc t k)
/-- the heap grows: what was known stays; what stood still, stands still; no elder object becomes still -/
structure Grow (F H F' H' : Hp) : Prop where
  f : Same F F'
  fh : Same F' H'
  h : Same H H'
  o : ∀ a o, H a = some o → F' a = F a
theorem Grow.refl (h : Same F H) : Grow F H F H := ⟨Same.refl _, h, Same.refl _, fun _ _ _ => rfl⟩
theorem Grow.trans (a : Grow F H F1 H1) (b : Grow F1 H1 F2 H2) : Grow F H F2 H2 :=
  ⟨a.f.trans b.f, b.fh, a.h.trans b.h, fun x o e => (b.o x o (a.h x o e)).trans (a.o x o e)⟩
theorem R.grow (g : Grow F H F' H') (h : R K F H d v fp) : R K F' H' d v fp := R.mono g.f d (fun a z => by
  obtain ⟨o, e⟩ := h.fp_some d a z
  rw [e, g.h a o e]) h
theorem RL.grow (g : Grow F H F' H') (h : RL K F H ds vs fp) : RL K F' H' ds vs fp := RL.mono g.f ds (fun a z => by
  obtain ⟨o, e⟩ := h.fp_some ds a z
  rw [e, g.h a o e]) h
/-- a new object that stands still from now on -/
theorem Grow.new {p : Addr} {o : HO} (hs : Same F H) (hp : H p = none) : Grow F H (upd F p o) (upd H p o) where
  f := fun b u e => by rw [upd_ne (ne_of_none (hs b u e) hp)]; exact e
  fh := fun b u e => by
    by_cases hb : b = p
    · subst hb; rw [upd_same] at e ⊢; exact e
    · rw [upd_ne hb] at e ⊢; exact hs b u e
  h := fun b u e => by rw [upd_ne (ne_of_none e hp)]; exact e
  o := fun b u e => by rw [upd_ne (ne_of_none e hp)]
/-- a new object that is not still -/
theorem Grow.own {p : Addr} {o : HO} (hs : Same F H) (hp : H p = none) : Grow F H F (upd H p o) where
  f := Same.refl _
  fh := fun b u e => by rw [upd_ne (ne_of_none (hs b u e) hp)]; exact hs b u e
  h := fun b u e => by rw [upd_ne (ne_of_none e hp)]; exact e
  o := fun _ _ _ => rfl

/-! ### the frame's state -/
structure Ent where
  K : Kx
  H0 : Hp
  F0 : Hp
  own : Nat → List Addr

inductive RS (K : Kx) (F H : Hp) : En → St → List (List Addr) → Prop
  | nil {σ : St} : RS K F H [] σ []
  | non {env : En} {σ : St} {fps : List (List Addr)} {x : Option V} : RS K F H env σ fps → RS K F H (none :: env) (x :: σ) ([] :: fps)
  | som {env : En} {σ : St} {fps : List (List Addr)} {d : D} {v : V} {fp : List Addr} : R K F H d v fp → RS K F H env σ fps → RS K F H (some d :: env) (some v :: σ) (fp :: fps)

structure Stt (E : Ent) (F : Hp) (env : En) (σ : St) (H : Hp) : Prop where
  le0 : Same E.F0 F
  fH : Same F H
  keep : ∀ a o, E.H0 a = some o → (∀ i, a ∉ E.own i) → H a = some o
  old : ∀ a o, E.H0 a = some o → (∀ i, a ∉ E.own i) → F a = E.F0 a
  ownS : ∀ i a, a ∈ E.own i → ∃ o, H a = some o
  rep : ∃ fps, RS E.K F H env σ fps ∧ fps.flatten.Nodup ∧ ∀ i fp, fps[i]? = some fp → ∀ a ∈ fp, F a = none ∧ (E.H0 a = none ∨ a ∈ E.own i)

variable {E : Ent} {env : En} {σ : St} {fps : List (List Addr)}
theorem RS.get : ∀ {env : En} {σ : St} {fps : List (List Addr)} {i : Nat} {d : D}, RS K F H env σ fps → env[i]? = some (some d) → ∃ v fp, σ[i]? = some (some v) ∧ fps[i]? = some fp ∧ R K F H d v fp
  | _, _, _, _, _, .nil, e => by simp at e
  | _, _, _, 0, _, .non _, e => by simp at e
  | _, _, _, 0, _, .som r _, e => by
    simp at e; subst e
    exact ⟨_, _, rfl, rfl, r⟩
  | _, _, _, i + 1, _, .non t, e => by
    obtain ⟨v, fp, h1, h2, h3⟩ := RS.get (i := i) t (by simpa using e)
    exact ⟨v, fp, by simpa using h1, by simpa using h2, h3⟩
  | _, _, _, i + 1, _, .som _ t, e => by
    obtain ⟨v, fp, h1, h2, h3⟩ := RS.get (i := i) t (by simpa using e)
    exact ⟨v, fp, by simpa using h1, by simpa using h2, h3⟩
theorem RS.set : ∀ {env : En} {σ : St} {fps : List (List Addr)} (i : Nat), RS K F H env σ fps → R K F H d v fp → RS K F H (env.set i (some d)) (σ.set i (some v)) (fps.set i fp)
  | _, _, _, _, .nil, _ => .nil
  | _, _, _, 0, .non t, r => .som r t
  | _, _, _, 0, .som _ t, r => .som r t
  | _, _, _, i + 1, .non t, r => .non (RS.set i t r)
  | _, _, _, i + 1, .som q t, r => .som q (RS.set i t r)
theorem RS.wipe : ∀ {env : En} {σ : St} {fps : List (List Addr)} (i : Nat), RS K F H env σ fps → RS K F H (env.set i none) σ (fps.set i [])
  | _, _, _, _, .nil => .nil
  | _, _, _, 0, .non t => .non t
  | _, _, _, 0, .som _ t => .non t
  | _, _, _, i + 1, .non t => .non (RS.wipe i t)
  | _, _, _, i + 1, .som q t => .som q (RS.wipe i t)
theorem RS.wipe2 : ∀ {env : En} {σ : St} {fps : List (List Addr)} (i : Nat), RS K F H env σ fps → RS K F H (env.set i none) (σ.set i none) (fps.set i [])
  | _, _, _, _, .nil => .nil
  | _, _, _, 0, .non t => .non t
  | _, _, _, 0, .som _ t => .non t
  | _, _, _, i + 1, .non t => .non (RS.wipe2 i t)
  | _, _, _, i + 1, .som q t => .som q (RS.wipe2 i t)
theorem RS.mono : ∀ {env : En} {σ : St} {fps : List (List Addr)}, Same F F' → (∀ fp ∈ fps, ∀ a ∈ fp, H' a = H a) → RS K F H env σ fps → RS K F' H' env σ fps
  | _, _, _, _, _, .nil => .nil
  | _, _, _, e, k, .non t => .non (RS.mono e (fun fp z => k fp (List.mem_cons_of_mem _ z)) t)
  | _, _, _, e, k, .som r t => .som (R.mono e _ (k _ List.mem_cons_self) r) (RS.mono e (fun fp z => k fp (List.mem_cons_of_mem _ z)) t)
theorem RS.fp_some : ∀ {env : En} {σ : St} {fps : List (List Addr)}, RS K F H env σ fps → ∀ fp ∈ fps, ∀ a ∈ fp, ∃ o, H a = some o
  | _, _, _, .nil, _, z, _, _ => nomatch z
  | _, _, _, .non t, fp, z, a, y => by
    rcases List.mem_cons.mp z with z | z
    · subst z; cases y
    · exact RS.fp_some t fp z a y
  | _, _, _, .som r t, fp, z, a, y => by
    rcases List.mem_cons.mp z with z | z
    · subst z; exact r.fp_some _ a y
    · exact RS.fp_some t fp z a y
theorem Stt.grow (S : Stt E F env σ H) (g : Grow F H F' H') : Stt E F' env σ H' := by
  obtain ⟨fps, r, nd, fr⟩ := S.rep
  have ks : ∀ fp ∈ fps, ∀ a ∈ fp, H' a = H a := fun fp hf a ha => by
    obtain ⟨o, e⟩ := r.fp_some fp hf a ha
    rw [e, g.h a o e]
  refine ⟨S.le0.trans g.f, g.fh, fun a o e n => g.h a o (S.keep a o e n), fun a o e n => (g.o a o (S.keep a o e n)).trans (S.old a o e n), fun i a ha => (S.ownS i a ha).imp fun o e => g.h a o e, fps, r.mono g.f ks, nd, fun i fp hi a ha => ?_⟩
  obtain ⟨h1, h2⟩ := fr i fp hi a ha
  obtain ⟨o, e⟩ := r.fp_some fp (List.mem_of_getElem? hi) a ha
  exact ⟨(g.o a o e).trans h1, h2⟩
theorem Stt.nilEnv (S : Stt E F env σ H) : Stt E F [] σ H := ⟨S.le0, S.fH, S.keep, S.old, S.ownS, [], .nil, List.nodup_nil, fun i fp h => by simp at h⟩
theorem flat_set_sub {α : Type} : ∀ {l : List (List α)} {i : Nat} {x : List α}, (l.set i x).flatten.Sublist (l.flatten) ∨ True := .inr trivial
theorem mem_set_of {α : Type} {l : List α} {i j : Nat} {x y : α} (h : (l.set i x)[j]? = some y) : (i = j ∧ y = x) ∨ l[j]? = some y := by
  by_cases e : i = j
  · subst e
    by_cases hl : i < l.length
    · rw [List.getElem?_set_self hl] at h
      exact .inl ⟨rfl, (Option.some.inj h).symm⟩
    · rw [List.getElem?_eq_none (by simpa using hl)] at h; cases h
  · rw [List.getElem?_set_ne e] at h
    exact .inr h
/-- the owned addresses stay apart where a slot's become fewer, or new ones come in -/
theorem nodup_set {α : Type} : ∀ {l : List (List α)} {i : Nat} {x : List α}, l.flatten.Nodup → x.Nodup → (∀ j y, j ≠ i → l[j]? = some y → ∀ a ∈ y, a ∉ x) → (l.set i x).flatten.Nodup
  | [], _, _, h, _, _ => h
  | y :: l, 0, x, h, hx, k => by
    rw [List.flatten_cons] at h
    obtain ⟨h1, h2, h3⟩ := List.nodup_append.mp h
    show (x :: l).flatten.Nodup
    rw [List.flatten_cons]
    refine List.nodup_append.mpr ⟨hx, h2, fun a ha b hb e => ?_⟩
    subst e
    obtain ⟨z, hz, haz⟩ := List.mem_flatten.mp hb
    obtain ⟨j, hj⟩ := List.mem_iff_getElem?.mp hz
    exact k (j + 1) z (by simp) (by simpa using hj) a haz ha
  | y :: l, i + 1, x, h, hx, k => by
    rw [List.flatten_cons] at h
    obtain ⟨h1, h2, h3⟩ := List.nodup_append.mp h
    show (y :: l.set i x).flatten.Nodup
    rw [List.flatten_cons]
    refine List.nodup_append.mpr ⟨h1, nodup_set h2 hx (fun j z hj hz a ha => k (j + 1) z (by omega) (by simpa using hz) a ha), fun a ha b hb e => ?_⟩
    subst e
    obtain ⟨z, hz, haz⟩ := List.mem_flatten.mp hb
    obtain ⟨j, hj⟩ := List.mem_iff_getElem?.mp hz
    rcases mem_set_of hj with ⟨e1, e2⟩ | hj
    · subst e2
      exact k 0 y (by omega) (by simp) a ha haz
    · exact h3 a ha a (List.mem_flatten.mpr ⟨z, List.mem_of_getElem? hj, haz⟩) rfl
theorem nodup_get {α : Type} : ∀ {l : List (List α)} {i : Nat} {x : List α}, l.flatten.Nodup → l[i]? = some x → x.Nodup
  | [], _, _, _, e => by simp at e
  | y :: l, 0, x, h, e => by
    simp at e; subst e
    rw [List.flatten_cons] at h
    exact (List.nodup_append.mp h).1
  | y :: l, i + 1, x, h, e => by
    rw [List.flatten_cons] at h
    exact nodup_get (i := i) (List.nodup_append.mp h).2.1 (by simpa using e)
theorem nodup_apart {α : Type} : ∀ {l : List (List α)} {i j : Nat} {x y : List α}, l.flatten.Nodup → i ≠ j → l[i]? = some x → l[j]? = some y → ∀ a ∈ x, a ∉ y
  | [], _, _, _, _, _, _, e, _ => by simp at e
  | z :: l, 0, 0, _, _, _, n, _, _ => absurd rfl n
  | z :: l, 0, j + 1, x, y, h, _, e1, e2 => fun a ha hy => by
    simp at e1; subst e1
    rw [List.flatten_cons] at h
    exact (List.nodup_append.mp h).2.2 a ha a (List.mem_flatten.mpr ⟨y, List.mem_of_getElem? (by simpa using e2), hy⟩) rfl
  | z :: l, i + 1, 0, x, y, h, _, e1, e2 => fun a ha hy => by
    simp at e2; subst e2
    rw [List.flatten_cons] at h
    exact (List.nodup_append.mp h).2.2 a hy a (List.mem_flatten.mpr ⟨x, List.mem_of_getElem? (by simpa using e1), ha⟩) rfl
  | z :: l, i + 1, j + 1, x, y, h, n, e1, e2 => by
    rw [List.flatten_cons] at h
    exact nodup_apart (i := i) (j := j) (List.nodup_append.mp h).2.1 (by omega) (by simpa using e1) (by simpa using e2)
/-- a slot takes data -/
theorem Stt.setData (S : Stt E F env σ H) (i : Nat) (r : R E.K F H d v []) : Stt E F (env.set i (some d)) (σ.set i (some v)) H := by
  obtain ⟨fps, q, nd, fr⟩ := S.rep
  refine ⟨S.le0, S.fH, S.keep, S.old, S.ownS, fps.set i [], q.set i r, nodup_set nd List.nodup_nil (fun _ _ _ _ _ _ z => nomatch z), fun j fp hj a ha => ?_⟩
  rcases mem_set_of hj with ⟨_, e⟩ | hj
  · subst e; cases ha
  · exact fr j fp hj a ha
theorem Stt.wipe (S : Stt E F env σ H) (i : Nat) : Stt E F (env.set i none) σ H := by
  obtain ⟨fps, q, nd, fr⟩ := S.rep
  refine ⟨S.le0, S.fH, S.keep, S.old, S.ownS, fps.set i [], q.wipe i, nodup_set nd List.nodup_nil (fun _ _ _ _ _ _ z => nomatch z), fun j fp hj a ha => ?_⟩
  rcases mem_set_of hj with ⟨_, e⟩ | hj
  · subst e; cases ha
  · exact fr j fp hj a ha
theorem Stt.wipe2 (S : Stt E F env σ H) (i : Nat) : Stt E F (env.set i none) (σ.set i none) H := by
  obtain ⟨fps, q, nd, fr⟩ := S.rep
  refine ⟨S.le0, S.fH, S.keep, S.old, S.ownS, fps.set i [], q.wipe2 i, nodup_set nd List.nodup_nil (fun _ _ _ _ _ _ z => nomatch z), fun j fp hj a ha => ?_⟩
  rcases mem_set_of hj with ⟨_, e⟩ | hj
  · subst e; cases ha
  · exact fr j fp hj a ha
/-- a slot takes what is owned and new -/
theorem Stt.setNew (S : Stt E F env σ H) (i : Nat) (r : R E.K F' H' d v fp) (g : Grow F H F' H') (hn : fp.Nodup) (hf : ∀ a ∈ fp, H a = none ∧ F' a = none ∧ E.H0 a = none) : Stt E F' (env.set i (some d)) (σ.set i (some v)) H' := by
  have S' := S.grow g
  obtain ⟨fps, q, nd, fr⟩ := S.rep
  have ks : ∀ fp ∈ fps, ∀ a ∈ fp, H' a = H a := fun fp hf a ha => by
    obtain ⟨o, e⟩ := q.fp_some fp hf a ha
    rw [e, g.h a o e]
  refine ⟨S'.le0, S'.fH, S'.keep, S'.old, S'.ownS, fps.set i fp, (q.mono g.f ks).set i r, nodup_set nd hn (fun j y hj hy a ha z => ?_), fun j fq hj a ha => ?_⟩
  · obtain ⟨o, e⟩ := q.fp_some y (List.mem_of_getElem? hy) a ha
    rw [(hf a z).1] at e; cases e
  · rcases mem_set_of hj with ⟨_, e⟩ | hj
    · subst e; exact ⟨(hf a ha).2.1, .inl (hf a ha).2.2⟩
    · obtain ⟨h1, h2⟩ := fr j fq hj a ha
      obtain ⟨o, e⟩ := q.fp_some fq (List.mem_of_getElem? hj) a ha
      exact ⟨(g.o a o e).trans h1, h2⟩
theorem Stt.fresh (S : Stt E F env σ H) {a : Addr} (h : H a = none) : E.H0 a = none := by
  cases e : E.H0 a with
  | none => rfl
  | some o =>
    refine absurd (S.keep a o e fun i hi => ?_) (by rw [h]; intro z; cases z)
    obtain ⟨o', e'⟩ := S.ownS i a hi
    rw [h] at e'; cases e'
end Z

set_option Elab.async false
set_option linter.all false
set_option maxRecDepth 100000
set_option maxHeartbeats 1000000
namespace Z
open PySem L2

/-! ### what a construct's reading must grant -/
/-- an exception: its class, its own dict -/
def Rx (K : Kx) (F H : Hp) (x : D) (cls : Value) (dd : Option Addr) : Prop := match x with
  | .ob c fs => cls = .ref (K.ca c) ∧ ((fs = [] ∧ dd = none) ∨ ∃ a vs, dd = some a ∧ H a = some (.xd vs) ∧ ∀ f d, (f, d) ∈ fs → ∃ v, vs.lookup (Str.ofString f) = some v ∧ R K F H d v [])
  | _ => False

section
variable {E : Ent} {W : WX}
def PostE (E : Ent) (W : WX) (F H : Hp) (σ : St) (Q : VK) : Rs D → Prop
  | .ok d => ∀ v fp F' H', Grow F H F' H' → R E.K F' H' d v fp → Q v H'
  | .ex x => ∀ cls dd F' H', Grow F H F' H' → Rx E.K F' H' x cls dd → W cls dd σ H'
  | .un => False
def PostT (E : Ent) (W : WX) (F H : Hp) (σ : St) (Q : Bool → Hp → Prop) : Rs Bool → Prop
  | .ok b => ∀ F' H', Grow F H F' H' → Q b H'
  | .ex x => ∀ cls dd F' H', Grow F H F' H' → Rx E.K F' H' x cls dd → W cls dd σ H'
  | .un => False
def PostA (E : Ent) (W : WX) (F H : Hp) (σ : St) (Q : List V → Hp → Prop) : Rs (List D) → Prop
  | .ok ds => ∀ vs fp F' H', Grow F H F' H' → RL E.K F' H' ds vs fp → Q vs H'
  | .ex x => ∀ cls dd F' H', Grow F H F' H' → Rx E.K F' H' x cls dd → W cls dd σ H'
  | .un => False
/-- a list made anew -/
def PostL (E : Ent) (W : WX) (F H : Hp) (σ : St) (Q : VK) : Rs (List D) → Prop
  | .ok ds => ∀ p vs F' H', Grow F H F' H' → H p = none → F' p = none → H' p = some (.lst vs) → RL E.K F' H' ds vs [] → ds.length ≤ 16777216 → Q (.ref p) H'
  | .ex x => ∀ cls dd F' H', Grow F H F' H' → Rx E.K F' H' x cls dd → W cls dd σ H'
  | .un => False
def OkE (E : Ent) (W : WX) (t : TE) (f : En → Rs D) : Prop := ∀ F σ H env, Stt E F env σ H → ∀ Q, PostE E W F H σ Q (f env) → t σ H Q
def OkT (E : Ent) (W : WX) (t : TT) (f : En → Rs Bool) : Prop := ∀ F σ H env, Stt E F env σ H → ∀ Q, PostT E W F H σ Q (f env) → t σ H Q
def OkA (E : Ent) (W : WX) (t : TA) (f : En → Rs (List D)) : Prop := ∀ F σ H env, Stt E F env σ H → ∀ Q, PostA E W F H σ Q (f env) → t σ H Q
def OkL (E : Ent) (W : WX) (t : TE) (f : En → Rs (List D)) : Prop := ∀ F σ H env, Stt E F env σ H → ∀ Q, PostL E W F H σ Q (f env) → t σ H Q
/-- the expression e means f -/
structure SE (X : Cx) (E : Ent) (W : WX) (e : Expr) (f : En → Rs D) : Prop where
  hK : X.K = E.K.k
  ex : ∃ t, PE X e t ∧ OkE E W t f
structure ST (X : Cx) (E : Ent) (W : WX) (e : Expr) (f : En → Rs Bool) : Prop where
  hK : X.K = E.K.k
  ex : ∃ t, PT X e t ∧ OkT E W t f
structure SW (X : Cx) (E : Ent) (W : WX) (e : Expr) (f : En → Rs Bool) : Prop where
  hK : X.K = E.K.k
  ex : ∃ t, PW X e t ∧ OkT E W t f
structure SA (X : Cx) (E : Ent) (W : WX) (es : List Expr) (f : En → Rs (List D)) : Prop where
  hK : X.K = E.K.k
  ex : ∃ t, PA X es t ∧ OkA E W t f
structure SL (X : Cx) (E : Ent) (W : WX) (e : Expr) (f : En → Rs (List D)) : Prop where
  hK : X.K = E.K.k
  ex : ∃ t, PE X e t ∧ OkL E W t f
end

section
variable {X : Cx} {E : Ent} {W : WX} {e a b : Expr} {f g : En → Rs D} {pos : Pos}
theorem PostE.mono {F H F1 H1 : Hp} {σ : St} {Q : VK} {r : Rs D} (G : Grow F H F1 H1) (h : PostE E W F H σ Q r) : PostE E W F1 H1 σ Q r := by
  cases r with
  | ok d => exact fun v fp F' H' g k => h v fp F' H' (G.trans g) k
  | ex x => exact fun cls dd F' H' g k => h cls dd F' H' (G.trans g) k
  | un => exact h
theorem PostT.mono {F H F1 H1 : Hp} {σ : St} {Q : Bool → Hp → Prop} {r : Rs Bool} (G : Grow F H F1 H1) (h : PostT E W F H σ Q r) : PostT E W F1 H1 σ Q r := by
  cases r with
  | ok d => exact fun F' H' g => h F' H' (G.trans g)
  | ex x => exact fun cls dd F' H' g k => h cls dd F' H' (G.trans g) k
  | un => exact h
theorem PostA.mono {F H F1 H1 : Hp} {σ : St} {Q : List V → Hp → Prop} {r : Rs (List D)} (G : Grow F H F1 H1) (h : PostA E W F H σ Q r) : PostA E W F1 H1 σ Q r := by
  cases r with
  | ok d => exact fun v fp F' H' g k => h v fp F' H' (G.trans g) k
  | ex x => exact fun cls dd F' H' g k => h cls dd F' H' (G.trans g) k
  | un => exact h
theorem same_none {F H : Hp} {a : Addr} (h : Same F H) (e : H a = none) : F a = none := Same.free h e

/-! ### names and constants -/
def eVar (i : Nat) : En → Rs D := fun env => match env[i]? with
  | some (some d) => .ok d
  | _ => .un
theorem SE.var (i : Nat) {x : Str} (hK : X.K = E.K.k := by rfl) (hN : X.N[i]? = some x := by rfl) (hv : Vis X.env.scope x := by first | exact Or.inl rfl | exact Or.inr (Or.inl rfl) | exact Or.inr (Or.inr rfl))
    (hd : (x == ("__debug__" : Str)) = false := by decide) (hcd : (x == ("__classdict__" : Str)) = false := by decide) : SE X E W (.Name x pos) (eVar i) := by
  refine ⟨hK, _, pe_var hN hv hd hcd, fun F σ H env S Q h => ?_⟩
  unfold eVar at h
  cases e : env[i]? with
  | none => rw [e] at h; exact h.elim
  | some o =>
    cases o with
    | none => rw [e] at h; exact h.elim
    | some d =>
      rw [e] at h
      obtain ⟨fps, r, _⟩ := S.rep
      obtain ⟨v, fp, h1, _, h3⟩ := r.get e
      exact ⟨v, h1, h v fp F H (Grow.refl S.fH) h3⟩
def eC (d : D) : En → Rs D := fun _ => .ok d
theorem SE.int {i : Int} {j} (hK : X.K = E.K.k := by rfl) : SE X E W (.Constant (.int i) j pos) (eC (.int i)) := ⟨hK, _, pe_int, fun F σ H env S Q h => h _ [] F H (Grow.refl S.fH) (.int i)⟩
theorem SE.bl {b : Bool} {j} (hK : X.K = E.K.k := by rfl) : SE X E W (.Constant (.bool b) j pos) (eC (.bl b)) := ⟨hK, _, pe_bl, fun F σ H env S Q h => h _ [] F H (Grow.refl S.fH) (.bl b)⟩
theorem SE.non {j} (hK : X.K = E.K.k := by rfl) : SE X E W (.Constant .none j pos) (eC .non) := ⟨hK, _, pe_non, fun F σ H env S Q h => h _ [] F H (Grow.refl S.fH) .non⟩
def strOkB (x : List Nat) : Bool := decide (x.length ≤ 1000000) && x.all fun c => decide (c < 1114112)
theorem strOk_of {x : List Nat} (h : strOkB x = true) : StrOk x := by
  unfold strOkB at h
  rw [Bool.and_eq_true] at h
  refine ⟨Nat.le_trans (of_decide_eq_true h.1) (by decide), fun c hc => ?_⟩
  exact of_decide_eq_true (List.all_eq_true.mp h.2 c hc)
theorem SE.str (cs : List Nat) {x : Str} {j} (hx : x = ⟨cs.toArray⟩ := by rfl) (hs : strOkB cs = true := by decide +kernel) (hK : X.K = E.K.k := by rfl) : SE X E W (.Constant (.str x) j pos) (eC (.str cs)) :=
  ⟨hK, _, pe_str, fun F σ H env S Q h => h _ [] F H (Grow.refl S.fH) (by rw [hx]; exact .str (strOk_of hs))⟩

/-! ### two operands -/
def ofO {α : Type} : Option α → Rs α
  | some a => .ok a
  | none => .un
@[simp] theorem ofO_some {α : Type} (a : α) : ofO (some a) = .ok a := id rfl
@[simp] theorem ofO_none {α : Type} : ofO (none : Option α) = .un := id rfl
/-- what a two-place operation does to data -/
def OpS (X : Cx) (E : Ent) (f : Value → Value → Sem Value) (g : D → D → Option D) : Prop :=
  ∃ r, OpR X f r ∧ ∀ F H x y d1 d2 fp1 fp2 d, Same F H → R E.K F H d1 x fp1 → R E.K F H d2 y fp2 → g d1 d2 = some d → ∀ Q : VK,
    (∀ v fp F' H', Grow F H F' H' → R E.K F' H' d v fp → Q v H') → r x y H Q
def eBin (op : D → D → Option D) (f g : En → Rs D) : En → Rs D := fun env => (f env).bind fun a => (g env).bind fun b => ofO (op a b)
theorem two_ok {ta tb : TE} {r : R2} {op : D → D → Option D} (ha : OkE E W ta f) (hb : OkE E W tb g)
    (hr : ∀ F H x y d1 d2 fp1 fp2 d, Same F H → R E.K F H d1 x fp1 → R E.K F H d2 y fp2 → op d1 d2 = some d → ∀ Q : VK, (∀ v fp F' H', Grow F H F' H' → R E.K F' H' d v fp → Q v H') → r x y H Q) :
    OkE E W (tOp r ta tb) (eBin op f g) := by
  intro F σ H env S Q h
  refine ha F σ H env S _ ?_
  unfold eBin at h
  cases e1 : f env with
  | un => rw [e1] at h; exact h
  | ex x => rw [e1] at h; exact h
  | ok d1 =>
    intro v1 fp1 F1 H1 G1 r1
    refine hb F1 σ H1 env (S.grow G1) _ ?_
    rw [e1, Rs.bind_ok] at h
    cases e2 : g env with
    | un => rw [e2] at h; exact h
    | ex x => rw [e2] at h; exact PostE.mono G1 h
    | ok d2 =>
      intro v2 fp2 F2 H2 G2 r2
      rw [e2, Rs.bind_ok] at h
      cases e3 : op d1 d2 with
      | none => rw [e3] at h; exact h.elim
      | some d =>
        rw [e3] at h
        exact hr F2 H2 v1 v2 d1 d2 fp1 fp2 d G2.fh (r1.grow G2) r2 e3 Q fun v fp F' H' G k => h v fp F' H' ((G1.trans G2).trans G) k
theorem SE.bin {o : Operator} {op : D → D → Option D} (ho : OpS X E (binaryOp o) op) (ha : SE X E W a f) (hb : SE X E W b g) : SE X E W (.BinOp a o b pos) (eBin op f g) := by
  obtain ⟨r, h1, h2⟩ := ho
  obtain ⟨ta, pa, ka⟩ := ha.ex
  obtain ⟨tb, pb, kb⟩ := hb.ex
  exact ⟨ha.hK, _, pe_op h1 pa pb, two_ok ka kb h2⟩
theorem SE.cmp {o : CmpOp} {op : D → D → Option D} (ho : OpS X E (compareOp o) op) (ha : SE X E W a f) (hb : SE X E W b g) (hm : behindInMarks o b = false := by first | exact nomark _ | rfl) : SE X E W (.Compare a [o] [b] pos) (eBin op f g) := by
  obtain ⟨r, h1, h2⟩ := ho
  obtain ⟨ta, pa, ka⟩ := ha.ex
  obtain ⟨tb, pb, kb⟩ := hb.ex
  exact ⟨ha.hK, _, pe_cmpR h1 pa pb hm, two_ok ka kb h2⟩
/-- a bool that was reckoned -/
def asB : Rs D → Rs Bool
  | .ok (.bl b) => .ok b
  | .ex x => .ex x
  | _ => .un
def eB (f : En → Rs D) : En → Rs Bool := fun env => asB (f env)
theorem test_ok {t : TE} (h : OkE E W t f) : OkT E W (tTest t) (eB f) := by
  intro F σ H env S Q q
  refine h F σ H env S _ ?_
  unfold eB at q
  cases e : f env with
  | un => rw [e] at q; exact q
  | ex x => rw [e] at q; exact q
  | ok d =>
    rw [e] at q
    intro v fp F' H' G r
    cases d <;> first | exact q.elim | skip
    cases r
    exact ⟨_, rfl, q F' H' G⟩
theorem ST.cmp {o : CmpOp} {op : D → D → Option D} (ho : OpS X E (compareOp o) op) (ha : SE X E W a f) (hb : SE X E W b g) (hm : behindInMarks o b = false := by first | exact nomark _ | rfl) : ST X E W (.Compare a [o] [b] pos) (eB (eBin op f g)) := by
  obtain ⟨r, h1, h2⟩ := ho
  obtain ⟨ta, pa, ka⟩ := ha.ex
  obtain ⟨tb, pb, kb⟩ := hb.ex
  exact ⟨ha.hK, _, pt_cmpR h1 pa pb hm, test_ok (two_ok ka kb h2)⟩

/-! ### truth -/
def truD : D → Rs Bool
  | .non => .ok false
  | .bl b => .ok b
  | .int i => .ok (i != 0)
  | .str x => .ok (!x.isEmpty)
  | .tup xs => .ok (!xs.isEmpty)
  | .lst xs => .ok (!xs.isEmpty)
  | .olst xs => .ok (!xs.isEmpty)
  | .scr xs => .ok (!xs.isEmpty)
  | _ => .un
def eTru (f : En → Rs D) : En → Rs Bool := fun env => (f env).bind truD
theorem RL.emp {K : Kx} {F H : Hp} {ds : List D} {vs : List V} {fp : List Addr} (h : RL K F H ds vs fp) : vs.isEmpty = ds.isEmpty := by cases h <;> rfl
theorem tru_at {K : Kx} {F H : Hp} {d : D} {v : V} {fp : List Addr} {b : Bool} (hs : Same F H) (r : R K F H d v fp) (e : truD d = .ok b) : TruV K.k v H b := by
  cases r <;> first | (cases e; rfl) | skip
  · rename_i x hx
    cases e
    refine ⟨hx.len, ?_⟩
    cases x with
    | nil => rfl
    | cons c cs =>
      show true = (((cs.length + 1 : Nat) : Int) != 0)
      exact (bne_iff_ne.mpr (by omega)).symm
  · rename_i a vs ds h1 h2 hz
    cases e
    exact .inr (.inl ⟨vs, same_t hs h1, by rw [h2.emp]⟩)
  · rename_i a vs ds h1 h2 hz
    cases e
    exact .inl ⟨vs, SqL.of (hs _ _ h1), by rw [h2.emp]⟩
  · rename_i a ns h1 hz
    cases e
    exact .inl ⟨_, hs.seq h1, by cases ns <;> rfl⟩
  · rename_i a vs ds fp h1 h2 hz
    cases e
    exact .inl ⟨vs, SqL.of h1, by rw [h2.emp]⟩
theorem ST.tru (ha : SE X E W a f) (he : ∀ whole, isTrue a X.env whole = (do let v ← whole; standAt a.pos; holding [v] (truthy v)) := by intro _; rfl) : ST X E W a (eTru f) := by
  obtain ⟨t, p, k⟩ := ha.ex
  refine ⟨ha.hK, _, pt_truth p he, fun F σ H env S Q q => ?_⟩
  refine k F σ H env S _ ?_
  unfold eTru at q
  cases e : f env with
  | un => rw [e] at q; exact q
  | ex x => rw [e] at q; exact q
  | ok d =>
    rw [e, Rs.bind_ok] at q
    intro v fp F' H' G r
    cases e2 : truD d with
    | un => rw [e2] at q; exact q.elim
    | ex x =>
      exfalso
      cases d <;> cases e2
    | ok b =>
      rw [e2] at q
      exact ⟨b, by rw [ha.hK]; exact tru_at G.fh r e2, q F' H' G⟩
/-! ### and, or, not -/
variable {tf tg : En → Rs Bool} {rest : List Expr}
def eAnd (f g : En → Rs Bool) : En → Rs Bool := fun env => (f env).bind fun b => if b then g env else .ok false
def eOr (f g : En → Rs Bool) : En → Rs Bool := fun env => (f env).bind fun b => if b then .ok true else g env
def eNot (f : En → Rs Bool) : En → Rs Bool := fun env => (f env).bind fun b => .ok (!b)
theorem SW.and1 (ha : ST X E W a tf) : SW X E W (.BoolOp .And [a] pos) tf := by
  obtain ⟨t, p, k⟩ := ha.ex
  exact ⟨ha.hK, _, pw_and1 p, k⟩
theorem SW.or1 (ha : ST X E W a tf) : SW X E W (.BoolOp .Or [a] pos) tf := by
  obtain ⟨t, p, k⟩ := ha.ex
  exact ⟨ha.hK, _, pw_or1 p, k⟩
theorem and_ok {t u : TT} (h1 : OkT E W t tf) (h2 : OkT E W u tg) : OkT E W (tAnd t u) (eAnd tf tg) := by
  intro F σ H env S Q q
  refine h1 F σ H env S _ ?_
  unfold eAnd at q
  cases e : tf env with
  | un => rw [e] at q; exact q
  | ex x => rw [e] at q; exact q
  | ok b =>
    rw [e, Rs.bind_ok] at q
    intro F' H' G
    cases b with
    | true => exact h2 F' σ H' env (S.grow G) Q (PostT.mono G q)
    | false => exact q F' H' G
theorem or_ok {t u : TT} (h1 : OkT E W t tf) (h2 : OkT E W u tg) : OkT E W (tOr t u) (eOr tf tg) := by
  intro F σ H env S Q q
  refine h1 F σ H env S _ ?_
  unfold eOr at q
  cases e : tf env with
  | un => rw [e] at q; exact q
  | ex x => rw [e] at q; exact q
  | ok b =>
    rw [e, Rs.bind_ok] at q
    intro F' H' G
    cases b with
    | true => exact q F' H' G
    | false => exact h2 F' σ H' env (S.grow G) Q (PostT.mono G q)
theorem SW.and (ha : ST X E W a tf) (hb : SW X E W (.BoolOp .And (b :: rest) pos) tg) : SW X E W (.BoolOp .And (a :: b :: rest) pos) (eAnd tf tg) := by
  obtain ⟨t, p, k⟩ := ha.ex
  obtain ⟨u, p', k'⟩ := hb.ex
  exact ⟨ha.hK, _, pw_and p p', and_ok k k'⟩
theorem SW.or (ha : ST X E W a tf) (hb : SW X E W (.BoolOp .Or (b :: rest) pos) tg) : SW X E W (.BoolOp .Or (a :: b :: rest) pos) (eOr tf tg) := by
  obtain ⟨t, p, k⟩ := ha.ex
  obtain ⟨u, p', k'⟩ := hb.ex
  exact ⟨ha.hK, _, pw_or p p', or_ok k k'⟩
theorem ST.w (h : SW X E W a tf) : ST X E W a tf := by
  obtain ⟨t, p, k⟩ := h.ex
  exact ⟨h.hK, _, p.pt, k⟩
theorem ST.not (ha : ST X E W a tf) : ST X E W (.UnaryOp .Not a pos) (eNot tf) := by
  obtain ⟨t, p, k⟩ := ha.ex
  refine ⟨ha.hK, _, pt_not p, fun F σ H env S Q q => ?_⟩
  refine k F σ H env S _ ?_
  unfold eNot at q
  cases e : tf env with
  | un => rw [e] at q; exact q
  | ex x => rw [e] at q; exact q
  | ok b =>
    rw [e, Rs.bind_ok] at q
    exact fun F' H' G => q F' H' G
/-- and, or, not as values: bools but the last -/
def eAndV (f : En → Rs D) (g : En → Rs D) : En → Rs D := fun env => (asB (f env)).bind fun b => if b then g env else .ok (.bl false)
def eOrV (f : En → Rs D) (g : En → Rs D) : En → Rs D := fun env => (asB (f env)).bind fun b => if b then .ok (.bl true) else g env
def eNotV (f : En → Rs Bool) : En → Rs D := fun env => (f env).bind fun b => .ok (.bl (!b))
theorem SE.one {op : BoolOp} (ha : SE X E W a f) : SE X E W (.BoolOp op [a] pos) f := by
  obtain ⟨t, p, k⟩ := ha.ex
  exact ⟨ha.hK, _, pe_one p, k⟩
theorem SE.and (ha : SE X E W a f) (hb : SE X E W (.BoolOp .And (b :: rest) pos) g) : SE X E W (.BoolOp .And (a :: b :: rest) pos) (eAndV f g) := by
  obtain ⟨t, p, k⟩ := ha.ex
  obtain ⟨u, p', k'⟩ := hb.ex
  refine ⟨ha.hK, _, pe_and p p', fun F σ H env S Q q => ?_⟩
  refine k F σ H env S _ ?_
  unfold eAndV at q
  cases e : f env with
  | un => rw [e] at q; exact q
  | ex x => rw [e] at q; exact q
  | ok d =>
    rw [e] at q
    intro v fp F' H' G r
    cases d <;> first | exact q.elim | skip
    rename_i b
    cases r
    refine ⟨b, rfl, ?_⟩
    cases b with
    | true => exact k' F' σ H' env (S.grow G) Q (PostE.mono G q)
    | false => exact q _ [] F' H' G (.bl false)
theorem SE.or (ha : SE X E W a f) (hb : SE X E W (.BoolOp .Or (b :: rest) pos) g) : SE X E W (.BoolOp .Or (a :: b :: rest) pos) (eOrV f g) := by
  obtain ⟨t, p, k⟩ := ha.ex
  obtain ⟨u, p', k'⟩ := hb.ex
  refine ⟨ha.hK, _, pe_or p p', fun F σ H env S Q q => ?_⟩
  refine k F σ H env S _ ?_
  unfold eOrV at q
  cases e : f env with
  | un => rw [e] at q; exact q
  | ex x => rw [e] at q; exact q
  | ok d =>
    rw [e] at q
    intro v fp F' H' G r
    cases d <;> first | exact q.elim | skip
    rename_i b
    cases r
    refine ⟨b, rfl, ?_⟩
    cases b with
    | true => exact q _ [] F' H' G (.bl true)
    | false => exact k' F' σ H' env (S.grow G) Q (PostE.mono G q)
def eNotB (f : En → Rs D) : En → Rs D := fun env => (asB (f env)).bind fun b => .ok (.bl (!b))
theorem SE.not (ha : SE X E W a f) : SE X E W (.UnaryOp .Not a pos) (eNotB f) := by
  obtain ⟨t, p, k⟩ := ha.ex
  refine ⟨ha.hK, _, pe_not p, fun F σ H env S Q q => ?_⟩
  refine k F σ H env S _ ?_
  unfold eNotB at q
  cases e : f env with
  | un => rw [e] at q; exact q
  | ex x => rw [e] at q; exact q
  | ok d =>
    rw [e] at q
    intro v fp F' H' G r
    cases d <;> first | exact q.elim | skip
    rename_i b
    cases r
    exact ⟨b, rfl, q _ [] F' H' G (.bl _)⟩
def eIf (c : En → Rs Bool) (f g : En → Rs D) : En → Rs D := fun env => (c env).bind fun b => if b then f env else g env
theorem SE.ite {c : Expr} (hc : ST X E W c tf) (ha : SE X E W a f) (hb : SE X E W b g) : SE X E W (.IfExp c a b pos) (eIf tf f g) := by
  obtain ⟨t, p, k⟩ := hc.ex
  obtain ⟨u, p', k'⟩ := ha.ex
  obtain ⟨u2, p2, k2⟩ := hb.ex
  refine ⟨ha.hK, _, pe_ifExp p p' p2, fun F σ H env S Q q => ?_⟩
  refine k F σ H env S _ ?_
  unfold eIf at q
  cases e : tf env with
  | un => rw [e] at q; exact q
  | ex x => rw [e] at q; exact q
  | ok b =>
    rw [e, Rs.bind_ok] at q
    intro F' H' G
    cases b with
    | true => exact k' F' σ H' env (S.grow G) Q (PostE.mono G q)
    | false => exact k2 F' σ H' env (S.grow G) Q (PostE.mono G q)

/-! ### argument lists, displays -/
def aNil : En → Rs (List D) := fun _ => .ok []
def aCons (f : En → Rs D) (g : En → Rs (List D)) : En → Rs (List D) := fun env => (f env).bind fun d => (g env).bind fun ds => .ok (d :: ds)
theorem SA.nil (hK : X.K = E.K.k := by rfl) : SA X E W [] aNil := ⟨hK, _, pa_nil, fun F σ H env S Q q => q [] [] F H (Grow.refl S.fH) .nil⟩
theorem SA.cons {es : List Expr} {ga : En → Rs (List D)} (ha : SE X E W e f) (hr : SA X E W es ga) (hs : starEach (e :: es) X.env = (false, eval e X.env) :: starEach es X.env := by rfl) : SA X E W (e :: es) (aCons f ga) := by
  obtain ⟨t, p, k⟩ := ha.ex
  obtain ⟨u, p', k'⟩ := hr.ex
  refine ⟨ha.hK, _, pa_cons p p' hs, fun F σ H env S Q q => ?_⟩
  refine k F σ H env S _ ?_
  unfold aCons at q
  cases e : f env with
  | un => rw [e] at q; exact q
  | ex x => rw [e] at q; exact q
  | ok d =>
    rw [e, Rs.bind_ok] at q
    intro v fp F1 H1 G1 r1
    refine k' F1 σ H1 env (S.grow G1) _ ?_
    cases e2 : ga env with
    | un => rw [e2] at q; exact q
    | ex x => rw [e2] at q; exact fun cls dd F' H' g => q cls dd F' H' (G1.trans g)
    | ok ds =>
      rw [e2, Rs.bind_ok] at q
      intro vs fq F2 H2 G2 r2
      exact q _ _ F2 H2 (G1.trans G2) (.cons (r1.grow G2) r2)
/-- all are data -/
def allD (ds : List D) (r : Rs D) : Rs D := if ds.all isData then r else .un
def eTup (g : En → Rs (List D)) : En → Rs D := fun env => (g env).bind fun ds => if ds.all isData && decide (ds.length ≤ 16777216) then .ok (.tup ds) else .un
def eLst (g : En → Rs (List D)) : En → Rs (List D) := fun env => (g env).bind fun ds => if ds.all isData && decide (ds.length ≤ 16777216) then .ok ds else .un
theorem SE.tup {es : List Expr} {ga : En → Rs (List D)} {k1} (h : SA X E W es ga) : SE X E W (.Tuple es k1 pos) (eTup ga) := by
  obtain ⟨t, p, k⟩ := h.ex
  refine ⟨h.hK, _, pe_tup p, fun F σ H env S Q q => ?_⟩
  refine k F σ H env S _ ?_
  unfold eTup at q
  cases e : ga env with
  | un => rw [e] at q; exact q
  | ex x => rw [e] at q; exact q
  | ok ds =>
    rw [e, Rs.bind_ok] at q
    intro vs fp F1 H1 G1 r1
    split at q
    · rename_i hc
      rw [Bool.and_eq_true] at hc
      have r0 := r1.toData hc.1
      refine ⟨by rw [r1.len]; exact of_decide_eq_true hc.2, fun pp hp => ?_⟩
      refine q _ [] _ _ (G1.trans (Grow.new G1.fh hp)) (.tup (SqT.of upd_same) (r0.grow (Grow.new G1.fh hp)) (of_decide_eq_true hc.2))
    · exact q.elim
theorem SL.lst {es : List Expr} {ga : En → Rs (List D)} (h : SA X E W es ga) : SL X E W (.List es pos) (eLst ga) := by
  obtain ⟨t, p, k⟩ := h.ex
  refine ⟨h.hK, _, pe_lst p, fun F σ H env S Q q => ?_⟩
  refine k F σ H env S _ ?_
  unfold eLst at q
  cases e : ga env with
  | un => rw [e] at q; exact q
  | ex x => rw [e] at q; exact q
  | ok ds =>
    rw [e, Rs.bind_ok] at q
    intro vs fp F1 H1 G1 r1
    split at q
    · rename_i hc
      rw [Bool.and_eq_true] at hc
      have r0 := r1.toData hc.1
      refine ⟨by rw [r1.len]; exact of_decide_eq_true hc.2, fun pp hp => ?_⟩
      have hp0 : H pp = none := by
        cases q0 : H pp with
        | none => rfl
        | some o => rw [G1.h _ _ q0] at hp; cases hp
      exact q pp vs F1 _ (G1.trans (Grow.own G1.fh hp)) hp0 (same_none G1.fh hp) upd_same (r0.grow (Grow.own G1.fh hp)) (of_decide_eq_true hc.2)
    · exact q.elim
/-- a new list stands still from now on -/
def eOfL (g : En → Rs (List D)) : En → Rs D := fun env => (g env).bind fun ds => .ok (.lst ds)
theorem SE.ofL {ga : En → Rs (List D)} (h : SL X E W e ga) : SE X E W e (eOfL ga) := by
  obtain ⟨t, p, k⟩ := h.ex
  refine ⟨h.hK, _, p, fun F σ H env S Q q => ?_⟩
  refine k F σ H env S _ ?_
  unfold eOfL at q
  cases e : ga env with
  | un => rw [e] at q; exact q
  | ex x => rw [e] at q; exact q
  | ok ds =>
    rw [e, Rs.bind_ok] at q
    intro pp vs F1 H1 G1 hp hF hH r hz
    have gs : Same F1 (upd F1 pp (.lst vs)) := fun b u eb => by rw [upd_ne (ne_of_none eb hF)]; exact eb
    refine q _ [] (upd F1 pp (.lst vs)) H1 ⟨G1.f.trans gs, fun b u eb => ?_, G1.h, fun b u eb => ?_⟩ (.lst upd_same (RL.mono gs ds (fun a z => nomatch z) r) hz)
    · by_cases hb : b = pp
      · subst hb; rw [upd_same] at eb; cases eb; exact hH
      · rw [upd_ne hb] at eb; exact G1.fh b u eb
    · rw [upd_ne (ne_of_none eb hp)]; exact G1.o b u eb
end
end Z

set_option Elab.async false
set_option linter.all false
set_option maxRecDepth 100000
set_option maxHeartbeats 1000000
namespace Z
open PySem L2

section
variable {X : Cx} {E : Ent} {W : WX} {e a b : Expr} {f g : En → Rs D} {pos : Pos}
theorem line_eq : (16777216 : Nat) = sizeLine := sizeLine_eq.symm
theorem StrOk.app {x y : List Nat} (hx : StrOk x) (hy : StrOk y) (h : x.length + y.length ≤ 16777216) : StrOk (x ++ y) :=
  ⟨by rw [List.length_append, ← line_eq]; exact h, fun c hc => (List.mem_append.mp hc).elim (hx.cps c) (hy.cps c)⟩
theorem StrOk.sub {x y : List Nat} (hx : StrOk x) (hl : y.length ≤ x.length) (h : ∀ c ∈ y, c ∈ x) : StrOk y := ⟨Nat.le_trans hl hx.len, fun c hc => hx.cps c (h c hc)⟩
/-- the items of a list that may be copied -/
def listOf : D → Option (List D)
  | .lst xs => some xs
  | .olst xs => if xs.all isData then some xs else none
  | _ => none
theorem listOf_at {K : Kx} {F H : Hp} {d : D} {v : V} {fp : List Addr} {ds : List D} (hs : Same F H) (r : R K F H d v fp) (e : listOf d = some ds) : ∃ a vs, v = .ref a ∧ H a = some (.lst vs) ∧ RL K F H ds vs [] ∧ ds.length ≤ 16777216 := by
  cases r <;> first | (cases e; done) | skip
  · rename_i a vs ds' h1 h2 hz
    cases e
    exact ⟨a, vs, rfl, hs _ _ h1, h2, hz⟩
  · rename_i a vs ds' fp h1 h2 hz
    unfold listOf at e
    dsimp only at e
    split at e
    · rename_i hc
      cases e
      exact ⟨a, vs, rfl, h1, h2.toData hc, hz⟩
    · cases e
/-- the items of what may be gone through -/
def seqOf : D → Option (List D)
  | .tup xs => some xs
  | .lst xs => some xs
  | .olst xs => if xs.all isData then some xs else none
  | .scr ns => some (ns.map .int)
  | _ => none
theorem RL.ints {K : Kx} {F H : Hp} : ∀ ns : List Int, RL K F H (ns.map D.int) (ns.map V.int) []
  | [] => .nil
  | n :: ns => RL.mk0 (.int n) (RL.ints ns)
theorem seqOf_at {K : Kx} {F H : Hp} {d : D} {v : V} {fp : List Addr} {ds : List D} (hs : Same F H) (r : R K F H d v fp) (e : seqOf d = some ds) : ∃ a vs, v = .ref a ∧ (SqL K.k H a vs ∨ SqT K.k H a vs) ∧ RL K F H ds vs [] ∧ ds.length ≤ 16777216 := by
  cases r <;> first | (cases e; done) | skip
  · rename_i a vs ds' h1 h2 hz
    cases e
    exact ⟨a, vs, rfl, .inr (same_t hs h1), h2, hz⟩
  · rename_i a vs ds' h1 h2 hz
    cases e
    exact ⟨a, vs, rfl, .inl (SqL.of (hs _ _ h1)), h2, hz⟩
  · rename_i a ns h1 hz
    cases e
    exact ⟨a, _, rfl, .inl (hs.seq h1), RL.ints ns, by rw [List.length_map]; exact hz⟩
  · rename_i a vs ds' fp h1 h2 hz
    unfold seqOf at e
    dsimp only at e
    split at e
    · rename_i hc
      cases e
      exact ⟨a, vs, rfl, .inl (SqL.of h1), h2.toData hc, hz⟩
    · cases e
theorem R.int_inv {K : Kx} {F H : Hp} {i : Int} {v : V} {fp : List Addr} (r : R K F H (.int i) v fp) : v = .int i := by cases r; rfl
theorem R.str_inv {K : Kx} {F H : Hp} {x : List Nat} {v : V} {fp : List Addr} (r : R K F H (.str x) v fp) : v = .str ⟨x.toArray⟩ ∧ StrOk x := by
  cases r with
  | str k => exact ⟨rfl, k⟩
theorem R.tup_inv {K : Kx} {F H : Hp} {ds : List D} {v : V} {fp : List Addr} (r : R K F H (.tup ds) v fp) : ∃ a vs, v = .ref a ∧ SqT K.k F a vs ∧ RL K F H ds vs [] ∧ ds.length ≤ 16777216 := by
  cases r with
  | tup h1 h2 hz => exact ⟨_, _, rfl, h1, h2, hz⟩
theorem str_app (x y : List Nat) : (⟨x.toArray⟩ : Str) ++ (⟨y.toArray⟩ : Str) = ⟨(x ++ y).toArray⟩ := by
  show Str.mk (x.toArray ++ y.toArray) = _
  rw [List.append_toArray]

/-! ### + -/
def pAdd : D → D → Option D
  | .int i, .int j => some (.int (i + j))
  | .str x, .str y => if x.length + y.length ≤ 16777216 then some (.str (x ++ y)) else none
  | .tup x, .tup y => if x.length + y.length ≤ 16777216 then some (.tup (x ++ y)) else none
  | x, y => match listOf x, listOf y with
    | some xs, some ys => if xs.length + ys.length ≤ 16777216 then some (.lst (xs ++ ys)) else none
    | _, _ => none
theorem op_int {o : Value → Value → Sem Value} {gg : Int → Int → V} {r : R2} (ho : OpR X o r) : OpR X o r := ho
theorem cat_new {K : Kx} {F H : Hp} {a b : Addr} {vs us : List V} {ds es : List D} {Q : VK} (hz : ds.length + es.length ≤ 16777216) (hs : Same F H) (hl : RL K F H ds vs []) (hr : RL K F H es us [])
    (h : ∀ v fp F' H', Grow F H F' H' → R K F' H' (.lst (ds ++ es)) v fp → Q v H') : ∀ p, H p = none → Q (.ref p) (upd H p (.lst (vs ++ us))) := fun p hp =>
  h _ [] _ _ (Grow.new hs hp) (.lst upd_same ((hl.app0 hr).grow (Grow.new hs hp)) (by rw [List.length_append]; exact hz))
theorem OpS.add (hK : X.K = E.K.k) : OpS X E (binaryOp .Add) pAdd := by
  refine ⟨_, op_add.or (op_add_str.or (op_catA.or op_cat)), fun F H x y d1 d2 fp1 fp2 d hs r1 r2 h Q q => ?_⟩
  have lists : ∀ xs ys, listOf d1 = some xs → listOf d2 = some ys → xs.length + ys.length ≤ 16777216 → d = .lst (xs ++ ys) → rCat x y H Q := by
    intro xs ys e1 e2 hl ed
    obtain ⟨a, vs, rfl, ha, la, _⟩ := listOf_at hs r1 e1
    obtain ⟨b, us, rfl, hb, lb, _⟩ := listOf_at hs r2 e2
    subst ed
    exact ⟨a, b, vs, us, rfl, rfl, ha, hb, by rw [la.len, lb.len, ← line_eq]; exact hl, cat_new (a := a) (b := b) hl hs la lb q⟩
  unfold pAdd at h
  split at h
  · cases r1; cases r2; cases h
    exact .inl ⟨_, _, rfl, rfl, q _ [] F H (Grow.refl hs) (.int _)⟩
  · rename_i x' y'
    split at h
    · rename_i hl
      cases h
      obtain ⟨rfl, k1⟩ := r1.str_inv
      obtain ⟨rfl, k2⟩ := r2.str_inv
      refine .inr (.inl ⟨_, _, rfl, rfl, ?_, ?_⟩)
      · show x'.toArray.size + y'.toArray.size ≤ sizeLine
        rw [List.size_toArray, List.size_toArray, ← line_eq]; exact hl
      · rw [str_app]
        exact q _ [] F H (Grow.refl hs) (.str (k1.app k2 hl))
    · cases h
  · rename_i x' y'
    split at h
    · rename_i hl
      cases h
      obtain ⟨a, vs, rfl, ha, la, _⟩ := r1.tup_inv
      obtain ⟨b, us, rfl, hb, lb, _⟩ := r2.tup_inv
      refine .inr (.inr (.inl ⟨a, b, vs, us, rfl, rfl, ?_, ?_, ?_, fun e0 => ?_, fun _ e0 => ?_, fun _ _ p hp => ?_⟩))
      · rw [hK]; exact same_t hs ha
      · rw [hK]; exact same_t hs hb
      · rw [la.len, lb.len, ← line_eq]; exact hl
      · subst e0
        have : x' = [] := by cases x' with | nil => rfl | cons _ _ => exact absurd la.len (by simp)
        subst this
        exact q _ [] F H (Grow.refl hs) (r2.toData rfl)
      · subst e0
        have : y' = [] := by cases y' with | nil => rfl | cons _ _ => exact absurd lb.len (by simp)
        subst this
        rw [List.append_nil] at q
        exact q _ [] F H (Grow.refl hs) (r1.toData rfl)
      · exact q _ [] _ _ (Grow.new hs hp) (.tup (SqT.of upd_same) ((la.app0 lb).grow (Grow.new hs hp)) (by rw [List.length_append]; exact hl))
    · cases h
  · split at h
    · rename_i xs ys e1 e2
      split at h
      · rename_i hl
        cases h
        exact .inr (.inr (.inr (lists xs ys e1 e2 hl rfl)))
      · cases h
    · cases h

/-! ### - * // % ** -/
def pSub : D → D → Option D
  | .int i, .int j => some (.int (i - j))
  | _, _ => none
theorem OpS.sub : OpS X E (binaryOp .Sub) pSub := by
  refine ⟨_, op_sub, fun F H x y d1 d2 fp1 fp2 d hs r1 r2 h Q q => ?_⟩
  unfold pSub at h
  split at h
  · cases r1; cases r2; cases h
    exact ⟨_, _, rfl, rfl, q _ [] F H (Grow.refl hs) (.int _)⟩
  · cases h
def smallI (i : Int) : Bool := decide (-18446744073709551616 < i) && decide (i < 18446744073709551616)
def repS (x : List Nat) (n : Int) : List Nat := (List.replicate n.toNat x).flatten
def pMul : D → D → Option D
  | .int i, .int j => if smallI i || smallI j then some (.int (i * j)) else none
  | .str x, .int n => if x.length * n.toNat ≤ 16777216 ∧ n < 16777216 ∧ -16777216 < n then some (.str (repS x n)) else none
  | _, _ => none
theorem op_mul_str : OpR X (binaryOp .Mult) (fun x y H Q => ∃ z n, x = .str z ∧ y = .int n ∧ MulOk z n ∧ Q (.str (Txt.mul z n)) H) := by
  intro pins s σ H x y v u Q I rx ry h
  obtain ⟨z, n, rfl, rfl, hz, q⟩ := h
  obtain ⟨t, rfl⟩ := rx
  obtain ⟨t', rfl⟩ := ry
  exact PySem.SB.mul hz fun t' tk => ⟨.str _, H, I.tok _, ⟨_, rfl⟩, q⟩
theorem fold_cps : ∀ (n : Nat) (x acc : List Nat), ((List.replicate n x.toArray).foldl (· ++ ·) acc.toArray) = (acc ++ (List.replicate n x).flatten).toArray
  | 0, x, acc => by simp
  | n + 1, x, acc => by
    rw [List.replicate_succ, List.foldl_cons, List.append_toArray, fold_cps n x (acc ++ x), List.replicate_succ, List.flatten_cons, List.append_assoc]
theorem txt_mul (x : List Nat) (n : Int) : Txt.mul ⟨x.toArray⟩ n = ⟨(repS x n).toArray⟩ := by
  unfold Txt.mul repS
  by_cases h : n < 1
  · rw [if_pos h]
    have e : n.toNat = 0 := by omega
    rw [e]
    rfl
  · rw [if_neg h]
    have hl : (⟨x.toArray⟩ : Str).length = x.length := by show x.toArray.size = _; exact List.size_toArray
    split
    · rename_i hc
      rw [Bool.or_eq_true, beq_iff_eq, beq_iff_eq, hl] at hc
      rcases hc with hc | hc
      · subst hc
        simp
      · have : x = [] := List.eq_nil_of_length_eq_zero hc
        subst this
        have : ∀ k : Nat, (List.replicate k ([] : List Nat)).flatten = [] := fun k => by simp
        rw [this]
    · have q := fold_cps n.toNat x []
      show Str.mk ((List.replicate n.toNat x.toArray).foldl (· ++ ·) #[]) = _
      rw [show (#[] : Array Nat) = ([] : List Nat).toArray from rfl, q, List.nil_append]
theorem mul_ok {x : List Nat} {n : Int} (h1 : x.length * n.toNat ≤ 16777216) (h2 : n < 16777216) (h3 : -16777216 < n) : MulOk ⟨x.toArray⟩ n := by
  have hl : (⟨x.toArray⟩ : Str).length = x.length := by show x.toArray.size = _; exact List.size_toArray
  refine ⟨?_, fun hn _ => ?_, fun hn _ => ?_⟩
  · rw [decide_eq_false (by omega), decide_eq_false (by omega)]; rfl
  · rw [hl]
    intro hc
    have hn1 : 0 < n := by omega
    have e : ((x.length : Nat) : Int) * n ≤ 16777216 := by
      have e1 : (n.toNat : Int) = n := by omega
      have e2 : (((x.length * n.toNat : Nat)) : Int) = (x.length : Int) * n := by rw [Int.natCast_mul, e1]
      omega
    have h4 : ((2 : Int) ^ 63 - 1) / n + 1 ≤ (x.length : Int) := by omega
    have h5 : (((2 : Int) ^ 63 - 1) / n + 1) * n ≤ (x.length : Int) * n := Int.mul_le_mul_of_nonneg_right h4 (by omega)
    have h6 := Int.lt_ediv_add_one_mul_self ((2 : Int) ^ 63 - 1) hn1
    omega
  · rw [hl]
    show PySem.Builtin.Str.tooLong _ = false
    unfold PySem.Builtin.Str.tooLong
    exact decide_eq_false (by have := line_eq; omega)
theorem repS_len (x : List Nat) (n : Int) : (repS x n).length = x.length * n.toNat := by
  unfold repS
  rw [List.length_flatten, List.map_replicate, List.sum_replicate_nat, Nat.mul_comm]
theorem StrOk.rep {x : List Nat} {n : Int} (hx : StrOk x) (h : x.length * n.toNat ≤ 16777216) : StrOk (repS x n) := by
  refine ⟨by rw [repS_len, ← line_eq]; exact h, fun c hc => ?_⟩
  unfold repS at hc
  obtain ⟨l, hl, hcl⟩ := List.mem_flatten.mp hc
  rw [List.eq_of_mem_replicate hl] at hcl
  exact hx.cps c hcl
theorem smallI_of {i : Int} (h : smallI i = true) : -(2 ^ 64) < i ∧ i < 2 ^ 64 := by
  unfold smallI at h
  rw [Bool.and_eq_true] at h
  have h1 := of_decide_eq_true h.1
  have h2 := of_decide_eq_true h.2
  omega
theorem OpS.mul : OpS X E (binaryOp .Mult) pMul := by
  refine ⟨_, op_mul.or op_mul_str, fun F H x y d1 d2 fp1 fp2 d hs r1 r2 h Q q => ?_⟩
  unfold pMul at h
  split at h
  · split at h
    · rename_i hc
      cases r1; cases r2; cases h
      rw [Bool.or_eq_true] at hc
      exact .inl ⟨_, _, rfl, rfl, hc.imp smallI_of smallI_of, q _ [] F H (Grow.refl hs) (.int _)⟩
    · cases h
  · split at h
    · rename_i hc
      cases h
      obtain ⟨rfl, k1⟩ := r1.str_inv
      obtain rfl := r2.int_inv
      refine .inr ⟨_, _, rfl, rfl, mul_ok hc.1 hc.2.1 hc.2.2, ?_⟩
      rw [txt_mul]
      exact q _ [] F H (Grow.refl hs) (.str (k1.rep hc.1))
    · cases h
  · cases h
def pDiv : D → D → Option D
  | .int i, .int j => if 0 < j ∧ j < 1073741824 then some (.int (i / j)) else none
  | _, _ => none
theorem OpS.div : OpS X E (binaryOp .FloorDiv) pDiv := by
  refine ⟨_, op_fdiv, fun F H x y d1 d2 fp1 fp2 d hs r1 r2 h Q q => ?_⟩
  unfold pDiv at h
  split at h
  · split at h
    · rename_i hc
      cases r1; cases r2; cases h
      exact ⟨_, _, rfl, rfl, hc, q _ [] F H (Grow.refl hs) (.int _)⟩
    · cases h
  · cases h
def pMod : D → D → Option D
  | .int i, .int j => if 0 < j then some (.int (i % j)) else none
  | _, _ => none
theorem OpS.mod : OpS X E (binaryOp .Mod) pMod := by
  refine ⟨_, op_mod, fun F H x y d1 d2 fp1 fp2 d hs r1 r2 h Q q => ?_⟩
  unfold pMod at h
  split at h
  · split at h
    · rename_i hc
      cases r1; cases r2; cases h
      exact ⟨_, _, rfl, rfl, hc, q _ [] F H (Grow.refl hs) (.int _)⟩
    · cases h
  · cases h
def pPow : D → D → Option D
  | .int i, .int j => if 0 ≤ j ∧ j ≤ 1000000 ∧ i.natAbs < 18446744073709551616 then some (.int (i ^ j.toNat)) else none
  | _, _ => none
theorem OpS.pow : OpS X E (binaryOp .Pow) pPow := by
  refine ⟨_, op_pow, fun F H x y d1 d2 fp1 fp2 d hs r1 r2 h Q q => ?_⟩
  unfold pPow at h
  split at h
  · split at h
    · rename_i hc
      cases r1; cases r2; cases h
      exact ⟨_, _, rfl, rfl, ⟨hc.1, hc.2.1, by have := hc.2.2; omega⟩, q _ [] F H (Grow.refl hs) (.int _)⟩
    · cases h
  · cases h

/-! ### comparisons -/
def ltL : List Nat → List Nat → Bool := fun x y => decide (x < y)
def pLt : D → D → Option D
  | .int i, .int j => some (.bl (decide (i < j)))
  | .str x, .str y => some (.bl (ltL x y))
  | _, _ => none
def pLe : D → D → Option D
  | .int i, .int j => some (.bl (decide (i ≤ j)))
  | .str x, .str y => some (.bl (!ltL y x))
  | _, _ => none
def pGt : D → D → Option D
  | .int i, .int j => some (.bl (decide (j < i)))
  | .str x, .str y => some (.bl (ltL y x))
  | _, _ => none
def pGe : D → D → Option D
  | .int i, .int j => some (.bl (decide (j ≤ i)))
  | .str x, .str y => some (.bl (!ltL x y))
  | _, _ => none
theorem OpS.lt : OpS X E (compareOp .Lt) pLt := by
  refine ⟨_, op_lt.or op_lt_str, fun F H x y d1 d2 fp1 fp2 d hs r1 r2 h Q q => ?_⟩
  unfold pLt at h
  split at h <;> cases h
  · cases r1; cases r2
    exact .inl ⟨_, _, rfl, rfl, q _ [] F H (Grow.refl hs) (.bl _)⟩
  · obtain ⟨rfl, k1⟩ := r1.str_inv
    obtain ⟨rfl, k2⟩ := r2.str_inv
    exact .inr ⟨_, _, rfl, rfl, q _ [] F H (Grow.refl hs) (.bl _)⟩
theorem OpS.le : OpS X E (compareOp .LtE) pLe := by
  refine ⟨_, op_le.or op_le_str, fun F H x y d1 d2 fp1 fp2 d hs r1 r2 h Q q => ?_⟩
  unfold pLe at h
  split at h <;> cases h
  · cases r1; cases r2
    exact .inl ⟨_, _, rfl, rfl, q _ [] F H (Grow.refl hs) (.bl _)⟩
  · obtain ⟨rfl, k1⟩ := r1.str_inv
    obtain ⟨rfl, k2⟩ := r2.str_inv
    exact .inr ⟨_, _, rfl, rfl, q _ [] F H (Grow.refl hs) (.bl _)⟩
theorem OpS.gt : OpS X E (compareOp .Gt) pGt := by
  refine ⟨_, op_gt.or op_gt_str, fun F H x y d1 d2 fp1 fp2 d hs r1 r2 h Q q => ?_⟩
  unfold pGt at h
  split at h <;> cases h
  · cases r1; cases r2
    exact .inl ⟨_, _, rfl, rfl, q _ [] F H (Grow.refl hs) (.bl _)⟩
  · obtain ⟨rfl, k1⟩ := r1.str_inv
    obtain ⟨rfl, k2⟩ := r2.str_inv
    exact .inr ⟨_, _, rfl, rfl, q _ [] F H (Grow.refl hs) (.bl _)⟩
theorem OpS.ge : OpS X E (compareOp .GtE) pGe := by
  refine ⟨_, op_ge.or op_ge_str, fun F H x y d1 d2 fp1 fp2 d hs r1 r2 h Q q => ?_⟩
  unfold pGe at h
  split at h <;> cases h
  · cases r1; cases r2
    exact .inl ⟨_, _, rfl, rfl, q _ [] F H (Grow.refl hs) (.bl _)⟩
  · obtain ⟨rfl, k1⟩ := r1.str_inv
    obtain ⟨rfl, k2⟩ := r2.str_inv
    exact .inr ⟨_, _, rfl, rfl, q _ [] F H (Grow.refl hs) (.bl _)⟩
/-! equality -/
mutual
def eqv : D → D → Bool
  | .non, .non => true
  | .bl a, .bl b => a == b
  | .bl a, .int j => (if a then 1 else 0) == j
  | .int i, .bl b => i == (if b then 1 else 0)
  | .int i, .int j => i == j
  | .str x, .str y => x == y
  | .tup xs, .tup ys => eqvL xs ys
  | .lst xs, .lst ys => eqvL xs ys
  | .lst xs, .olst ys => eqvL xs ys
  | .olst xs, .lst ys => eqvL xs ys
  | .olst xs, .olst ys => eqvL xs ys
  | _, _ => false
def eqvL : List D → List D → Bool
  | [], [] => true
  | x :: xs, y :: ys => eqv x y && eqvL xs ys
  | [], _ :: _ => false
  | _ :: _, [] => false
end
mutual
def toPy : D → PyData
  | .bl b => .bool b
  | .int i => .int i
  | .str x => .str ⟨x.toArray⟩
  | .tup xs => .tuple (toPyL xs)
  | .lst xs => .list (toPyL xs)
  | .olst xs => .list (toPyL xs)
  | _ => .none
def toPyL : List D → List PyData
  | [] => []
  | x :: xs => toPy x :: toPyL xs
end
mutual
/-- may be compared: data of at most n levels -/
def okPy : Nat → D → Bool
  | _, .non => true
  | _, .bl _ => true
  | _, .int _ => true
  | _, .str _ => true
  | n + 1, .tup xs => okPyL n xs
  | n + 1, .lst xs => okPyL n xs
  | n + 1, .olst xs => okPyL n xs
  | _, _ => false
def okPyL : Nat → List D → Bool
  | _, [] => true
  | n, x :: xs => okPy n x && okPyL n xs
end

theorem str_beq (x y : List Nat) : ((⟨x.toArray⟩ : Str) == (⟨y.toArray⟩ : Str)) = (x == y) := by
  by_cases h : x = y
  · subst h; simp
  · have h2 : ¬ ((⟨x.toArray⟩ : Str) = ⟨y.toArray⟩) := fun e => h (by
      have := congrArg Str.cps e
      simpa using this)
    rw [beq_eq_false_iff_ne.mpr h, beq_eq_false_iff_ne.mpr h2]
mutual
theorem eqv_py : ∀ (n : Nat) (a b : D) (m : Nat), okPy n a = true → okPy m b = true → PyData.eqv (toPy a) (toPy b) = eqv a b := by
  intro n a b m h1 h2
  cases a <;> (try (cases n <;> simp [okPy] at h1; done)) <;> cases b <;> (try (cases m <;> simp [okPy] at h2; done)) <;> (try (simp only [toPy, PyData.eqv, eqv]; done)) <;> (try (simp only [toPy, PyData.eqv, eqv, str_beq]; done))
  all_goals
    cases n with
    | zero => cases h1
    | succ n =>
      cases m with
      | zero => cases h2
      | succ m =>
        simp only [toPy, PyData.eqv, eqv]
        exact eqvL_py n _ _ m (by simpa only [okPy] using h1) (by simpa only [okPy] using h2)
theorem eqvL_py : ∀ (n : Nat) (a b : List D) (m : Nat), okPyL n a = true → okPyL m b = true → PyData.eqvAll (toPyL a) (toPyL b) = eqvL a b := by
  intro n a b m h1 h2
  cases a with
  | nil => cases b <;> simp only [toPyL, PyData.eqvAll, eqvL]
  | cons x xs =>
    cases b with
    | nil => simp only [toPyL, PyData.eqvAll, eqvL]
    | cons y ys =>
      simp only [okPyL, Bool.and_eq_true] at h1 h2
      simp only [toPyL, PyData.eqvAll, eqvL]
      rw [eqv_py n x y m h1.1 h2.1, eqvL_py n xs ys m h1.2 h2.2]
end

mutual
theorem R.dp {K : Kx} {F H : Hp} (hs : Same F H) : ∀ (n : Nat) (d : D) {v : V} {fp : List Addr}, okPy n d = true → R K F H d v fp → Dp K.k H v (toPy d) ∧ (toPy d).canLay0 = true ∧ (toPy d).depth ≤ n := by
  intro n d v fp ho r
  cases d <;> (try (cases n <;> simp [okPy] at ho; done))
  · cases r; exact ⟨.non, rfl, Nat.zero_le _⟩
  · cases r; exact ⟨.bl _, rfl, Nat.zero_le _⟩
  · cases r; exact ⟨.int _, rfl, Nat.zero_le _⟩
  · obtain ⟨rfl, k⟩ := r.str_inv
    rename_i x
    refine ⟨.str _, ?_, Nat.zero_le _⟩
    show PySem.PyData.strOk ⟨x.toArray⟩ = true
    unfold PySem.PyData.strOk
    rw [Array.all_eq_true_iff_forall_mem]
    intro c hc
    exact decide_eq_true (k.cps c (by simpa using hc))
  all_goals
    cases n with
    | zero => cases ho
    | succ n =>
      have ho' : okPyL n _ = true := ho
      cases r
      rename_i h1 h2 hz
      obtain ⟨q1, q2, q3⟩ := RL.dp hs n _ ho' h2
      refine ⟨?_, ?_, ?_⟩
      · first
          | exact .tup (same_t hs h1) q1
          | exact .lst (SqL.of (hs _ _ h1)) q1
          | exact .lst (SqL.of h1) q1
      · simp only [toPy, PyData.canLay0]; exact q2
      · simp only [toPy, PyData.depth]; omega
theorem RL.dp {K : Kx} {F H : Hp} (hs : Same F H) : ∀ (n : Nat) (ds : List D) {vs : List V} {fp : List Addr}, okPyL n ds = true → RL K F H ds vs fp → DpAll K.k H vs (toPyL ds) ∧ PyData.canLayAll0 (toPyL ds) = true ∧ PyData.depthAll (toPyL ds) ≤ n := by
  intro n ds vs fp ho r
  cases ds with
  | nil => cases r; exact ⟨.nil, rfl, Nat.zero_le _⟩
  | cons d ds =>
    simp only [okPyL, Bool.and_eq_true] at ho
    cases r with
    | cons h1 h2 =>
      obtain ⟨q1, q2, q3⟩ := R.dp hs n d ho.1 h1
      obtain ⟨p1, p2, p3⟩ := RL.dp hs n ds ho.2 h2
      refine ⟨.cons q1 p1, ?_, ?_⟩
      · simp only [toPyL, PyData.canLayAll0, q2, p2, Bool.and_self]
      · simp only [toPyL, PyData.depthAll]; omega
end
theorem shaped_of {d : PyData} {n : Nat} (h : d.canLay0 = true) (hd : d.depth ≤ n) (hn : n ≤ 64) : SeqAt.shaped d = true := by
  unfold SeqAt.shaped
  rw [h, decide_eq_true (Nat.le_trans hd hn)]
  rfl
def pEq (a b : D) : Option D := if okPy 60 a && okPy 60 b then some (.bl (eqv a b)) else none
def pNe (a b : D) : Option D := if okPy 60 a && okPy 60 b then some (.bl (!eqv a b)) else none
theorem OpS.eq (hK : X.K = E.K.k) (hu : X.A.units + 64 < cLine) : OpS X E (compareOp .Eq) pEq := by
  refine ⟨_, op_eqD hu, fun F H x y d1 d2 fp1 fp2 d hs r1 r2 h Q q => ?_⟩
  unfold pEq at h
  split at h
  · rename_i hc
    rw [Bool.and_eq_true] at hc
    cases h
    obtain ⟨q1, q2, q3⟩ := R.dp hs 60 d1 hc.1 r1
    obtain ⟨p1, p2, p3⟩ := R.dp hs 60 d2 hc.2 r2
    refine ⟨_, _, by rw [hK]; exact q1, by rw [hK]; exact p1, shaped_of q2 q3 (by decide), shaped_of p2 p3 (by decide), ?_⟩
    rw [eqv_py 60 d1 d2 60 hc.1 hc.2]
    exact q _ [] F H (Grow.refl hs) (.bl _)
  · cases h
theorem OpS.ne (hK : X.K = E.K.k) (hu : X.A.units + 64 < cLine) : OpS X E (compareOp .NotEq) pNe := by
  refine ⟨_, op_neD hu, fun F H x y d1 d2 fp1 fp2 d hs r1 r2 h Q q => ?_⟩
  unfold pNe at h
  split at h
  · rename_i hc
    rw [Bool.and_eq_true] at hc
    cases h
    obtain ⟨q1, q2, q3⟩ := R.dp hs 60 d1 hc.1 r1
    obtain ⟨p1, p2, p3⟩ := R.dp hs 60 d2 hc.2 r2
    refine ⟨_, _, by rw [hK]; exact q1, by rw [hK]; exact p1, shaped_of q2 q3 (by decide), shaped_of p2 p3 (by decide), ?_⟩
    rw [eqv_py 60 d1 d2 60 hc.1 hc.2]
    exact q _ [] F H (Grow.refl hs) (.bl _)
  · cases h
def isNon : D → Bool
  | .non => true
  | _ => false
def pIs (a b : D) : Option D := match b with
  | .non => some (.bl (isNon a))
  | _ => none
def pIsnt (a b : D) : Option D := match b with
  | .non => some (.bl (!isNon a))
  | _ => none
theorem isNon_at {K : Kx} {F H : Hp} {d : D} {v : V} {fp : List Addr} (r : R K F H d v fp) : decide (v = V.non) = isNon d := by
  cases r <;> rfl
theorem OpS.is : OpS X E (compareOp .Is) pIs := by
  refine ⟨_, op_isN, fun F H x y d1 d2 fp1 fp2 d hs r1 r2 h Q q => ?_⟩
  unfold pIs at h
  split at h <;> cases h
  cases r2
  refine ⟨rfl, ?_⟩
  rw [isNon_at r1]
  exact q _ [] F H (Grow.refl hs) (.bl _)
theorem OpS.isnt : OpS X E (compareOp .IsNot) pIsnt := by
  refine ⟨_, op_notN, fun F H x y d1 d2 fp1 fp2 d hs r1 r2 h Q q => ?_⟩
  unfold pIsnt at h
  split at h <;> cases h
  cases r2
  refine ⟨rfl, ?_⟩
  rw [isNon_at r1]
  exact q _ [] F H (Grow.refl hs) (.bl _)
/-! in -/
def pIn (a b : D) : Option D := match b with
  | .str y => match a with
    | .str [c] => some (.bl (decide (c ∈ y)))
    | _ => none
  | .tup ys => if okPy 60 a && okPyL 60 ys then some (.bl (ys.any fun z => eqv z a)) else none
  | .lst ys => if okPy 60 a && okPyL 60 ys then some (.bl (ys.any fun z => eqv z a)) else none
  | .olst ys => if okPy 60 a && okPyL 60 ys then some (.bl (ys.any fun z => eqv z a)) else none
  | _ => none
def notO : Option D → Option D
  | some (.bl b) => some (.bl (!b))
  | _ => none
def pNotIn (a b : D) : Option D := notO (pIn a b)
theorem any_py : ∀ (ys : List D) (a : D) (n m : Nat), okPy n a = true → okPyL m ys = true → ((toPyL ys).any fun z => PyData.eqv z (toPy a)) = ys.any fun z => eqv z a
  | [], _, _, _, _, _ => rfl
  | y :: ys, a, n, m, h1, h2 => by
    simp only [okPyL, Bool.and_eq_true] at h2
    simp only [toPyL, List.any_cons]
    rw [eqv_py m y a n h2.1 h1, any_py ys a n m h1 h2.2]

def rInDT (K : PySem.W.Frag) : R2 := fun x y H Q => ∃ d ds, Dp K H x d ∧ Dp K H y (.tuple ds) ∧ SeqAt.shaped d = true ∧ SeqAt.shaped (.tuple ds) = true ∧ Q (.bl (ds.any fun z => PyData.eqv z d)) H
def rNotInDT (K : PySem.W.Frag) : R2 := fun x y H Q => ∃ d ds, Dp K H x d ∧ Dp K H y (.tuple ds) ∧ SeqAt.shaped d = true ∧ SeqAt.shaped (.tuple ds) = true ∧ Q (.bl (!ds.any fun z => PyData.eqv z d)) H
theorem op_inDT (hu : X.A.units + 65 < cLine) : OpR X (compareOp .In) (rInDT X.K) := by
  intro pins s σ H x y v u Q I rx ry h
  obtain ⟨d, ds, hd, he, sd, se, q⟩ := h
  obtain ⟨as, r1⟩ := Dp.reads I d x v hd rx
  obtain ⟨bs, r2⟩ := Dp.reads I (.tuple ds) y u he ry
  exact SeqAt.in_tuple_reads r2 r1 (SeqAt.canLay_of_shaped se) (SeqAt.canLay_of_shaped sd) (PyProof.Rows.room_in_shaped sd hu) ⟨.bl _, H, I, rfl, q⟩
theorem op_notInDT (hu : X.A.units + 65 < cLine) : OpR X (compareOp .NotIn) (rNotInDT X.K) := by
  intro pins s σ H x y v u Q I rx ry h
  obtain ⟨d, ds, hd, he, sd, se, q⟩ := h
  obtain ⟨as, r1⟩ := Dp.reads I d x v hd rx
  obtain ⟨bs, r2⟩ := Dp.reads I (.tuple ds) y u he ry
  exact SeqAt.notIn_tuple_reads r2 r1 (SeqAt.canLay_of_shaped se) (SeqAt.canLay_of_shaped sd) (PyProof.Rows.room_in_shaped sd hu) ⟨.bl _, H, I, rfl, q⟩
theorem dp_list {K : Kx} {F H : Hp} {ys : List D} {v : V} {fp : List Addr} {d : D} (hd : d = .lst ys ∨ d = .olst ys) (hs : Same F H) (ho : okPyL 60 ys = true) (r : R K F H d v fp) : Dp K.k H v (.list (toPyL ys)) ∧ SeqAt.shaped (.list (toPyL ys)) = true := by
  rcases hd with rfl | rfl
  · obtain ⟨q1, q2, q3⟩ := R.dp hs 61 (.lst ys) (by simpa only [okPy] using ho) r
    exact ⟨q1, shaped_of q2 q3 (by decide)⟩
  · obtain ⟨q1, q2, q3⟩ := R.dp hs 61 (.olst ys) (by simpa only [okPy] using ho) r
    exact ⟨q1, shaped_of q2 q3 (by decide)⟩
theorem dp_tup {K : Kx} {F H : Hp} {ys : List D} {v : V} {fp : List Addr} (hs : Same F H) (ho : okPyL 60 ys = true) (r : R K F H (.tup ys) v fp) : Dp K.k H v (.tuple (toPyL ys)) ∧ SeqAt.shaped (.tuple (toPyL ys)) = true := by
  obtain ⟨q1, q2, q3⟩ := R.dp hs 61 (.tup ys) (by simpa only [okPy] using ho) r
  exact ⟨q1, shaped_of q2 q3 (by decide)⟩
theorem OpS.isin (hK : X.K = E.K.k) (hu : X.A.units + 65 < cLine) : OpS X E (compareOp .In) pIn := by
  refine ⟨_, op_in_sign.or ((op_inD hu).or (op_inDT hu)), fun F H x y d1 d2 fp1 fp2 d hs r1 r2 h Q q => ?_⟩
  unfold pIn at h
  split at h
  · split at h <;> cases h
    obtain ⟨rfl, k1⟩ := r1.str_inv
    obtain ⟨rfl, k2⟩ := r2.str_inv
    refine .inl ⟨_, _, rfl, rfl, ?_⟩
    exact q _ [] F H (Grow.refl hs) (.bl _)
  all_goals (try (cases h; done))
  all_goals
    split at h
    · rename_i hc
      rw [Bool.and_eq_true] at hc
      cases h
      obtain ⟨q1, q2, q3⟩ := R.dp hs 60 d1 hc.1 r1
      rw [← any_py _ d1 60 60 hc.1 hc.2] at q
      first
        | (obtain ⟨p1, p2⟩ := dp_tup hs hc.2 r2
           refine .inr (.inr ⟨_, _, by rw [hK]; exact q1, by rw [hK]; exact p1, shaped_of q2 q3 (by decide), p2, ?_⟩)
           exact q _ [] F H (Grow.refl hs) (.bl _))
        | (obtain ⟨p1, p2⟩ := dp_list (.inl rfl) hs hc.2 r2
           refine .inr (.inl ⟨_, _, by rw [hK]; exact q1, by rw [hK]; exact p1, shaped_of q2 q3 (by decide), p2, ?_⟩)
           exact q _ [] F H (Grow.refl hs) (.bl _))
        | (obtain ⟨p1, p2⟩ := dp_list (.inr rfl) hs hc.2 r2
           refine .inr (.inl ⟨_, _, by rw [hK]; exact q1, by rw [hK]; exact p1, shaped_of q2 q3 (by decide), p2, ?_⟩)
           exact q _ [] F H (Grow.refl hs) (.bl _))
    · cases h
theorem OpS.notin (hK : X.K = E.K.k) (hu : X.A.units + 65 < cLine) : OpS X E (compareOp .NotIn) pNotIn := by
  refine ⟨_, op_notIn_sign.or ((op_notInD hu).or (op_notInDT hu)), fun F H x y d1 d2 fp1 fp2 d hs r1 r2 h Q q => ?_⟩
  unfold pNotIn pIn at h
  split at h
  · split at h <;> cases h
    obtain ⟨rfl, k1⟩ := r1.str_inv
    obtain ⟨rfl, k2⟩ := r2.str_inv
    refine .inl ⟨_, _, rfl, rfl, ?_⟩
    exact q _ [] F H (Grow.refl hs) (.bl _)
  all_goals (try (cases h; done))
  all_goals
    split at h
    · rename_i hc
      rw [Bool.and_eq_true] at hc
      cases h
      obtain ⟨q1, q2, q3⟩ := R.dp hs 60 d1 hc.1 r1
      rw [← any_py _ d1 60 60 hc.1 hc.2] at q
      first
        | (obtain ⟨p1, p2⟩ := dp_tup hs hc.2 r2
           refine .inr (.inr ⟨_, _, by rw [hK]; exact q1, by rw [hK]; exact p1, shaped_of q2 q3 (by decide), p2, ?_⟩)
           exact q _ [] F H (Grow.refl hs) (.bl _))
        | (obtain ⟨p1, p2⟩ := dp_list (.inl rfl) hs hc.2 r2
           refine .inr (.inl ⟨_, _, by rw [hK]; exact q1, by rw [hK]; exact p1, shaped_of q2 q3 (by decide), p2, ?_⟩)
           exact q _ [] F H (Grow.refl hs) (.bl _))
        | (obtain ⟨p1, p2⟩ := dp_list (.inr rfl) hs hc.2 r2
           refine .inr (.inl ⟨_, _, by rw [hK]; exact q1, by rw [hK]; exact p1, shaped_of q2 q3 (by decide), p2, ?_⟩)
           exact q _ [] F H (Grow.refl hs) (.bl _))
    · cases h

/-! ### x[i], x[a:b] -/
def pIx (a b : D) : Option D := match b with
  | .int i => match a with
    | .str x => (atI x i).map fun c => .str [c]
    | .tup xs => atI xs i
    | .lst xs => atI xs i
    | .olst xs => (atI xs i).bind fun d => if isData d then some d else none
    | .scr ns => (atI ns i).map D.int
    | _ => none
  | _ => none
theorem atI_ix {α : Type} {xs : List α} {i : Int} {x : α} (h : atI xs i = some x) : ∃ j, ixN xs.length i = some j ∧ xs[j]? = some x := by
  unfold atI at h
  cases e : ixN xs.length i with
  | none => rw [e] at h; cases h
  | some j => rw [e] at h; exact ⟨j, rfl, h⟩
theorem atI_rel {K : Kx} {F H : Hp} {ds : List D} {vs : List V} {i : Int} {d : D} (h : RL K F H ds vs []) (e : atI ds i = some d) : ∃ v, atI vs i = some v ∧ R K F H d v [] := by
  obtain ⟨j, e1, e2⟩ := atI_ix e
  obtain ⟨v, h1, h2⟩ := h.get0 e2
  refine ⟨v, ?_, h2⟩
  unfold atI
  rw [h.len, e1]
  exact h1
theorem RL.get : ∀ {K : Kx} {F H : Hp} {ds : List D} {vs : List V} {fp : List Addr} {i : Nat} {d : D}, RL K F H ds vs fp → ds[i]? = some d → ∃ v fq, vs[i]? = some v ∧ R K F H d v fq
  | _, _, _, _, _, _, _, _, .nil, e => by simp at e
  | _, _, _, _, _, _, 0, _, .cons r _, e => by simp at e; subst e; exact ⟨_, _, rfl, r⟩
  | _, _, _, _, _, _, i + 1, _, .cons _ t, e => by
    obtain ⟨v, fq, h1, h2⟩ := RL.get (i := i) t (by simpa using e)
    exact ⟨v, fq, by simpa using h1, h2⟩
theorem atI_rel2 {K : Kx} {F H : Hp} {ds : List D} {vs : List V} {fp : List Addr} {i : Int} {d : D} (h : RL K F H ds vs fp) (e : atI ds i = some d) : ∃ v fq, atI vs i = some v ∧ R K F H d v fq := by
  obtain ⟨j, e1, e2⟩ := atI_ix e
  obtain ⟨v, fq, h1, h2⟩ := h.get e2
  refine ⟨v, fq, ?_, h2⟩
  unfold atI
  rw [h.len, e1]
  exact h1
theorem SE.ix (ha : SE X E W a f) (hb : SE X E W b g) (hp : PlainIx b := by exact fun _ _ => rfl) : SE X E W (.Subscript a b pos) (eBin pIx f g) := by
  obtain ⟨ta, pa, ka⟩ := ha.ex
  obtain ⟨tb, pb, kb⟩ := hb.ex
  refine ⟨ha.hK, _, pe_ix ix_seq pa pb hp, two_ok ka kb fun F H x y d1 d2 fp1 fp2 d hs r1 r2 h Q q => ?_⟩
  unfold pIx at h
  split at h
  · rename_i dd i
    obtain rfl := r2.int_inv
    split at h
    · rename_i x'
      obtain ⟨rfl, k1⟩ := r1.str_inv
      cases ec : atI x' i with
      | none => rw [ec] at h; cases h
      | some c =>
        rw [ec] at h
        cases h
        refine .inr (.inr ⟨_, _, c, rfl, rfl, ?_, ec, ?_⟩)
        · show x'.toArray.size ≤ sizeLine
          rw [List.size_toArray]; exact k1.len
        · obtain ⟨j, _, e2⟩ := atI_ix ec
          exact q _ [] F H (Grow.refl hs) (.str ⟨by show 1 ≤ sizeLine; decide, fun c' hc => by rw [List.mem_singleton.mp hc]; exact k1.cps c (List.mem_of_getElem? e2)⟩)
    · obtain ⟨p, vs, rfl, hp', hl, _⟩ := r1.tup_inv
      obtain ⟨v, e1, e2⟩ := atI_rel hl h
      exact .inr (.inl ⟨p, vs, _, v, rfl, rfl, by rw [ha.hK]; exact same_t hs hp', e1, q _ [] F H (Grow.refl hs) e2⟩)
    · cases r1 with
      | lst hp' hl =>
        obtain ⟨v, e1, e2⟩ := atI_rel hl h
        exact .inl ⟨_, _, _, v, rfl, rfl, SqL.of (hs _ _ hp'), e1, q _ [] F H (Grow.refl hs) e2⟩
    · cases r1 with
      | olst hp' hl =>
        rename_i xs _ _ _ _
        cases ec : atI xs i with
        | none => rw [ec] at h; cases h
        | some c =>
          rw [ec] at h
          simp only [Option.bind_some] at h
          split at h
          · rename_i hd
            cases h
            obtain ⟨v, fq, e1, e2⟩ := atI_rel2 hl ec
            exact .inl ⟨_, _, _, v, rfl, rfl, SqL.of hp', e1, q _ fq F H (Grow.refl hs) e2⟩
          · cases h
    · cases r1 with
      | scr hp' =>
        rename_i ns _ _
        cases ec : atI ns i with
        | none => rw [ec] at h; cases h
        | some c =>
          rw [ec] at h
          cases h
          have e0 : atI (ns.map D.int) i = some (.int c) := by
            obtain ⟨j, e1, e2⟩ := atI_ix ec
            unfold atI
            rw [List.length_map, e1]
            show (ns.map D.int)[j]? = _
            rw [List.getElem?_map, e2]; rfl
          obtain ⟨v, e1, e2⟩ := atI_rel (K := E.K) (F := F) (H := H) (RL.ints ns) e0
          exact .inl ⟨_, _, _, v, rfl, rfl, by rw [ha.hK]; exact hs.seq hp', e1, q _ [] F H (Grow.refl hs) e2⟩
    · cases h
  · cases h
end
end Z

set_option Elab.async false
set_option linter.all false
set_option maxRecDepth 100000
set_option maxHeartbeats 1000000
namespace Z
open PySem L2
section
variable {X : Cx} {E : Ent} {W : WX} {e a b : Expr} {f g : En → Rs D} {pos : Pos}
/-! ### slices -/
def PostO (E : Ent) (W : WX) (F H : Hp) (σ : St) (Q : Option Int → Hp → Prop) : Rs (Option Int) → Prop
  | .ok o => ∀ F' H', Grow F H F' H' → Q o H'
  | .ex x => ∀ cls dd F' H', Grow F H F' H' → Rx E.K F' H' x cls dd → W cls dd σ H'
  | .un => False
structure SO (X : Cx) (E : Ent) (W : WX) (e : Option Expr) (f : En → Rs (Option Int)) : Prop where
  ex : ∃ t, PO X e t ∧ ∀ F σ H env, Stt E F env σ H → ∀ Q, PostO E W F H σ Q (f env) → t σ H Q
def oNone : En → Rs (Option Int) := fun _ => .ok none
def asI : D → Rs (Option Int)
  | .int i => .ok (some i)
  | _ => .un
def oSome (f : En → Rs D) : En → Rs (Option Int) := fun env => (f env).bind asI
theorem SO.none : SO X E W none oNone := ⟨_, po_none, fun F σ H env S Q q => q F H (Grow.refl S.fH)⟩
theorem SO.some (h : SE X E W e f) : SO X E W (some e) (oSome f) := by
  obtain ⟨t, p, k⟩ := h.ex
  refine ⟨_, po_some p, fun F σ H env S Q q => ?_⟩
  refine k F σ H env S _ ?_
  unfold oSome at q
  cases e : f env with
  | un => rw [e] at q; exact q
  | ex x => rw [e] at q; exact q
  | ok d =>
    rw [e, Rs.bind_ok] at q
    intro v fp F' H' G r
    cases d <;> first | exact q.elim | skip
    cases r
    exact ⟨_, rfl, q F' H' G⟩
def cutL {α : Type} (xs : List α) (lo hi : Option Int) : List α := (xs.drop (HT.sIx xs.length 0 lo)).take (HT.sIx xs.length xs.length hi - HT.sIx xs.length 0 lo)
def pSl (d : D) (lo hi : Option Int) : Option D := match d with
  | .str x => some (.str (cutL x lo hi))
  | .tup xs => some (.tup (cutL xs lo hi))
  | d => (listOf d).map fun xs => .lst (cutL xs lo hi)
def eSl (f : En → Rs D) (lo hi : En → Rs (Option Int)) : En → Rs D := fun env => (f env).bind fun d => (lo env).bind fun l => (hi env).bind fun h => ofO (pSl d l h)
theorem cut_str (x : List Nat) (lo hi : Option Int) : cutS ⟨x.toArray⟩ lo hi = ⟨(cutL x lo hi).toArray⟩ := by
  unfold cutS cutL
  have hl : (⟨x.toArray⟩ : Str).length = x.length := by show x.toArray.size = _; exact List.size_toArray
  rw [hl]
theorem RL.cut {K : Kx} {F H : Hp} {ds : List D} {vs : List V} (h : RL K F H ds vs []) (lo hi : Option Int) : RL K F H (cutL ds lo hi) (cutV vs lo hi) [] := by
  unfold cutL cutV
  rw [h.len]
  exact (h.drop0 _).take0 _
theorem cutL_sub {α : Type} (x : List α) (lo hi : Option Int) : (cutL x lo hi).length ≤ x.length ∧ ∀ c ∈ cutL x lo hi, c ∈ x := by
  unfold cutL
  refine ⟨?_, fun c hc => List.mem_of_mem_drop (List.mem_of_mem_take hc)⟩
  rw [List.length_take, List.length_drop]; omega
theorem cutL_whole {α : Type} {xs : List α} {lo hi : Option Int} (h : HT.sIx xs.length 0 lo = 0 ∧ HT.sIx xs.length xs.length hi = xs.length) : cutL xs lo hi = xs := by
  unfold cutL
  rw [h.1, h.2]
  simp
theorem SlR.or {r r' : V → Option Int → Option Int → Hp → VK → Prop} (h : SlR X r) (h' : SlR X r') : SlR X (fun x l u H Q => r x l u H Q ∨ r' x l u H Q) := by
  intro pins s σ H x v vl vu lo hi sl Q I rx hs pl pu q
  rcases q with q | q
  · exact h pins s σ H x v vl vu lo hi sl Q I rx hs pl pu q
  · exact h' pins s σ H x v vl vu lo hi sl Q I rx hs pl pu q
theorem SE.sl {lo hi : Option Expr} {fl fh : En → Rs (Option Int)} {p2 : Pos} (ha : SE X E W a f) (hl : SO X E W lo fl) (hh : SO X E W hi fh) : SE X E W (.Subscript a (.Slice lo hi none p2) pos) (eSl f fl fh) := by
  obtain ⟨ta, pa, ka⟩ := ha.ex
  obtain ⟨tl, pl, kl⟩ := hl.ex
  obtain ⟨th, ph, kh⟩ := hh.ex
  refine ⟨ha.hK, _, pe_slice (SlR.or sl_str (SlR.or sl_tupA sl_list)) pa pl ph, fun F σ H env S Q q => ?_⟩
  refine ka F σ H env S _ ?_
  unfold eSl at q
  cases e1 : f env with
  | un => rw [e1] at q; exact q
  | ex x => rw [e1] at q; exact q
  | ok d =>
    rw [e1, Rs.bind_ok] at q
    intro v fp F1 H1 G1 r1
    refine kl F1 σ H1 env (S.grow G1) _ ?_
    cases e2 : fl env with
    | un => rw [e2] at q; exact q
    | ex x => rw [e2] at q; exact fun cls dd F' H' g => q cls dd F' H' (G1.trans g)
    | ok l =>
      rw [e2, Rs.bind_ok] at q
      intro F2 H2 G2
      refine kh F2 σ H2 env (S.grow (G1.trans G2)) _ ?_
      cases e3 : fh env with
      | un => rw [e3] at q; exact q
      | ex x => rw [e3] at q; exact fun cls dd F' H' g => q cls dd F' H' ((G1.trans G2).trans g)
      | ok u =>
        rw [e3, Rs.bind_ok] at q
        intro F3 H3 G3
        have G := (G1.trans G2).trans G3
        have r3 := r1.grow (G2.trans G3)
        cases e4 : pSl d l u with
        | none => rw [e4] at q; exact q.elim
        | some z =>
          rw [e4] at q
          unfold pSl at e4
          split at e4
          · cases e4
            obtain ⟨rfl, k⟩ := r3.str_inv
            refine .inl ⟨_, rfl, ?_, ?_⟩
            · show (List.toArray _).size ≤ sizeLine
              rw [List.size_toArray]; exact k.len
            · rw [cut_str]
              exact q _ [] F3 H3 G (.str (k.sub (cutL_sub _ l u).1 (cutL_sub _ l u).2))
          · cases e4
            obtain ⟨p, vs, rfl, hp, hl, hz⟩ := r3.tup_inv
            refine .inr (.inl ⟨p, vs, rfl, by rw [ha.hK]; exact same_t G.fh hp, fun hw => ?_, fun hw pp hpp => ?_⟩)
            · rw [hl.len] at hw
              rw [cutL_whole hw] at q
              exact q _ [] F3 H3 G (r3.toData rfl)
            · exact q _ [] _ _ (G.trans (Grow.new G.fh hpp)) (.tup (SqT.of upd_same) ((hl.cut l u).grow (Grow.new G.fh hpp)) (Nat.le_trans (cutL_sub _ l u).1 hz))
          · cases e5 : listOf d with
            | none => rw [e5] at e4; cases e4
            | some xs =>
              rw [e5] at e4
              cases e4
              obtain ⟨p, vs, rfl, hp, hl, hz⟩ := listOf_at G.fh r3 e5
              refine .inr (.inr ⟨p, vs, rfl, SqL.of hp, fun pp hpp => ?_⟩)
              exact q _ [] _ _ (G.trans (Grow.new G.fh hpp)) (.lst upd_same ((hl.cut l u).grow (Grow.new G.fh hpp)) (Nat.le_trans (cutL_sub _ l u).1 hz))

/-! ### calls of built-ins: on a row of values -/
/-- what a built-in does to data -/
def BS (X : Cx) (E : Ent) (fv : Value) (g : List D → Option D) : Prop :=
  ∃ r, CallR X fv r ∧ ∀ F H vs ds fp d, Same F H → RL E.K F H ds vs fp → g ds = some d → ∀ Q : VK, (∀ v fp F' H', Grow F H F' H' → R E.K F' H' d v fp → Q v H') → r vs H Q
def eCall (g : List D → Option D) (fa : En → Rs (List D)) : En → Rs D := fun env => (fa env).bind fun ds => ofO (g ds)
theorem cb_ok {r : List V → Hp → VK → Prop} {t : TA} {fa : En → Rs (List D)} {g : List D → Option D} (ka : OkA E W t fa)
    (hr : ∀ F H vs ds fp d, Same F H → RL E.K F H ds vs fp → g ds = some d → ∀ Q : VK, (∀ v fp F' H', Grow F H F' H' → R E.K F' H' d v fp → Q v H') → r vs H Q) : OkE E W (tCB r t) (eCall g fa) := by
  intro F σ H env S Q q
  refine ka F σ H env S _ ?_
  unfold eCall at q
  cases e1 : fa env with
  | un => rw [e1] at q; exact q
  | ex x => rw [e1] at q; exact q
  | ok ds =>
    rw [e1, Rs.bind_ok] at q
    intro vs fp F1 H1 G1 r1
    cases e2 : g ds with
    | none => rw [e2] at q; exact q.elim
    | some d =>
      rw [e2] at q
      exact hr F1 H1 vs ds fp d G1.fh r1 e2 Q fun v fq F' H' G k => q v fq F' H' (G1.trans G) k
theorem SE.callB {x : Str} {id : String} {p : Pos} {es : List Expr} {fa : En → Rs (List D)} {g : List D → Option D} (hb : BS X E (.builtin id) g) (hm : X.mg x = none) (hv : bootBuiltins x = some (.builtin id)) (ha : SA X E W (e :: es) fa) (hg : Gl X x := by rfl)
    (hn : x ≠ "__name__" := by decide) (hdb : (x == ("__debug__" : Str)) = false := by decide)
    (he : starEach (e :: es) X.env = (false, eval e X.env) :: starEach es X.env := by rfl) (hpl : (backTo pos (starEach es X.env)).any (·.1) = false := by rfl) : SE X E W (.Call (.Name x p) (e :: es) [] pos) (eCall g fa) := by
  obtain ⟨t, pa, ka⟩ := ha.ex
  obtain ⟨r, h1, h2⟩ := hb
  exact ⟨ha.hK, _, pe_callB h1 hg hm hv pa hn hdb he hpl, cb_ok ka h2⟩
theorem SE.callT {x : Str} {T : String} {p : Pos} {es : List Expr} {fa : En → Rs (List D)} {g : List D → Option D} (hb : BS X E (.type T) g) (hm : X.mg x = none) (hv : bootBuiltins x = some (.type T)) (ha : SA X E W (e :: es) fa) (hg : Gl X x := by rfl)
    (hn : x ≠ "__name__" := by decide) (hdb : (x == ("__debug__" : Str)) = false := by decide)
    (he : starEach (e :: es) X.env = (false, eval e X.env) :: starEach es X.env := by rfl) (hpl : (backTo pos (starEach es X.env)).any (·.1) = false := by rfl) : SE X E W (.Call (.Name x p) (e :: es) [] pos) (eCall g fa) := by
  obtain ⟨t, pa, ka⟩ := ha.ex
  obtain ⟨r, h1, h2⟩ := hb
  exact ⟨ha.hK, _, pe_callTy h1 hg hm hv pa hn hdb he hpl, cb_ok ka h2⟩
theorem RL.one {K : Kx} {F H : Hp} {d : D} {vs : List V} {fp : List Addr} (h : RL K F H [d] vs fp) : ∃ v, vs = [v] ∧ R K F H d v fp := by
  cases h with
  | cons r t => cases t; rw [List.append_nil]; exact ⟨_, rfl, r⟩
theorem RL.two {K : Kx} {F H : Hp} {d d' : D} {vs : List V} {fp : List Addr} (h : RL K F H [d, d'] vs fp) : ∃ v v' fq fr, vs = [v, v'] ∧ R K F H d v fq ∧ R K F H d' v' fr := by
  cases h with
  | cons r t => obtain ⟨v', rfl, r'⟩ := t.one; exact ⟨_, v', _, _, rfl, r, r'⟩
/-! len -/
def bLen : List D → Option D
  | [.str x] => some (.int x.length)
  | [.tup x] => some (.int x.length)
  | [.lst x] => some (.int x.length)
  | [.olst x] => some (.int x.length)
  | [.scr x] => some (.int x.length)
  | _ => none
theorem BS.len (hK : X.K = E.K.k) : BS X E (.builtin "len") bLen := by
  refine ⟨_, call_len, fun F H vs ds fp d hs r0 h Q q => ?_⟩
  unfold bLen at h
  split at h <;> cases h <;> obtain ⟨v, rfl, r⟩ := r0.one
  · obtain ⟨rfl, k⟩ := r.str_inv
    refine ⟨_, _, rfl, ⟨?_, rfl⟩, ?_⟩
    · show (List.toArray _).size ≤ sizeLine
      rw [List.size_toArray]; exact k.len
    · rename_i x'
      have e : (⟨x'.toArray⟩ : Str).length = x'.length := by show x'.toArray.size = _; exact List.size_toArray
      rw [e]
      exact q _ [] F H (Grow.refl hs) (.int _)
  · obtain ⟨p, us, rfl, hp, hl, hz⟩ := r.tup_inv
    exact ⟨_, _, rfl, .inr ⟨us, by rw [hK]; exact same_t hs hp, rfl⟩, by rw [hl.len]; exact q _ [] F H (Grow.refl hs) (.int _)⟩
  · cases r with
    | lst hp hl => exact ⟨_, _, rfl, .inl ⟨_, SqL.of (hs _ _ hp), rfl⟩, by rw [hl.len]; exact q _ [] F H (Grow.refl hs) (.int _)⟩
  · cases r with
    | olst hp hl => exact ⟨_, _, rfl, .inl ⟨_, SqL.of hp, rfl⟩, by rw [hl.len]; exact q _ [] F H (Grow.refl hs) (.int _)⟩
  · cases r with
    | scr hp => exact ⟨_, _, rfl, .inl ⟨_, by rw [hK]; exact hs.seq hp, rfl⟩, by rw [List.length_map]; exact q _ [] F H (Grow.refl hs) (.int _)⟩
/-! abs, int, min, max of two -/
def bAbs : List D → Option D
  | [.int i] => some (.int (if i < 0 then -i else i))
  | _ => none
theorem BS.abs : BS X E (.builtin "abs") bAbs := by
  refine ⟨_, call_abs, fun F H vs ds fp d hs r0 h Q q => ?_⟩
  unfold bAbs at h
  split at h <;> cases h
  obtain ⟨v, rfl, r⟩ := r0.one
  cases r
  exact ⟨_, rfl, q _ [] F H (Grow.refl hs) (.int _)⟩
def bInt : List D → Option D
  | [.int i] => some (.int i)
  | [.bl b] => some (.int (if b then 1 else 0))
  | _ => none
theorem BS.int : BS X E (.type "int") bInt := by
  refine ⟨_, call_int1, fun F H vs ds fp d hs r0 h Q q => ?_⟩
  unfold bInt at h
  split at h <;> cases h <;> obtain ⟨v, rfl, r⟩ := r0.one <;> cases r
  · exact .inl ⟨_, rfl, q _ [] F H (Grow.refl hs) (.int _)⟩
  · exact .inr ⟨_, rfl, q _ [] F H (Grow.refl hs) (.int _)⟩
def bMin : List D → Option D
  | [.int i, .int j] => some (.int (if j < i then j else i))
  | _ => none
theorem BS.min (hc : X.calm = true) : BS X E (.builtin "min") bMin := by
  refine ⟨_, call_min2 hc, fun F H vs ds fp d hs r0 h Q q => ?_⟩
  unfold bMin at h
  split at h <;> cases h
  obtain ⟨v, v', _, _, rfl, r1, r2⟩ := r0.two
  cases r1; cases r2
  exact ⟨_, _, rfl, q _ [] F H (Grow.refl hs) (.int _)⟩
def bMax : List D → Option D
  | [.int i, .int j] => some (.int (if j > i then j else i))
  | _ => none
theorem BS.max (hc : X.calm = true) : BS X E (.builtin "max") bMax := by
  refine ⟨_, call_max2 hc, fun F H vs ds fp d hs r0 h Q q => ?_⟩
  unfold bMax at h
  split at h <;> cases h
  obtain ⟨v, v', _, _, rfl, r1, r2⟩ := r0.two
  cases r1; cases r2
  exact ⟨_, _, rfl, q _ [] F H (Grow.refl hs) (.int _)⟩
/-! all, any -/
def blsOf : List D → Option (List Bool)
  | [] => some []
  | .bl b :: ds => (blsOf ds).map (b :: ·)
  | _ => none
theorem blsOf_at {K : Kx} {F H : Hp} : ∀ {ds : List D} {vs : List V} {bs : List Bool}, RL K F H ds vs [] → blsOf ds = some bs → vs = bs.map V.bl
  | [], vs, bs, r, e => by
    cases e
    cases vs with
    | nil => rfl
    | cons _ _ => exact absurd r.len (by simp)
  | d :: ds, vs, bs, r, e => by
    obtain ⟨v, vs', rfl, h1, h2⟩ := r.inv_cons
    cases d <;> first | (cases e; done) | skip
    rename_i b
    have e' : (blsOf ds).map (b :: ·) = some bs := e
    cases q : blsOf ds with
    | none => rw [q] at e'; cases e'
    | some bs' =>
      rw [q] at e'
      cases e'
      cases h1
      rw [blsOf_at h2 q]
      rfl
def bAll : List D → Option D
  | [d] => (listOf d).bind fun xs => (blsOf xs).map fun bs => .bl (bs.all id)
  | _ => none
def bAny : List D → Option D
  | [d] => (listOf d).bind fun xs => (blsOf xs).map fun bs => .bl (bs.any id)
  | _ => none
theorem BS.all (hc : X.calm = true) : BS X E (.builtin "all") bAll := by
  refine ⟨_, cr_all hc, fun F H vs ds fp d hs r0 h Q q => ?_⟩
  unfold bAll at h
  split at h <;> first | (cases h; done) | skip
  rename_i d'
  obtain ⟨v, rfl, r⟩ := r0.one
  cases e1 : listOf d' with
  | none => rw [e1] at h; cases h
  | some xs =>
    rw [e1, Option.bind_some] at h
    cases e2 : blsOf xs with
    | none => rw [e2] at h; cases h
    | some bs =>
      rw [e2] at h
      cases h
      obtain ⟨p, us, rfl, hp, hl, hz⟩ := listOf_at hs r e1
      have e3 := blsOf_at hl e2
      subst e3
      exact ⟨p, bs, rfl, SqL.of hp, q _ [] F H (Grow.refl hs) (.bl _)⟩
theorem BS.any (hc : X.calm = true) : BS X E (.builtin "any") bAny := by
  refine ⟨_, cr_any hc, fun F H vs ds fp d hs r0 h Q q => ?_⟩
  unfold bAny at h
  split at h <;> first | (cases h; done) | skip
  rename_i d'
  obtain ⟨v, rfl, r⟩ := r0.one
  cases e1 : listOf d' with
  | none => rw [e1] at h; cases h
  | some xs =>
    rw [e1, Option.bind_some] at h
    cases e2 : blsOf xs with
    | none => rw [e2] at h; cases h
    | some bs =>
      rw [e2] at h
      cases h
      obtain ⟨p, us, rfl, hp, hl, hz⟩ := listOf_at hs r e1
      have e3 := blsOf_at hl e2
      subst e3
      exact ⟨p, bs, rfl, SqL.of hp, q _ [] F H (Grow.refl hs) (.bl _)⟩
/-! tuple(x) -/
def bTuple : List D → Option D
  | [d] => match d with
    | .tup xs => some (.tup xs)
    | .scr _ => none
    | d => (seqOf d).map D.tup
  | _ => none
theorem BS.tuple (hK : X.K = E.K.k) : BS X E (.type "tuple") bTuple := by
  refine ⟨_, call_tuple_of, fun F H vs ds fp d hs r0 h Q q => ?_⟩
  unfold bTuple at h
  split at h <;> first | (cases h; done) | skip
  rename_i dd
  obtain ⟨v, rfl, r⟩ := r0.one
  split at h
  · cases h
    obtain ⟨p, us, rfl, hp, hl, hz⟩ := r.tup_inv
    exact ⟨p, us, rfl, .inr ⟨by rw [hK]; exact same_t hs hp, q _ [] F H (Grow.refl hs) (r.toData rfl)⟩⟩
  · cases h
  · rename_i n1 n2
    generalize dd = d' at *
    cases e1 : seqOf d' with
    | none => rw [e1] at h; cases h
    | some xs =>
      rw [e1] at h
      cases h
      cases d' <;> first | (cases e1; done) | (exact absurd rfl (n1 _)) | (exact absurd rfl (n2 _)) | skip
      all_goals
        obtain ⟨p, us, rfl, hp, hl, hz⟩ := listOf_at (ds := xs) hs r e1
        exact ⟨p, us, rfl, .inl ⟨SqL.of hp, fun l hl' => q _ [] _ _ (Grow.new hs hl') (.tup (SqT.of upd_same) (hl.grow (Grow.new hs hl')) hz)⟩⟩
end
end Z

set_option Elab.async false
set_option linter.all false
set_option maxRecDepth 100000
set_option maxHeartbeats 1000000
namespace Z
open PySem L2
/-! ### statements -/
/-- how a statement ends: on, break, continue, return, raise, nothing known -/
inductive Fl where
  | nx (e : En) | bk (e : En) | ct (e : En) | rt (d : D) (e : En) | xx (x : D) (e : En) | un
def PostS (E : Ent) (W : WX) (F : Hp) (D : Ends) : Fl → Prop
  | .nx e => ∀ F' σ' H', Same F F' → Stt E F' e σ' H' → D.nx σ' H'
  | .bk e => ∀ F' σ' H', Same F F' → Stt E F' e σ' H' → D.bk σ' H'
  | .ct e => ∀ F' σ' H', Same F F' → Stt E F' e σ' H' → D.ct σ' H'
  | .rt d e => ∀ v F' σ' H', Same F F' → Stt E F' e σ' H' → R E.K F' H' d v [] → D.rt v H'
  | .xx x e => ∀ cls dd F' σ' H', Same F F' → Stt E F' e σ' H' → Rx E.K F' H' x cls dd → W cls dd σ' H'
  | .un => False
theorem PostS.mono {E : Ent} {W : WX} {F F1 : Hp} {D : Ends} {r : Fl} (G : Same F F1) (h : PostS E W F D r) : PostS E W F1 D r := by
  cases r with
  | nx e => exact fun F' σ' H' k => h F' σ' H' (G.trans k)
  | bk e => exact fun F' σ' H' k => h F' σ' H' (G.trans k)
  | ct e => exact fun F' σ' H' k => h F' σ' H' (G.trans k)
  | rt d e => exact fun v F' σ' H' k => h v F' σ' H' (G.trans k)
  | xx x e => exact fun cls dd F' σ' H' k => h cls dd F' σ' H' (G.trans k)
  | un => exact h
def OkS (E : Ent) (W : WX) (t : TS) (g : En → Fl) : Prop := ∀ F σ H env, Stt E F env σ H → ∀ D, PostS E W F D (g env) → t D σ H
structure SS (X : Cx) (E : Ent) (W : WX) (s : Stmt) (g : En → Fl) : Prop where
  hK : X.K = E.K.k
  ex : ∃ t, PS X s t ∧ OkS E W t g
structure SB (X : Cx) (E : Ent) (W : WX) (s : List Stmt) (g : En → Fl) : Prop where
  hK : X.K = E.K.k
  ex : ∃ t, PSs X s t ∧ OkS E W t g
section
variable {X : Cx} {E : Ent} {W : WX} {e a b : Expr} {f g : En → Rs D} {pos : Pos} {s : Stmt} {ss : List Stmt} {gs gt : En → Fl}
def sSeq (g h : En → Fl) : En → Fl := fun env => match g env with
  | .nx e => h e
  | r => r
def sPass : En → Fl := fun env => .nx env
theorem SB.nil (hK : X.K = E.K.k := by rfl) : SB X E W [] sPass := ⟨hK, _, pss_nil, fun F σ H env S D q => q F σ H (Same.refl _) S⟩
theorem seq_ok {t u : TS} (h : OkS E W t gs) (k : OkS E W u gt) : OkS E W (tSeq t u) (sSeq gs gt) := by
  intro F σ H env S D q
  refine h F σ H env S _ ?_
  unfold sSeq at q
  cases e1 : gs env <;> rw [e1] at q <;> try exact q
  exact fun F' σ' H' G S' => k F' σ' H' _ S' D (q.mono G)
theorem SB.cons (h : SS X E W s gs) (k : SB X E W ss gt) : SB X E W (s :: ss) (sSeq gs gt) := by
  obtain ⟨t, p, o⟩ := h.ex
  obtain ⟨u, p', o'⟩ := k.ex
  exact ⟨h.hK, _, pss_cons p p', seq_ok o o'⟩
theorem SB.one (h : SS X E W s gs) : SB X E W [s] gs := by
  obtain ⟨t, p, o⟩ := h.ex
  exact ⟨h.hK, _, pss_one p, o⟩
theorem SS.pass (hK : X.K = E.K.k := by rfl) : SS X E W (.Pass pos) sPass := ⟨hK, _, ps_pass, fun F σ H env S D q => q F σ H (Same.refl _) S⟩
/-- slots forgotten ahead of a statement or a block -/
def wipeE (is : List Nat) (env : En) : En := is.foldl (fun e i => e.set i none) env
theorem Stt.wipes {F H : Hp} {σ : St} : ∀ (is : List Nat) {env : En}, Stt E F env σ H → Stt E F (wipeE is env) σ H
  | [], _, S => S
  | i :: is, _, S => Stt.wipes is (S.wipe i)
def sPre (is : List Nat) (g : En → Fl) : En → Fl := fun env => g (wipeE is env)
theorem SS.pre (is : List Nat) (h : SS X E W s gs) : SS X E W s (sPre is gs) := by
  obtain ⟨t, p, o⟩ := h.ex
  exact ⟨h.hK, t, p, fun F σ H env S D q => o F σ H _ (S.wipes is) D q⟩
theorem SB.pre (is : List Nat) (h : SB X E W ss gs) : SB X E W ss (sPre is gs) := by
  obtain ⟨t, p, o⟩ := h.ex
  exact ⟨h.hK, t, p, fun F σ H env S D q => o F σ H _ (S.wipes is) D q⟩

/-! a value is stored -/
def sSet (i : Nat) (f : En → Rs D) : En → Fl := fun env => match f env with
  | .ok d => if isData d then .nx (env.set i (some d)) else .un
  | .ex x => .xx x env
  | .un => .un
theorem set_ok {t : TE} {i : Nat} (k : OkE E W t f) : OkS E W (tAsg t (gName i)) (sSet i f) := by
  intro F σ H env S D q
  refine k F σ H env S _ ?_
  unfold sSet at q
  cases e1 : f env with
  | un => rw [e1] at q; exact q
  | ex x => rw [e1] at q; exact fun cls dd F' H' G r => q cls dd F' σ H' G.f (S.grow G) r
  | ok d =>
    rw [e1] at q
    intro v fp F' H' G r
    dsimp only at q
    split at q
    · rename_i hd
      exact q F' _ H' G.f ((S.grow G).setData i (r.toData hd))
    · exact q.elim
theorem SS.set (i : Nat) {y : Str} {py : Pos} (hf : SE X E W e f) (hN : X.N.Nodup) (hy : X.N[i]? = some y := by rfl) (hl : Loc X.env.scope y := by first | exact Or.inl rfl | exact Or.inr rfl)
    (hs : swapsWith e (some (.Name y py)) pos.line X.env = pure false := by rfl) (hfn : X.fn y = true ∨ X.env.scope.names.lookup y = some .local := by first | exact .inl rfl | exact .inr rfl) : SS X E W (.Assign [.Name y py] e pos) (sSet i f) := by
  obtain ⟨t, p, k⟩ := hf.ex
  exact ⟨hf.hK, _, ps_set hN hy hl p hs hfn, set_ok k⟩
/-- a new list, owned -/
def sSetL (i : Nat) (f : En → Rs (List D)) : En → Fl := fun env => match f env with
  | .ok ds => .nx (env.set i (some (.olst ds)))
  | .ex x => .xx x env
  | .un => .un
theorem setL_ok {t : TE} {i : Nat} {fl : En → Rs (List D)} (k : OkL E W t fl) : OkS E W (tAsg t (gName i)) (sSetL i fl) := by
  intro F σ H env S D q
  refine k F σ H env S _ ?_
  unfold sSetL at q
  cases e1 : fl env with
  | un => rw [e1] at q; exact q
  | ex x => rw [e1] at q; exact fun cls dd F' H' G r => q cls dd F' σ H' G.f (S.grow G) r
  | ok ds =>
    rw [e1] at q
    intro p vs F' H' G hp hF hH r hz
    refine q F' _ H' G.f (S.setNew i (fp := [p]) (.olst hH r hz) G (by simp) fun a ha => ?_)
    rw [List.mem_singleton.mp ha]
    exact ⟨hp, hF, S.fresh hp⟩
theorem SS.setL (i : Nat) {y : Str} {py : Pos} {fl : En → Rs (List D)} (hf : SL X E W e fl) (hN : X.N.Nodup) (hy : X.N[i]? = some y := by rfl) (hl : Loc X.env.scope y := by first | exact Or.inl rfl | exact Or.inr rfl)
    (hs : swapsWith e (some (.Name y py)) pos.line X.env = pure false := by rfl) (hfn : X.fn y = true ∨ X.env.scope.names.lookup y = some .local := by first | exact .inl rfl | exact .inr rfl) : SS X E W (.Assign [.Name y py] e pos) (sSetL i fl) := by
  obtain ⟨t, p, k⟩ := hf.ex
  exact ⟨hf.hK, _, ps_set hN hy hl p hs hfn, setL_ok k⟩

/-! return, a value dropped, if -/
def sRet (f : En → Rs D) : En → Fl := fun env => match f env with
  | .ok d => if isData d then .rt d [] else .un
  | .ex x => .xx x env
  | .un => .un
theorem SS.ret (hf : SE X E W e f) : SS X E W (.Return (some e) pos) (sRet f) := by
  obtain ⟨t, p, k⟩ := hf.ex
  refine ⟨hf.hK, _, ps_ret p, fun F σ H env S D q => ?_⟩
  refine k F σ H env S _ ?_
  unfold sRet at q
  cases e1 : f env with
  | un => rw [e1] at q; exact q
  | ex x => rw [e1] at q; exact fun cls dd F' H' G r => q cls dd F' σ H' G.f (S.grow G) r
  | ok d =>
    rw [e1] at q
    intro v fp F' H' G r
    dsimp only at q
    split at q
    · rename_i hd
      exact q v F' σ H' G.f (S.grow G).nilEnv (r.toData hd)
    · exact q.elim
def sRetN : En → Fl := fun _ => .rt .non []
theorem SS.retN (hK : X.K = E.K.k := by rfl) : SS X E W (.Return none pos) sRetN := ⟨hK, _, ps_retN, fun F σ H env S D q => q _ F σ H (Same.refl _) S.nilEnv .non⟩
def sDrop (f : En → Rs D) : En → Fl := fun env => match f env with
  | .ok _ => .nx env
  | .ex x => .xx x env
  | .un => .un
theorem SS.expr (hf : SE X E W e f) (hs : swapsWith e none pos.line X.env = pure false := by rfl) : SS X E W (.Expr e pos) (sDrop f) := by
  obtain ⟨t, p, k⟩ := hf.ex
  refine ⟨hf.hK, _, ps_expr p hs, fun F σ H env S D q => ?_⟩
  refine k F σ H env S _ ?_
  unfold sDrop at q
  cases e1 : f env with
  | un => rw [e1] at q; exact q
  | ex x => rw [e1] at q; exact fun cls dd F' H' G r => q cls dd F' σ H' G.f (S.grow G) r
  | ok d =>
    rw [e1] at q
    exact fun v fp F' H' G r => q F' σ H' G.f (S.grow G)
def sIf (c : En → Rs Bool) (g h : En → Fl) : En → Fl := fun env => match c env with
  | .ok true => g env
  | .ok false => h env
  | .ex x => .xx x env
  | .un => .un
theorem SS.ite {c : Expr} {tc : En → Rs Bool} {a b : List Stmt} (hc : ST X E W c tc) (ha : SB X E W a gs) (hb : SB X E W b gt) : SS X E W (.If c a b pos) (sIf tc gs gt) := by
  obtain ⟨t, p, k⟩ := hc.ex
  obtain ⟨u, p', k'⟩ := ha.ex
  obtain ⟨u2, p2, k2⟩ := hb.ex
  refine ⟨hc.hK, _, ps_if p p' p2, fun F σ H env S D q => ?_⟩
  refine k F σ H env S _ ?_
  unfold sIf at q
  cases e1 : tc env with
  | un => rw [e1] at q; exact q
  | ex x => rw [e1] at q; exact fun cls dd F' H' G r => q cls dd F' σ H' G.f (S.grow G) r
  | ok b =>
    rw [e1] at q
    intro F' H' G
    cases b with
    | true => exact k' F' σ H' env (S.grow G) D (q.mono G.f)
    | false => exact k2 F' σ H' env (S.grow G) D (q.mono G.f)
def sBreak : En → Fl := fun env => .bk env
def sCont : En → Fl := fun env => .ct env
theorem SS.brk (hK : X.K = E.K.k := by rfl) : SS X E W (.Break pos) sBreak := ⟨hK, _, ps_break, fun F σ H env S D q => q F σ H (Same.refl _) S⟩
theorem SS.cont (hK : X.K = E.K.k := by rfl) : SS X E W (.Continue pos) sCont := ⟨hK, _, ps_continue, fun F σ H env S D q => q F σ H (Same.refl _) S⟩

/-! x += e -/
def sAug (i : Nat) (op : D → D → Option D) (f : En → Rs D) : En → Fl := fun env => match env[i]? with
  | some (some x) => match f env with
    | .ok d => match op x d with
      | some z => if isData z then .nx (env.set i (some z)) else .un
      | none => .un
    | .ex x => .xx x env
    | .un => .un
  | _ => .un
def IpS (X : Cx) (E : Ent) (o : Operator) (g : D → D → Option D) : Prop :=
  ∃ r, PIp X o r ∧ ∀ F H x y d1 d2 fp1 fp2 d, Same F H → R E.K F H d1 x fp1 → R E.K F H d2 y fp2 → g d1 d2 = some d → ∀ Q : VK,
    (∀ v fp F' H', Grow F H F' H' → R E.K F' H' d v fp → Q v H') → r x y H Q
theorem SS.aug (i : Nat) {y : Str} {py : Pos} {o : Operator} {op : D → D → Option D} (ho : IpS X E o op) (hf : SE X E W e f) (hN : X.N.Nodup) (hy : X.N[i]? = some y := by rfl) (hl : Loc X.env.scope y := by first | exact Or.inl rfl | exact Or.inr rfl)
    (hfn : X.fn y = true ∨ X.env.scope.names.lookup y = some .local := by first | exact .inl rfl | exact .inr rfl) : SS X E W (.AugAssign (.Name y py) o e pos) (sAug i op f) := by
  obtain ⟨t, p, k⟩ := hf.ex
  obtain ⟨r, h1, h2⟩ := ho
  refine ⟨hf.hK, _, ps_aug hN hy hl p h1 hfn, fun F σ H env S D q => ?_⟩
  unfold sAug at q
  cases e0 : env[i]? with
  | none => rw [e0] at q; exact q.elim
  | some ox =>
    cases ox with
    | none => rw [e0] at q; exact q.elim
    | some x =>
      rw [e0] at q
      dsimp only at q
      obtain ⟨fps, rs, _⟩ := S.rep
      obtain ⟨v, fp, g1, _, g3⟩ := rs.get e0
      refine ⟨v, g1, k F σ H env S _ ?_⟩
      cases e1 : f env with
      | un => rw [e1] at q; exact q
      | ex x => rw [e1] at q; exact fun cls dd F' H' G r => q cls dd F' σ H' G.f (S.grow G) r
      | ok d =>
        rw [e1] at q
        dsimp only at q
        intro v1 fp1 F1 H1 G1 r1
        cases e2 : op x d with
        | none => rw [e2] at q; exact q.elim
        | some z =>
          rw [e2] at q
          dsimp only at q
          split at q
          · rename_i hz
            refine h2 F1 H1 v v1 x d fp fp1 z G1.fh (g3.grow G1) r1 e2 _ fun v2 fp2 F2 H2 G2 r2 => ?_
            exact q F2 _ H2 (G1.trans G2).f ((S.grow (G1.trans G2)).setData i (r2.toData hz))
          · exact q.elim
def pAddI : D → D → Option D
  | .int i, .int j => some (.int (i + j))
  | _, _ => none
theorem IpS.add : IpS X E .Add pAddI := by
  refine ⟨_, ip_add, fun F H x y d1 d2 fp1 fp2 d hs r1 r2 h Q q => ?_⟩
  unfold pAddI at h
  split at h <;> cases h
  cases r1; cases r2
  exact ⟨_, _, rfl, rfl, q _ [] F H (Grow.refl hs) (.int _)⟩
theorem IpS.sub : IpS X E .Sub pSub := by
  refine ⟨_, ip_sub, fun F H x y d1 d2 fp1 fp2 d hs r1 r2 h Q q => ?_⟩
  unfold pSub at h
  split at h <;> cases h
  cases r1; cases r2
  exact ⟨_, _, rfl, rfl, q _ [] F H (Grow.refl hs) (.int _)⟩

/-! targets -/
def OkG (E : Ent) (is : List Nat) (t : TG) (h : D → En → Option En) : Prop := ∀ F σ H env d v, Stt E F env σ H → R E.K F H d v [] → ∀ Q : St → Hp → Prop,
  (∃ e', h d env = some e' ∧ ∀ σ', Stt E F e' σ' H → (∀ j, j ∉ is → σ'[j]? = σ[j]?) → σ'.length = σ.length → Q σ' H) → t v σ H Q
structure SG (X : Cx) (E : Ent) (tg : Expr) (is : List Nat) (h : D → En → Option En) : Prop where
  ex : ∃ t, PG X tg t ∧ OkG E is t h
def gN (i : Nat) : D → En → Option En := fun d env => some (env.set i (some d))
theorem SG.name (i : Nat) {y : Str} (hN : X.N.Nodup) (hy : X.N[i]? = some y := by rfl) (hl : Loc X.env.scope y := by first | exact Or.inl rfl | exact Or.inr rfl)
    (hfn : X.fn y = true ∨ X.env.scope.names.lookup y = some .local := by first | exact .inl rfl | exact .inr rfl) : SG X E (.Name y pos) [i] (gN i) := by
  refine ⟨_, pg_name hN hy hl hfn, fun F σ H env d v S r Q q => ?_⟩
  obtain ⟨e', he, k⟩ := q
  cases he
  refine k _ (S.setData i r) (fun j hj => ?_) (List.length_set ..)
  have : i ≠ j := fun z => hj (by simp [z])
  rw [List.getElem?_set_ne this]
def OkGs (E : Ent) (is : List Nat) (t : TGs) (h : List D → En → Option En) : Prop := ∀ F σ H env ds vs, Stt E F env σ H → RL E.K F H ds vs [] → ∀ Q : St → Hp → Prop,
  (∃ e', h ds env = some e' ∧ ∀ σ', Stt E F e' σ' H → (∀ j, j ∉ is → σ'[j]? = σ[j]?) → σ'.length = σ.length → Q σ' H) → t vs σ H Q
structure SGs (X : Cx) (E : Ent) (ts : List Expr) (is : List Nat) (h : List D → En → Option En) : Prop where
  ex : ∃ t, PGs X ts t ∧ OkGs E is t h
def gsNil : List D → En → Option En
  | [], env => some env
  | _, _ => none
def gsCons (h : D → En → Option En) (k : List D → En → Option En) : List D → En → Option En
  | d :: ds, env => (h d env).bind fun e => k ds e
  | [], _ => none
theorem SGs.nil : SGs X E [] [] gsNil := by
  refine ⟨_, pgs_nil, fun F σ H env ds vs S r Q q => ?_⟩
  obtain ⟨e', he, k⟩ := q
  cases ds with
  | nil =>
    cases he
    refine ⟨?_, k σ S (fun _ _ => rfl) rfl⟩
    cases vs with
    | nil => rfl
    | cons _ _ => exact absurd r.len (by simp)
  | cons _ _ => cases he
theorem SGs.cons {ts : List Expr} {is js : List Nat} {h : D → En → Option En} {k : List D → En → Option En} (h1 : SG X E e is h) (h2 : SGs X E ts js k)
    (hs : (assignEach (e :: ts) X.env).map (·.2) = assign e X.env :: (assignEach ts X.env).map (·.2) := by rfl) : SGs X E (e :: ts) (is ++ js) (gsCons h k) := by
  obtain ⟨t, p, o⟩ := h1.ex
  obtain ⟨u, p', o'⟩ := h2.ex
  refine ⟨_, pgs_cons p p' hs, fun F σ H env ds vs S r Q q => ?_⟩
  obtain ⟨e', he, kk⟩ := q
  cases ds with
  | nil => cases he
  | cons d ds =>
    obtain ⟨v, vs', rfl, r1, r2⟩ := r.inv_cons
    have he : (h d env).bind (fun e => k ds e) = some e' := he
    cases e1 : h d env with
    | none => rw [e1] at he; cases he
    | some em =>
      rw [e1, Option.bind_some] at he
      refine ⟨v, vs', rfl, o F σ H env d v S r1 _ ⟨em, e1, fun σ1 S1 a1 l1 => ?_⟩⟩
      refine o' F σ1 H em ds vs' S1 r2 Q ⟨e', he, fun σ2 S2 a2 l2 => ?_⟩
      exact kk σ2 S2 (fun j hj => (a2 j fun z => hj (List.mem_append_right _ z)).trans (a1 j fun z => hj (List.mem_append_left _ z))) (l2.trans l1)
def gT (k : List D → En → Option En) : D → En → Option En := fun d env => match d with
  | .tup ds => k ds env
  | _ => none
theorem gs_len : ∀ {ts : List Expr} {is : List Nat} {k : List D → En → Option En}, SGs X E ts is k → True := fun _ => trivial
theorem SG.tup {ts : List Expr} {is : List Nat} {k1 : Nat} {k : List D → En → Option En} (n : Nat) (hc : X.calm = true) (h : SGs X E ts is k) (hn : (assignEach ts X.env).length = n := by rfl) (hst : (assignEach ts X.env).findIdx? (·.1) = none := by rfl) (hK : X.K = E.K.k := by rfl) :
    SG X E (.Tuple ts k1 pos) is (gT fun ds env => if ds.length = n then k ds env else none) := by
  obtain ⟨t, p, o⟩ := h.ex
  refine ⟨_, pg_tup hc p hn hst, fun F σ H env d v S r Q q => ?_⟩
  obtain ⟨e', he, kk⟩ := q
  cases d <;> first | (cases he; done) | skip
  rename_i ds
  obtain ⟨a, vs, rfl, hp, hl, _⟩ := r.tup_inv
  have he : (if ds.length = n then k ds env else none) = some e' := he
  split at he
  · rename_i hln
    exact ⟨a, vs, rfl, by rw [hK]; exact same_t S.fH hp, by rw [hl.len]; exact hln, o F σ H env ds vs S hl Q ⟨e', he, kk⟩⟩
  · cases he
end
end Z

set_option Elab.async false
set_option linter.all false
set_option maxRecDepth 100000
set_option maxHeartbeats 1000000
namespace Z
open PySem L2
/-! ### what is gone through -/
def PostI (E : Ent) (W : WX) (F H : Hp) (σ : St) (Rj : It → Hp → Prop) : Rs (List D) → Prop
  | .ok ds => ∀ (J : It) (G : Hp → Prop) (Y : Nat → Hp → V → Hp → Prop) F' H', Grow F H F' H' → ds.length ≤ 16777216 → Walk J ds.length G Y → (∀ Hc, Same F' Hc → G Hc) →
      (∀ i d, ds[i]? = some d → ∀ Fc Hc v Hn, Same F' Fc → Same Fc Hc → Y i Hc v Hn → ∃ Fn, Grow Fc Hc Fn Hn ∧ R E.K Fn Hn d v []) → Rj J H'
  | .ex x => ∀ cls dd F' H', Grow F H F' H' → Rx E.K F' H' x cls dd → W cls dd σ H'
  | .un => False
def OkI (E : Ent) (W : WX) (wi : TI) (f : En → Rs (List D)) : Prop := ∀ F σ H env, Stt E F env σ H → ∀ Rj, PostI E W F H σ Rj (f env) → wi σ H Rj
structure SI (X : Cx) (E : Ent) (W : WX) (tg iter : Expr) (f : En → Rs (List D)) : Prop where
  hK : X.K = E.K.k
  ex : ∃ wi, PI X tg iter wi ∧ OkI E W wi f
section
variable {X : Cx} {E : Ent} {W : WX} {e a b tg iter : Expr} {f g : En → Rs D} {pos : Pos} {s : Stmt} {ss : List Stmt} {gs gt : En → Fl}
theorem PI.or {w1 w2 : TI} (h1 : PI X tg iter w1) (h2 : PI X tg iter w2) : PI X tg iter (fun σ H Rj => w1 σ H Rj ∨ w2 σ H Rj) := by
  refine ⟨fun pins s σ H R I h => ?_⟩
  rcases h with h | h
  · exact h1.run pins s σ H R I h
  · exact h2.run pins s σ H R I h
/-- the items of a list, a tuple, a text -/
def itemsOf : D → Option (List D)
  | .str x => some (x.map fun c => .str [c])
  | .lst xs => some xs
  | .tup xs => some xs
  | .scr ns => some (ns.map .int)
  | _ => none
def iSeq (f : En → Rs D) : En → Rs (List D) := fun env => (f env).bind fun d => ofO (itemsOf d)
theorem at_map {α β : Type} {f : α → β} {xs : List α} {i : Nat} {y : β} (h : (xs.map f)[i]? = some y) : ∃ x, xs[i]? = some x ∧ f x = y := by
  rw [List.getElem?_map] at h
  cases e : xs[i]? with
  | none => rw [e] at h; cases h
  | some x => rw [e] at h; exact ⟨x, rfl, Option.some.inj h⟩
theorem yat_ok {F' : Hp} {K : Kx} {H' : Hp} {ds : List D} {vs : List V} (hl : RL K F' H' ds vs []) :
    ∀ i d, ds[i]? = some d → ∀ Fc Hc v Hn, Same F' Fc → Same Fc Hc → YAt vs i Hc v Hn → ∃ Fn, Grow Fc Hc Fn Hn ∧ R K Fn Hn d v [] := by
  intro i d hd Fc Hc v Hn h1 h2 y
  obtain ⟨e, ev⟩ := y
  subst e
  obtain ⟨v', e1, r⟩ := hl.get0 hd
  rw [ev] at e1
  cases e1
  exact ⟨Fc, Grow.refl h2, R.mono h1 d (fun a z => nomatch z) r⟩
theorem SI.seq (hf : SE X E W iter f) : SI X E W tg iter (iSeq f) := by
  obtain ⟨t, p, k⟩ := hf.ex
  refine ⟨hf.hK, _, PI.or (pi_list p) (PI.or (pi_tup p) (pi_str p)), fun F σ H env S Rj q => ?_⟩
  unfold iSeq at q
  have hk := hf.hK
  cases e1 : f env with
  | un => rw [e1] at q; exact q.elim
  | ex x =>
    rw [e1] at q
    refine .inl (k F σ H env S _ ?_)
    rw [e1]
    exact q
  | ok d =>
    rw [e1, Rs.bind_ok] at q
    cases e2 : itemsOf d with
    | none => rw [e2] at q; exact q.elim
    | some ds =>
      rw [e2] at q
      cases d <;> first | (cases e2; done) | skip
      · cases e2
        refine .inr (.inr (k F σ H env S _ ?_))
        rw [e1]
        intro v fp F' H' G r
        obtain ⟨rfl, ko⟩ := r.str_inv
        rename_i x
        refine ⟨_, rfl, q (Its ⟨x.toArray⟩) _ _ F' H' G (by rw [List.length_map, line_eq]; exact ko.len) (by rw [List.length_map]; have w := walk_str (z := ⟨x.toArray⟩); rw [show (⟨x.toArray⟩ : Str).cps.size = x.length from List.size_toArray] at w; exact w) (fun _ _ => trivial) ?_⟩
        intro i d hd Fc Hc v Hn h1 h2 y
        obtain ⟨rfl, c, hc, rfl⟩ := y
        obtain ⟨c', e3, rfl⟩ := at_map hd
        have e4 : x[i]? = some c := by simpa using hc
        rw [e4] at e3
        cases e3
        exact ⟨Fc, Grow.refl h2, .str ⟨by show 1 ≤ sizeLine; decide, fun c'' hc'' => by rw [List.mem_singleton.mp hc'']; exact ko.cps c (List.mem_of_getElem? e4)⟩⟩
      · cases e2
        refine .inr (.inl (k F σ H env S _ ?_))
        rw [e1]
        intro v fp F' H' G r
        obtain ⟨p, vs, rfl, hp, hl, hz⟩ := r.tup_inv
        refine ⟨p, rfl, ⟨vs, by rw [hk]; exact same_t G.fh hp⟩, q (Itt X.K p) _ _ F' H' G hz (by rw [← hl.len]; exact walk_tup) (fun Hc h => by rw [hk]; exact same_t h hp) (yat_ok hl)⟩
      · cases e2
        refine .inl (k F σ H env S _ ?_)
        rw [e1]
        intro v fp F' H' G r
        cases r with
        | lst hp hl hz => exact ⟨_, rfl, ⟨_, SqL.of (G.fh _ _ hp)⟩, q (Itl X.K _) _ _ F' H' G hz (by rw [← hl.len]; exact walk_list) (fun Hc h => SqL.of (h _ _ hp)) (yat_ok hl)⟩
      · cases e2
        refine .inl (k F σ H env S _ ?_)
        rw [e1]
        intro v fp F' H' G r
        cases r with
        | scr hp hz =>
          rename_i ns p
          exact ⟨_, rfl, ⟨_, by rw [hk]; exact G.fh.seq hp⟩, q (Itl X.K _) _ _ F' H' G (by rw [List.length_map]; exact hz) (by rw [List.length_map, ← List.length_map (f := V.int)]; exact walk_list) (fun Hc h => by rw [hk]; exact h.seq hp) (yat_ok (H' := H') (RL.ints ns))⟩
/-- range(a), range(a, b) -/
def rngL (lo : Int) (n : Nat) : List D := (List.range n).map fun (i : Nat) => D.int (lo + (i : Int))
def iRng1 : List D → Rs (List D)
  | [.int j] => if -16000000 ≤ j ∧ j ≤ 16000000 then .ok (rngL 0 j.toNat) else .un
  | _ => .un
def iRng2 : List D → Rs (List D)
  | [.int i, .int j] => if -16000000 ≤ i ∧ i ≤ 16000000 ∧ -16000000 ≤ j ∧ j ≤ 16000000 ∧ j - i ≤ 16000000 then .ok (rngL i (j - i).toNat) else .un
  | _ => .un
theorem rng_ok {K : Kx} {F' : Hp} {lo : Int} {n : Nat} : ∀ i d, (rngL lo n)[i]? = some d → ∀ Fc Hc v Hn, Same F' Fc → Same Fc Hc → YFn (fun i => .int (lo + (i : Nat))) i Hc v Hn → ∃ Fn, Grow Fc Hc Fn Hn ∧ R K Fn Hn d v [] := by
  intro i d hd Fc Hc v Hn h1 h2 y
  obtain ⟨rfl, rfl⟩ := y
  obtain ⟨j, e1, rfl⟩ := at_map hd
  obtain ⟨hj, e2⟩ := List.getElem?_eq_some_iff.mp e1
  rw [List.getElem_range] at e2
  subst e2
  exact ⟨Fc, Grow.refl h2, .int _⟩
theorem rngL_len (lo : Int) (n : Nat) : (rngL lo n).length = n := by unfold rngL; rw [List.length_map, List.length_range]
theorem SI.range1 {p : Pos} {fa : En → Rs (List D)} (ha : SA X E W [a] fa) (hm : X.mg "range" = none) (hg : Gl X "range" := by rfl) (hs : starEach [a] X.env = [(false, eval a X.env)] := by rfl) : SI X E W tg (.Call (.Name "range" p) [a] [] pos) (fun env => (fa env).bind iRng1) := by
  obtain ⟨t, pa, ka⟩ := ha.ex
  refine ⟨ha.hK, _, pi_range1 hg hm pa hs, fun F σ H env S Rj q => ?_⟩
  refine ka F σ H env S _ ?_
  dsimp only at q
  cases e1 : fa env with
  | un => rw [e1] at q; exact q
  | ex x => rw [e1] at q; exact q
  | ok ds =>
    rw [e1, Rs.bind_ok] at q
    intro vs fp F' H' G r0
    unfold iRng1 at q
    split at q
    · split at q
      · rename_i hb
        obtain ⟨v, rfl, r⟩ := r0.one
        cases r
        exact ⟨_, rfl, by omega, by omega, q (Itr 0 _) _ _ F' H' G (by rw [rngL_len]; omega) (by rw [rngL_len]; exact walk_range) (fun _ _ => trivial) rng_ok⟩
      · exact q.elim
    · exact q.elim
theorem SI.range2 {p : Pos} {fa : En → Rs (List D)} (ha : SA X E W [a, b] fa) (hm : X.mg "range" = none) (hg : Gl X "range" := by rfl) (hs : starEach [a, b] X.env = [(false, eval a X.env), (false, eval b X.env)] := by rfl) (hs2 : starEach [b] X.env = [(false, eval b X.env)] := by rfl) : SI X E W tg (.Call (.Name "range" p) [a, b] [] pos) (fun env => (fa env).bind iRng2) := by
  obtain ⟨t, pa, ka⟩ := ha.ex
  refine ⟨ha.hK, _, pi_range2 hg hm pa hs hs2, fun F σ H env S Rj q => ?_⟩
  refine ka F σ H env S _ ?_
  dsimp only at q
  cases e1 : fa env with
  | un => rw [e1] at q; exact q
  | ex x => rw [e1] at q; exact q
  | ok ds =>
    rw [e1, Rs.bind_ok] at q
    intro vs fp F' H' G r0
    unfold iRng2 at q
    split at q
    · split at q
      · rename_i hb
        obtain ⟨v, v', _, _, rfl, r1, r2⟩ := r0.two
        cases r1; cases r2
        exact ⟨_, _, rfl, ⟨by omega, by omega, by omega, by omega⟩, q (Itr _ _) _ _ F' H' G (by rw [rngL_len]; omega) (by rw [rngL_len]; exact walk_range) (fun _ _ => trivial) rng_ok⟩
      · exact q.elim
    · exact q.elim
/-! ### for -/
def forL (h : D → En → Option En) (body : En → Fl) (w : List Nat) : List D → En → Fl
  | [], env => .nx env
  | d :: ds, env => match h d env with
    | none => .un
    | some e1 => match body e1 with
      | .nx e2 => forL h body w ds (wipeE w e2)
      | .ct e2 => forL h body w ds (wipeE w e2)
      | .bk e2 => .nx (wipeE w e2)
      | r => r
def sFor (fi : En → Rs (List D)) (h : D → En → Option En) (body : En → Fl) (w : List Nat) : En → Fl := fun env => match fi env with
  | .ok ds => forL h body w ds (wipeE w env)
  | .ex x => .xx x env
  | .un => .un
theorem drop_cons {α : Type} {xs : List α} {i : Nat} (h : i < xs.length) : xs.drop i = xs[i] :: xs.drop (i + 1) := List.drop_eq_getElem_cons h
theorem for_ok {wi : TI} {fi : En → Rs (List D)} {g : TG} {is : List Nat} {h : D → En → Option En} {tb : TS} {body : En → Fl} (w : List Nat) (ki : OkI E W wi fi) (kg : OkG E is g h) (kb : OkS E W tb body) : OkS E W (tFor wi g tb) (sFor fi h body w) := by
  intro F σ H env S D q
  refine ki F σ H env S _ ?_
  unfold sFor at q
  cases e1 : fi env with
  | un => rw [e1] at q; exact q
  | ex x => rw [e1] at q; exact fun cls dd F' H' G r => q cls dd F' σ H' G.f (S.grow G) r
  | ok ds =>
    rw [e1] at q
    dsimp only at q
    intro J G Y F' H' Gr _ wk hG hY
    refine for_it wk (fun i σ1 H1 => ∃ F1 en, Stt E F1 en σ1 H1 ∧ Same F' F1 ∧ PostS E W F1 D (forL h body w (ds.drop i) en)) ?_ ?_ ?_ ?_
    · exact ⟨F', wipeE w env, (S.grow Gr).wipes w, Same.refl _, q.mono Gr.f⟩
    · rintro i σ1 H1 _ ⟨F1, en, S1, le, _⟩
      exact hG H1 (le.trans S1.fH)
    · rintro i v σ1 H1 Hn hi ⟨F1, en, S1, le, q1⟩ hy
      obtain ⟨Fn, Gn, rn⟩ := hY i ds[i] (by simp [hi]) F1 H1 v Hn le S1.fH hy
      rw [drop_cons hi] at q1
      unfold forL at q1
      have Sn := S1.grow Gn
      have len : Same F' Fn := le.trans Gn.f
      cases e2 : h ds[i] en with
      | none => rw [e2] at q1; exact q1.elim
      | some en1 =>
        rw [e2] at q1
        dsimp only at q1
        refine kg Fn σ1 Hn en ds[i] v Sn rn _ ⟨en1, e2, fun σ2 S2 _ _ => ?_⟩
        refine kb Fn σ2 Hn en1 S2 _ ?_
        cases e3 : body en1 with
        | nx e => rw [e3] at q1; exact fun F3 σ3 H3 G3 S3 => ⟨F3, _, S3.wipes w, len.trans G3, q1.mono (Gn.f.trans G3)⟩
        | ct e => rw [e3] at q1; exact fun F3 σ3 H3 G3 S3 => ⟨F3, _, S3.wipes w, len.trans G3, q1.mono (Gn.f.trans G3)⟩
        | bk e => rw [e3] at q1; exact fun F3 σ3 H3 G3 S3 => q1 F3 σ3 H3 (Gn.f.trans G3) (S3.wipes w)
        | rt d e => rw [e3] at q1; exact PostS.mono (r := .rt d e) Gn.f q1
        | xx x e => rw [e3] at q1; exact PostS.mono (r := .xx x e) Gn.f q1
        | un => rw [e3] at q1; exact q1
    · rintro σ1 H1 ⟨F1, en, S1, le, q1⟩
      rw [List.drop_length] at q1
      exact q1 F1 σ1 H1 (Same.refl _) S1
end
end Z

set_option Elab.async false
set_option linter.all false
set_option maxRecDepth 100000
set_option maxHeartbeats 1000000
namespace Z
open PySem L2
section
variable {X : Cx} {E : Ent} {W : WX} {e a b tg iter : Expr} {f g : En → Rs D} {pos : Pos} {s : Stmt} {ss : List Stmt} {gs gt : En → Fl}
theorem SS.for (w : List Nat) {fi : En → Rs (List D)} {is : List Nat} {h : D → En → Option En} {body : List Stmt} (hp : PassesOwn (model X.prog X.w) X.A X.env X.xe) (hc : X.calm = true) (hi : SI X E W tg iter fi) (hg : SG X E tg is h) (hb : SB X E W body gs)
    (hs : ∀ x, foldedSetIterable iter X.env x = pure x := by intro _; rfl) : SS X E W (.For tg iter body [] pos) (sFor fi h gs w) := by
  obtain ⟨wi, p1, k1⟩ := hi.ex
  obtain ⟨tg', p2, k2⟩ := hg.ex
  obtain ⟨tb, p3, k3⟩ := hb.ex
  exact ⟨hi.hK, _, ps_for hp hc p1 p2 p3 hs, for_ok w k1 k2 k3⟩

/-! ### while -/
def whileL (c : En → Rs Bool) (body : En → Fl) (w : List Nat) : Nat → En → Fl
  | 0, _ => .un
  | n + 1, env => match c env with
    | .ok true => match body env with
      | .nx e => whileL c body w n (wipeE w e)
      | .ct e => whileL c body w n (wipeE w e)
      | .bk e => .nx (wipeE w e)
      | r => r
    | .ok false => .nx env
    | .ex x => .xx x env
    | .un => .un
def sWhile (n : Nat) (c : En → Rs Bool) (body : En → Fl) (w : List Nat) : En → Fl := fun env => whileL c body w n (wipeE w env)
theorem while_ok {tc : TT} {c : En → Rs Bool} {tb : TS} {body : En → Fl} (n : Nat) (w : List Nat) (kc : OkT E W tc c) (kb : OkS E W tb body) : OkS E W (tWhile tc tb) (sWhile n c body w) := by
  intro F σ H env S D q
  refine ⟨fun m σ1 H1 => ∃ F1 en, Stt E F1 en σ1 H1 ∧ PostS E W F1 D (whileL c body w m en), ⟨n, F, wipeE w env, S.wipes w, q⟩, ?_⟩
  rintro m σ1 H1 ⟨F1, en, S1, q1⟩
  refine kc F1 σ1 H1 en S1 _ ?_
  cases m with
  | zero => exact q1.elim
  | succ m =>
    unfold whileL at q1
    cases e1 : c en with
    | un => rw [e1] at q1; exact q1
    | ex x => rw [e1] at q1; exact fun cls dd F' H' G r => q1 cls dd F' σ1 H' G.f (S1.grow G) r
    | ok b =>
      rw [e1] at q1
      intro F' H' G
      cases b with
      | false => exact q1 F' σ1 H' G.f (S1.grow G)
      | true =>
        dsimp only at q1
        refine ⟨fun σ2 H2 => ∃ F2 en2, Stt E F2 en2 σ2 H2 ∧ PostS E W F2 D (whileL c body w m en2), fun σ2 H2 h2 => ⟨m, Nat.lt_succ_self m, h2⟩, ?_⟩
        refine kb F' σ1 H' en (S1.grow G) _ ?_
        cases e2 : body en with
        | nx e => rw [e2] at q1; exact fun F3 σ3 H3 G3 S3 => ⟨F3, _, S3.wipes w, q1.mono (G.f.trans G3)⟩
        | ct e => rw [e2] at q1; exact fun F3 σ3 H3 G3 S3 => ⟨F3, _, S3.wipes w, q1.mono (G.f.trans G3)⟩
        | bk e => rw [e2] at q1; exact fun F3 σ3 H3 G3 S3 => q1 F3 σ3 H3 (G.f.trans G3) (S3.wipes w)
        | rt d e => rw [e2] at q1; exact PostS.mono (r := .rt d e) G.f q1
        | xx x e => rw [e2] at q1; exact PostS.mono (r := .xx x e) G.f q1
        | un => rw [e2] at q1; exact q1
theorem SS.while (n : Nat) (w : List Nat) {c : Expr} {tc : En → Rs Bool} {body : List Stmt} (hp : PassesOwn (model X.prog X.w) X.A X.env X.xe) (hc : ST X E W c tc) (hb : SB X E W body gs) : SS X E W (.While c body [] pos) (sWhile n tc gs w) := by
  obtain ⟨t, p1, k1⟩ := hc.ex
  obtain ⟨tb, p3, k3⟩ := hb.ex
  exact ⟨hc.hK, _, ps_while hp p1 p3, while_ok n w k1 k3⟩

/-! ### x.append(e), x an owned list of the frame -/
def sApp (i : Nat) (f : En → Rs D) : En → Fl := fun env => match env[i]? with
  | some (some (.olst ds)) => match f env with
    | .ok d => if isData d && decide (ds.length < 16777216) then .nx (env.set i (some (.olst (ds ++ [d])))) else .un
    | .ex x => .xx x env
    | .un => .un
  | _ => .un
theorem R.olst_inv {K : Kx} {F H : Hp} {ds : List D} {v : V} {fp : List Addr} (r : R K F H (.olst ds) v fp) : ∃ a vs fp0, v = .ref a ∧ H a = some (.lst vs) ∧ RL K F H ds vs fp0 := by
  cases r with
  | olst h1 h2 hz => exact ⟨_, _, _, rfl, h1, h2⟩
/-- an owned list's items are changed -/
theorem Stt.setOwn {F H : Hp} {env : En} {σ : St} {i : Nat} {ds ds' : List D} {a : Addr} {vs vs' : List V} (S : Stt E F env σ H) (hz : ds'.length ≤ 16777216) (he : env[i]? = some (some (.olst ds))) (hσ : σ[i]? = some (some (.ref a))) (hH : H a = some (.lst vs))
    (hr : ∀ fp, RL E.K F H ds vs fp → RL E.K F H ds' vs' fp) : Stt E F (env.set i (some (.olst ds'))) σ (upd H a (.lst vs')) := by
  obtain ⟨fps, rs, nd, fr⟩ := S.rep
  obtain ⟨v, fp, g1, g2, g3⟩ := rs.get he
  rw [hσ] at g1
  cases g1
  cases g3 with
  | olst h1 h2 =>
    rename_i vs0 fp0 hz0
    rw [hH] at h1
    cases h1
    have hFa : F a = none := (fr i _ g2 a List.mem_cons_self).1
    have hown := (fr i _ g2 a List.mem_cons_self).2
    have hnd : (a :: fp0).Nodup := nodup_get nd g2
    have keepF : ∀ b, F b ≠ none → b ≠ a := fun b hb z => hb (by rw [z]; exact hFa)
    have r2 := hr fp0 h2
    have off : ∀ j fq, j ≠ i → fps[j]? = some fq → ∀ b ∈ fq, upd H a (.lst vs') b = H b := fun j fq hj hq b hb => by
      refine upd_ne fun z => ?_
      subst z
      exact nodup_apart nd hj hq g2 b hb List.mem_cons_self
    have hset : fps.set i (a :: fp0) = fps := by
      apply List.ext_getElem?
      intro j
      by_cases hj : i = j
      · subst hj
        have hl : i < fps.length := (List.getElem?_eq_some_iff.mp g2).1
        rw [List.getElem?_set_self hl, g2]
      · rw [List.getElem?_set_ne hj]
    refine ⟨S.le0, fun b o eb => ?_, fun b o eb n => ?_, S.old, fun j b hb => ?_, fps, ?_, nd, fr⟩
    · rw [upd_ne (keepF b (by rw [eb]; simp))]; exact S.fH b o eb
    · rw [upd_ne fun z => ?_]
      · exact S.keep b o eb n
      · subst z
        rcases hown with h | h
        · rw [h] at eb; cases eb
        · exact n i h
    · by_cases hb' : b = a
      · exact ⟨_, by rw [hb']; exact upd_same⟩
      · obtain ⟨o, ho⟩ := S.ownS j b hb
        exact ⟨o, by rw [upd_ne hb']; exact ho⟩
    · -- the slots
      have key : ∀ (env : En) (σ : St) (fps : List (List Addr)) (i : Nat), RS E.K F H env σ fps → fps[i]? = some (a :: fp0) → σ[i]? = some (some (.ref a)) → (∀ j fq, j ≠ i → fps[j]? = some fq → ∀ b ∈ fq, upd H a (.lst vs') b = H b) → env[i]? = some (some (.olst ds)) →
          RS E.K F (upd H a (.lst vs')) (env.set i (some (.olst ds'))) σ fps := by
        intro env σ fps i rs
        induction rs generalizing i with
        | nil => intro h; simp at h
        | non t ih =>
          intro h1 h2 h3 h4
          cases i with
          | zero => simp at h4
          | succ i => exact .non (ih i (by simpa using h1) (by simpa using h2) (fun j fq hj hq => h3 (j + 1) fq (by omega) (by simpa using hq)) (by simpa using h4))
        | som r t ih =>
          intro h1 h2 h3 h4
          cases i with
          | zero =>
            simp at h1 h2
            subst h2; subst h1
            refine .som (.olst upd_same (RL.mono (Same.refl _) ds' (fun b hb => upd_ne fun z => ?_) r2) hz) (RS.mono (Same.refl _) (fun fq hq b hb => ?_) t)
            · subst z; exact (List.nodup_cons.mp hnd).1 hb
            · obtain ⟨j, hj⟩ := List.mem_iff_getElem?.mp hq
              exact h3 (j + 1) fq (by omega) (by simpa using hj) b hb
          | succ i =>
            refine .som (R.mono (Same.refl _) _ (fun b hb => h3 0 _ (by omega) rfl b hb) r) (ih i (by simpa using h1) (by simpa using h2) (fun j fq hj hq => h3 (j + 1) fq (by omega) (by simpa using hq)) (by simpa using h4))
      exact key env σ fps i rs g2 hσ off he
theorem SS.app (i : Nat) {y : Str} {py apos cpos : Pos} (hf : SE X E W e f) (hN : X.N[i]? = some y := by rfl) (hv : Vis X.env.scope y := by first | exact Or.inl rfl | exact Or.inr (Or.inl rfl) | exact Or.inr (Or.inr rfl))
    (hd : (y == ("__debug__" : Str)) = false := by decide) (hcd : (y == ("__classdict__" : Str)) = false := by decide)
    (hbase : attributeBase (.Name y py) "append" X.env (eval (.Name y py) X.env) = eval (.Name y py) X.env := by rfl)
    (hfew : ((backTo cpos (starEach [e] X.env)).all (fun x => !x.1) && (backToKw cpos (keywordEach [] X.env)).all (fun x => x.1.isSome)
      && decide ([e].length + ([] : List Keyword).length + (if ([] : List Keyword).isEmpty then 0 else 1) < 30)) = true := by rfl)
    (hline : (apos.endLine == cpos.line) = true := by rfl) (hs : starEach [e] X.env = (false, eval e X.env) :: starEach [] X.env := by rfl) (hplain : (backTo cpos (starEach [] X.env)).any (·.1) = false := by rfl)
    (hsw : swapsWith (.Call (.Attribute (.Name y py) "append" apos) [e] [] cpos) none pos.line X.env = pure false := by rfl) :
    SS X E W (.Expr (.Call (.Attribute (.Name y py) "append" apos) [e] [] cpos) pos) (sApp i f) := by
  obtain ⟨t, p, k⟩ := hf.ex
  refine ⟨hf.hK, _, ps_expr (pe_bm PySem.F.plainAttrs_list PySem.F.slot_list_append PySem.F.type_list_append mt_append (pe_var hN hv hd hcd) (pa_cons p pa_nil hs) hbase hfew hline hs hplain) hsw, fun F σ H env S D q => ?_⟩
  unfold sApp at q
  split at q
  · rename_i ds he
    obtain ⟨fps, rs, _⟩ := S.rep
    obtain ⟨v, fp, g1, _, g3⟩ := rs.get he
    · obtain ⟨a, vs, fp0, rfl, h1, h2⟩ := g3.olst_inv
      refine ⟨.ref a, g1, Or.inl ⟨rfl, vs, SqL.of h1⟩, k F σ H env S _ ?_⟩
      cases e1 : f env with
      | un => rw [e1] at q; exact q
      | ex x => rw [e1] at q; exact fun cls dd F' H' G r => q cls dd F' σ H' G.f (S.grow G) r
      | ok d =>
        rw [e1] at q
        dsimp only at q
        split at q
        · rename_i hc
          rw [Bool.and_eq_true] at hc
          intro v1 fp1 F1 H1 G1 r1
          have ha1 : H1 a = some (.lst vs) := G1.h a _ h1
          refine ⟨a, vs, v1, rfl, rfl, ha1, by rw [h2.len, ← line_eq]; exact of_decide_eq_true hc.2, ?_⟩
          have r1' := r1.toData hc.1
          refine q F1 σ _ G1.f ((S.grow G1).setOwn (by rw [List.length_append]; have := of_decide_eq_true hc.2; simp; omega) he g1 ha1 fun fq hq => ?_)
          have := hq.snoc r1'
          rw [List.append_nil] at this
          exact this
        · exact q.elim
  · exact q.elim

/-! ### calls of the program's own defs -/
/-- a def's promise, by its meaning m -/
def PostP (K : Kx) (F H : Hp) (Q : VK) (Ex : XK) : Rs D → Prop
  | .ok d => ∀ v F' H', Grow F H F' H' → R K F' H' d v [] → Q v H'
  | .ex x => ∀ cls dd F' H', Grow F H F' H' → Rx K F' H' x cls dd → Ex cls dd H'
  | .un => False
def spP (K : Kx) (n : Nat) (m : List D → Rs D) : Sp := fun vs H Q Ex => ∃ ds F, Same F H ∧ RL K F H ds vs [] ∧ ds.length = n ∧ PostP K F H Q Ex (m ds)
/-- no exception leaves it -/
def noX : Rs D → Rs D
  | .ok d => .ok d
  | _ => .un
@[simp] theorem noX_ok (d : D) : noX (.ok d) = .ok d := id rfl
def eApp (n : Nat) (m : List D → Rs D) (fa : En → Rs (List D)) : En → Rs D := fun env => (fa env).bind fun ds => if ds.all isData && decide (ds.length = n) then m ds else .un
/-- m raises nothing -/
def NoX (m : List D → Rs D) : Prop := ∀ ds x, m ds ≠ .ex x
theorem SE.call0 {x : Str} {p : Pos} {k n : Nat} {fa_ : Addr} {fd : FuncData} {ps : List Str} {es : List Expr} {m : List D → Rs D} {fa : En → Rs (List D)}
    (F : FnOk X.prog X.w X.K X.mg X.base CX0 k fa_ fd ps (spP E.K n m)) (hx : NoX m) (hr : Room k X.A) (hm : X.mg x = some (.ref fa_)) (hk : PySem.W.keepIn X.K (.ref fa_) = true) (hb : Binds X.K fd ps []) (ha : SA X E W (e :: es) fa) (hg : Gl X x := by rfl)
    (hdb : (x == ("__debug__" : Str)) = false := by decide) (he : starEach (e :: es) X.env = (false, eval e X.env) :: starEach es X.env := by rfl) (hpl : (backTo pos (starEach es X.env)).any (·.1) = false := by rfl) :
    SE X E W (.Call (.Name x p) (e :: es) [] pos) (eApp n m fa) := by
  obtain ⟨t, pa, ka⟩ := ha.ex
  refine ⟨ha.hK, _, pe_call F hr hg hm hk hb .nil pass0 pa hdb he hpl, fun Fz σ H env S Q q => ?_⟩
  refine ka Fz σ H env S _ ?_
  unfold eApp at q
  cases e1 : fa env with
  | un => rw [e1] at q; exact q
  | ex x => rw [e1] at q; exact q
  | ok ds =>
    rw [e1, Rs.bind_ok] at q
    intro vs fp F1 H1 G1 r1
    split at q
    · rename_i hc
      rw [Bool.and_eq_true] at hc
      rw [List.append_nil]
      refine ⟨ds, F1, G1.fh, r1.toData hc.1, of_decide_eq_true hc.2, ?_⟩
      cases e2 : m ds with
      | un => rw [e2] at q; exact q
      | ex x => exact absurd e2 (hx ds x)
      | ok d => rw [e2] at q; exact fun v F' H' G r => q v [] F' H' (G1.trans G) r
    · exact q.elim
theorem SE.call00 {x : Str} {p : Pos} {k : Nat} {fa_ : Addr} {fd : FuncData} {ps : List Str} {m : List D → Rs D}
    (F : FnOk X.prog X.w X.K X.mg X.base CX0 k fa_ fd ps (spP E.K 0 m)) (hx : NoX m) (hr : Room k X.A) (hm : X.mg x = some (.ref fa_)) (hk : PySem.W.keepIn X.K (.ref fa_) = true) (hb : Binds X.K fd ps []) (hg : Gl X x := by rfl)
    (hdb : (x == ("__debug__" : Str)) = false := by decide) (hK : X.K = E.K.k := by rfl) :
    SE X E W (.Call (.Name x p) [] [] pos) (eApp 0 m aNil) := by
  refine ⟨hK, _, pe_call0 F hr hg hm hk hb .nil pass0 hdb, fun Fz σ H env S Q q => ?_⟩
  refine ⟨[], Fz, S.fH, .nil, rfl, ?_⟩
  have q : PostE E W Fz H σ Q (m []) := q
  cases e2 : m [] with
  | un => rw [e2] at q; exact q
  | ex x => exact absurd e2 (hx [] x)
  | ok d => rw [e2] at q; exact fun v F' H' G r => q v [] F' H' G r

/-! ### a def by its body -/
def start0 (n : Nat) (ds : List D) : En := ds.map some ++ List.replicate (n - ds.length) none
def outB : Fl → Rs D
  | .rt d _ => .ok d
  | .nx _ => .ok .non
  | .xx x _ => .ex x
  | _ => .un
/-- the meaning of a def with n names whose body means g -/
def runB (g : En → Fl) (n : Nat) (ds : List D) : Rs D := outB (g (start0 n ds))
def runB0 (g : En → Fl) (n : Nat) (ds : List D) : Rs D := noX (runB g n ds)
theorem runB0_nox {g : En → Fl} {n : Nat} : NoX (runB0 g n) := fun ds x e => by
  unfold runB0 at e
  cases q : runB g n ds <;> rw [q] at e <;> cases e
end
theorem rs_none {K : Kx} {F H : Hp} : ∀ (n : Nat), RS K F H (List.replicate n none) (List.replicate n none) (List.replicate n [])
  | 0 => .nil
  | n + 1 => .non (rs_none n)
theorem rs_start {K : Kx} {F H : Hp} : ∀ {ds : List D} {vs : List V} (n : Nat), RL K F H ds vs [] → RS K F H (ds.map some ++ List.replicate n none) (vs.map some ++ List.replicate n none) (List.replicate (ds.length + n) [])
  | [], vs, n, h => by
    have : vs = [] := by cases vs with | nil => rfl | cons a b => exact absurd h.len (by simp)
    subst this
    rw [List.length_nil, Nat.zero_add]
    exact rs_none n
  | d :: ds, vs, n, h => by
    obtain ⟨v, vs', rfl, h1, h2⟩ := h.inv_cons
    have e : (d :: ds).length + n = (ds.length + n) + 1 := by rw [List.length_cons]; omega
    rw [e]
    exact .som h1 (rs_start n h2)
theorem flat_nil {α : Type} : ∀ n : Nat, (List.replicate n ([] : List α)).flatten = []
  | 0 => rfl
  | n + 1 => by rw [List.replicate_succ, List.flatten_cons, flat_nil n]; rfl
theorem stt_start {K : Kx} {F H : Hp} {ds : List D} {vs : List V} {N : List Str} (hs : Same F H) (h : RL K F H ds vs []) : Stt ⟨K, H, F, fun _ => []⟩ F (start0 N.length ds) (L2.start N vs) H := by
  refine ⟨Same.refl _, hs, fun a o e _ => e, fun a o e _ => rfl, (fun i a ha => nomatch ha), List.replicate (ds.length + (N.length - ds.length)) [], ?_, ?_, ?_⟩
  · unfold start0 L2.start
    rw [h.len]
    exact rs_start _ h
  · rw [flat_nil]; exact List.nodup_nil
  · intro i fp hi a ha
    rw [List.getElem?_replicate] at hi
    split at hi
    · cases hi; cases ha
    · cases hi
theorem stt_end {K : Kx} {F H F' H' : Hp} {env : En} {σ : St} (S : Stt ⟨K, H, F, fun _ => []⟩ F' env σ H') : Grow F H F' H' :=
  ⟨S.le0, S.fH, fun a o e => S.keep a o e (fun _ z => nomatch z), fun a o e => S.old a o e (fun _ z => nomatch z)⟩
section
variable {P : Program} {w : World} {K : Kx} {mg : Str → Option Value} {base : Heap}
abbrev W0 : WX := fun _ _ _ _ => False
/-- a def that raises nothing -/
theorem fn0 {x qual : Str} {st : Stmt} {f : Addr} {fd : FuncData} {N ps : List Str} {k : Nat} {g : En → Fl} (Fn : Fun K.k x qual st f fd) (S : FnScope N ps (defScope st))
    (hb : ∀ (cdv : Value) (A : Around) (outer : List Env) (s : Shared) (H : Hp) (Ex : XK) (F0 : Hp), Room k (A.deeper (PyProof.Rows.envOfC qual (defScope st) s.heap.objs.size f cdv)) →
      SB (cxOf CX0 P w K.k mg base N qual (defScope st) f cdv A outer s H Ex).nox ⟨K, H, F0, fun _ => []⟩ W0 (defBody st) g) : FnOk P w K.k mg base CX0 (k + 1) f fd ps (spP K ps.length (runB0 g N.length)) := by
  refine Fn.ok S (fun vs H Q E h => ?_) (fun cdv A outer s H vs Q Ex hr h => ?_)
  · obtain ⟨ds, F, _, hl, hn, _⟩ := h
    rw [hl.len, hn]
  · obtain ⟨ds, F, hs, hl, hn, q⟩ := h
    obtain ⟨t, p, k⟩ := (hb cdv A outer s H Ex F hr).ex
    refine ⟨t, p, k F _ H _ (stt_start hs hl) _ ?_⟩
    unfold runB0 runB at q
    cases e : g (start0 N.length ds) with
    | nx en => rw [e] at q; exact fun F' σ' H' G S' => q _ F' H' (stt_end S') .non
    | bk en => rw [e] at q; exact q.elim
    | ct en => rw [e] at q; exact q.elim
    | rt d en => rw [e] at q; exact fun v F' σ' H' G S' r => q v F' H' (stt_end S') r
    | xx x en => rw [e] at q; exact q.elim
    | un => rw [e] at q; exact q
end
end Z

set_option Elab.async false
set_option linter.all false
set_option maxRecDepth 100000
set_option maxHeartbeats 1000000
namespace Z
open PySem L2
section
variable {X : Cx} {E : Ent} {W : WX} {e a b tg iter : Expr} {f g : En → Rs D} {pos : Pos} {s : Stmt} {ss : List Stmt} {gs gt : En → Fl}
/-! ### [e for x in xs if c] -/
def wipeR (env : En) : List Nat → En
  | [] => env
  | v :: vs => (wipeR env vs).set v none
def compL (h : D → En → Option En) (c : En → Rs Bool) (f : En → Rs D) (env : En) : List D → Rs (List D)
  | [] => .ok []
  | d :: ds => match h d env with
    | none => .un
    | some e1 => match c e1 with
      | .ok true => match f e1 with
        | .ok y => if isData y then (compL h c f env ds).bind fun ys => .ok (y :: ys) else .un
        | _ => .un
      | .ok false => compL h c f env ds
      | _ => .un
def eComp (fi : En → Rs (List D)) (h : D → En → Option En) (c : En → Rs Bool) (f : En → Rs D) (own : List Nat) : En → Rs (List D) := fun env => (fi env).bind fun ds => match compL h c f (wipeR env own) ds with
  | .ok ys => .ok ys
  | _ => .un
def cYes : En → Rs Bool := fun _ => .ok true
theorem Stt.wipeR {F H : Hp} {env : En} {σ : St} (S : Stt E F env σ H) : ∀ vs : List Nat, Stt E F (Z.wipeR env vs) (L2.wipe σ vs) H
  | [] => S
  | v :: vs => (Stt.wipeR S vs).wipe2 v
theorem wipe_off {σ σ' : St} : ∀ {is vs : List Nat}, (∀ j, j ∉ is → σ'[j]? = σ[j]?) → σ'.length = σ.length → (∀ i ∈ is, i ∈ vs) → wipe σ' vs = wipe σ vs := fun {is vs} h hl hs => by
  apply List.ext_getElem?
  intro j
  by_cases hj : j ∈ vs
  · have key : ∀ (τ : St) (ws : List Nat), j ∈ ws → (wipe τ ws)[j]? = if j < τ.length then some none else none := by
      intro τ ws
      induction ws with
      | nil => intro h; cases h
      | cons w ws ih =>
        intro h
        unfold wipe
        by_cases e : w = j
        · subst e
          by_cases hl : w < τ.length
          · rw [if_pos hl, List.getElem?_set_self (by rw [wipe_length]; exact hl)]
          · rw [if_neg hl, List.getElem?_eq_none (by rw [List.length_set, wipe_length]; omega)]
        · rw [List.getElem?_set_ne e]
          exact ih (by rcases List.mem_cons.mp h with z | z; exact absurd z.symm e; exact z)
    rw [key σ' vs hj, key σ vs hj, hl]
  · rw [wipe_out hj, wipe_out hj]
    exact h j fun z => hj (hs j z)
theorem Grow.updNew {F H F1 H1 : Hp} {p : Addr} {o : HO} (g : Grow F H F1 H1) (hp : H p = none) (hF : F1 p = none) : Grow F H F1 (upd H1 p o) where
  f := g.f
  fh := fun b u eb => by rw [upd_ne (ne_of_none eb hF)]; exact g.fh b u eb
  h := fun b u eb => by rw [upd_ne (ne_of_none eb hp)]; exact g.h b u eb
  o := g.o
/-- the element, the tests, the target in the comprehension's own block -/
structure Blk (X : Cx) (E : Ent) (scope : Scope) (tg : Expr) (ifs : List Expr) (elt : Expr) (is : List Nat) (h : D → En → Option En) (c : En → Rs Bool) (f : En → Rs D) : Prop where
  g : ∃ t, (∀ (s : Shared) (H : Hp) (C : Addr) (cl : List (Str × Addr)) (fp : List Addr), PG (X.blk s H scope (compEnvC scope cl C X.env) fp) tg t) ∧ OkG E is t h
  c : ∃ t, (∀ (s : Shared) (H : Hp) (C : Addr) (cl : List (Str × Addr)) (fp : List Addr), PTs (X.blk s H scope (compEnvC scope cl C X.env) fp) ifs t) ∧ OkT E (fun _ _ _ _ => False) t c
  f : ∃ t, (∀ (s : Shared) (H : Hp) (C : Addr) (cl : List (Str × Addr)) (fp : List Addr), PE (X.blk s H scope (compEnvC scope cl C X.env) fp) elt t) ∧ OkE E (fun _ _ _ _ => False) t f
structure SC (X : Cx) (E : Ent) (ifs : List Expr) (c : En → Rs Bool) : Prop where
  ex : ∃ t, PTs X ifs t ∧ OkT E (fun _ _ _ _ => False) t c
theorem SC.nil : SC X E [] cYes := ⟨_, pts_nil, fun F σ H env S Q q => q F H (Grow.refl S.fH)⟩
theorem SC.one {c : Expr} {tc : En → Rs Bool} (h : ST X E (fun _ _ _ _ => False) c tc) : SC X E [c] tc := by
  obtain ⟨t, p, k⟩ := h.ex
  exact ⟨_, pts_one p, k⟩
theorem Blk.mk' {scope : Scope} {ifs : List Expr} {elt : Expr} {is : List Nat} {h : D → En → Option En} {c : En → Rs Bool}
    (hg : ∀ (s : Shared) (H : Hp) (C : Addr) (cl : List (Str × Addr)) (fp : List Addr), SG (X.blk s H scope (compEnvC scope cl C X.env) fp) E tg is h)
    (hc : ∀ (s : Shared) (H : Hp) (C : Addr) (cl : List (Str × Addr)) (fp : List Addr), SC (X.blk s H scope (compEnvC scope cl C X.env) fp) E ifs c)
    (hf : ∀ (s : Shared) (H : Hp) (C : Addr) (cl : List (Str × Addr)) (fp : List Addr), SE (X.blk s H scope (compEnvC scope cl C X.env) fp) E (fun _ _ _ _ => False) elt f) : Blk X E scope tg ifs elt is h c f := by
  refine ⟨⟨fun v σ H Q => ∀ s H0 C cl fp, (hg s H0 C cl fp).ex.choose v σ H Q, fun s H0 C cl fp => ⟨fun pins s1 σ H v u Q I r q => (hg s H0 C cl fp).ex.choose_spec.1.run pins s1 σ H v u Q I r (q s H0 C cl fp)⟩, fun F σ H env d v S r Q q s H0 C cl fp => (hg s H0 C cl fp).ex.choose_spec.2 F σ H env d v S r Q q⟩,
    ⟨fun σ H Q => ∀ s H0 C cl fp, (hc s H0 C cl fp).ex.choose σ H Q, fun s H0 C cl fp => ⟨fun pins s1 σ H Q I q => (hc s H0 C cl fp).ex.choose_spec.1.run pins s1 σ H Q I (q s H0 C cl fp)⟩, fun F σ H env S Q q s H0 C cl fp => (hc s H0 C cl fp).ex.choose_spec.2 F σ H env S Q q⟩,
    ⟨fun σ H Q => ∀ s H0 C cl fp, (hf s H0 C cl fp).ex.choose σ H Q, fun s H0 C cl fp => ⟨fun pins s1 σ H Q I q => (hf s H0 C cl fp).ex.choose_spec.1.run pins s1 σ H Q I (q s H0 C cl fp)⟩, fun F σ H env S Q q s H0 C cl fp => (hf s H0 C cl fp).ex.choose_spec.2 F σ H env S Q q⟩⟩
theorem comp_ok {wi : TI} {fi : En → Rs (List D)} {tgg : TG} {tt : TT} {te : TE} {is own : List Nat} {h : D → En → Option En} {c : En → Rs Bool} (ki : OkI E W wi fi) (kg : OkG E is tgg h) (kc : OkT E (fun _ _ _ _ => False) tt c) (kf : OkE E (fun _ _ _ _ => False) te f)
    (hs : ∀ i ∈ is, i ∈ own) : OkL E W (tLc wi tgg tt te own) (eComp fi h c f own) := by
  intro F σ H env S Q q
  refine ki F σ H env S _ ?_
  unfold eComp at q
  cases e1 : fi env with
  | un => rw [e1] at q; exact q
  | ex x => rw [e1] at q; exact q
  | ok ds =>
    rw [e1, Rs.bind_ok] at q
    cases e2 : compL h c f (wipeR env own) ds with
    | un => rw [e2] at q; exact q.elim
    | ex x => rw [e2] at q; exact q.elim
    | ok zs =>
      rw [e2] at q
      intro J G Y F' H1 Gr hlen wk hG hY Dl hD
      have S' : Stt E F' (wipeR env own) (wipe σ own) H1 := (S.grow Gr).wipeR own
      have hDF : F' Dl = none := same_none Gr.fh hD
      refine lc_it wk (fun i Hc => ∃ F1 acc vs ys, Grow F' H1 F1 Hc ∧ F1 Dl = none ∧ Hc Dl = some (.lst vs) ∧ RL E.K F1 Hc acc vs [] ∧ compL h c f (wipeR env own) (ds.drop i) = .ok ys ∧ acc ++ ys = zs ∧ acc.length ≤ i) ?_ ?_ ?_ ?_
      · exact ⟨F', [], [], zs, Grow.own Gr.fh hD, hDF, upd_same, .nil, e2, rfl, Nat.le_refl _⟩
      · rintro i Hc _ ⟨F1, acc, vs, ys, g1, _⟩
        exact hG Hc (g1.f.trans g1.fh)
      · rintro i v Hc Hn hi ⟨F1, acc, vs, ys, g1, hF1, hDc, hr, hc, hz, hai⟩ hy
        obtain ⟨Fn, Gn, rn⟩ := hY i ds[i] (by simp [hi]) F1 Hc v Hn g1.f g1.fh hy
        rw [drop_cons hi] at hc
        unfold compL at hc
        have g2 := g1.trans Gn
        have Sn : Stt E Fn (wipeR env own) (wipe σ own) Hn := S'.grow g2
        have hFn : Fn Dl = none := (Gn.o Dl _ hDc).trans hF1
        have hDn : Hn Dl = some (.lst vs) := Gn.h _ _ hDc
        have hrn := hr.grow Gn
        cases e3 : h ds[i] (wipeR env own) with
        | none => rw [e3] at hc; cases hc
        | some en1 =>
          rw [e3] at hc
          dsimp only at hc
          refine kg Fn (wipe σ own) Hn _ ds[i] v Sn rn _ ⟨en1, e3, fun σ2 S2 hoff hl2 => ⟨?_, ?_⟩⟩
          · have hw := wipe_off (is := is) (vs := own) hoff hl2 hs
            have hww : ∀ (τ : St) (ws : List Nat), wipe (wipe τ ws) ws = wipe τ ws := by
              intro τ ws
              apply List.ext_getElem?
              intro j
              by_cases hj : j ∈ ws
              · have key : ∀ (τ : St) (vs : List Nat), j ∈ vs → (wipe τ vs)[j]? = if j < τ.length then some none else none := by
                  intro τ vs
                  induction vs with
                  | nil => intro h; cases h
                  | cons w vs ih =>
                    intro h
                    unfold wipe
                    by_cases e : w = j
                    · subst e
                      by_cases hl : w < τ.length
                      · rw [if_pos hl, List.getElem?_set_self (by rw [wipe_length]; exact hl)]
                      · rw [if_neg hl, List.getElem?_eq_none (by rw [List.length_set, wipe_length]; omega)]
                    · rw [List.getElem?_set_ne e]
                      exact ih (by rcases List.mem_cons.mp h with z | z; exact absurd z.symm e; exact z)
                rw [key _ ws hj, key _ ws hj, wipe_length]
              · rw [wipe_out hj]
            rw [hw, hww]
          · refine kc Fn σ2 Hn en1 S2 _ ?_
            cases e4 : c en1 with
            | un => rw [e4] at hc; cases hc
            | ex x => rw [e4] at hc; cases hc
            | ok bb =>
              rw [e4] at hc
              intro F3 H3 G3
              cases bb with
              | false =>
                have g3 := g2.trans G3
                exact ⟨F3, acc, vs, ys, g3, (G3.o Dl _ hDn).trans hFn, G3.h _ _ hDn, hrn.grow G3, hc, hz, by omega⟩
              | true =>
                show te σ2 H3 _
                dsimp only at hc
                refine kf F3 σ2 H3 en1 (S2.grow G3) _ ?_
                cases e5 : f en1 with
                | un => rw [e5] at hc; cases hc
                | ex x => rw [e5] at hc; cases hc
                | ok y =>
                  rw [e5] at hc
                  dsimp only at hc
                  split at hc
                  · rename_i hy
                    cases e6 : compL h c f (wipeR env own) (ds.drop (i + 1)) with
                    | un => rw [e6] at hc; cases hc
                    | ex x => rw [e6] at hc; cases hc
                    | ok ys' =>
                      rw [e6] at hc
                      cases hc
                      intro v5 fp5 F5 H5 G5 r5
                      have g5 := (g2.trans G3).trans G5
                      have hD5 : H5 Dl = some (.lst vs) := G5.h _ _ (G3.h _ _ hDn)
                      have hF5 : F5 Dl = none := (G5.o Dl _ (G3.h _ _ hDn)).trans ((G3.o Dl _ hDn).trans hFn)
                      have hr5 := (hrn.grow G3).grow G5
                      have hal : acc.length < ds.length := by omega
                      refine ⟨vs, hD5, by rw [hr5.len, ← line_eq]; omega, F5, acc ++ [y], vs ++ [v5], ys', g5.updNew hD hF5, hF5, upd_same, ?_, rfl, by rw [List.append_assoc]; exact hz, by rw [List.length_append]; simp; omega⟩
                      have hsn := hr5.snoc (r5.toData hy)
                      rw [List.append_nil] at hsn
                      exact RL.mono (Same.refl _) _ (fun a z => nomatch z) hsn
                  · cases hc
      · rintro Hc ⟨F1, acc, vs, ys, g1, hF1, hDc, hr, hc, hz, hai⟩
        rw [List.drop_length] at hc
        cases hc
        rw [List.append_nil] at hz
        subst hz
        have hD0 : H Dl = none := by
          cases q0 : H Dl with
          | none => rfl
          | some o => rw [Gr.h _ _ q0] at hD; cases hD
        exact q Dl vs F1 Hc (Gr.trans g1) hD0 hF1 hDc hr (by omega)
theorem SL.comp {elt : Expr} {ifs : List Expr} {scope : Scope} {own : List (Str × Nat)} {is : List Nat} {fi : En → Rs (List D)} {h : D → En → Option En} {c : En → Rs Bool} (hc : X.calm = true) (hN : X.N.Nodup) (hi : SI X E W tg iter fi) (ok : BlkOk X.N X.env.scope scope own)
    (hb : Blk X E scope tg ifs elt is h c f) (hs : ∀ i ∈ is, i ∈ own.map (·.2) := by decide) (hfs : ∀ x, foldedSetIterable iter X.env x = pure x := by intro _; rfl) : SL X E W (.ListComp elt [⟨tg, iter, ifs, 0⟩] scope pos) (eComp fi h c f (own.map (·.2))) := by
  obtain ⟨wi, p1, k1⟩ := hi.ex
  obtain ⟨tg', p2, k2⟩ := hb.g
  obtain ⟨tc', p3, k3⟩ := hb.c
  obtain ⟨te', p4, k4⟩ := hb.f
  exact ⟨hi.hK, _, pe_lc hc hN p1 ok p2 p3 p4 hfs, comp_ok k1 k2 k3 k4 hs⟩
/-- y = [..]: the list is data, or owned -/
theorem ps_ofTE {t : TE} {st : Stmt} {i : Nat} {fl : En → Rs (List D)} (hK : X.K = E.K.k) (p : PS X st (tAsg t (gName i))) (k : OkL E W t fl) : SS X E W st (sSetL i fl) ∧ SS X E W st (sSet i (eOfL fl)) := by
  refine ⟨⟨hK, _, p, setL_ok k⟩, ⟨hK, _, p, set_ok ?_⟩⟩
  intro F σ H env S Q q
  refine k F σ H env S _ ?_
  unfold eOfL at q
  cases e : fl env with
  | un => rw [e] at q; exact q
  | ex x => rw [e] at q; exact q
  | ok ds =>
    rw [e, Rs.bind_ok] at q
    intro pp vs F1 H1 G1 hp hF hH r hz
    have gs : Same F1 (upd F1 pp (.lst vs)) := fun b u eb => by rw [upd_ne (ne_of_none eb hF)]; exact eb
    refine q _ [] (upd F1 pp (.lst vs)) H1 ⟨G1.f.trans gs, fun b u eb => ?_, G1.h, fun b u eb => ?_⟩ (.lst upd_same (RL.mono gs ds (fun a z => nomatch z) r) hz)
    · by_cases hb : b = pp
      · subst hb; rw [upd_same] at eb; cases eb; exact hH
      · rw [upd_ne hb] at eb; exact G1.fh b u eb
    · rw [upd_ne (ne_of_none eb hp)]; exact G1.o b u eb
theorem SS.setC2 (i : Nat) {y : Str} {py spos : Pos} {elt : Expr} {ifs : List Expr} {scope : Scope} {own : List (Str × Nat)} {is : List Nat} {fi : En → Rs (List D)} {h : D → En → Option En} {c : En → Rs Bool} (hc : X.calm = true) (hN : X.N.Nodup) (hi : SI X E W tg iter fi) (ok : BlkOk X.N X.env.scope scope own)
    (hb : Blk X E scope tg ifs elt is h c f) (hy : X.N[i]? = some y) (hyl : X.env.scope.names.lookup y = some .local) (hsw : swapsWith (.ListComp elt [⟨tg, iter, ifs, 0⟩] scope pos) (some (.Name y py)) spos.line X.env = pure true) (hs : ∀ i ∈ is, i ∈ own.map (·.2)) (hfs : ∀ x, foldedSetIterable iter X.env x = pure x) :
    SS X E W (.Assign [.Name y py] (.ListComp elt [⟨tg, iter, ifs, 0⟩] scope pos) spos) (sSetL i (eComp fi h c f (own.map (·.2)))) ∧ SS X E W (.Assign [.Name y py] (.ListComp elt [⟨tg, iter, ifs, 0⟩] scope pos) spos) (sSet i (eOfL (eComp fi h c f (own.map (·.2))))) := by
  obtain ⟨wi, p1, k1⟩ := hi.ex
  obtain ⟨tg', p2, k2⟩ := hb.g
  obtain ⟨tc', p3, k3⟩ := hb.c
  obtain ⟨te', p4, k4⟩ := hb.f
  exact ps_ofTE hi.hK (ps_setLc hc hN hy hyl hsw p1 ok p2 p3 p4 hfs) (comp_ok k1 k2 k3 k4 hs)
theorem SS.setC (i : Nat) {y : Str} {py spos : Pos} {elt : Expr} {ifs : List Expr} {scope : Scope} {own : List (Str × Nat)} {is : List Nat} {fi : En → Rs (List D)} {h : D → En → Option En} {c : En → Rs Bool} (hc : X.calm = true) (hN : X.N.Nodup) (hi : SI X E W tg iter fi) (ok : BlkOk X.N X.env.scope scope own)
    (hb : Blk X E scope tg ifs elt is h c f) (hy : X.N[i]? = some y := by rfl) (hyl : X.env.scope.names.lookup y = some .local := by rfl) (hsw : swapsWith (.ListComp elt [⟨tg, iter, ifs, 0⟩] scope pos) (some (.Name y py)) spos.line X.env = pure true := by exact sw_true rfl rfl rfl (by decide +kernel)) (hs : ∀ i ∈ is, i ∈ own.map (·.2) := by decide) (hfs : ∀ x, foldedSetIterable iter X.env x = pure x := by intro _; rfl) :
    SS X E W (.Assign [.Name y py] (.ListComp elt [⟨tg, iter, ifs, 0⟩] scope pos) spos) (sSet i (eOfL (eComp fi h c f (own.map (·.2))))) := (SS.setC2 i hc hN hi ok hb hy hyl hsw hs hfs).2
theorem SS.setCL (i : Nat) {y : Str} {py spos : Pos} {elt : Expr} {ifs : List Expr} {scope : Scope} {own : List (Str × Nat)} {is : List Nat} {fi : En → Rs (List D)} {h : D → En → Option En} {c : En → Rs Bool} (hc : X.calm = true) (hN : X.N.Nodup) (hi : SI X E W tg iter fi) (ok : BlkOk X.N X.env.scope scope own)
    (hb : Blk X E scope tg ifs elt is h c f) (hy : X.N[i]? = some y := by rfl) (hyl : X.env.scope.names.lookup y = some .local := by rfl) (hsw : swapsWith (.ListComp elt [⟨tg, iter, ifs, 0⟩] scope pos) (some (.Name y py)) spos.line X.env = pure true := by exact sw_true rfl rfl rfl (by decide +kernel)) (hs : ∀ i ∈ is, i ∈ own.map (·.2) := by decide) (hfs : ∀ x, foldedSetIterable iter X.env x = pure x := by intro _; rfl) :
    SS X E W (.Assign [.Name y py] (.ListComp elt [⟨tg, iter, ifs, 0⟩] scope pos) spos) (sSetL i (eComp fi h c f (own.map (·.2)))) := (SS.setC2 i hc hN hi ok hb hy hyl hsw hs hfs).1
end
end Z

set_option Elab.async false
set_option linter.all false
set_option maxRecDepth 100000
set_option maxHeartbeats 2000000
namespace PySem
namespace ZRev
open PySem.W PySem.Calls PyProof.Rows PyProof.V PySem.Spec L2 RT
section
variable {prog : Program} {w : World} {A : Around} {E : Value → Shared → Prop} {s : Shared} {it l : Addr} {items : Array Value}
abbrev revP (items : Array Value) : Nat → Value → Prop := fun i v => items[items.size - 1 - i]? = some v
theorem hint_rev {Q : Bool → Shared → Prop} (hT : s.TypeIs (.ref it) "list_reverseiterator") (h : Q false s) : wpAny (model prog w) A (Builtin.List.listLengthHint (.ref it)) Q E s := by
  unfold Builtin.List.listLengthHint
  refine wpAny_bind (wpAny_specialOf hT nolen_lri ?_)
  show wpAny _ A (specialOf (Value.ref it) (Str.ofString "__length_hint__") >>= _) _ _ _
  refine wpAny_bind (wpAny_specialOf hT hint_lri ?_)
  generalize hid : ("list_reverseiterator.__length_hint__" : String) = id0
  wp_delta
  rw [show splitId id0 = some ("list_reverseiterator", "__length_hint__") from by subst hid; decide +kernel]
  subst hid
  refine wpAny_bind (wpAny_isInstance (b := true) hT (by rw [isSubtype_type]; kernel_rfl) ?_)
  refine wpAny_pure ?_
  exact h
theorem rev_extend {R : Result → Shared → Prop} (hh : A.handled = none) (hit : s.heap.IsRevIter it l ((items.size : Int) - 1)) (hl : s.heap.IsList l items) (hne : l ≠ it) (hn : items.size ≤ sizeLine) (S : Addr) (hSi : S ≠ it) (hSl : S ≠ l) (res : Value) (c0 : Nat)
    (hS : s.heap.get? S = some { cls := .type "list", data := .seq #[] c0 })
    (hR : ∀ h' tk acc' c', (∀ b o, b ≠ S → b ≠ it → s.heap.get? b = some o → h'.get? b = some o) → h'.get? S = some { cls := .type "list", dict := none, data := .seq acc' c', slots := #[] } → ItemsOf (revP items) acc' items.size → R (.ok (.ret res)) { s with heap := h', toks := tk }) :
    wpAny (model prog w) A.in1 (Builtin.List.listExtendWith (.ref S) (.ref it) res)
      (fun fin s' => match fin with | .done f => R (.ok f) s' | .again c' => c'.quiet = true ∧ codeAny (model prog w) A c' R s') (fun e s' => R (.error e) s') s := by
  have W := (Walks.listRev (prog := prog) (w := w) (A := A.in1) hh it l hne items).toS
  have hSf : S ∉ [it, l] := by simp only [List.mem_cons, List.not_mem_nil, or_false, not_or]; exact ⟨hSi, hSl⟩
  have hT : s.TypeIs (.ref it) "list_reverseiterator" := hit.typeIs
  have h1 : Builtin.List.listSameRef (.ref S) (.ref it) = false := by simp [Builtin.List.listSameRef, hSi]
  have e0 : ((items.size : Nat) : Int) - 1 - ((0 : Nat) : Int) = (items.size : Int) - 1 := by omega
  unfold Builtin.List.listExtendWith
  refine wpAny_bind (wpAny_typeOf hT ?_)
  rw [if_neg (by rw [h1]; decide)]
  refine wpAny_bind (wpAny_pyIter_revIter hit ?_)
  refine wpAny_bind (wpAny_holding (hint_rev hT ?_))
  rw [if_neg (by decide)]
  refine wpAny_pure ⟨plainId_quiet F.plain_extend_loop _, codeAny_extend_loopS W hn S hSf res items.size 0 _ _ _ rfl (Nat.zero_le _) ⟨Nat.zero_le _, by rw [e0]; exact hit, hl⟩ hS (ItemsOf.nil _) fun s' acc' c' hm hS' hacc => ?_⟩
  rw [Moved.eq_with hm]
  refine hR s'.heap s'.toks acc' c' (fun b o hb hbi e => hm.heap b o (fun hmem => ?_) e) hS' hacc
  rcases List.mem_cons.mp hmem with e' | hmem
  · exact hb e'
  · exact hbi (List.mem_singleton.mp hmem)
theorem rev_init {R : Result → Shared → Prop} (hh : A.handled = none) (hit : s.heap.IsRevIter it l ((items.size : Int) - 1)) (hl : s.heap.IsList l items) (hne : l ≠ it) (hn : items.size ≤ sizeLine) (S : Addr) (hSi : S ≠ it) (hSl : S ≠ l)
    (hS : s.heap.get? S = some { cls := .type "list", data := .seq #[] })
    (hR : ∀ h' tk acc' c', (∀ b o, b ≠ S → b ≠ it → s.heap.get? b = some o → h'.get? b = some o) → h'.get? S = some { cls := .type "list", dict := none, data := .seq acc' c', slots := #[] } → ItemsOf (revP items) acc' items.size → R (.ok (.ret .none)) { s with heap := h', toks := tk }) :
    wpAny (model prog w) A.in1 (Builtin.«list.__init__» ⟨[.ref S, .ref it], []⟩)
      (fun fin s' => match fin with | .done f => R (.ok f) s' | .again c' => c'.quiet = true ∧ codeAny (model prog w) A c' R s') (fun e s' => R (.error e) s') s := by
  show wpAny _ _ (do let old ← Builtin.List.listItems (.ref S); Builtin.List.listUpdate (.ref S) (fun _ => #[]); letGo old.toList.reverse; Builtin.List.listExtendWith (.ref S) (.ref it) .none) _ _ s
  refine wpAny_bind ?_
  unfold Builtin.List.listItems
  refine wpAny_bind (wpAny_seqItems hS rfl (wpAny_pure ?_))
  show wpAny _ _ (updateSeq S (fun _ => #[]) >>= fun _ => letGo (#[] : Array Value).toList.reverse >>= fun _ => Builtin.List.listExtendWith (.ref S) (.ref it) .none) _ _ s
  refine wpAny_bind (wpAny_updateSeq hS rfl ?_)
  have hS2 := Heap.get?_update_self (Obj.mapSeq (fun _ => (#[] : Array Value))) hS rfl
  have oth : ∀ b o, b ≠ S → s.heap.get? b = some o → (s.heap.update S (Obj.mapSeq (fun _ => (#[] : Array Value)))).get? b = some o := fun b o hb e => (Heap.get?_update_other _ _ (Ne.symm hb)).trans e
  refine wpAny_bind (wpAny_letGo ?_)
  refine rev_extend hh (hit.at fun o e => oth it o hSi.symm e) (hl.at fun o e => oth l o hSl.symm e) hne hn S hSi hSl .none _ hS2 fun h' tk acc' c' hk hS' hacc => ?_
  exact hR h' tk acc' c' (fun b o hb hbi e => hk b o hb hbi (oth b o hb e)) hS' hacc
theorem call_list_rev {Q : Value → Shared → Prop} (hh : A.handled = none) (hit : s.heap.IsRevIter it l ((items.size : Int) - 1)) (hl : s.heap.IsList l items) (hne : l ≠ it) (hn : items.size ≤ sizeLine)
    (hQ : ∀ h' tk acc' c', (∀ b o, b ≠ it → s.heap.get? b = some o → h'.get? b = some o) → h'.get? s.heap.objs.size = some { cls := .type "list", dict := none, data := .seq acc' c', slots := #[] } → ItemsOf (revP items) acc' items.size → Q (.ref s.heap.objs.size) { s with heap := h', toks := tk }) :
    wpAny (model prog w) A (call (.type "list") [.ref it]) Q E s := by
  refine callType_codes (Q₁ := fun obj s₁ => obj = .ref s.heap.objs.size ∧ s₁ = { s with heap := s.heap.push { cls := .type "list", data := .seq #[] } }) PySem.F.called_list (PySem.F.typeCall_list_1 _) PySem.F.entry_list_init
    (code_list_new _ ⟨rfl, rfl⟩) fun obj s1 h1 => ?_
  obtain ⟨rfl, rfl⟩ := h1
  have hS : (s.heap.push { cls := .type "list", data := .seq #[] }).get? s.heap.objs.size = some { cls := .type "list", data := .seq #[] } := Heap.get?_push_size _ rfl
  obtain ⟨oi, hoi, _⟩ := id hit
  obtain ⟨ol, hol, _⟩ := id hl
  refine ⟨⟨_, hS, rfl⟩, PySem.F.args_list_init_2 _ _, rev_init (A := A.in1) hh (hit.at fun o e => Heap.get?_push_of_some _ e) (hl.push _) hne hn _ (Nat.ne_of_gt (Heap.lt_size hoi)) (Nat.ne_of_gt (Heap.lt_size hol)) hS fun h' tk acc' c' hk hS' hacc => ?_⟩
  exact ⟨rfl, hQ h' tk acc' c' (fun b o hb e => hk b o (Nat.ne_of_lt (Heap.lt_size e)) hb (Heap.get?_push_of_some _ e)) hS' hacc⟩
end
end ZRev
end PySem
namespace Z
open PySem L2
section
variable {X : Cx} {E : Ent} {W : WX} {e a b tg iter : Expr} {f g : En → Rs D} {pos : Pos} {s : Stmt} {ss : List Stmt} {gs gt : En → Fl}
/-! ### list(x), list(reversed(x)) -/
def eList (f : En → Rs D) : En → Rs (List D) := fun env => (f env).bind fun d => ofO (seqOf d)
theorem newL_ok {t : TE} {h : D → Option (List D)} (k : OkE E W t f) (hr : ∀ F H v d fp ds, Same F H → R E.K F H d v fp → h d = some ds → ∃ a vs, v = .ref a ∧ (SqL E.K.k H a vs ∨ SqT E.K.k H a vs) ∧ RL E.K F H ds vs [] ∧ ds.length ≤ 16777216)
    {r : V → Hp → VK → Prop} (hq : ∀ v H Q a vs, v = .ref a → (SqL E.K.k H a vs ∨ SqT E.K.k H a vs) → (∀ p, H p = none → Q (.ref p) (upd H p (.lst vs))) → r v H Q) :
    OkL E W (fun σ H Q => t σ H fun v H1 => r v H1 Q) (fun env => (f env).bind fun d => ofO (h d)) := by
  intro F σ H env S Q q
  refine k F σ H env S _ ?_
  dsimp only at q
  cases e1 : f env with
  | un => rw [e1] at q; exact q
  | ex x => rw [e1] at q; exact q
  | ok d =>
    rw [e1, Rs.bind_ok] at q
    intro v fp F1 H1 G1 r1
    cases e2 : h d with
    | none => rw [e2] at q; exact q.elim
    | some ds =>
      rw [e2] at q
      obtain ⟨a, vs, rfl, hs, hl, hz⟩ := hr F1 H1 v d fp ds G1.fh r1 e2
      refine hq _ H1 Q a vs rfl hs fun p hp => ?_
      have hp0 : H p = none := by
        cases q0 : H p with
        | none => rfl
        | some o => rw [G1.h _ _ q0] at hp; cases hp
      exact q p vs F1 _ (G1.trans (Grow.own G1.fh hp)) hp0 (same_none G1.fh hp) upd_same (hl.grow (Grow.own G1.fh hp)) hz
theorem SL.list {p : Pos} (ha : SE X E W a f) (hm : X.mg "list" = none) (hg : Gl X "list" := by rfl) (hs : starEach [a] X.env = (false, eval a X.env) :: starEach [] X.env := by rfl) (hpl : (backTo pos (starEach [] X.env)).any (·.1) = false := by rfl) : SL X E W (.Call (.Name "list" p) [a] [] pos) (eList f) := by
  obtain ⟨t, pa, ka⟩ := ha.ex
  refine ⟨ha.hK, _, pe_callTy call_list_of hg hm (by decide +kernel) (pa_cons pa pa_nil hs) (by decide) (by decide) hs hpl, ?_⟩
  refine newL_ok (r := fun v H Q => ∃ p ys, [v] = [V.ref p] ∧ (SqL X.K H p ys ∨ SqT X.K H p ys) ∧ ∀ l, H l = none → Q (.ref l) (upd H l (.lst ys))) ka (fun F H v d fp ds hs r e => seqOf_at hs r e) ?_
  intro v H Q a vs hv hs q
  exact ⟨a, vs, by rw [hv], by rw [ha.hK]; exact hs, q⟩
end
end Z
namespace L2
open PySem PySem.Spec PyProof.Rows
theorem pe_listRev {X : Cx} {e : Expr} {pos : Pos} {te : TE} {p p2 pos2 : Pos} (hc : X.calm = true) (hg : Gl X "list") (hm : X.mg "list" = none) (hg2 : Gl X "reversed") (hm2 : X.mg "reversed" = none) (he : PE X e te)
    (hs : starEach [e] X.env = (false, eval e X.env) :: starEach [] X.env := by rfl)
    (hs2 : starEach [.Call (.Name "reversed" p2) [e] [] pos2] X.env = (false, eval (.Call (.Name "reversed" p2) [e] [] pos2) X.env) :: starEach [] X.env := by rfl) :
    PE X (.Call (.Name "list" p) [.Call (.Name "reversed" p2) [e] [] pos2] [] pos) (fun σ H Q => te σ H fun v H1 => ∃ (a : Addr) (xs : List V), v = .ref a ∧ SqL X.K H1 a xs ∧ ∀ q, H1 q = none → Q (.ref q) (upd H1 q (.lst xs.reverse))) := by
  refine ⟨fun pins s σ H Q I h => ?_⟩
  have hbl : bootBuiltins "list" = some (.type "list") := by decide +kernel
  refine Call_ (ld_blt I hg hm hbl (PyProof.Rows.callWith_type1 (args_cons (Call_ (ld_blt I hg2 hm2 PyProof.Rows.boot_reversed (PyProof.Rows.callWith_type1 (args_cons (thn (he.run pins s σ H _ I h) fun u s1 ⟨v, H1, I1, r1, q1⟩ => args_nil ?_) hs) hs rfl))) hs2) hs2 rfl))
  obtain ⟨a, xs, ev, hq, q⟩ := q1
  subst ev
  obtain rfl : u = Value.ref a := r1
  obtain ⟨its, rv, p', hz⟩ := I1.list hq
  refine call_reversed_list p'.isList (args_nil ?_)
  have hl := p'.isList
  obtain ⟨ol, hol, _⟩ := id hl
  have hne : a ≠ s1.heap.objs.size := Nat.ne_of_lt (Heap.lt_size hol)
  have hn : its.toArray.size ≤ sizeLine := by rw [List.size_toArray, ← rv.length]; exact hz
  refine PySem.ZRev.call_list_rev (s := { s1 with heap := s1.heap.push (revObj a ((its.toArray.size : Int) - 1)) }) (I1.ok.hd hc) ⟨_, Heap.get?_push_size _ rfl, rfl, rfl⟩ (hl.push _) hne hn fun h' tk acc c' hk hS hi => ?_
  have szp : (s1.heap.push (revObj a ((its.toArray.size : Int) - 1))).objs.size = s1.heap.objs.size + 1 := by simp
  have hfr : H1 (s1.heap.push (revObj a ((its.toArray.size : Int) - 1))).objs.size = none := I1.hok.fresh (by rw [szp]; exact Nat.le_succ _)
  refine ⟨.ref _, upd H1 _ (.lst xs.reverse), I1.laid (t' := tk) (a := (s1.heap.push (revObj a ((its.toArray.size : Int) - 1))).objs.size) (fun b o eb => hk b o (Nat.ne_of_lt (Heap.lt_size eb)) (Heap.get?_push_of_some _ eb)) (by rw [szp]; exact Nat.le_succ _) ?_, rfl, q _ hfr⟩
  exact ⟨by rw [List.length_reverse]; exact hz, acc.toList, c', RT.vals_rev rv hi, by rw [Array.toArray_toList]; exact hS⟩
end L2
namespace Z
open PySem L2
section
variable {X : Cx} {E : Ent} {W : WX} {e a b tg iter : Expr} {f g : En → Rs D} {pos : Pos} {s : Stmt} {ss : List Stmt} {gs gt : En → Fl}
def revOf (d : D) : Option (List D) := (listOf d).map List.reverse
theorem SL.lrev {p p2 pos2 : Pos} (ha : SE X E W a f) (hc : X.calm = true) (hm : X.mg "list" = none) (hm2 : X.mg "reversed" = none) (hg : Gl X "list" := by rfl) (hg2 : Gl X "reversed" := by rfl) (hs : starEach [a] X.env = (false, eval a X.env) :: starEach [] X.env := by rfl)
    (hs2 : starEach [.Call (.Name "reversed" p2) [a] [] pos2] X.env = (false, eval (.Call (.Name "reversed" p2) [a] [] pos2) X.env) :: starEach [] X.env := by rfl) :
    SL X E W (.Call (.Name "list" p) [.Call (.Name "reversed" p2) [a] [] pos2] [] pos) (fun env => (f env).bind fun d => ofO (revOf d)) := by
  obtain ⟨t, pa, ka⟩ := ha.ex
  refine ⟨ha.hK, _, pe_listRev hc hg hm hg2 hm2 pa hs hs2, ?_⟩
  intro F σ H env S Q q
  refine ka F σ H env S _ ?_
  dsimp only at q
  cases e1 : f env with
  | un => rw [e1] at q; exact q
  | ex x => rw [e1] at q; exact q
  | ok d =>
    rw [e1, Rs.bind_ok] at q
    intro v fp F1 H1 G1 r1
    unfold revOf at q
    cases e2 : listOf d with
    | none => rw [e2] at q; exact q.elim
    | some ds =>
      rw [e2] at q
      obtain ⟨a', vs, rfl, hs', hl, hz⟩ := listOf_at G1.fh r1 e2
      refine ⟨a', vs, rfl, SqL.of hs', fun p hp => ?_⟩
      have hp0 : H p = none := by
        cases q0 : H p with
        | none => rfl
        | some o => rw [G1.h _ _ q0] at hp; cases hp
      exact q p _ F1 _ (G1.trans (Grow.own G1.fh hp)) hp0 (same_none G1.fh hp) upd_same (hl.rev0.grow (Grow.own G1.fh hp)) (by rw [List.length_reverse]; exact hz)

/-! ### sep.join(texts) -/
def strsOf : List D → Option (List (List Nat))
  | [] => some []
  | .str x :: ds => (strsOf ds).map (x :: ·)
  | _ => none
theorem strsOf_at {K : Kx} {F H : Hp} : ∀ {ds : List D} {vs : List V} {xs : List (List Nat)}, RL K F H ds vs [] → strsOf ds = some xs → vs = (xs.map fun x => (⟨x.toArray⟩ : Str)).map V.str ∧ ∀ x ∈ xs, StrOk x
  | [], vs, xs, r, e => by
    cases e
    cases vs with
    | nil => exact ⟨rfl, fun _ z => nomatch z⟩
    | cons _ _ => exact absurd r.len (by simp)
  | d :: ds, vs, xs, r, e => by
    obtain ⟨v, vs', rfl, h1, h2⟩ := r.inv_cons
    cases d <;> first | (cases e; done) | skip
    rename_i x
    have e' : (strsOf ds).map (x :: ·) = some xs := e
    cases q : strsOf ds with
    | none => rw [q] at e'; cases e'
    | some xs' =>
      rw [q] at e'
      cases e'
      obtain ⟨rfl, k⟩ := h1.str_inv
      obtain ⟨e1, e2⟩ := strsOf_at h2 q
      refine ⟨by rw [e1]; rfl, fun y hy => ?_⟩
      rcases List.mem_cons.mp hy with z | z
      · rw [z]; exact k
      · exact e2 y z
def joinN (sep : List Nat) : List (List Nat) → List Nat
  | [] => []
  | [x] => x
  | x :: y :: r => x ++ sep ++ joinN sep (y :: r)
theorem join_str (sep : List Nat) : ∀ xs : List (List Nat), Str.join ⟨sep.toArray⟩ (xs.map fun x => (⟨x.toArray⟩ : Str)) = ⟨(joinN sep xs).toArray⟩
  | [] => rfl
  | [x] => rfl
  | x :: y :: r => by
    have ih := join_str sep (y :: r)
    show ((⟨x.toArray⟩ : Str) ++ ⟨sep.toArray⟩) ++ Str.join ⟨sep.toArray⟩ ((y :: r).map fun x => (⟨x.toArray⟩ : Str)) = _
    rw [ih, str_app, str_app]
    rfl
theorem joinN_mem (sep : List Nat) : ∀ (xs : List (List Nat)) (c : Nat), c ∈ joinN sep xs → c ∈ sep ∨ ∃ x ∈ xs, c ∈ x
  | [], c, h => nomatch h
  | [x], c, h => .inr ⟨x, by simp, h⟩
  | x :: y :: r, c, h => by
    have h : c ∈ x ++ sep ++ joinN sep (y :: r) := h
    rcases List.mem_append.mp h with h | h
    · rcases List.mem_append.mp h with h | h
      · exact .inr ⟨x, by simp, h⟩
      · exact .inl h
    · rcases joinN_mem sep (y :: r) c h with h | ⟨z, hz, hc⟩
      · exact .inl h
      · exact .inr ⟨z, List.mem_cons_of_mem _ hz, hc⟩
theorem joinN_len (sep : List Nat) : ∀ xs : List (List Nat), (joinN sep xs).length ≤ (xs.map List.length).sum + xs.length * sep.length
  | [] => by simp [joinN]
  | [x] => by simp [joinN]
  | x :: y :: r => by
    have ih := joinN_len sep (y :: r)
    show (x ++ sep ++ joinN sep (y :: r)).length ≤ _
    rw [List.length_append, List.length_append]
    have e1 : ((x :: y :: r).map List.length).sum = x.length + ((y :: r).map List.length).sum := by simp
    have e2 : (x :: y :: r).length * sep.length = sep.length + (y :: r).length * sep.length := by
      rw [List.length_cons (a := x), Nat.add_mul]; omega
    omega
def pJoin (a b : D) : Option D := match a with
  | .str sep => (seqOf b).bind fun ds => (strsOf ds).bind fun xs => if (xs.map List.length).sum + xs.length * sep.length ≤ 16777216 then some (.str (joinN sep xs)) else none
  | _ => none
theorem m1_ok {t u : TE} {r : V → List V → Hp → VK → Prop} {op : D → D → Option D} (ha : OkE E W t f) (hb : OkE E W u g)
    (hstr : ∀ d1 d2 d, op d1 d2 = some d → ∃ x, d1 = .str x) (hex : ∀ env d1 x, f env = .ok d1 → g env = .ex x → ∃ y, d1 = .str y)
    (hr : ∀ F H x y d1 d2 fp1 fp2 d, Same F H → R E.K F H d1 x fp1 → R E.K F H d2 y fp2 → op d1 d2 = some d → ∀ Q : VK, (∀ v fp F' H', Grow F H F' H' → R E.K F' H' d v fp → Q v H') → r x [y] H Q) :
    OkE E W (tM1 r t u) (eBin op f g) := by
  intro F σ H env S Q h
  refine ha F σ H env S _ ?_
  unfold eBin at h
  cases e1 : f env with
  | un => rw [e1] at h; exact h
  | ex x => rw [e1] at h; exact h
  | ok d1 =>
    intro v1 fp1 F1 H1 G1 r1
    rw [e1, Rs.bind_ok] at h
    cases e2 : g env with
    | un => rw [e2] at h; exact h.elim
    | ex x =>
      rw [e2] at h
      obtain ⟨y, rfl⟩ := hex env d1 x e1 e2
      obtain ⟨rfl, _⟩ := r1.str_inv
      refine ⟨⟨_, rfl⟩, hb F1 σ H1 env (S.grow G1) _ ?_⟩
      rw [e2]; exact PostE.mono G1 h
    | ok d2 =>
      rw [e2, Rs.bind_ok] at h
      cases e3 : op d1 d2 with
      | none => rw [e3] at h; exact h.elim
      | some d =>
        rw [e3] at h
        obtain ⟨y, rfl⟩ := hstr d1 d2 d e3
        have rv := r1.str_inv
        refine ⟨⟨_, rv.1⟩, hb F1 σ H1 env (S.grow G1) _ ?_⟩
        rw [e2]
        intro v2 fp2 F2 H2 G2 r2
        exact hr F2 H2 v1 v2 _ d2 fp1 fp2 d G2.fh (r1.grow G2) r2 e3 Q fun v fp F' H' G k => h v fp F' H' ((G1.trans G2).trans G) k
/-- a written separator -/
theorem SE.join {sep : List Nat} {x : Str} {j : Nat} {p apos : Pos} (hb : SE X E W b g) (hx : x = ⟨sep.toArray⟩ := by rfl) (hso : strOkB sep = true := by decide +kernel) (hs : starEach [b] X.env = [(false, eval b X.env)] := by rfl) (hbase : attributeBase (.Constant (.str x) j p) "join" X.env (eval (.Constant (.str x) j p) X.env) = eval (.Constant (.str x) j p) X.env := by rfl) (hline : (apos.endLine == pos.line) = true := by rfl) :
    SE X E W (.Call (.Attribute (.Constant (.str x) j p) "join" apos) [b] [] pos) (eBin pJoin (eC (.str sep)) g) := by
  obtain ⟨t, pb, kb⟩ := hb.ex
  obtain ⟨u, pa, ka⟩ := (SE.str (W := W) (pos := p) (j := j) sep hx hso hb.hK).ex
  refine ⟨hb.hK, _, pe_join pa pb hs hbase hline, m1_ok ka kb ?_ ?_ ?_⟩
  · intro d1 d2 d h
    unfold pJoin at h
    split at h
    · exact ⟨_, rfl⟩
    · cases h
  · intro env d1 x h _
    cases h
    exact ⟨_, rfl⟩
  · intro F H x y d1 d2 fp1 fp2 d hs r1 r2 h Q q
    unfold pJoin at h
    split at h
    · rename_i sep'
      obtain ⟨rfl, k1⟩ := r1.str_inv
      cases e1 : seqOf d2 with
      | none => rw [e1] at h; cases h
      | some ds =>
        rw [e1, Option.bind_some] at h
        cases e2 : strsOf ds with
        | none => rw [e2] at h; cases h
        | some xs =>
          rw [e2, Option.bind_some] at h
          split at h
          · rename_i hz
            cases h
            obtain ⟨a', vs, rfl, hq, hl, _⟩ := seqOf_at hs r2 e1
            obtain ⟨e3, hok⟩ := strsOf_at hl e2
            subst e3
            refine ⟨_, a', _, rfl, rfl, by rw [hb.hK]; exact hq, ?_, ?_⟩
            · rw [List.map_map, List.length_map]
              have e4 : xs.map ((fun x : Str => x.length) ∘ fun x => (⟨x.toArray⟩ : Str)) = xs.map List.length := List.map_congr_left fun x _ => List.size_toArray
              have e5 : (⟨sep'.toArray⟩ : Str).length = sep'.length := List.size_toArray
              rw [e5]
              have e6 : (xs.map ((·.length) ∘ fun x => (⟨x.toArray⟩ : Str))).sum = (xs.map List.length).sum := congrArg List.sum e4
              rw [e6]
              exact hz
            · have e7 : Txt.join ⟨sep'.toArray⟩ (xs.map fun x => (⟨x.toArray⟩ : Str)) = ⟨(joinN sep' xs).toArray⟩ := by
                unfold Txt.join
                rw [PySem.StrLaws.glued_eq_join]
                exact join_str sep' xs
              rw [e7]
              refine q _ [] F H (Grow.refl hs) (.str ⟨?_, fun c hc => ?_⟩)
              · rw [← line_eq]; exact Nat.le_trans (joinN_len sep' xs) hz
              · rcases joinN_mem sep' xs c hc with h | ⟨z, hz', hc'⟩
                · exact k1.cps c h
                · exact (hok z hz').cps c hc'
          · cases h
    · cases h

/-! ### isinstance(x, T), T a built-in type -/
def tyOf : D → Option String
  | .non => some "NoneType"
  | .bl _ => some "bool"
  | .int _ => some "int"
  | .str _ => some "str"
  | .tup _ => some "tuple"
  | .lst _ => some "list"
  | .olst _ => some "list"
  | _ => none
def isT (t T : String) : Bool := t == T || (t == "bool" && T == "int")
def pIsi (T : String) (d : D) : Option D := (tyOf d).map fun t => .bl (isT t T)
def tyNames : List String := ["NoneType", "bool", "int", "str", "tuple", "list", "dict"]
theorem kit_all : (tyNames.all fun t => ["bool", "int", "str", "tuple", "list", "dict"].all fun T => decide (kitB t T = some (isT t T))) = true := by decide +kernel
theorem kit_of' {t T : String} (h1 : t ∈ tyNames) (h2 : T ∈ (["bool", "int", "str", "tuple", "list", "dict"] : List String)) : kitB t T = some (isT t T) :=
  of_decide_eq_true (List.all_eq_true.mp (List.all_eq_true.mp kit_all t h1) T h2)
theorem tyx_of {K : Kx} {F H : Hp} {d : D} {v : V} {fp : List Addr} {t : String} (hs : Same F H) (r : R K F H d v fp) (e : tyOf d = some t) : TyX K.k H v (.type t) ∧ t ∈ tyNames := by
  cases r <;> first | (cases e; done) | skip
  · cases e; exact ⟨.base .non, by decide⟩
  · cases e; exact ⟨.base (.bl _), by decide⟩
  · cases e; exact ⟨.base (.int _), by decide⟩
  · cases e; exact ⟨.base (.str _), by decide⟩
  · rename_i a vs ds h1 h2 hz
    cases e
    refine ⟨?_, by decide⟩
    rcases h1 with (h | ⟨o, h⟩) | ⟨o, its, n, hk, hc, _⟩
    · exact .base (.tup (hs _ _ h))
    · exact .fTuple (hs _ _ h)
    · exact .kTuple hk hc
  · rename_i a vs ds h1 h2 hz
    cases e
    exact ⟨.base (.lst (hs _ _ h1)), by decide⟩
  · rename_i a vs ds fp h1 h2 hz
    cases e
    exact ⟨.base (.lst h1), by decide⟩
def eIsi (T : String) (f : En → Rs D) : En → Rs D := fun env => (f env).bind fun d => ofO (pIsi T d)
theorem SE.isi (T : String) {x : Str} {p p2 : Pos} (ha : SE X E W a f) (hm : X.mg "isinstance" = none) (hmT : X.mg x = none) (hv : bootBuiltins x = some (.type T)) (hT : T ∈ (["bool", "int", "str", "tuple", "list", "dict"] : List String) := by decide) (hg : Gl X "isinstance" := by rfl) (hgT : Gl X x := by rfl)
    (hn : x ≠ "__name__" := by decide) (hd : (x == ("__debug__" : Str)) = false := by decide)
    (hs : starEach [a, .Name x p2] X.env = (false, eval a X.env) :: starEach [.Name x p2] X.env := by rfl) (hs2 : starEach [.Name x p2] X.env = (false, eval (.Name x p2) X.env) :: starEach [] X.env := by rfl)
    (hpl : (backTo pos (starEach [.Name x p2] X.env)).any (·.1) = false := by rfl) :
    SE X E W (.Call (.Name "isinstance" p) [a, .Name x p2] [] pos) (eIsi T f) := by
  obtain ⟨t, pa, ka⟩ := ha.ex
  refine ⟨ha.hK, _, pe_callB call_isi hg hm (by decide +kernel) (pa_cons pa (pa_cons (pe_bltn hgT hmT hv (v := .ty T) rfl hn hd) pa_nil hs2) hs) (by decide) (by decide) hs hpl, ?_⟩
  intro F σ H env S Q q
  refine ka F σ H env S _ ?_
  unfold eIsi at q
  cases e1 : f env with
  | un => rw [e1] at q; exact q
  | ex x => rw [e1] at q; exact q
  | ok d =>
    rw [e1, Rs.bind_ok] at q
    intro v fp F1 H1 G1 r1
    unfold pIsi at q
    cases e2 : tyOf d with
    | none => rw [e2] at q; exact q.elim
    | some t =>
      rw [e2] at q
      obtain ⟨h1, h2⟩ := tyx_of G1.fh r1 e2
      refine ⟨v, .ty T, .type t, .type T, isT t T, rfl, .ty T, by rw [ha.hK]; exact h1, kit_ty (kit_of' h2 hT), ?_⟩
      exact q _ [] F1 H1 G1 (.bl _)
end
end Z

set_option Elab.async false
set_option linter.all false
set_option maxRecDepth 100000
set_option maxHeartbeats 2000000
namespace Z
open PySem L2
theorem bo_len : bootBuiltins "len" = some (.builtin "len") := by decide +kernel
theorem bo_abs : bootBuiltins "abs" = some (.builtin "abs") := by decide +kernel
theorem bo_min : bootBuiltins "min" = some (.builtin "min") := by decide +kernel
theorem bo_max : bootBuiltins "max" = some (.builtin "max") := by decide +kernel
theorem bo_all : bootBuiltins "all" = some (.builtin "all") := by decide +kernel
theorem bo_any : bootBuiltins "any" = some (.builtin "any") := by decide +kernel
theorem bo_sorted : bootBuiltins "sorted" = some (.builtin "sorted") := by decide +kernel
theorem bo_isinstance : bootBuiltins "isinstance" = some (.builtin "isinstance") := by decide +kernel
theorem bo_sum : bootBuiltins "sum" = some (.builtin "sum") := by decide +kernel
theorem bo_int : bootBuiltins "int" = some (.type "int") := by decide +kernel
theorem bo_tuple : bootBuiltins "tuple" = some (.type "tuple") := by decide +kernel
theorem bo_list : bootBuiltins "list" = some (.type "list") := by decide +kernel
theorem bo_str : bootBuiltins "str" = some (.type "str") := by decide +kernel
theorem bo_bool : bootBuiltins "bool" = some (.type "bool") := by decide +kernel
theorem bo_dict : bootBuiltins "dict" = some (.type "dict") := by decide +kernel
theorem bo_set : bootBuiltins "set" = some (.type "set") := by decide +kernel
theorem bo_range : bootBuiltins "range" = some (.type "range") := by decide +kernel
theorem bo_enumerate : bootBuiltins "enumerate" = some (.type "enumerate") := by decide +kernel
theorem bo_zip : bootBuiltins "zip" = some (.type "zip") := by decide +kernel
theorem bo_reversed : bootBuiltins "reversed" = some (.type "reversed") := by decide +kernel
section
variable {X : Cx} {E : Ent} {W : WX} {e a b tg iter : Expr} {f g : En → Rs D} {pos : Pos} {s : Stmt} {ss : List Stmt} {gs gt : En → Fl}
theorem u64 {k : Nat} {A : Around} (r : Room k A) : A.units + 64 < cLine := r.units
theorem u65 {k : Nat} {A : Around} (r : Room k A) : A.units + 65 < cLine := by have := r.un; omega
def pNeg : D → Option D
  | .int i => some (.int (-i))
  | _ => none
def eNeg (f : En → Rs D) : En → Rs D := fun env => (f env).bind fun d => ofO (pNeg d)
theorem SE.neg (ha : SE X E W a f) : SE X E W (.UnaryOp .USub a pos) (eNeg f) := by
  obtain ⟨t, p, k⟩ := ha.ex
  refine ⟨ha.hK, _, pe_un un_neg p, fun F σ H env S Q q => ?_⟩
  refine k F σ H env S _ ?_
  unfold eNeg at q
  cases e1 : f env with
  | un => rw [e1] at q; exact q
  | ex x => rw [e1] at q; exact q
  | ok d =>
    rw [e1, Rs.bind_ok] at q
    intro v fp F1 H1 G1 r1
    cases d <;> first | exact q.elim | skip
    cases r1
    exact ⟨_, rfl, q _ [] F1 H1 G1 (.int _)⟩
theorem SE.gstr (cs : List Nat) {x : Str} {t : Tok} (hm : X.mg x = some (.str ⟨cs.toArray⟩ t)) (hg : Gl X x := by rfl) (hs : strOkB cs = true := by decide +kernel) (hd : (x == ("__debug__" : Str)) = false := by decide) (hK : X.K = E.K.k := by rfl) : SE X E W (.Name x pos) (eC (.str cs)) :=
  ⟨hK, _, pe_glob hg hm (v := .str ⟨cs.toArray⟩) ⟨t, rfl⟩ hd, fun F σ H env S Q h => h _ [] F H (Grow.refl S.fH) (.str (strOk_of hs))⟩
theorem SE.gint (i : Int) {x : Str} {t : Tok} (hm : X.mg x = some (.int i t)) (hg : Gl X x := by rfl) (hd : (x == ("__debug__" : Str)) = false := by decide) (hK : X.K = E.K.k := by rfl) : SE X E W (.Name x pos) (eC (.int i)) :=
  ⟨hK, _, pe_glob hg hm (v := .int i) ⟨t, rfl⟩ hd, fun F σ H env S Q h => h _ [] F H (Grow.refl S.fH) (.int i)⟩
/-! a, b = e -/
def sUnp (h : D → En → Option En) (f : En → Rs D) : En → Fl := fun env => match f env with
  | .ok d => if isData d then match h d env with
      | some e => .nx e
      | none => .un
    else .un
  | .ex x => .xx x env
  | .un => .un
theorem SS.unp {is : List Nat} {h : D → En → Option En} (hg : SG X E tg is h) (hf : SE X E W e f) (hs : swapsWithSole [tg] e pos.line X.env = pure false := by rfl) (hw : swappedStores [tg] e X.env = pure none := by rfl)
    (h1 : (assignEach [tg] X.env).map (·.2) = [assign tg X.env] := by rfl) : SS X E W (.Assign [tg] e pos) (sUnp h f) := by
  obtain ⟨t, p, k⟩ := hf.ex
  obtain ⟨u, p', k'⟩ := hg.ex
  refine ⟨hf.hK, _, ps_asg p p' hs hw h1, fun F σ H env S D q => ?_⟩
  refine k F σ H env S _ ?_
  unfold sUnp at q
  cases e1 : f env with
  | un => rw [e1] at q; exact q
  | ex x => rw [e1] at q; exact fun cls dd F' H' G r => q cls dd F' σ H' G.f (S.grow G) r
  | ok d =>
    rw [e1] at q
    dsimp only at q
    intro v fp F1 H1 G1 r1
    split at q
    · rename_i hd
      cases e2 : h d env with
      | none => rw [e2] at q; exact q.elim
      | some en =>
        rw [e2] at q
        exact k' F1 σ H1 env d v (S.grow G1) (r1.toData hd) _ ⟨en, e2, fun σ' S' _ _ => q F1 σ' H1 G1.f S'⟩
    · exact q.elim
/-! an owned list stands still from now on -/
def sFrz (i : Nat) (g : En → Fl) : En → Fl := fun env => match env[i]? with
  | some (some (.olst ds)) => if ds.all isData then g (env.set i (some (.lst ds))) else .un
  | _ => g env
theorem R.olst_inv2 {K : Kx} {F H : Hp} {ds : List D} {v : V} {fp : List Addr} (r : R K F H (.olst ds) v fp) : ∃ a vs fp0, v = .ref a ∧ fp = a :: fp0 ∧ H a = some (.lst vs) ∧ RL K F H ds vs fp0 ∧ ds.length ≤ 16777216 := by
  cases r with
  | olst h1 h2 hz => exact ⟨_, _, _, rfl, rfl, h1, h2, hz⟩
theorem Stt.frz {F H : Hp} {env : En} {σ : St} {i : Nat} {ds : List D} (S : Stt E F env σ H) (ho : E.own i = []) (he : env[i]? = some (some (.olst ds))) (hd : ds.all isData = true) : ∃ F', Same F F' ∧ Stt E F' (env.set i (some (.lst ds))) σ H := by
  obtain ⟨fps, rs, nd, fr⟩ := S.rep
  obtain ⟨v, fp, g1, g2, g3⟩ := rs.get he
  obtain ⟨a, vs, fp0, rfl, rfl, h1, h2, hz⟩ := g3.olst_inv2
  · have h0 := h2.toData hd
    have hFa : F a = none := (fr i _ g2 a List.mem_cons_self).1
    have hH0 : E.H0 a = none := by
      rcases (fr i _ g2 a List.mem_cons_self).2 with h | h
      · exact h
      · rw [ho] at h; cases h
    have le : Same F (upd F a (.lst vs)) := fun b u eb => by rw [upd_ne (ne_of_none eb hFa)]; exact eb
    refine ⟨upd F a (.lst vs), le, S.le0.trans le, fun b u eb => ?_, S.keep, fun b o eb n => ?_, S.ownS, fps.set i [], ?_, nodup_set nd List.nodup_nil (fun _ _ _ _ _ _ z => nomatch z), fun j fq hj b hb => ?_⟩
    · by_cases hb : b = a
      · subst hb; rw [upd_same] at eb; cases eb; exact h1
      · rw [upd_ne hb] at eb; exact S.fH b u eb
    · rw [upd_ne (ne_of_none eb hH0)]; exact S.old b o eb n
    · have rs' : RS E.K (upd F a (.lst vs)) H env σ fps := rs.mono le fun _ _ _ _ => rfl
      have q := rs'.set i (R.lst (F := upd F a (.lst vs)) (H := H) upd_same (RL.mono le ds (fun a z => nomatch z) h0) hz)
      have e1 : σ.set i (some (V.ref a)) = σ := by
        apply List.ext_getElem?
        intro j
        by_cases hj : i = j
        · subst hj
          have hl : i < σ.length := (List.getElem?_eq_some_iff.mp g1).1
          rw [List.getElem?_set_self hl, g1]
        · rw [List.getElem?_set_ne hj]
      rw [e1] at q
      exact q
    · rcases mem_set_of hj with ⟨_, e⟩ | hj'
      · subst e; cases hb
      · obtain ⟨k1, k2⟩ := fr j fq hj' b hb
        refine ⟨?_, k2⟩
        rw [upd_ne fun z => ?_]
        · exact k1
        · subst z
          have hji : j ≠ i := by
            intro z
            subst z
            have hl : j < fps.length := (List.getElem?_eq_some_iff.mp g2).1
            rw [List.getElem?_set_self hl] at hj
            cases hj; cases hb
          exact nodup_apart nd hji hj' g2 b hb List.mem_cons_self
theorem SS.frz (i : Nat) (h : SS X E W s gs) (ho : E.own i = [] := by rfl) : SS X E W s (sFrz i gs) := by
  obtain ⟨t, p, k⟩ := h.ex
  refine ⟨h.hK, t, p, fun F σ H env S D q => ?_⟩
  unfold sFrz at q
  split at q
  · rename_i ds he
    split at q
    · rename_i hd
      obtain ⟨F', le, S'⟩ := S.frz ho he hd
      exact k F' σ H _ S' D (q.mono le)
    · exact q.elim
  · exact k F σ H env S D q
end
/-- a def that raises nothing, its meaning by name -/
theorem fn1 {P : Program} {w : World} {K : Kx} {mg : Str → Option Value} {base : Heap} {x qual : Str} {st : Stmt} {f : Addr} {fd : FuncData} {N ps : List Str} {k np n : Nat} {g : En → Fl} {m : List D → Rs D} (Fn : Fun K.k x qual st f fd) (S : FnScope N ps (defScope st))
    (hm : m = runB0 g n) (hn : N.length = n) (hp : ps.length = np)
    (hb : ∀ (cdv : Value) (A : Around) (outer : List Env) (s : Shared) (H : Hp) (Ex : XK) (F0 : Hp), Room k (A.deeper (PyProof.Rows.envOfC qual (defScope st) s.heap.objs.size f cdv)) →
      SB (cxOf CX0 P w K.k mg base N qual (defScope st) f cdv A outer s H Ex).nox ⟨K, H, F0, fun _ => []⟩ W0 (defBody st) g) : FnOk P w K.k mg base CX0 (k + 1) f fd ps (spP K np m) := by
  subst hm hn hp
  exact fn0 Fn S hb
/-! ### the law -/
def spLaw (K : PySem.W.Frag) : Sp := fun vs H Q _ => ∃ (a : Addr) (ns : List Int), vs = [.ref a] ∧ Only H ∧ SqL K H a (ns.map V.int) ∧ ns.length ≤ 63 ∧ ∀ H', Q (.bl true) H'
theorem law_of {P : Program} {w : World} {K : PySem.W.Frag} {mg : Str → Option Value} {base : Heap} {k : Nat} {f : Addr} {fd : FuncData} {m : List D → Rs D} (F : FnOk P w K mg base CX0 k f fd ["script"] (spP ⟨K, fun _ => 0⟩ 1 m))
    (h : ∀ ns : List Int, ns.length ≤ 63 → m [.scr ns] = .ok (.bl true)) : FnOk P w K mg base CX0 k f fd ["script"] (spLaw K) := by
  refine F.imp fun vs H Q E q => ?_
  obtain ⟨a, ns, rfl, _, hs, hl, k⟩ := q
  refine ⟨[.scr ns], H, Same.refl _, RL.mk0 (.scr hs (by omega)) .nil, rfl, ?_⟩
  rw [h ns hl]
  intro v F' H' G r
  cases r
  exact k H'
theorem walk {k : Nat} {l : PySem.W.OpenLaw} {q : Program} {loose : List Str} {XP : (Str → Option Value) → Heap → Prop} {YP : World → Heap → Prop} {d : DefRec} {K : Params → PySem.W.Frag} (hn : l.most = some 63) (hdf : d.params.defaults = []) (hr : Room k callerA)
    (hY : ∀ (w : World) (h : Heap), YP w h → (K w.params).In h)
    (F : ∀ (w : World) (mg : Str → Option Value) (fa : Addr) (h : Heap), (K w.params).In h → h.Ns mainGlobals mg → mg d.name = some (.ref fa) →
      ∃ fd : FuncData, (∀ (s : Shared) (u : Value), BindsTo s fd ⟨[u], []⟩ [("script", u)]) ∧ ∀ base : Heap, (K w.params).In base → base.Ns mainGlobals mg → FnOk l.prog w (K w.params) mg base CX0 k fa fd ["script"] (spLaw (K w.params))) :
    PySem.W.WalkO q loose XP YP l.row.toRowW d [] (fun f vs => PySem.call f vs) :=
  L2.walk_of (n := 63) (k := k) (x := "script") (CX := fun _ => CX0) (sp := fun w => spLaw (K w.params)) hn (by decide) hdf hr hY F (fun _ _ a ns hl ho hS => ⟨a, ns, rfl, ho, hS, hl, fun _ => rfl⟩) fun _ _ _ _ _ z => z
end Z

set_option Elab.async false
set_option linter.all false
set_option maxRecDepth 100000
/-! ZP: plain reckoning with the meanings: how each combinator answers, and rules for loops. No program in sight. -/
namespace Z
open PySem L2
section
variable {env : En} {f g : En → Rs D} {fa : En → Rs (List D)} {c d' : En → Rs Bool} {d e : D} {b : Bool} {i j : Int} {n : Nat}
@[simp] theorem eVar_z {d : D} {en : En} : eVar 0 (some d :: en) = .ok d := id rfl
@[simp] theorem eVar_s {o : Option D} {en : En} {k : Nat} : eVar (k + 1) (o :: en) = eVar k en := id rfl
@[simp] theorem eC_e : eC d env = .ok d := id rfl
@[simp] theorem eBin_e {op : D → D → Option D} : eBin op f g env = (f env).bind fun a => (g env).bind fun b => ofO (op a b) := id rfl
@[simp] theorem asB_bl : asB (.ok (.bl b)) = .ok b := id rfl
@[simp] theorem eB_e : eB f env = asB (f env) := id rfl
@[simp] theorem eTru_e : eTru f env = (f env).bind truD := id rfl
@[simp] theorem truD_bl : truD (.bl b) = .ok b := id rfl
@[simp] theorem eAnd_e : eAnd c d' env = (c env).bind fun b => if b then d' env else .ok false := id rfl
@[simp] theorem eOr_e : eOr c d' env = (c env).bind fun b => if b then .ok true else d' env := id rfl
@[simp] theorem eNot_e : eNot c env = (c env).bind fun b => .ok (!b) := id rfl
@[simp] theorem eAndV_e : eAndV f g env = (asB (f env)).bind fun b => if b then g env else .ok (.bl false) := id rfl
@[simp] theorem eOrV_e : eOrV f g env = (asB (f env)).bind fun b => if b then .ok (.bl true) else g env := id rfl
@[simp] theorem eNotB_e : eNotB f env = (asB (f env)).bind fun b => .ok (.bl (!b)) := id rfl
@[simp] theorem eNotV_e : eNotV c env = (c env).bind fun b => .ok (.bl (!b)) := id rfl
@[simp] theorem eIf_e : eIf c f g env = (c env).bind fun b => if b then f env else g env := id rfl
@[simp] theorem aNil_e : aNil env = .ok [] := id rfl
@[simp] theorem aCons_e : aCons f fa env = (f env).bind fun d => (fa env).bind fun ds => .ok (d :: ds) := id rfl
theorem small16 {n : Nat} (h : n ≤ 16777216) : decide (n ≤ 16777216) = true := decide_eq_true h
@[simp] theorem eTup_e : eTup fa env = (fa env).bind fun ds => if ds.all isData && decide (ds.length ≤ 16777216) then .ok (.tup ds) else .un := id rfl
@[simp] theorem eLst_e : eLst fa env = (fa env).bind fun ds => if ds.all isData && decide (ds.length ≤ 16777216) then .ok ds else .un := id rfl
@[simp] theorem eOfL_e : eOfL fa env = (fa env).bind fun ds => .ok (.lst ds) := id rfl
@[simp] theorem eCall_e {h : List D → Option D} : eCall h fa env = (fa env).bind fun ds => ofO (h ds) := id rfl
@[simp] theorem eApp_e {m : List D → Rs D} {k : Nat} : eApp k m fa env = (fa env).bind fun ds => if ds.all isData && decide (ds.length = k) then m ds else .un := id rfl
@[simp] theorem eNeg_e : eNeg f env = (f env).bind fun d => ofO (pNeg d) := id rfl
@[simp] theorem eIsi_e {T : String} : eIsi T f env = (f env).bind fun d => ofO (pIsi T d) := id rfl
@[simp] theorem pNeg_int : pNeg (.int i) = some (.int (-i)) := id rfl
@[simp] theorem eSl_e {lo hi : En → Rs (Option Int)} : eSl f lo hi env = (f env).bind fun d => (lo env).bind fun l => (hi env).bind fun h => ofO (pSl d l h) := id rfl
@[simp] theorem oNone_e : oNone env = .ok none := id rfl
@[simp] theorem oSome_e : oSome f env = (f env).bind asI := id rfl
@[simp] theorem asI_int : asI (.int i) = .ok (some i) := id rfl
@[simp] theorem isData_non : isData .non = true := id rfl
@[simp] theorem isData_bl : isData (.bl b) = true := id rfl
@[simp] theorem isData_int : isData (.int i) = true := id rfl
@[simp] theorem isData_str {x : List Nat} : isData (.str x) = true := id rfl
@[simp] theorem isData_tup {x : List D} : isData (.tup x) = true := id rfl
@[simp] theorem isData_lst {x : List D} : isData (.lst x) = true := id rfl
@[simp] theorem isData_scr {x : List Int} : isData (.scr x) = true := id rfl
/-! operations -/
@[simp] theorem pAdd_int : pAdd (.int i) (.int j) = some (.int (i + j)) := id rfl
@[simp] theorem pAddI_int : pAddI (.int i) (.int j) = some (.int (i + j)) := id rfl
@[simp] theorem pSub_int : pSub (.int i) (.int j) = some (.int (i - j)) := id rfl
@[simp] theorem pMul_int (h : (smallI i || smallI j) = true) : pMul (.int i) (.int j) = some (.int (i * j)) := by
  show (if _ then _ else _) = _
  rw [if_pos h]
@[simp] theorem pDiv_int (h : 0 < j ∧ j < 1073741824) : pDiv (.int i) (.int j) = some (.int (i / j)) := by
  show (if _ then _ else _) = _
  rw [if_pos h]
@[simp] theorem pMod_int (h : 0 < j) : pMod (.int i) (.int j) = some (.int (i % j)) := by
  show (if _ then _ else _) = _
  rw [if_pos h]
@[simp] theorem pPow_int (h : 0 ≤ j ∧ j ≤ 1000000 ∧ i.natAbs < 18446744073709551616) : pPow (.int i) (.int j) = some (.int (i ^ j.toNat)) := by
  show (if _ then _ else _) = _
  rw [if_pos h]
@[simp] theorem pAdd_str {x y : List Nat} (h : x.length + y.length ≤ 16777216) : pAdd (.str x) (.str y) = some (.str (x ++ y)) := by
  show (if _ then _ else _) = _
  rw [if_pos h]
@[simp] theorem pAdd_lst {x y : List D} (h : x.length + y.length ≤ 16777216) : pAdd (.lst x) (.lst y) = some (.lst (x ++ y)) := by
  show (if _ then _ else _) = _
  rw [if_pos h]
@[simp] theorem pAdd_tup {x y : List D} (h : x.length + y.length ≤ 16777216) : pAdd (.tup x) (.tup y) = some (.tup (x ++ y)) := by
  show (if _ then _ else _) = _
  rw [if_pos h]
@[simp] theorem pLt_int : pLt (.int i) (.int j) = some (.bl (decide (i < j))) := id rfl
@[simp] theorem pLe_int : pLe (.int i) (.int j) = some (.bl (decide (i ≤ j))) := id rfl
@[simp] theorem pGt_int : pGt (.int i) (.int j) = some (.bl (decide (j < i))) := id rfl
@[simp] theorem pGe_int : pGe (.int i) (.int j) = some (.bl (decide (j ≤ i))) := id rfl
theorem beq_dec {α : Type} [BEq α] [LawfulBEq α] [DecidableEq α] (a b : α) : (a == b) = decide (a = b) := by
  by_cases h : a = b
  · subst h; simp
  · rw [decide_eq_false h]; exact beq_eq_false_iff_ne.mpr h
@[simp] theorem pEq_int : pEq (.int i) (.int j) = some (.bl (decide (i = j))) := by rw [← beq_dec]; rfl
@[simp] theorem pNe_int : pNe (.int i) (.int j) = some (.bl (!decide (i = j))) := by rw [← beq_dec]; rfl
@[simp] theorem pEq_str {x y : List Nat} : pEq (.str x) (.str y) = some (.bl (decide (x = y))) := by rw [← beq_dec]; rfl
@[simp] theorem pNe_str {x y : List Nat} : pNe (.str x) (.str y) = some (.bl (!decide (x = y))) := by rw [← beq_dec]; rfl
@[simp] theorem pIs_non : pIs d .non = some (.bl (isNon d)) := id rfl
@[simp] theorem pIsnt_non : pIsnt d .non = some (.bl (!isNon d)) := id rfl
@[simp] theorem isNon_non : isNon .non = true := id rfl
@[simp] theorem isNon_tup {x : List D} : isNon (.tup x) = false := id rfl
@[simp] theorem isNon_str {x : List Nat} : isNon (.str x) = false := id rfl
@[simp] theorem isNon_int : isNon (.int i) = false := id rfl
@[simp] theorem isNon_lst {x : List D} : isNon (.lst x) = false := id rfl
@[simp] theorem isNon_bl : isNon (.bl b) = false := id rfl
@[simp] theorem bLen_str {x : List Nat} : bLen [.str x] = some (.int x.length) := id rfl
@[simp] theorem bLen_tup {x : List D} : bLen [.tup x] = some (.int x.length) := id rfl
@[simp] theorem bLen_lst {x : List D} : bLen [.lst x] = some (.int x.length) := id rfl
@[simp] theorem bLen_olst {x : List D} : bLen [.olst x] = some (.int x.length) := id rfl
@[simp] theorem bLen_scr {x : List Int} : bLen [.scr x] = some (.int x.length) := id rfl
@[simp] theorem bInt_int : bInt [.int i] = some (.int i) := id rfl
@[simp] theorem bInt_bl : bInt [.bl b] = some (.int (if b then 1 else 0)) := id rfl
@[simp] theorem bAbs_int : bAbs [.int i] = some (.int (if i < 0 then -i else i)) := id rfl
@[simp] theorem bMin_int : bMin [.int i, .int j] = some (.int (if j < i then j else i)) := id rfl
@[simp] theorem bMax_int : bMax [.int i, .int j] = some (.int (if j > i then j else i)) := id rfl
/-! statements -/
variable {gs gt : En → Fl} {E1 : En}
@[simp] theorem sSet_e {k : Nat} : sSet k f env = match f env with
  | .ok d => if isData d then .nx (env.set k (some d)) else .un
  | .ex x => .xx x env
  | .un => .un := id rfl
@[simp] theorem sSetL_e {k : Nat} {fl : En → Rs (List D)} : sSetL k fl env = match fl env with
  | .ok ds => .nx (env.set k (some (.olst ds)))
  | .ex x => .xx x env
  | .un => .un := id rfl
@[simp] theorem sRet_e : sRet f env = match f env with
  | .ok d => if isData d then .rt d [] else .un
  | .ex x => .xx x env
  | .un => .un := id rfl
@[simp] theorem sRetN_e : sRetN env = .rt .non [] := id rfl
@[simp] theorem sPass_e : sPass env = .nx env := id rfl
@[simp] theorem sBreak_e : sBreak env = .bk env := id rfl
@[simp] theorem sCont_e : sCont env = .ct env := id rfl
@[simp] theorem sPre_e {is : List Nat} : sPre is gs env = gs (wipeE is env) := id rfl
def seqR (r : Fl) (h : En → Fl) : Fl := match r with
  | .nx e => h e
  | r => r
@[simp] theorem sSeq_e : sSeq gs gt env = seqR (gs env) gt := id rfl
@[simp] theorem seqR_nx {en : En} : seqR (.nx en) gt = gt en := id rfl
@[simp] theorem seqR_bk {en : En} : seqR (.bk en) gt = .bk en := id rfl
@[simp] theorem seqR_ct {en : En} : seqR (.ct en) gt = .ct en := id rfl
@[simp] theorem seqR_rt {en : En} : seqR (.rt d en) gt = .rt d en := id rfl
@[simp] theorem seqR_xx {en : En} : seqR (.xx d en) gt = .xx d en := id rfl
def ifR (r : Rs Bool) (env : En) (x y : Unit → Fl) : Fl := match r with
  | .ok true => x ()
  | .ok false => y ()
  | .ex d => .xx d env
  | .un => .un
@[simp] theorem sIf_e : sIf c gs gt env = ifR (c env) env (fun _ => gs env) (fun _ => gt env) := id rfl
@[simp] theorem ifR_t {x y : Unit → Fl} : ifR (.ok true) env x y = x () := id rfl
@[simp] theorem ifR_f {x y : Unit → Fl} : ifR (.ok false) env x y = y () := id rfl
@[simp] theorem outB_rt {en : En} : outB (.rt d en) = .ok d := id rfl
@[simp] theorem outB_nx {en : En} : outB (.nx en) = .ok .non := id rfl
@[simp] theorem outB_xx {en : En} : outB (.xx d en) = .ex d := id rfl
@[simp] theorem wipeE_nil : wipeE [] env = env := id rfl
@[simp] theorem wipeE_cons {k : Nat} {ks : List Nat} : wipeE (k :: ks) env = wipeE ks (env.set k none) := id rfl
@[simp] theorem wipeR_nil : wipeR env [] = env := id rfl
@[simp] theorem wipeR_cons {k : Nat} {ks : List Nat} : wipeR env (k :: ks) = (wipeR env ks).set k none := id rfl
@[simp] theorem gN_e {k : Nat} : gN k d env = some (env.set k (some d)) := id rfl
@[simp] theorem gsNil_e : gsNil [] env = some env := id rfl
@[simp] theorem gsCons_e {h : D → En → Option En} {k : List D → En → Option En} {ds : List D} : gsCons h k (d :: ds) env = (h d env).bind fun e => k ds e := id rfl
@[simp] theorem gT_e {k : List D → En → Option En} {ds : List D} : gT k (.tup ds) env = k ds env := id rfl
@[simp] theorem sUnp_e {h : D → En → Option En} : sUnp h f env = match f env with
  | .ok d => if isData d then match h d env with
      | some e => .nx e
      | none => .un
    else .un
  | .ex x => .xx x env
  | .un => .un := id rfl
@[simp] theorem sAug_e {k : Nat} {op : D → D → Option D} : sAug k op f env = match env[k]? with
  | some (some x) => match f env with
    | .ok d => match op x d with
      | some z => if isData z then .nx (env.set k (some z)) else .un
      | none => .un
    | .ex x => .xx x env
    | .un => .un
  | _ => .un := id rfl
@[simp] theorem sApp_e {k : Nat} : sApp k f env = match env[k]? with
  | some (some (.olst ds)) => match f env with
    | .ok d => if isData d && decide (ds.length < 16777216) then .nx (env.set k (some (.olst (ds ++ [d])))) else .un
    | .ex x => .xx x env
    | .un => .un
  | _ => .un := id rfl
@[simp] theorem sFrz_e {k : Nat} : sFrz k gs env = match env[k]? with
  | some (some (.olst ds)) => if ds.all isData then gs (env.set k (some (.lst ds))) else .un
  | _ => gs env := id rfl
theorem all_ints (xs : List Int) : (xs.map D.int).all isData = true := by simp
theorem sFor_ok {fi : En → Rs (List D)} {h : D → En → Option En} {w : List Nat} {ds : List D} (e : fi env = .ok ds) : sFor fi h gs w env = forL h gs w ds (wipeE w env) := by
  unfold sFor; rw [e]
@[simp] theorem iSeq_e : iSeq f env = (f env).bind fun d => ofO (itemsOf d) := id rfl
@[simp] theorem itemsOf_lst {x : List D} : itemsOf (.lst x) = some x := id rfl
@[simp] theorem itemsOf_tup {x : List D} : itemsOf (.tup x) = some x := id rfl
@[simp] theorem itemsOf_str {x : List Nat} : itemsOf (.str x) = some (x.map fun c => .str [c]) := id rfl
@[simp] theorem iRng1_nat {n : Nat} (h : n ≤ 16000000) : iRng1 [.int n] = .ok (rngL 0 n) := by
  show (if _ then _ else _) = _
  rw [if_pos (by omega)]
  rfl
theorem rng_at {lo : Int} {n k : Nat} {d : D} (h : (rngL lo n)[k]? = some d) : k < n ∧ d = .int (lo + k) := by
  unfold rngL at h
  rw [List.getElem?_map] at h
  cases e : (List.range n)[k]? with
  | none => rw [e] at h; cases h
  | some x =>
    rw [e] at h
    obtain ⟨hk, e2⟩ := List.getElem?_eq_some_iff.mp e
    rw [List.getElem_range] at e2
    subst e2
    exact ⟨by simpa using hk, (Option.some.inj h).symm⟩
/-! loops -/
def SoP (o : Option En) (p : En → Prop) : Prop := match o with
  | some e => p e
  | none => False
@[simp] theorem SoP_some {en : En} {p : En → Prop} : SoP (some en) p = p en := id rfl
/-- what a loop's body leaves: p if the loop goes on, q if it ends here -/
def LpP (w : List Nat) (r : Fl) (p : En → Prop) (q : Fl → Prop) : Prop := match r with
  | .nx e => p (wipeE w e)
  | .ct e => p (wipeE w e)
  | .bk e => q (.nx (wipeE w e))
  | r => q r
@[simp] theorem LpP_nx {w : List Nat} {en : En} {p : En → Prop} {q : Fl → Prop} : LpP w (.nx en) p q = p (wipeE w en) := id rfl
@[simp] theorem LpP_ct {w : List Nat} {en : En} {p : En → Prop} {q : Fl → Prop} : LpP w (.ct en) p q = p (wipeE w en) := id rfl
@[simp] theorem LpP_bk {w : List Nat} {en : En} {p : En → Prop} {q : Fl → Prop} : LpP w (.bk en) p q = q (.nx (wipeE w en)) := id rfl
@[simp] theorem LpP_rt {w : List Nat} {d : D} {en : En} {p : En → Prop} {q : Fl → Prop} : LpP w (.rt d en) p q = q (.rt d en) := id rfl
@[simp] theorem LpP_xx {w : List Nat} {d : D} {en : En} {p : En → Prop} {q : Fl → Prop} : LpP w (.xx d en) p q = q (.xx d en) := id rfl
theorem forL_gen {h : D → En → Option En} {body : En → Fl} {w : List Nat} (P : Nat → En → Prop) (Q : Fl → Prop) : ∀ (ds : List D) (k : Nat) (env : En), P k env →
    (∀ i d e, ds[i]? = some d → P (k + i) e → SoP (h d e) fun e1 => LpP w (body e1) (P (k + i + 1)) Q) → (∀ e, P (k + ds.length) e → Q (.nx e)) → Q (forL h body w ds env)
  | [], k, env, h0, hs, he => he env h0
  | d :: ds, k, env, h0, hs, he => by
    have h1 := hs 0 d env rfl h0
    have ih := fun en (p : P (k + 1) en) => forL_gen P Q ds (k + 1) en p (fun i d e a b => by
      have := hs (i + 1) d e a (by rw [show k + (i + 1) = k + 1 + i from by omega]; exact b)
      rw [show k + (i + 1) = k + 1 + i from by omega] at this
      exact this) (fun e p => he e (by rw [List.length_cons, show k + (ds.length + 1) = k + 1 + ds.length from by omega]; exact p))
    unfold forL
    generalize h d env = o at h1
    cases o with
    | none => exact h1.elim
    | some e1 =>
      rw [SoP_some] at h1
      dsimp only
      generalize body e1 = r at h1
      cases r with
      | nx e2 => exact ih _ h1
      | ct e2 => exact ih _ h1
      | bk e2 => exact h1
      | rt _ _ => exact h1
      | xx _ _ => exact h1
      | un => exact h1
/-- a loop without break, return or exception -/
theorem forL_inv {h : D → En → Option En} {body : En → Fl} {w : List Nat} {ds : List D} {env : En} (P : Nat → En → Prop) (h0 : P 0 env)
    (hs : ∀ i d e, ds[i]? = some d → P i e → SoP (h d e) fun e1 => LpP w (body e1) (P (i + 1)) fun _ => False) : ∃ e, forL h body w ds env = .nx e ∧ P ds.length e := by
  refine forL_gen P (fun r => ∃ e, r = .nx e ∧ P ds.length e) ds 0 env h0 (fun i d e a b => ?_) (fun e p => ⟨e, rfl, by rw [Nat.zero_add] at p; exact p⟩)
  rw [Nat.zero_add] at b ⊢
  have h1 := hs i d e a b
  generalize h d e = o at h1
  cases o with
  | none => exact h1
  | some e1 =>
    rw [SoP_some] at h1 ⊢
    generalize body e1 = r at h1
    cases r <;> first | exact h1 | exact h1.elim
/-- a test, then what follows -/
def TsP (r : Rs Bool) (p q : Prop) : Prop := match r with
  | .ok true => p
  | .ok false => q
  | _ => False
@[simp] theorem TsP_t {p q : Prop} : TsP (.ok true) p q = p := id rfl
@[simp] theorem TsP_f {p q : Prop} : TsP (.ok false) p q = q := id rfl
theorem TsP_b {b : Bool} {p q : Prop} (h1 : b = true → p) (h2 : b = false → q) : TsP (.ok b) p q := by
  cases b with
  | true => exact h1 rfl
  | false => exact h2 rfl
theorem whileL_gen {c : En → Rs Bool} {body : En → Fl} {w : List Nat} (P : Nat → En → Prop) (Q : Fl → Prop) : ∀ (n : Nat) (env : En) (m : Nat), P m env → m < n →
    (∀ k e, P k e → TsP (c e) (LpP w (body e) (fun e2 => ∃ k', k' < k ∧ P k' e2) Q) (Q (.nx e))) → Q (whileL c body w n env)
  | 0, _, _, _, h, _ => absurd h (Nat.not_lt_zero _)
  | n + 1, env, m, h0, hm, hs => by
    have h1 := hs m env h0
    unfold whileL
    generalize c env = r at h1
    cases r with
    | un => exact h1.elim
    | ex x => exact h1.elim
    | ok b =>
      cases b with
      | false => exact h1
      | true =>
        rw [TsP_t] at h1
        dsimp only
        generalize body env = r at h1
        cases r with
        | nx e2 => obtain ⟨k', h2, h3⟩ := h1; exact whileL_gen P Q n _ k' h3 (by omega) hs
        | ct e2 => obtain ⟨k', h2, h3⟩ := h1; exact whileL_gen P Q n _ k' h3 (by omega) hs
        | bk e2 => exact h1
        | rt _ _ => exact h1
        | xx _ _ => exact h1
        | un => exact h1
theorem compL_map {h : D → En → Option En} {c : En → Rs Bool} {f : En → Rs D} {env : En} (φ : D → D) : ∀ ds : List D, (∀ d ∈ ds, ∃ e1, h d env = some e1 ∧ c e1 = .ok true ∧ f e1 = .ok (φ d) ∧ isData (φ d) = true) → compL h c f env ds = .ok (ds.map φ)
  | [], _ => rfl
  | d :: ds, k => by
    obtain ⟨e1, h1, h2, h3, h4⟩ := k d List.mem_cons_self
    unfold compL
    rw [h1]
    dsimp only
    rw [h2]
    dsimp only
    rw [h3]
    dsimp only
    rw [if_pos h4, compL_map φ ds fun d m => k d (List.mem_cons_of_mem _ m)]
    rfl
theorem compL_filter {h : D → En → Option En} {c : En → Rs Bool} {f : En → Rs D} {env : En} (φ : D → D) (χ : D → Bool) : ∀ ds : List D, (∀ d ∈ ds, ∃ e1, h d env = some e1 ∧ c e1 = .ok (χ d) ∧ (χ d = true → f e1 = .ok (φ d) ∧ isData (φ d) = true)) → compL h c f env ds = .ok ((ds.filter χ).map φ)
  | [], _ => rfl
  | d :: ds, k => by
    obtain ⟨e1, h1, h2, h3⟩ := k d List.mem_cons_self
    unfold compL
    rw [h1]
    dsimp only
    rw [h2]
    have ih := compL_filter φ χ ds fun d m => k d (List.mem_cons_of_mem _ m)
    cases e : χ d with
    | false => rw [List.filter_cons_of_neg (by rw [e]; decide)]; exact ih
    | true =>
      obtain ⟨h4, h5⟩ := h3 e
      dsimp only
      rw [h4]
      dsimp only
      rw [if_pos h5, ih, List.filter_cons_of_pos e]
      rfl
end
/-! reading at a place, cutting -/
theorem ix_nat {n k : Nat} (h : k < n) : ixN n (k : Int) = some k := by
  unfold ixN
  rw [if_pos (by omega), if_pos (by omega)]
  rfl
theorem atI_nat0 {α : Type} {xs : List α} {k : Nat} : atI xs (k : Int) = xs[k]? := by
  cases e : xs[k]? with
  | some x => exact L2.atI_nat e
  | none =>
    unfold atI ixN
    have : xs.length ≤ k := List.getElem?_eq_none_iff.mp e
    rw [if_pos (by omega), if_neg (by omega)]
    rfl
theorem pIx_str {x : List Nat} {k : Nat} : pIx (.str x) (.int k) = (x[k]?).map fun c => .str [c] := by
  show (atI x _).map _ = _
  rw [atI_nat0]
theorem pIx_tup {x : List D} {k : Nat} : pIx (.tup x) (.int k) = x[k]? := atI_nat0
theorem pIx_lst {x : List D} {k : Nat} : pIx (.lst x) (.int k) = x[k]? := atI_nat0
theorem pIx_scr {x : List Int} {k : Nat} : pIx (.scr x) (.int k) = (x[k]?).map .int := by
  show (atI x _).map _ = _
  rw [atI_nat0]
/-! the places that are given by a numeral -/
@[simp] theorem pIx_tup0 {d : D} {x : List D} : pIx (.tup (d :: x)) (.int 0) = some d := pIx_tup (k := 0)
@[simp] theorem pIx_tup1 {d e : D} {x : List D} : pIx (.tup (d :: e :: x)) (.int 1) = some e := pIx_tup (k := 1)
@[simp] theorem pIx_tup2 {d e f : D} {x : List D} : pIx (.tup (d :: e :: f :: x)) (.int 2) = some f := pIx_tup (k := 2)
theorem pSl_from {x : List Nat} {k : Nat} : pSl (.str x) (some (k : Int)) none = some (.str (x.drop k)) := by
  show some (D.str (cutL x _ _)) = _
  unfold cutL
  rw [HT.sIx_none, HT.sIx_nat, List.take_of_length_le (by rw [List.length_drop]; omega)]
  rcases Nat.le_total k x.length with h | h
  · rw [Nat.min_eq_left h]
  · rw [Nat.min_eq_right h, List.drop_of_length_le (Nat.le_refl _), List.drop_of_length_le h]
theorem pSl_to {x : List Nat} {k : Nat} : pSl (.str x) none (some (k : Int)) = some (.str (x.take k)) := by
  show some (D.str (cutL x _ _)) = _
  unfold cutL
  rw [HT.sIx_none, HT.sIx_nat, List.drop_zero, Nat.sub_zero]
  rcases Nat.le_total k x.length with h | h
  · rw [Nat.min_eq_left h]
  · rw [Nat.min_eq_right h, List.take_of_length_le (Nat.le_refl _), List.take_of_length_le h]
theorem strsOf_map {α : Type} (g : α → List Nat) : ∀ xs : List α, strsOf (xs.map fun x => .str (g x)) = some (xs.map g)
  | [] => rfl
  | x :: xs => by
    show (strsOf (xs.map fun x => .str (g x))).map (g x :: ·) = _
    rw [strsOf_map g xs]
    rfl
theorem joinN_nil : ∀ xs : List (List Nat), joinN [] xs = xs.flatten
  | [] => rfl
  | [x] => by simp [joinN]
  | x :: y :: r => by
    show x ++ [] ++ joinN [] (y :: r) = _
    rw [joinN_nil (y :: r)]
    simp
theorem flat_single {α : Type} (g : α → Nat) : ∀ xs : List α, (xs.map fun x => [g x]).flatten = xs.map g
  | [] => rfl
  | x :: xs => by simp [flat_single g xs]
theorem sum_single {α : Type} (g : α → Nat) : ∀ xs : List α, ((xs.map fun x => [g x]).map List.length).sum = xs.length
  | [] => rfl
  | x :: xs => by
    have := sum_single g xs
    rw [List.map_cons, List.map_cons, List.sum_cons, this]
    simp [Nat.add_comm]
/-- a text joined of single signs -/
theorem pJoin_single {α : Type} (g : α → Nat) (xs : List α) (h : xs.length ≤ 16777216) : pJoin (.str []) (.lst (xs.map fun x => .str [g x])) = some (.str (xs.map g)) := by
  show (strsOf (xs.map fun x => D.str [g x])).bind _ = _
  rw [strsOf_map (fun x => [g x]) xs, Option.bind_some, if_pos (by rw [sum_single]; simpa using h), joinN_nil, flat_single]
theorem eComp_e {fi : En → Rs (List D)} {h : D → En → Option En} {c : En → Rs Bool} {f : En → Rs D} {own : List Nat} {env : En} {ds ys : List D} (h1 : fi env = .ok ds) (h2 : compL h c f (wipeR env own) ds = .ok ys) : eComp fi h c f own env = .ok ys := by
  unfold eComp
  rw [h1, Rs.bind_ok, h2]
/-! the longest common beginning -/
def lcp : List Nat → List Nat → Nat
  | a :: x, b :: y => if a = b then lcp x y + 1 else 0
  | _, _ => 0
theorem lcp_of : ∀ (x y : List Nat) (k : Nat), (∀ j, j < k → x[j]? = y[j]? ∧ j < x.length ∧ j < y.length) → (k = x.length ∨ k = y.length ∨ (k < x.length ∧ k < y.length ∧ x[k]? ≠ y[k]?)) → k ≤ x.length → k ≤ y.length → lcp x y = k
  | [], y, k, _, _, hx, _ => by
    have : k = 0 := by simpa using hx
    subst this
    cases y <;> rfl
  | a :: x, [], k, _, _, _, hy => by
    have : k = 0 := by simpa using hy
    subst this
    rfl
  | a :: x, b :: y, 0, _, h, _, _ => by
    rcases h with h | h | ⟨_, _, h⟩
    · simp at h
    · simp at h
    · have : a ≠ b := fun e => h (by rw [e]; rfl)
      unfold lcp
      rw [if_neg this]
  | a :: x, b :: y, k + 1, hk, h, hx, hy => by
    have e := (hk 0 (by omega)).1
    have e : a = b := by simpa using e
    unfold lcp
    rw [if_pos e, lcp_of x y k (fun j hj => by
      have := hk (j + 1) (by omega)
      simpa using this) (by simpa using h) (by simpa using hx) (by simpa using hy)]
theorem lcp_le : ∀ x y : List Nat, lcp x y ≤ x.length ∧ lcp x y ≤ y.length
  | [], y => ⟨Nat.zero_le _, Nat.zero_le _⟩
  | a :: x, [] => ⟨Nat.zero_le _, Nat.zero_le _⟩
  | a :: x, b :: y => by
    unfold lcp
    have := lcp_le x y
    split
    · simp; omega
    · exact ⟨Nat.zero_le _, Nat.zero_le _⟩
/-- what one side has ahead of the other, none if both have -/
def gapD (x y : List Nat) : D := if lcp x y < x.length ∧ lcp x y < y.length then .non else .tup [.str (x.drop (lcp x y)), .str (y.drop (lcp x y))]
theorem lcp_app : ∀ (x y a b : List Nat), (lcp x y < x.length ∧ lcp x y < y.length → lcp (x ++ a) (y ++ b) = lcp x y) ∧
    (¬ (lcp x y < x.length ∧ lcp x y < y.length) → lcp (x ++ a) (y ++ b) = lcp x y + lcp (x.drop (lcp x y) ++ a) (y.drop (lcp x y) ++ b))
  | [], y, a, b => by
    refine ⟨fun h => absurd h.1 (Nat.not_lt_zero _), fun _ => ?_⟩
    show _ = 0 + _
    rw [Nat.zero_add]
    rfl
  | c :: x, [], a, b => by
    refine ⟨fun h => absurd h.2 (Nat.not_lt_zero _), fun _ => ?_⟩
    show _ = 0 + _
    rw [Nat.zero_add]
    rfl
  | c :: x, d :: y, a, b => by
    have ih := lcp_app x y a b
    by_cases e : c = d
    · have e1 : ∀ u v, lcp (c :: u) (d :: v) = lcp u v + 1 := fun u v => by
        show (if c = d then _ else _) = _
        rw [if_pos e]
      rw [List.cons_append, List.cons_append, e1, e1]
      refine ⟨fun h => ?_, fun h => ?_⟩
      · rw [ih.1 (by simpa using h)]
      · rw [ih.2 (by simpa using h), List.drop_succ_cons, List.drop_succ_cons]; omega
    · have e1 : ∀ u v, lcp (c :: u) (d :: v) = 0 := fun u v => by
        show (if c = d then _ else _) = _
        rw [if_neg e]
      rw [List.cons_append, List.cons_append, e1, e1]
      exact ⟨fun _ => rfl, fun h => absurd ⟨by simp, by simp⟩ h⟩
end Z

set_option Elab.async false
set_option linter.all false
set_option maxRecDepth 100000
set_option maxHeartbeats 1000000
/-! ZB: defs with *v; calls by a positional promise -/
namespace Z
open PySem L2
section
variable {X : Cx} {CX : CXT} {k : Nat} {f : Addr} {sp : Sp} {E : XK} {x : Str} {e : Expr} {es : List Expr} {t : TA} {p pos : Pos}
/-- x(e, ..) by a positional promise -/
theorem pe_callR (F : FnR X.prog X.w X.K X.mg X.base CX k f sp) (hr : Room k X.A) (hk : PySem.W.keepIn X.K (.ref f) = true) (hg : Gl X x) (hm : X.mg x = some (.ref f)) (hx : Passes CX X E) (ha : PA X (e :: es) t) (hd : (x == ("__debug__" : Str)) = false := by decide)
    (he : starEach (e :: es) X.env = (false, eval e X.env) :: starEach es X.env := by rfl) (hpl : (backTo pos (starEach es X.env)).any (·.1) = false := by rfl) :
    PE X (.Call (.Name x p) (e :: es) [] pos) (fun σ H Q => t σ H fun vs H1 => sp vs H1 Q E) := by
  refine ⟨fun pins s σ H Q I h => ?_⟩
  refine wpAny_Call_Name_kw (ld_glob I hg hm ?_ hd)
  refine PySem.W.callWith_K (h₀ := X.base) I.ok.mod.kin hk (thn (ha.run pos pins s σ H _ I h) fun us s1 ⟨vs, H1, I1, r, q⟩ => ⟨I1.kIn, ?_⟩) he hpl
  exact wpAny_call (run_fnR F hr hx I1 r q)
theorem pe_callR0 (F : FnR X.prog X.w X.K X.mg X.base CX k f sp) (hr : Room k X.A) (hk : PySem.W.keepIn X.K (.ref f) = true) (hg : Gl X x) (hm : X.mg x = some (.ref f)) (hx : Passes CX X E) (hd : (x == ("__debug__" : Str)) = false := by decide) :
    PE X (.Call (.Name x p) [] [] pos) (fun σ H Q => sp [] H Q E) := by
  refine ⟨fun pins s σ H Q I h => ?_⟩
  refine wpAny_Call_Name_kw (ld_glob I hg hm ?_ hd)
  exact PySem.W.callWith_K0 I.kIn hk (wpAny_call (run_fnR (us := []) F hr hx I .nil h))
end
/-- the promise of def f( *v) -/
def spS (K : Kx) (m : List D → Rs D) : Sp := fun vs H Q Ex => ∃ ds F, Same F H ∧ RL K F H ds vs [] ∧ ds.length ≤ 16777216 ∧ PostP K F H Q Ex (m [.tup ds])
def eAppS (m : List D → Rs D) (fa : En → Rs (List D)) : En → Rs D := fun env => (fa env).bind fun ds => if ds.all isData && decide (ds.length ≤ 16777216) then m [.tup ds] else .un
@[simp] theorem eAppS_e {m : List D → Rs D} {fa : En → Rs (List D)} {env : En} : eAppS m fa env = (fa env).bind fun ds => if ds.all isData && decide (ds.length ≤ 16777216) then m [.tup ds] else .un := id rfl
section
variable {X : Cx} {E : Ent} {W : WX} {e a b : Expr} {pos : Pos}
theorem SE.callS {x : Str} {p : Pos} {k : Nat} {fa_ : Addr} {es : List Expr} {m : List D → Rs D} {fa : En → Rs (List D)}
    (F : FnR X.prog X.w X.K X.mg X.base CX0 k fa_ (spS E.K m)) (hx : NoX m) (hr : Room k X.A) (hm : X.mg x = some (.ref fa_)) (hk : PySem.W.keepIn X.K (.ref fa_) = true) (ha : SA X E W (e :: es) fa) (hg : Gl X x := by rfl)
    (hdb : (x == ("__debug__" : Str)) = false := by decide) (he : starEach (e :: es) X.env = (false, eval e X.env) :: starEach es X.env := by rfl) (hpl : (backTo pos (starEach es X.env)).any (·.1) = false := by rfl) :
    SE X E W (.Call (.Name x p) (e :: es) [] pos) (eAppS m fa) := by
  obtain ⟨t, pa, ka⟩ := ha.ex
  refine ⟨ha.hK, _, pe_callR F hr hk hg hm pass0 pa hdb he hpl, fun Fz σ H env S Q q => ?_⟩
  refine ka Fz σ H env S _ ?_
  unfold eAppS at q
  cases e1 : fa env with
  | un => rw [e1] at q; exact q
  | ex x => rw [e1] at q; exact q
  | ok ds =>
    rw [e1, Rs.bind_ok] at q
    intro vs fp F1 H1 G1 r1
    split at q
    · rename_i hc
      rw [Bool.and_eq_true] at hc
      refine ⟨ds, F1, G1.fh, r1.toData hc.1, of_decide_eq_true hc.2, ?_⟩
      cases e2 : m [.tup ds] with
      | un => rw [e2] at q; exact q
      | ex x => exact absurd e2 (hx [.tup ds] x)
      | ok d => rw [e2] at q; exact fun v F' H' G r => q v [] F' H' (G1.trans G) r
    · exact q.elim
theorem SE.callS0 {x : Str} {p : Pos} {k : Nat} {fa_ : Addr} {m : List D → Rs D}
    (F : FnR X.prog X.w X.K X.mg X.base CX0 k fa_ (spS E.K m)) (hx : NoX m) (hr : Room k X.A) (hm : X.mg x = some (.ref fa_)) (hk : PySem.W.keepIn X.K (.ref fa_) = true) (hg : Gl X x := by rfl)
    (hdb : (x == ("__debug__" : Str)) = false := by decide) (hK : X.K = E.K.k := by rfl) :
    SE X E W (.Call (.Name x p) [] [] pos) (eAppS m aNil) := by
  refine ⟨hK, _, pe_callR0 F hr hk hg hm pass0 hdb, fun Fz σ H env S Q q => ?_⟩
  refine ⟨[], Fz, S.fH, .nil, Nat.zero_le _, ?_⟩
  have q : PostE E W Fz H σ Q (m [.tup []]) := q
  cases e2 : m [.tup []] with
  | un => rw [e2] at q; exact q
  | ex x => exact absurd e2 (hx [.tup []] x)
  | ok d => rw [e2] at q; exact fun v F' H' G r => q v [] F' H' G r
end
theorem PostP.grow {K : Kx} {F H F' H' : Hp} {Q : VK} {Ex : XK} {r : Rs D} (G : Grow F H F' H') (h : PostP K F H Q Ex r) : PostP K F' H' Q Ex r := by
  cases r with
  | ok d => exact fun v F1 H1 G1 k => h v F1 H1 (G.trans G1) k
  | ex x => exact fun cls dd F1 H1 G1 k => h cls dd F1 H1 (G.trans G1) k
  | un => exact h
/-- def f( *v) that raises nothing -/
theorem fnS {P : Program} {w : World} {K : Kx} {mg : Str → Option Value} {base : Heap} {x qual pv : Str} {st : Stmt} {f : Addr} {fd : FuncData} {N : List Str} {k n : Nat} {g : En → Fl} {m : List D → Rs D} (Fn : Fun K.k x qual st f fd) (S : FnScope N [pv] (defScope st))
    (hbi : ∀ (kV doc pm cdv ct : Value) (an : Option Addr) (rest : List Value), bindArgs (PySem.W.fnOf x qual (defArgs st) (defBody st) (defScope st) .none kV doc pm an cdv ct) ⟨rest, []⟩ = (newTuple rest >>= fun t => pure [(pv, t)]))
    (hm : m = runB0 g n) (hn : N.length = n)
    (hb : ∀ (cdv : Value) (A : Around) (outer : List Env) (s : Shared) (H : Hp) (Ex : XK) (F0 : Hp), Room k (A.deeper (PyProof.Rows.envOfC qual (defScope st) s.heap.objs.size f cdv)) →
      SB (cxOf CX0 P w K.k mg base N qual (defScope st) f cdv A outer s H Ex).nox ⟨K, H, F0, fun _ => []⟩ W0 (defBody st) g) : FnR P w K.k mg base CX0 (k + 1) f (spS K m) := by
  subst hm hn
  obtain ⟨oc, od, kV, doc, pm, an, cdv, ct, osl, rfl, lk, hcd⟩ := Fn.ex
  refine FnR.imp (StX.fn_star (ps := []) (pv := pv) (sp := spP K 1 (runB0 g N.length)) lk hcd S StX.cxUp_none (fun us rest hl => ?_) fun A outer s H vs Q Ex hr h => ?_) fun vs H Q Ex h => ?_
  · obtain rfl : us = [] := List.eq_nil_of_length_eq_zero hl
    exact hbi kV doc pm cdv ct an rest
  · obtain ⟨ds, F, hs, hl, hn, q⟩ := h
    obtain ⟨t, p, k⟩ := (hb cdv A outer s H Ex F hr).ex
    refine ⟨t, p.nox, k F _ H _ (stt_start hs hl) _ ?_⟩
    unfold runB0 runB at q
    cases e : g (start0 N.length ds) with
    | nx en => rw [e] at q; exact fun F' σ' H' G S' => q _ F' H' (stt_end S') .non
    | bk en => rw [e] at q; exact q.elim
    | ct en => rw [e] at q; exact q.elim
    | rt d en => rw [e] at q; exact fun v F' σ' H' G S' r => q v F' H' (stt_end S') r
    | xx x en => rw [e] at q; exact q.elim
    | un => rw [e] at q; exact q
  · obtain ⟨ds, F, hs, hl, hn, q⟩ := h
    refine ⟨[], vs, rfl, rfl, by rw [hl.len, ← line_eq]; exact hn, fun p hp => ?_⟩
    have G := Grow.new (o := .tup vs) hs hp
    exact ⟨[.tup ds], _, G.fh, RL.mk0 (.tup (.inl (.inl upd_same)) (hl.grow G) hn) .nil, rfl, q.grow G⟩
/-! more plain rules -/
theorem rngL_mem {lo : Int} {n : Nat} {d : D} (h : d ∈ rngL lo n) : ∃ k : Nat, k < n ∧ d = .int (lo + k) := by
  unfold rngL at h
  obtain ⟨k, hk, rfl⟩ := List.mem_map.mp h
  exact ⟨k, List.mem_range.mp hk, rfl⟩
theorem iRng2_nat {a b : Nat} (h : b ≤ 16000000) (ha : a ≤ 16000000) : iRng2 [.int a, .int b] = .ok (rngL a (b - a)) := by
  show (if _ then _ else _) = _
  rw [if_pos (by omega)]
  congr 2
  omega
theorem pMul_str {x : List Nat} {k : Nat} (h : x.length * k ≤ 16777216) (hk : k < 16777216) : pMul (.str x) (.int k) = some (.str (List.replicate k x).flatten) := by
  show (if _ then _ else _) = _
  rw [if_pos ⟨by rw [Int.toNat_natCast]; exact h, by omega, by omega⟩]
  rfl
@[simp] theorem pEq_bl {a b : Bool} : pEq (.bl a) (.bl b) = some (.bl (decide (a = b))) := by rw [← beq_dec]; rfl
@[simp] theorem pNe_bl {a b : Bool} : pNe (.bl a) (.bl b) = some (.bl (!decide (a = b))) := by rw [← beq_dec]; rfl
theorem blsOf_map {α : Type} (g : α → Bool) : ∀ xs : List α, blsOf (xs.map fun x => .bl (g x)) = some (xs.map g)
  | [] => rfl
  | x :: xs => by
    show (blsOf (xs.map fun x => .bl (g x))).map (g x :: ·) = _
    rw [blsOf_map g xs]
    rfl
theorem bAll_map {α : Type} (g : α → Bool) (xs : List α) : bAll [.lst (xs.map fun x => .bl (g x))] = some (.bl (xs.all g)) := by
  show (blsOf _).map _ = _
  rw [blsOf_map]
  simp [List.all_map]
theorem bAny_map {α : Type} (g : α → Bool) (xs : List α) : bAny [.lst (xs.map fun x => .bl (g x))] = some (.bl (xs.any g)) := by
  show (blsOf _).map _ = _
  rw [blsOf_map]
  simp [List.any_map]
section
variable {a b c d e f : D} {x : List D}
@[simp] theorem pIx_l0 : pIx (.lst (a :: x)) (.int 0) = some a := pIx_lst (k := 0)
@[simp] theorem pIx_l1 : pIx (.lst (a :: b :: x)) (.int 1) = some b := pIx_lst (k := 1)
@[simp] theorem pIx_l2 : pIx (.lst (a :: b :: c :: x)) (.int 2) = some c := pIx_lst (k := 2)
@[simp] theorem pIx_l3 : pIx (.lst (a :: b :: c :: d :: x)) (.int 3) = some d := pIx_lst (k := 3)
@[simp] theorem pIx_l4 : pIx (.lst (a :: b :: c :: d :: e :: x)) (.int 4) = some e := pIx_lst (k := 4)
@[simp] theorem pIx_l5 : pIx (.lst (a :: b :: c :: d :: e :: f :: x)) (.int 5) = some f := pIx_lst (k := 5)
end
@[simp] theorem itemsOf_scr {x : List Int} : itemsOf (.scr x) = some (x.map .int) := id rfl
theorem all_strs (xs : List (List Nat)) : (xs.map D.str).all isData = true := by simp
@[simp] theorem eList_e {f : En → Rs D} {env : En} : eList f env = (f env).bind fun d => ofO (seqOf d) := id rfl
@[simp] theorem revOf_lst {x : List D} : revOf (.lst x) = some x.reverse := id rfl
end Z

set_option Elab.async false
set_option linter.all false
set_option maxRecDepth 100000
namespace Law
open PySem L2 Z
def b0_root : En → Fl :=
  (sSeq (sSet 2 (eBin pDiv (eCall bLen (aCons (eVar 0) aNil)) (eVar 1)))
  (sIf (eB (eBin pEq (eBin pMul (eSl (eVar 0) oNone (oSome (eVar 1))) (eVar 2)) (eVar 0)))
  (sRet (eTup (aCons (eSl (eVar 0) oNone (oSome (eVar 1))) (aCons (eVar 2) aNil))))
  sPass))
def g_root : En → Fl :=
  (sSeq (sFor (fun env => Rs.bind ((aCons (eC (.int 1)) (aCons (eBin pAdd (eCall bLen (aCons (eVar 0) aNil)) (eC (.int 1))) aNil)) env) iRng2) (gN 1) b0_root [1, 2])
  (sRet (eTup (aCons (eC (.str [])) (aCons (eC (.int 0)) aNil)))))
def m_root : List D → Rs D := runB0 g_root 3
theorem e_root (a0 : D) : m_root [a0] = noX (outB (g_root [some a0, none, none])) := rfl
def g_change_places : En → Fl :=
  (sSeq (sSet 1 (eOfL (eComp (iSeq (eVar 0)) (gN 2) (eB (eBin pNe (eVar 2) (eC (.str [])))) (eBin pIx (eApp 1 m_root (aCons (eVar 2) aNil)) (eC (.int 0))) [2])))
  (sRet (eCall bAll (aCons (eOfL (eComp (iSeq (eVar 1)) (gN 3) cYes (eBin pEq (eVar 3) (eBin pIx (eVar 1) (eC (.int 0)))) [3])) aNil))))
def m_change_places : List D → Rs D := runB0 g_change_places 4
theorem e_change_places (a0 : D) : m_change_places [a0] = noX (outB (g_change_places [some a0, none, none, none])) := rfl
def g__law_cell : En → Fl :=
  (sSeq (sIf (eB (eBin pLt (eVar 1) (eCall bLen (aCons (eVar 0) aNil))))
  (sRet (eBin pIx (eVar 0) (eVar 1)))
  sPass)
  (sRet (eBin pAdd (eBin pMul (eC (.int 5)) (eVar 1)) (eC (.int 2)))))
def m__law_cell : List D → Rs D := runB0 g__law_cell 2
theorem e__law_cell (a0 a1 : D) : m__law_cell [a0, a1] = noX (outB (g__law_cell [some a0, some a1])) := rfl
def b0__law_numbers : En → Fl :=
  (sIf (eTru (eVar 4))
  (sSeq (sApp 6 (eBin pMod (eCall bInt (aCons (eVar 3) aNil)) (eVar 1)))
  (sSet 3 (eBin pDiv (eVar 3) (eVar 1))))
  (sSeq (sSet 5 (eBin pMod (eCall bInt (aCons (eBin pAdd (eBin pAdd (eBin pMul (eVar 5) (eC (.int 48271))) (eBin pMul (eC (.int 11)) (eVar 7))) (eC (.int 1))) aNil)) (eC (.int 2147483647))))
  (sApp 6 (eBin pMod (eCall bInt (aCons (eBin pDiv (eVar 5) (eC (.int 8191))) aNil)) (eVar 1)))))
def g__law_numbers : En → Fl :=
  (sSeq (sSet 3 (eCall bAbs (aCons (eCall bInt (aCons (eVar 0) aNil)) aNil)))
  (sSeq (sSet 4 (eBin pGe (eVar 3) (eBin pPow (eC (.int 10)) (eC (.int 18)))))
  (sSeq (sSet 5 (eBin pAdd (eBin pMod (eCall bInt (aCons (eVar 3) aNil)) (eC (.int 2147483647))) (eC (.int 1))))
  (sSeq (sSetL 6 (eLst aNil))
  (sSeq (sFor (fun env => Rs.bind ((aCons (eVar 2) aNil) env) iRng1) (gN 7) b0__law_numbers [7])
  (sFrz 6 (sRet (eVar 6))))))))
def m__law_numbers : List D → Rs D := runB0 g__law_numbers 8
theorem e__law_numbers (a0 a1 a2 : D) : m__law_numbers [a0, a1, a2] = noX (outB (g__law_numbers [some a0, some a1, some a2, none, none, none, none, none])) := rfl
def g__law_text : En → Fl :=
  (sSeq (sSet 3 (eC (.str [35, 97, 98, 99, 100, 101, 102, 103, 104])))
  (sRet (eBin pJoin (eC (.str [])) (eOfL (eComp (iSeq (eApp 3 m__law_numbers (aCons (eVar 0) (aCons (eC (.int 9)) (aCons (eVar 1) aNil))))) (gN 4) cYes (eBin pIx (eVar 3) (eBin pMod (eCall bInt (aCons (eVar 4) aNil)) (eVar 2))) [4])))))
def m__law_text : List D → Rs D := runB0 g__law_text 5
theorem e__law_text (a0 a1 a2 : D) : m__law_text [a0, a1, a2] = noX (outB (g__law_text [some a0, some a1, some a2, none, none])) := rfl
def t0__law_spoilt : En → Fl :=
  (sRet (eBin pAdd (eBin pAdd (eSl (eVar 0) oNone (oSome (eVar 5))) (eVar 6)) (eSl (eVar 0) (oSome (eBin pAdd (eVar 5) (eC (.int 1)))) oNone)))
def t1__law_spoilt : En → Fl :=
  (sSeq (sSet 6 (eBin pIx (eOfL (eComp (iSeq (eC (.str [35, 97, 98, 99, 100, 101, 102, 103, 104]))) (gN 7) (eB (eBin pNe (eVar 7) (eBin pIx (eVar 0) (eVar 5)))) (eVar 7) [7])) (eBin pMod (eCall bInt (aCons (eBin pIx (eVar 3) (eC (.int 1))) aNil)) (eC (.int 8)))))
  t0__law_spoilt)
def t2__law_spoilt : En → Fl :=
  (sSeq (sSet 5 (eBin pMod (eCall bInt (aCons (eBin pIx (eVar 3) (eC (.int 0))) aNil)) (eCall bLen (aCons (eVar 0) aNil))))
  t1__law_spoilt)
def t3__law_spoilt : En → Fl :=
  (sSeq (sIf (eB (eBin pEq (eVar 1) (eC (.int 2))))
  (sRet (eBin pAdd (eSl (eVar 0) (oSome (eC (.int 1))) oNone) (eBin pIx (eVar 0) (eC (.int 0)))))
  sPass)
  t2__law_spoilt)
def t4__law_spoilt : En → Fl :=
  (sSeq (sIf (eB (eBin pEq (eVar 1) (eC (.int 1))))
  (sRet (eBin pAdd (eVar 0) (eBin pIx (eC (.str [35, 97, 98, 99, 100, 101, 102, 103, 104])) (eBin pMod (eCall bInt (aCons (eBin pIx (eVar 3) (eC (.int 1))) aNil)) (eC (.int 9))))))
  sPass)
  t3__law_spoilt)
def t5__law_spoilt : En → Fl :=
  (sSeq (sIf (eOr (eB (eBin pEq (eVar 1) (eC (.int 0)))) (eB (eBin pEq (eVar 0) (eC (.str [])))))
  (sRet (eVar 4))
  sPass)
  t4__law_spoilt)
def t6__law_spoilt : En → Fl :=
  (sSeq (sSet 4 (eApp 3 m__law_text (aCons (eBin pAdd (eBin pIx (eVar 3) (eC (.int 2))) (eCall bAbs (aCons (eCall bInt (aCons (eVar 2) aNil)) aNil))) (aCons (eBin pMod (eCall bInt (aCons (eBin pIx (eVar 3) (eC (.int 0))) aNil)) (eC (.int 8))) (aCons (eBin pAdd (eC (.int 1)) (eBin pMod (eCall bInt (aCons (eBin pIx (eVar 3) (eC (.int 1))) aNil)) (eC (.int 9)))) aNil)))))
  t5__law_spoilt)
def g__law_spoilt : En → Fl :=
  (sSeq (sSet 3 (eApp 3 m__law_numbers (aCons (eVar 2) (aCons (eC (.int 360)) (aCons (eC (.int 3)) aNil)))))
  t6__law_spoilt)
def m__law_spoilt : List D → Rs D := runB0 g__law_spoilt 8
theorem e__law_spoilt (a0 a1 a2 : D) : m__law_spoilt [a0, a1, a2] = noX (outB (g__law_spoilt [some a0, some a1, some a2, none, none, none, none, none])) := rfl
def b0__law_words : En → Fl :=
  (sSeq (sSet 7 (eApp 3 m__law_numbers (aCons (eApp 2 m__law_cell (aCons (eVar 0) (aCons (eBin pAdd (eC (.int 4)) (eVar 6)) aNil))) (aCons (eC (.int 60)) (aCons (eC (.int 2)) aNil)))))
  (sSeq (sSet 8 (eBin pMod (eCall bInt (aCons (eBin pIx (eVar 7) (eC (.int 0))) aNil)) (eC (.int 7))))
  (sSeq (sIf (eB (eBin pEq (eBin pMod (eCall bInt (aCons (eBin pIx (eVar 2) (eC (.int 3))) aNil)) (eC (.int 8))) (eC (.int 3))))
  (sSet 8 (eBin pIx (eVar 7) (eC (.int 0))))
  sPass)
  (sSeq (sSet 9 (eBin pMul (eVar 1) (eVar 8)))
  (sSeq (sIf (eB (eBin pEq (eVar 6) (eVar 4)))
  (sSet 9 (eApp 3 m__law_spoilt (aCons (eVar 9) (aCons (eBin pMod (eCall bInt (aCons (eBin pIx (eVar 2) (eC (.int 2))) aNil)) (eC (.int 4))) (aCons (eApp 2 m__law_cell (aCons (eVar 0) (aCons (eC (.int 3)) aNil))) aNil)))))
  sPass)
  (sApp 5 (eVar 9)))))))
def g__law_words : En → Fl :=
  (sSeq (sSet 2 (eApp 3 m__law_numbers (aCons (eApp 2 m__law_cell (aCons (eVar 0) (aCons (eC (.int 2)) aNil))) (aCons (eC (.int 360)) (aCons (eC (.int 4)) aNil)))))
  (sSeq (sSet 3 (eBin pMod (eCall bInt (aCons (eBin pIx (eVar 2) (eC (.int 0))) aNil)) (eC (.int 7))))
  (sSeq (sSet 4 (eBin pMod (eCall bInt (aCons (eBin pIx (eVar 2) (eC (.int 1))) aNil)) (eC (.int 8))))
  (sSeq (sSetL 5 (eLst aNil))
  (sSeq (sFor (fun env => Rs.bind ((aCons (eVar 3) aNil) env) iRng1) (gN 6) b0__law_words [6, 7, 8, 9])
  (sFrz 5 (sRet (eVar 5))))))))
def m__law_words : List D → Rs D := runB0 g__law_words 10
theorem e__law_words (a0 a1 : D) : m__law_words [a0, a1] = noX (outB (g__law_words [some a0, some a1, none, none, none, none, none, none, none, none])) := rfl
def b0__law_due_root : En → Fl :=
  (sIf (eB (eBin pEq (eBin pMod (eCall bInt (aCons (eCall bLen (aCons (eVar 0) aNil)) aNil)) (eVar 1)) (eC (.int 0))))
  (sSeq (sSet 2 (eOfL (eComp (fun env => Rs.bind ((aCons (eVar 1) (aCons (eCall bLen (aCons (eVar 0) aNil)) aNil)) env) iRng2) (gN 3) (eB (eBin pNe (eBin pIx (eVar 0) (eVar 3)) (eBin pIx (eVar 0) (eBin pSub (eVar 3) (eVar 1))))) (eVar 3) [3])))
  (sIf (eB (eBin pEq (eCall bLen (aCons (eVar 2) aNil)) (eC (.int 0))))
  (sRet (eTup (aCons (eSl (eVar 0) oNone (oSome (eVar 1))) (aCons (eBin pDiv (eCall bLen (aCons (eVar 0) aNil)) (eVar 1)) aNil))))
  sPass))
  sPass)
def g__law_due_root : En → Fl :=
  (sSeq (sFor (fun env => Rs.bind ((aCons (eC (.int 1)) (aCons (eBin pAdd (eCall bLen (aCons (eVar 0) aNil)) (eC (.int 1))) aNil)) env) iRng2) (gN 1) b0__law_due_root [1, 2])
  (sRet (eTup (aCons (eC (.str [])) (aCons (eC (.int 0)) aNil)))))
def m__law_due_root : List D → Rs D := runB0 g__law_due_root 4
theorem e__law_due_root (a0 : D) : m__law_due_root [a0] = noX (outB (g__law_due_root [some a0, none, none, none])) := rfl
def b0__law_due_places : En → Fl :=
  (sIf (eB (eBin pNe (eBin pAdd (eVar 1) (eVar 2)) (eBin pAdd (eVar 2) (eVar 1))))
  (sRet (eC (.bl false)))
  sPass)
def b1__law_due_places : En → Fl :=
  (sFor (iSeq (eVar 0)) (gN 2) b0__law_due_places [2])
def g__law_due_places : En → Fl :=
  (sSeq (sFor (iSeq (eVar 0)) (gN 1) b1__law_due_places [1, 2])
  (sRet (eC (.bl true))))
def m__law_due_places : List D → Rs D := runB0 g__law_due_places 3
theorem e__law_due_places (a0 : D) : m__law_due_places [a0] = noX (outB (g__law_due_places [some a0, none, none])) := rfl
def t0__law_told_places : En → Fl :=
  (sRet (eAppS m_change_places (aCons (eBin pIx (eVar 0) (eC (.int 0))) (aCons (eBin pIx (eVar 0) (eC (.int 1))) (aCons (eBin pIx (eVar 0) (eC (.int 2))) (aCons (eBin pIx (eVar 0) (eC (.int 3))) (aCons (eBin pIx (eVar 0) (eC (.int 4))) (aCons (eBin pIx (eVar 0) (eC (.int 5))) aNil))))))))
def t1__law_told_places : En → Fl :=
  (sSeq (sIf (eB (eBin pEq (eVar 1) (eC (.int 5))))
  (sRet (eAppS m_change_places (aCons (eBin pIx (eVar 0) (eC (.int 0))) (aCons (eBin pIx (eVar 0) (eC (.int 1))) (aCons (eBin pIx (eVar 0) (eC (.int 2))) (aCons (eBin pIx (eVar 0) (eC (.int 3))) (aCons (eBin pIx (eVar 0) (eC (.int 4))) aNil)))))))
  sPass)
  t0__law_told_places)
def t2__law_told_places : En → Fl :=
  (sSeq (sIf (eB (eBin pEq (eVar 1) (eC (.int 4))))
  (sRet (eAppS m_change_places (aCons (eBin pIx (eVar 0) (eC (.int 0))) (aCons (eBin pIx (eVar 0) (eC (.int 1))) (aCons (eBin pIx (eVar 0) (eC (.int 2))) (aCons (eBin pIx (eVar 0) (eC (.int 3))) aNil))))))
  sPass)
  t1__law_told_places)
def t3__law_told_places : En → Fl :=
  (sSeq (sIf (eB (eBin pEq (eVar 1) (eC (.int 3))))
  (sRet (eAppS m_change_places (aCons (eBin pIx (eVar 0) (eC (.int 0))) (aCons (eBin pIx (eVar 0) (eC (.int 1))) (aCons (eBin pIx (eVar 0) (eC (.int 2))) aNil)))))
  sPass)
  t2__law_told_places)
def t4__law_told_places : En → Fl :=
  (sSeq (sIf (eB (eBin pEq (eVar 1) (eC (.int 2))))
  (sRet (eAppS m_change_places (aCons (eBin pIx (eVar 0) (eC (.int 0))) (aCons (eBin pIx (eVar 0) (eC (.int 1))) aNil))))
  sPass)
  t3__law_told_places)
def t5__law_told_places : En → Fl :=
  (sSeq (sIf (eB (eBin pEq (eVar 1) (eC (.int 1))))
  (sRet (eAppS m_change_places (aCons (eBin pIx (eVar 0) (eC (.int 0))) aNil)))
  sPass)
  t4__law_told_places)
def t6__law_told_places : En → Fl :=
  (sSeq (sIf (eB (eBin pEq (eVar 1) (eC (.int 0))))
  (sRet (eAppS m_change_places aNil))
  sPass)
  t5__law_told_places)
def g__law_told_places : En → Fl :=
  (sSeq (sSet 1 (eCall bLen (aCons (eVar 0) aNil)))
  t6__law_told_places)
def m__law_told_places : List D → Rs D := runB0 g__law_told_places 2
theorem e__law_told_places (a0 : D) : m__law_told_places [a0] = noX (outB (g__law_told_places [some a0, none])) := rfl
def g__law_root_right : En → Fl :=
  (sSeq (sSet 1 (eApp 1 m_root (aCons (eVar 0) aNil)))
  (sSeq (sIf (eOr (eNot (eTru (eIsi "tuple" (eVar 1)))) (eOr (eB (eBin pNe (eCall bLen (aCons (eVar 1) aNil)) (eC (.int 2)))) (eNot (eTru (eIsi "str" (eBin pIx (eVar 1) (eC (.int 0))))))))
  (sRet (eC (.bl false)))
  sPass)
  (sSeq (sIf (eOr (eNot (eTru (eIsi "int" (eBin pIx (eVar 1) (eC (.int 1)))))) (eTru (eIsi "bool" (eBin pIx (eVar 1) (eC (.int 1))))))
  (sRet (eC (.bl false)))
  sPass)
  (sRet (eBin pEq (eVar 1) (eApp 1 m__law_due_root (aCons (eVar 0) aNil)))))))
def m__law_root_right : List D → Rs D := runB0 g__law_root_right 2
theorem e__law_root_right (a0 : D) : m__law_root_right [a0] = noX (outB (g__law_root_right [some a0, none])) := rfl
def g__law_places_right : En → Fl :=
  (sSeq (sSet 1 (eApp 1 m__law_told_places (aCons (eVar 0) aNil)))
  (sRet (eAndV (eIsi "bool" (eVar 1)) (eBin pEq (eVar 1) (eApp 1 m__law_due_places (aCons (eVar 0) aNil))))))
def m__law_places_right : List D → Rs D := runB0 g__law_places_right 2
theorem e__law_places_right (a0 : D) : m__law_places_right [a0] = noX (outB (g__law_places_right [some a0, none])) := rfl
def b0_law : En → Fl :=
  (sIf (eOr (eNot (eTru (eApp 1 m__law_root_right (aCons (eVar 5) aNil)))) (eOr (eNot (eTru (eApp 1 m__law_places_right (aCons (eOfL (eLst (aCons (eVar 5) (aCons (eVar 5) aNil)))) aNil)))) (eNot (eTru (eApp 1 m__law_places_right (aCons (eOfL (eLst (aCons (eVar 5) aNil))) aNil))))))
  (sRet (eC (.bl false)))
  sPass)
def t1_law : En → Fl :=
  (sRet (eApp 1 m__law_places_right (aCons (eOfL (fun env => Rs.bind ((eVar 3) env) fun d => ofO (revOf d))) aNil)))
def t2_law : En → Fl :=
  (sSeq (sIf (eOr (eNot (eTru (eApp 1 m__law_places_right (aCons (eOfL (eLst aNil)) aNil)))) (eNot (eTru (eApp 1 m__law_places_right (aCons (eVar 3) aNil)))))
  (sRet (eC (.bl false)))
  sPass)
  t1_law)
def t3_law : En → Fl :=
  (sSeq (sIf (eOr (eNot (eTru (eApp 1 m__law_places_right (aCons (eOfL (eLst (aCons (eVar 2) (aCons (eVar 4) aNil)))) aNil)))) (eNot (eTru (eApp 1 m__law_places_right (aCons (eOfL (eLst (aCons (eVar 4) (aCons (eC (.str [])) (aCons (eVar 2) aNil))))) aNil)))))
  (sRet (eC (.bl false)))
  sPass)
  t2_law)
def t4_law : En → Fl :=
  (sSeq (sFor (iSeq (eBin pAdd (eVar 3) (eOfL (eLst (aCons (eVar 2) (aCons (eVar 4) (aCons (eC (.str [])) aNil))))))) (gN 5) b0_law [5])
  t3_law)
def t5_law : En → Fl :=
  (sSeq (sSet 4 (eApp 3 m__law_spoilt (aCons (eVar 2) (aCons (eBin pMod (eCall bInt (aCons (eBin pIx (eVar 1) (eC (.int 0))) aNil)) (eC (.int 4))) (aCons (eApp 2 m__law_cell (aCons (eVar 0) (aCons (eC (.int 10)) aNil))) aNil)))))
  t4_law)
def t6_law : En → Fl :=
  (sSeq (sSet 3 (eApp 2 m__law_words (aCons (eVar 0) (aCons (eVar 2) aNil))))
  t5_law)
def t7_law : En → Fl :=
  (sSeq (sSet 2 (eApp 3 m__law_text (aCons (eApp 2 m__law_cell (aCons (eVar 0) (aCons (eC (.int 1)) aNil))) (aCons (eBin pAdd (eC (.int 1)) (eBin pMod (eCall bInt (aCons (eBin pIx (eVar 1) (eC (.int 0))) aNil)) (eC (.int 6)))) (aCons (eBin pAdd (eC (.int 1)) (eBin pMod (eCall bInt (aCons (eBin pIx (eVar 1) (eC (.int 1))) aNil)) (eC (.int 9)))) aNil)))))
  t6_law)
def g_law : En → Fl :=
  (sSeq (sSet 1 (eApp 3 m__law_numbers (aCons (eApp 2 m__law_cell (aCons (eVar 0) (aCons (eC (.int 0)) aNil))) (aCons (eC (.int 54)) (aCons (eC (.int 2)) aNil)))))
  t7_law)
def m_law : List D → Rs D := runB0 g_law 6
theorem e_law (a0 : D) : m_law [a0] = noX (outB (g_law [some a0, none, none, none, none, none])) := rfl
end Law

set_option Elab.async false
set_option linter.all false
set_option maxRecDepth 100000
namespace Law
open Z PySem L2
def cellS (ns : List Int) (k : Nat) : Int := ns.getD k (5 * k + 2)
theorem cell_ok (ns : List Int) (k : Nat) (hk : k < 1000000) : m__law_cell [.scr ns, .int k] = .ok (.int (cellS ns k)) := by
  show noX (outB (g__law_cell [some (.scr ns), some (.int k)])) = _
  unfold g__law_cell cellS
  have hm : (smallI 5 || smallI (k : Int)) = true := rfl
  by_cases h : k < ns.length
  · simp [h, pIx_scr]
  · simp [h, hm]
theorem smallC (i : Int) (j : Int) (h : smallI j = true) : (smallI i || smallI j) = true := by rw [h]; exact Bool.or_true _
def absI (c : Int) : Int := if c < 0 then -c else c
def numE (c many : Int) (n : Nat) (r mx : Int) (xs : List Int) : En :=
  [some (.int c), some (.int many), some (.int n), some (.int r), some (.bl (decide ((1000000000000000000:Int) ≤ absI c))), some (.int mx), some (.olst (xs.map .int)), none]
def numP (c many : Int) (n : Nat) (i : Nat) (e : En) : Prop := ∃ r mx xs, e = numE c many n r mx xs ∧ xs.length = i ∧ ∀ x ∈ xs, 0 ≤ x ∧ x < many
theorem num_step {c many : Int} {n i : Nat} (h1 : 0 < many) (h2 : many < 1073741824) (r mx : Int) (xs : List Int) (hz : xs.length < 16777216) (hl : xs.length = i) (hx : ∀ x ∈ xs, 0 ≤ x ∧ x < many) :
    LpP [7] (b0__law_numbers [some (.int c), some (.int many), some (.int n), some (.int r), some (.bl (decide ((1000000000000000000:Int) ≤ absI c))), some (.int mx), some (.olst (xs.map .int)), some (.int (0 + (i : Int)))])
      (numP c many n (i + 1)) fun _ => False := by
  have s1 : smallI 48271 = true := by decide
  have s2 : smallI 11 = true := by decide
  have key : ∀ r' mx' y, numP c many n (i + 1) (numE c many n r' mx' (xs ++ [y % many])) := fun r' mx' y => ⟨r', mx', _, rfl, by simp [hl], by
    intro x hm
    rcases List.mem_append.mp hm with hm | hm
    · exact hx x hm
    · rw [List.mem_singleton.mp hm]
      exact ⟨Int.emod_nonneg _ (by omega), Int.emod_lt_of_pos _ h1⟩⟩
  unfold numE at key
  simp only [List.map_append, List.map_cons, List.map_nil] at key
  unfold b0__law_numbers
  generalize decide ((1000000000000000000:Int) ≤ absI c) = b at key ⊢
  cases b with
  | true => simp [h1, h2, hz, key]
  | false => simp [h1, h2, hz, s1, s2, key]
theorem numbers_ok (c many : Int) (n : Nat) (h1 : 0 < many) (h2 : many < 1073741824) (hn : n ≤ 16000000) : ∃ xs : List Int, m__law_numbers [.int c, .int many, .int n] = .ok (.lst (xs.map .int)) ∧ xs.length = n ∧ ∀ x ∈ xs, 0 ≤ x ∧ x < many := by
  obtain ⟨e, he, r, mx, xs, rfl, hl, hx⟩ := forL_inv (h := gN 7) (body := b0__law_numbers) (w := [7]) (ds := rngL 0 n) (env := numE c many n (absI c) (absI c % 2147483647 + 1) []) (numP c many n)
    ⟨_, _, [], rfl, rfl, fun x h => nomatch h⟩ (by
      rintro i d e hd ⟨r, mx, xs, rfl, hl, hx⟩
      obtain ⟨hi, rfl⟩ := rng_at hd
      exact num_step h1 h2 r mx xs (by omega) hl hx)
  rw [rngL_len] at hl
  refine ⟨xs, ?_, hl, hx⟩
  show noX (outB (g__law_numbers [some (.int c), some (.int many), some (.int n), none, none, none, none, none])) = _
  unfold g__law_numbers
  unfold absI numE at he
  unfold absI at he
  simp only [List.map_nil] at he
  simp [sFor_ok (ds := rngL 0 n), hn, he]

theorem text_ok (c few : Int) (n : Nat) (h1 : 0 < few) (h2 : few ≤ 9) (hn : n ≤ 16000000) : ∃ x : List Nat, m__law_text [.int c, .int n, .int few] = .ok (.str x) ∧ x.length = n := by
  obtain ⟨xs, e, hl, hx⟩ := numbers_ok c 9 n (by decide) (by decide) hn
  have hi : ∀ x : Int, ∃ k : Nat, k < 9 ∧ x % few = k := fun x => ⟨(x % few).toNat, by
    have := Int.emod_nonneg x (show few ≠ 0 by omega)
    have := Int.emod_lt_of_pos x h1
    omega, by
    have := Int.emod_nonneg x (show few ≠ 0 by omega)
    omega⟩
  let sg : List Nat := [35, 97, 98, 99, 100, 101, 102, 103, 104]
  let g : Int → Nat := fun x => sg.getD (x % few).toNat 0
  refine ⟨xs.map g, ?_, by rw [List.length_map, hl]⟩
  rw [e__law_text]
  unfold g__law_text
  have hc : eComp (iSeq (eApp 3 m__law_numbers (aCons (eVar 0) (aCons (eC (.int 9)) (aCons (eVar 1) aNil))))) (gN 4) cYes (eBin pIx (eVar 3) (eBin pMod (eCall bInt (aCons (eVar 4) aNil)) (eVar 2))) [4]
      [some (.int c), some (.int n), some (.int few), some (.str sg), none] = .ok (xs.map fun x => .str [g x]) := by
    refine eComp_e (ds := xs.map .int) ?_ ?_
    · simp [e]
    · rw [compL_map (fun d => match d with | .int x => .str [g x] | _ => .non)]
      · simp
      · intro d hd
        obtain ⟨x, hx1, rfl⟩ := List.mem_map.mp hd
        refine ⟨_, rfl, rfl, ?_, rfl⟩
        obtain ⟨k, hk, ek⟩ := hi x
        have hk' : k < sg.length := hk
        have : pIx (.str sg) (.int k) = some (.str [g x]) := by
          rw [pIx_str]
          simp [g, ek, hk']
        simp [h1, ek, this]
  have hj := pJoin_single g xs (by omega)
  simp [sg] at hc
  simp [hc, hj]

theorem modN (c : Int) (n : Nat) (h : 0 < n) : ∃ k : Nat, c % (n : Int) = k ∧ k < n := ⟨(c % n).toNat, by
  have := Int.emod_nonneg c (show (n : Int) ≠ 0 by omega)
  omega, by
  have := Int.emod_nonneg c (show (n : Int) ≠ 0 by omega)
  have := Int.emod_lt_of_pos c (show (0 : Int) < n by omega)
  omega⟩
theorem cell_ok' (ns : List Int) (i : Int) (k : Nat) (hi : i = k) (hk : k < 1000000) : m__law_cell [.scr ns, .int i] = .ok (.int (cellS ns k)) := by rw [hi]; exact cell_ok ns k hk
theorem nums_nat (c : Int) (b n : Nat) (h1 : 0 < b) (h2 : b < 1073741824) (hn : n ≤ 16000000) : ∃ xs : List Nat, m__law_numbers [.int c, .int b, .int n] = .ok (.lst (xs.map fun (x : Nat) => D.int x)) ∧ xs.length = n ∧ ∀ x ∈ xs, x < b := by
  obtain ⟨xs, e, hl, hx⟩ := numbers_ok c b n (by omega) (by omega) hn
  refine ⟨xs.map Int.toNat, ?_, by simpa using hl, fun x h => ?_⟩
  · rw [e, List.map_map]
    congr 2
    apply List.map_congr_left
    intro x hm
    have := hx x hm
    simp [Int.toNat_of_nonneg this.1]
  · obtain ⟨y, hy, rfl⟩ := List.mem_map.mp h
    have := hx y hy
    omega
/-! words: powers, periods, commuting -/
def rp (n : Nat) (x : List Nat) : List Nat := (List.replicate n x).flatten
theorem rp_succ (n : Nat) (x : List Nat) : rp (n + 1) x = x ++ rp n x := by unfold rp; rw [List.replicate_succ, List.flatten_cons]
theorem rp_len : ∀ (n : Nat) (x : List Nat), (rp n x).length = n * x.length
  | 0, x => by simp [rp]
  | n + 1, x => by rw [rp_succ, List.length_append, rp_len n x, Nat.succ_mul, Nat.add_comm]
theorem rp_add (a b : Nat) (x : List Nat) : rp a x ++ rp b x = rp (a + b) x := by
  induction a with
  | zero => simp [rp]
  | succ a ih => rw [rp_succ, List.append_assoc, ih, show a + 1 + b = (a + b) + 1 by omega, rp_succ]
theorem rp_at (x : List Nat) (hx : 0 < x.length) : ∀ (n j : Nat), j < n * x.length → (rp n x)[j]? = x[j % x.length]?
  | 0, j, h => by simp at h
  | n + 1, j, h => by
    rw [rp_succ]
    by_cases hj : j < x.length
    · rw [List.getElem?_append_left hj, Nat.mod_eq_of_lt hj]
    · rw [List.getElem?_append_right (by omega), rp_at x hx n (j - x.length) (by rw [Nat.succ_mul] at h; omega), ← Nat.mod_eq_sub_mod (by omega)]
/-- u is the power of its first s signs -/
def Cs (u : List Nat) (s : Nat) : Prop := u.length % s = 0 ∧ ∀ j, j < u.length → u[j]? = u[j % s]?
theorem take_at {u : List Nat} {s k : Nat} (h : k < s) : (u.take s)[k]? = u[k]? := List.getElem?_take_of_lt h
theorem rep_iff {u : List Nat} {s : Nat} (h1 : 1 ≤ s) (h2 : s ≤ u.length) : rp (u.length / s) (u.take s) = u ↔ Cs u s := by
  have hl : (u.take s).length = s := by rw [List.length_take]; omega
  constructor
  · intro e
    have e1 : u.length / s * s = u.length := by
      have := congrArg List.length e
      rw [rp_len, hl] at this
      exact this
    refine ⟨by rw [← e1]; exact Nat.mul_mod_left _ _, fun j hj => ?_⟩
    have := rp_at (u.take s) (by omega) (u.length / s) j (by rw [hl, e1]; exact hj)
    rw [e, hl, take_at (Nat.mod_lt _ (by omega))] at this
    exact this
  · rintro ⟨h3, h4⟩
    have e1 : u.length / s * s = u.length := Nat.div_mul_cancel (Nat.dvd_of_mod_eq_zero h3)
    apply List.ext_getElem?
    intro j
    by_cases hj : j < u.length
    · rw [rp_at _ (by omega) _ _ (by rw [hl, e1]; exact hj), hl, take_at (Nat.mod_lt _ (by omega)), ← h4 j hj]
    · rw [List.getElem?_eq_none (by rw [rp_len, hl, e1]; omega), List.getElem?_eq_none (by omega)]
theorem back_iff {u : List Nat} {s : Nat} (h1 : 1 ≤ s) : (∀ k, s ≤ k → k < u.length → u[k]? = u[k - s]?) ↔ ∀ j, j < u.length → u[j]? = u[j % s]? := by
  constructor
  · intro h j
    induction j using Nat.strongRecOn with
    | ind j ih =>
      intro hj
      by_cases hs : j < s
      · rw [Nat.mod_eq_of_lt hs]
      · rw [h j (by omega) hj, ih (j - s) (by omega) (by omega), ← Nat.mod_eq_sub_mod (by omega)]
  · intro h k h2 h3
    rw [h k h3, h (k - s) (by omega), ← Nat.mod_eq_sub_mod h2]
theorem least {p : Nat → Prop} [DecidablePred p] : ∀ n, p n → 1 ≤ n → ∃ s, 1 ≤ s ∧ s ≤ n ∧ p s ∧ ∀ t, 1 ≤ t → t < s → ¬ p t := by
  intro n
  induction n using Nat.strongRecOn with
  | ind n ih =>
    intro h h1
    by_cases k : ∃ t, t < n ∧ 1 ≤ t ∧ p t
    · obtain ⟨t, a, b, c⟩ := k
      obtain ⟨s, q1, q2, q3, q4⟩ := ih t a c b
      exact ⟨s, q1, by omega, q3, q4⟩
    · exact ⟨n, h1, Nat.le_refl _, h, fun t a b c => k ⟨t, b, a, c⟩⟩
/-- s is the length of u's root -/
def IsRt (u : List Nat) (s : Nat) : Prop := 1 ≤ s ∧ s ≤ u.length ∧ Cs u s ∧ ∀ t, 1 ≤ t → t < s → ¬ Cs u t
theorem isRt_ex {u : List Nat} (h : u ≠ []) : ∃ s, IsRt u s := by
  have hl : 1 ≤ u.length := by
    cases u with
    | nil => exact absurd rfl h
    | cons _ _ => simp
  have : DecidablePred (Cs u) := fun _ => Classical.propDecidable _
  exact least u.length ⟨Nat.mod_self _, fun j hj => by rw [Nat.mod_eq_of_lt hj]⟩ hl
def per (u : List Nat) (k : Nat) : Option Nat := u[k % u.length]?
def Per (f : Nat → Option Nat) (p : Nat) : Prop := ∀ k, f (k + p) = f k
theorem Per.mul {f : Nat → Option Nat} {p : Nat} (h : Per f p) (n : Nat) : Per f (p * n) := by
  induction n with
  | zero => intro k; rfl
  | succ n ih => intro k; rw [Nat.mul_succ, ← Nat.add_assoc, h, ih]
theorem Per.mod {f : Nat → Option Nat} {a b : Nat} (h : Per f a) (k : Per f b) : Per f (b % a) := by
  intro x
  rw [← k x, ← (h.mul (b / a)) (x + b % a), Nat.add_assoc, Nat.mod_add_div]
theorem Per.gcd {f : Nat → Option Nat} (a b : Nat) : Per f a → Per f b → Per f (Nat.gcd a b) := by
  induction a, b using Nat.gcd.induction with
  | H0 n => intro _ h; rw [Nat.gcd_zero_left]; exact h
  | H1 m n hm ih => intro h k; rw [Nat.gcd_rec]; exact ih (h.mod k) h
theorem per_self (u : List Nat) : Per (per u) u.length := fun k => by unfold per; rw [Nat.add_mod_right]
theorem per_of {u : List Nat} {s : Nat} (h : Cs u s) (hl : 0 < u.length) : Per (per u) s := by
  have e : ∀ k, per u k = u[k % s]? := fun k => by
    unfold per
    rw [h.2 _ (Nat.mod_lt _ hl), Nat.mod_mod_of_dvd _ (Nat.dvd_of_mod_eq_zero h.1)]
  intro k
  rw [e, e, Nat.add_mod_right]
theorem cs_of {u : List Nat} {g : Nat} (h : Per (per u) g) (hg : u.length % g = 0) : Cs u g := by
  refine ⟨hg, fun j hj => ?_⟩
  have e : ∀ k, k < u.length → per u k = u[k]? := fun k hk => by unfold per; rw [Nat.mod_eq_of_lt hk]
  have h2 := h.mul (j / g) (j % g)
  rw [Nat.mod_add_div, e j hj, e _ (Nat.lt_of_le_of_lt (Nat.mod_le _ _) hj)] at h2
  exact h2
theorem rt_le {u v : List Nat} {s t : Nat} (hf : per u = per v) (hu : IsRt u s) (hv : IsRt v t) : s ≤ t := by
  have hlu : 0 < u.length := by have := hu.1; have := hu.2.1; omega
  have hlv : 0 < v.length := by have := hv.1; have := hv.2.1; omega
  have ht : Per (per u) t := by rw [hf]; exact per_of hv.2.2.1 hlv
  have g := Per.gcd t u.length ht (per_self u)
  have c := cs_of g (Nat.mod_eq_zero_of_dvd (Nat.gcd_dvd_right _ _))
  have hg : 1 ≤ Nat.gcd t u.length := Nat.gcd_pos_of_pos_right _ hlu
  have hle : Nat.gcd t u.length ≤ t := Nat.gcd_le_left _ hv.1
  by_cases k : Nat.gcd t u.length < s
  · exact absurd c (hu.2.2.2 _ hg k)
  · omega
theorem comm_rp {u v : List Nat} (h : u ++ v = v ++ u) : ∀ n, rp n u ++ v = v ++ rp n u
  | 0 => by simp [rp]
  | n + 1 => by rw [rp_succ, List.append_assoc, comm_rp h n, ← List.append_assoc, h, List.append_assoc]
theorem per_comm {u v : List Nat} (hu : 0 < u.length) (hv : 0 < v.length) (h : u ++ v = v ++ u) : per u = per v := by
  have h1 := comm_rp (comm_rp h v.length).symm u.length
  have h2 := (List.append_inj h1 (by rw [rp_len, rp_len, Nat.mul_comm])).1
  funext k
  have hm : 0 < u.length * v.length := Nat.mul_pos hu hv
  have hk := Nat.mod_lt k hm
  have a1 := rp_at u hu v.length (k % (u.length * v.length)) (by rw [Nat.mul_comm v.length]; exact hk)
  have a2 := rp_at v hv u.length (k % (u.length * v.length)) hk
  rw [h2, a1, Nat.mod_mul_right_mod, Nat.mod_mul_left_mod] at a2
  exact a2
/-- nonempty words commute if and only if they have one root -/
theorem comm_iff {u v : List Nat} {s t : Nat} (hu : IsRt u s) (hv : IsRt v t) : u ++ v = v ++ u ↔ u.take s = v.take t := by
  have hlu : 0 < u.length := by have := hu.1; have := hu.2.1; omega
  have hlv : 0 < v.length := by have := hv.1; have := hv.2.1; omega
  constructor
  · intro h
    have hf := per_comm hlu hlv h
    have e : s = t := Nat.le_antisymm (rt_le hf hu hv) (rt_le hf.symm hv hu)
    subst e
    apply List.ext_getElem?
    intro k
    by_cases hk : k < s
    · rw [take_at hk, take_at hk]
      have := congrFun hf k
      unfold per at this
      rw [Nat.mod_eq_of_lt (by have := hu.2.1; omega), Nat.mod_eq_of_lt (by have := hv.2.1; omega)] at this
      exact this
    · rw [List.getElem?_eq_none (by rw [List.length_take]; omega), List.getElem?_eq_none (by rw [List.length_take]; omega)]
  · intro e
    have e1 := (rep_iff hu.1 hu.2.1).mpr hu.2.2.1
    have e2 := (rep_iff hv.1 hv.2.1).mpr hv.2.2.1
    rw [e] at e1
    have h1 := rp_add (u.length / s) (v.length / t) (v.take t)
    have h2 := rp_add (v.length / t) (u.length / s) (v.take t)
    rw [e1, e2] at h1 h2
    rw [h1, h2, Nat.add_comm]
theorem iR1 (u : List Nat) (h : u.length ≤ 1000000) : iRng2 [.int 1, .int ((u.length : Int) + 1)] = .ok (rngL 1 u.length) := iRng2_nat (a := 1) (b := u.length + 1) (by omega) (by decide)
theorem root_ok {u : List Nat} {s : Nat} (hl : u.length ≤ 1000000) (hs : IsRt u s) : m_root [.str u] = .ok (.tup [.str (u.take s), .int (u.length / s : Nat)]) := by
  rw [e_root]
  unfold g_root
  have key : forL (gN 1) b0_root [1, 2] (rngL 1 u.length) [some (.str u), none, none] = .rt (.tup [.str (u.take s), .int (u.length / s : Nat)]) [] := by
    refine forL_gen (fun i e => e = [some (.str u), none, none] ∧ i < s) (fun r => r = .rt (.tup [.str (u.take s), .int (u.length / s : Nat)]) []) _ 0 _ ⟨rfl, hs.1⟩ ?_ ?_
    · rintro i d e hd ⟨rfl, hi⟩
      rw [Nat.zero_add] at *
      obtain ⟨hi2, rfl⟩ := rng_at hd
      rw [show (1 : Int) + (i : Int) = ((i + 1 : Nat) : Int) by omega]
      obtain ⟨z, hz⟩ : ∃ z, z = i + 1 := ⟨_, rfl⟩
      rw [← hz]
      obtain ⟨q, hq⟩ : ∃ q : Nat, q = u.length / z := ⟨_, rfl⟩
      have hqd : (u.length : Int) / (z : Int) = (q : Int) := by rw [hq]; rfl
      have hql : q ≤ u.length := by rw [hq]; exact Nat.div_le_self _ _
      have htl : (u.take z).length = z := by rw [List.length_take]; omega
      have hqz : q * z ≤ u.length := by rw [hq]; exact Nat.div_mul_le_self _ _
      have hm : pMul (.str (u.take z)) (.int (q : Nat)) = some (.str (rp q (u.take z))) := pMul_str (by rw [htl, Nat.mul_comm]; omega) (by omega)
      have hz1 : pDiv (.int (u.length : Nat)) (.int (z : Nat)) = some (.int (q : Nat)) := by rw [pDiv_int (by omega), hqd]
      unfold b0_root
      have hri := rep_iff (u := u) (s := z) (by omega) (by omega)
      rw [← hq] at hri
      by_cases hc : rp q (u.take z) = u
      · have : z = s := by
          by_cases h2 : z < s
          · exact absurd (hri.mp hc) (hs.2.2.2 z (by omega) h2)
          · omega
        subst this
        simp [hz1, pSl_to, hm, hc]
        exact hqd.symm
      · simp [hz1, pSl_to, hm, hc]
        by_cases h2 : z = s
        · subst h2
          exact absurd (hri.mpr hs.2.2.1) hc
        · omega
    · rintro e ⟨rfl, hi⟩
      rw [rngL_len, Nat.zero_add] at hi
      have := hs.2.1
      omega
  have hf : sFor (fun env => Rs.bind ((aCons (eC (.int 1)) (aCons (eBin pAdd (eCall bLen (aCons (eVar 0) aNil)) (eC (.int 1))) aNil)) env) iRng2) (gN 1) b0_root [1, 2] [some (.str u), none, none] = .rt (.tup [.str (u.take s), .int (u.length / s : Nat)]) [] := by
    rw [sFor_ok (ds := rngL 1 u.length) (by simp [iR1 u hl])]
    exact key
  rw [sSeq_e, hf]
  rfl
theorem root_nil : m_root [.str []] = .ok (.tup [.str [], .int 0]) := by rfl
theorem due_root_nil : m__law_due_root [.str []] = .ok (.tup [.str [], .int 0]) := by rfl
theorem due_root_ok {u : List Nat} {s : Nat} (hl : u.length ≤ 1000000) (hs : IsRt u s) : m__law_due_root [.str u] = .ok (.tup [.str (u.take s), .int (u.length / s : Nat)]) := by
  rw [e__law_due_root]
  unfold g__law_due_root
  have key : forL (gN 1) b0__law_due_root [1, 2] (rngL 1 u.length) [some (.str u), none, none, none] = .rt (.tup [.str (u.take s), .int (u.length / s : Nat)]) [] := by
    refine forL_gen (fun i e => e = [some (.str u), none, none, none] ∧ i < s) (fun r => r = .rt (.tup [.str (u.take s), .int (u.length / s : Nat)]) []) _ 0 _ ⟨rfl, hs.1⟩ ?_ ?_
    · rintro i d e hd ⟨rfl, hi⟩
      rw [Nat.zero_add] at *
      obtain ⟨hi2, rfl⟩ := rng_at hd
      rw [show (1 : Int) + (i : Int) = ((i + 1 : Nat) : Int) by omega]
      obtain ⟨z, hz⟩ : ∃ z, z = i + 1 := ⟨_, rfl⟩
      rw [← hz]
      obtain ⟨q, hq⟩ : ∃ q : Nat, q = u.length / z := ⟨_, rfl⟩
      have hqd : (u.length : Int) / (z : Int) = (q : Int) := by rw [hq]; rfl
      have hz1 : pDiv (.int (u.length : Nat)) (.int (z : Nat)) = some (.int (q : Nat)) := by rw [pDiv_int (by omega), hqd]
      obtain ⟨m, hm⟩ : ∃ m : Nat, m = u.length % z := ⟨_, rfl⟩
      have hmd0 : (u.length : Int) % (z : Int) = (m : Int) := by rw [hm]; rfl
      have hmd : pMod (.int (u.length : Nat)) (.int (z : Nat)) = some (.int (m : Nat)) := by rw [pMod_int (by omega), hmd0]
      have hr : iRng2 [.int (z : Nat), .int (u.length : Nat)] = .ok (rngL z (u.length - z)) := iRng2_nat (by omega) (by omega)
      let χ : D → Bool := fun d => match d with | .int k => !decide (u[k.toNat]? = u[(k - z).toNat]?) | _ => false
      have hc : eComp (fun env => Rs.bind ((aCons (eVar 1) (aCons (eCall bLen (aCons (eVar 0) aNil)) aNil)) env) iRng2) (gN 3) (eB (eBin pNe (eBin pIx (eVar 0) (eVar 3)) (eBin pIx (eVar 0) (eBin pSub (eVar 3) (eVar 1))))) (eVar 3) [3] [some (.str u), some (.int z), none, none] =
          .ok (((rngL z (u.length - z)).filter χ).map id) := by
        refine eComp_e (ds := rngL z (u.length - z)) (by simp [hr]) (compL_filter id χ _ fun d hd => ?_)
        obtain ⟨k, hk, rfl⟩ := rngL_mem hd
        have h1 : k + z < u.length := by omega
        have h2 : k < u.length := by omega
        have p1 : pIx (.str u) (.int ((z : Int) + k)) = some (.str [u[k + z]]) := by
          rw [show (z : Int) + k = ((k + z : Nat) : Int) by omega, pIx_str]
          simp [h1]
        have p2 : pIx (.str u) (.int ((z : Int) + k - z)) = some (.str [u[k]]) := by
          rw [show (z : Int) + k - z = (k : Int) by omega, pIx_str]
          simp [h2]
        have t1 : ((z : Int) + k).toNat = k + z := by omega
        have t2 : ((z : Int) + k - z).toNat = k := by omega
        refine ⟨_, rfl, ?_, fun _ => ⟨rfl, rfl⟩⟩
        simp [p1, p2, χ, t1, t2, h1, h2]
      have hχ : (rngL z (u.length - z)).filter χ = [] ↔ ∀ k, z ≤ k → k < u.length → u[k]? = u[k - z]? := by
        rw [List.filter_eq_nil_iff]
        constructor
        · intro h k h1 h2
          have := h (.int ((z : Int) + (k - z : Nat))) (List.mem_map.mpr ⟨k - z, List.mem_range.mpr (by omega), rfl⟩)
          have t1 : ((z : Int) + (k - z : Nat)).toNat = k := by omega
          have t2 : ((z : Int) + (k - z : Nat) - z).toNat = k - z := by omega
          simp only [χ, t1, t2] at this
          simpa using this
        · intro h d hd
          obtain ⟨k, hk, rfl⟩ := rngL_mem hd
          have t1 : ((z : Int) + k).toNat = k + z := by omega
          have t2 : ((z : Int) + k - z).toNat = k := by omega
          have := h (k + z) (by omega) (by omega)
          rw [Nat.add_sub_cancel] at this
          simp only [χ, t1, t2]
          simp [this]
      have hcs : Cs u z ↔ m = 0 ∧ (rngL z (u.length - z)).filter χ = [] := by
        unfold Cs
        rw [hχ, back_iff (by omega), hm]
      generalize (rngL z (u.length - z)).filter χ = L at hc hcs
      rw [List.map_id] at hc
      unfold b0__law_due_root
      have fin : ¬ Cs u z → z < s := fun h => by
        by_cases h2 : z = s
        · subst h2
          exact absurd hs.2.2.1 h
        · omega
      by_cases h0 : m = 0
      · have hm0 : (m : Int) = 0 := by omega
        rw [hm0] at hmd
        simp at hc
        simp [hmd, hc]
        by_cases hL : L = []
        · have : z = s := by
            by_cases h2 : z < s
            · exact absurd (hcs.mpr ⟨h0, hL⟩) (hs.2.2.2 z (by omega) h2)
            · omega
          subst this
          simp [hL, pSl_to, hz1]
          exact hqd.symm
        · have hL2 : ¬ ((L.length : Int) = 0) := fun e => hL (List.eq_nil_of_length_eq_zero (by omega))
          simp [hL]
          have := fin fun h => hL (hcs.mp h).2
          omega
      · have h0' : ¬ ((m : Int) = 0) := by omega
        simp [hmd, h0]
        have := fin fun h => h0 (hcs.mp h).1
        omega
    · rintro e ⟨rfl, hi⟩
      rw [rngL_len, Nat.zero_add] at hi
      have := hs.2.1
      omega
  have hf : sFor (fun env => Rs.bind ((aCons (eC (.int 1)) (aCons (eBin pAdd (eCall bLen (aCons (eVar 0) aNil)) (eC (.int 1))) aNil)) env) iRng2) (gN 1) b0__law_due_root [1, 2] [some (.str u), none, none, none] = .rt (.tup [.str (u.take s), .int (u.length / s : Nat)]) [] := by
    rw [sFor_ok (ds := rngL 1 u.length) (by simp [iR1 u hl])]
    exact key
  rw [sSeq_e, hf]
  rfl
theorem root_right (u : List Nat) (hl : u.length ≤ 1000000) : m__law_root_right [.str u] = .ok (.bl true) := by
  have : ∃ x k, m_root [.str u] = .ok (.tup [.str x, .int k]) ∧ m__law_due_root [.str u] = .ok (.tup [.str x, .int k]) := by
    by_cases h : u = []
    · subst h
      exact ⟨_, _, root_nil, due_root_nil⟩
    · obtain ⟨s, hs⟩ := isRt_ex h
      exact ⟨_, _, root_ok hl hs, due_root_ok hl hs⟩
  obtain ⟨x, k, h1, h2⟩ := this
  have he : pEq (.tup [.str x, .int k]) (.tup [.str x, .int k]) = some (.bl true) := by simp [pEq, okPy, okPyL, eqv, eqvL]
  rw [e__law_root_right]
  unfold g__law_root_right
  simp [h1, h2, he, pIsi, tyOf, isT]
open Classical in
noncomputable def rtw (u : List Nat) : List Nat := if h : ∃ s, IsRt u s then u.take h.choose else []
theorem rtw_of {u : List Nat} (h : u ≠ []) : ∃ s, IsRt u s ∧ rtw u = u.take s := by
  have hx := isRt_ex h
  refine ⟨hx.choose, hx.choose_spec, ?_⟩
  unfold rtw
  rw [dif_pos hx]
def Cm (ws : List (List Nat)) : Prop := ∀ u ∈ ws, ∀ v ∈ ws, u ++ v = v ++ u
theorem cm_rt (ws : List (List Nat)) : Cm ws ↔ ∀ u ∈ ws.filter (fun u => decide (u ≠ [])), ∀ v ∈ ws.filter (fun u => decide (u ≠ [])), rtw u = rtw v := by
  constructor
  · intro h u hu v hv
    have hu2 := List.mem_filter.mp hu
    have hv2 := List.mem_filter.mp hv
    obtain ⟨s, h1, e1⟩ := rtw_of (of_decide_eq_true hu2.2)
    obtain ⟨t, h2, e2⟩ := rtw_of (of_decide_eq_true hv2.2)
    rw [e1, e2]
    exact (comm_iff h1 h2).mp (h u hu2.1 v hv2.1)
  · intro h u hu v hv
    by_cases k1 : u = []
    · subst k1; simp
    · by_cases k2 : v = []
      · subst k2; simp
      · obtain ⟨s, h1, e1⟩ := rtw_of k1
        obtain ⟨t, h2, e2⟩ := rtw_of k2
        refine (comm_iff h1 h2).mpr ?_
        rw [← e1, ← e2]
        exact h u (List.mem_filter.mpr ⟨hu, decide_eq_true k1⟩) v (List.mem_filter.mpr ⟨hv, decide_eq_true k2⟩)
theorem change_ok (ws : List (List Nat)) (hl : ∀ u ∈ ws, u.length ≤ 1000000) (hn : ws.length ≤ 1000000) : ∃ b, m_change_places [.tup (ws.map .str)] = .ok (.bl b) ∧ (b = true ↔ Cm ws) := by
  let F := ws.filter (fun u => decide (u ≠ []))
  have c1 : eComp (iSeq (eVar 0)) (gN 2) (eB (eBin pNe (eVar 2) (eC (.str [])))) (eBin pIx (eApp 1 m_root (aCons (eVar 2) aNil)) (eC (.int 0))) [2] [some (.tup (ws.map .str)), none, none, none] =
      .ok (F.map fun u => .str (rtw u)) := by
    refine eComp_e (ds := ws.map .str) (by simp) ?_
    rw [compL_filter (fun d => match d with | .str u => .str (rtw u) | _ => .non) (fun d => match d with | .str u => !decide (u = []) | _ => false)]
    · rw [List.filter_map, List.map_map]
      congr 1
      have : F = ws.filter ((fun d => match d with | .str u => !decide (u = []) | _ => false) ∘ D.str) := by
        apply List.filter_congr
        intro x _
        simp
      rw [this]
      rfl
    · intro d hd
      obtain ⟨u, hu, rfl⟩ := List.mem_map.mp hd
      refine ⟨_, rfl, ?_, fun h => ⟨?_, rfl⟩⟩
      · simp
      · have hne : u ≠ [] := by simpa using h
        obtain ⟨s, hs, e⟩ := rtw_of hne
        simp [root_ok (hl u hu) hs, e]
  have c2 : eComp (iSeq (eVar 1)) (gN 3) cYes (eBin pEq (eVar 3) (eBin pIx (eVar 1) (eC (.int 0)))) [3] [some (.tup (ws.map .str)), some (.lst (F.map fun u => .str (rtw u))), none, none] =
      .ok (F.map fun u => .bl (decide (rtw u = (F.map rtw).headD []))) := by
    refine eComp_e (ds := F.map fun u => .str (rtw u)) (by simp) ?_
    rw [compL_map (fun d => match d with | .str u => .bl (decide (u = (F.map rtw).headD [])) | _ => .non)]
    · simp
    · intro d hd
      obtain ⟨u, hu, rfl⟩ := List.mem_map.mp hd
      refine ⟨_, rfl, rfl, ?_, rfl⟩
      cases hF : F with
      | nil => rw [hF] at hu; cases hu
      | cons v G => simp
  have hb := bAll_map (fun u => decide (rtw u = (F.map rtw).headD [])) F
  refine ⟨F.all (fun u => decide (rtw u = (F.map rtw).headD [])), ?_, ?_⟩
  · rw [e_change_places]
    unfold g_change_places
    simp at c1 c2 hb
    simp [c1]
    simp [c2, hb]
  · rw [cm_rt, List.all_eq_true]
    show (∀ u ∈ F, _) ↔ ∀ u ∈ F, ∀ v ∈ F, _
    cases hF : F with
    | nil => simp
    | cons w G =>
      constructor
      · intro h u hu v hv
        have h1 := of_decide_eq_true (h u hu)
        have h2 := of_decide_eq_true (h v hv)
        rw [h1, h2]
      · intro h u hu
        exact decide_eq_true (h u hu w List.mem_cons_self)
theorem due_ok (ws : List (List Nat)) (hl : ∀ u ∈ ws, u.length ≤ 1000000) : ∃ b, m__law_due_places [.lst (ws.map .str)] = .ok (.bl b) ∧ (b = true ↔ Cm ws) := by
  have at' : ∀ {i d}, (ws.map D.str)[i]? = some d → ∃ u, ws[i]? = some u ∧ d = D.str u := fun {i d} h => by
    rw [List.getElem?_map] at h
    cases e : ws[i]? with
    | none => rw [e] at h; cases h
    | some u => rw [e] at h; exact ⟨u, e, (Option.some.inj h).symm⟩
  have inner : ∀ (k : Nat) (u : List Nat), ws[k]? = some u → (∃ e, forL (gN 2) b0__law_due_places [2] (ws.map .str) [some (.lst (ws.map .str)), some (.str u), none] = .nx e ∧ e = [some (.lst (ws.map .str)), some (.str u), none] ∧ ∀ v ∈ ws, u ++ v = v ++ u) ∨
      (forL (gN 2) b0__law_due_places [2] (ws.map .str) [some (.lst (ws.map .str)), some (.str u), none] = .rt (.bl false) [] ∧ ¬ Cm ws) := by
    intro k u hu
    have hul := hl u (List.mem_of_getElem? hu)
    refine forL_gen (fun i e => e = [some (.lst (ws.map .str)), some (.str u), none] ∧ ∀ j, j < i → ∀ v, ws[j]? = some v → u ++ v = v ++ u) (fun r => (∃ e, r = .nx e ∧ e = [some (.lst (ws.map .str)), some (.str u), none] ∧ ∀ v ∈ ws, u ++ v = v ++ u) ∨ (r = .rt (.bl false) [] ∧ ¬ Cm ws)) _ 0 _ ⟨rfl, fun j h => absurd h (Nat.not_lt_zero _)⟩ ?_ ?_
    · rintro i d e hd ⟨rfl, hi⟩
      rw [Nat.zero_add] at *
      obtain ⟨v, hv, rfl⟩ := at' hd
      have hvl := hl v (List.mem_of_getElem? hv)
      have l1 : u.length + v.length ≤ 16777216 := by omega
      have l2 : v.length + u.length ≤ 16777216 := by omega
      unfold b0__law_due_places
      by_cases hc : u ++ v = v ++ u
      · simp [l1, l2, hc]
        intro j hj w hw
        rcases Nat.lt_succ_iff_lt_or_eq.mp hj with h | rfl
        · exact hi j h w hw
        · rw [hv] at hw; cases hw; exact hc
      · simp [l1, l2, hc]
        exact fun h => hc (h u (List.mem_of_getElem? hu) v (List.mem_of_getElem? hv))
    · rintro e ⟨rfl, hi⟩
      refine .inl ⟨_, rfl, rfl, fun v hv => ?_⟩
      obtain ⟨j, hj⟩ := List.mem_iff_getElem?.mp hv
      exact hi j (by rw [Nat.zero_add, List.length_map]; exact (List.getElem?_eq_some_iff.mp hj).1) v hj
  have outer : (forL (gN 1) b1__law_due_places [1, 2] (ws.map .str) [some (.lst (ws.map .str)), none, none] = .nx [some (.lst (ws.map .str)), none, none] ∧ Cm ws) ∨ (forL (gN 1) b1__law_due_places [1, 2] (ws.map .str) [some (.lst (ws.map .str)), none, none] = .rt (.bl false) [] ∧ ¬ Cm ws) := by
    refine forL_gen (fun i e => e = [some (.lst (ws.map .str)), none, none] ∧ ∀ j, j < i → ∀ u, ws[j]? = some u → ∀ v ∈ ws, u ++ v = v ++ u) (fun r => (r = .nx [some (.lst (ws.map .str)), none, none] ∧ Cm ws) ∨ (r = .rt (.bl false) [] ∧ ¬ Cm ws)) _ 0 _ ⟨rfl, fun j h => absurd h (Nat.not_lt_zero _)⟩ ?_ ?_
    · rintro i d e hd ⟨rfl, hi⟩
      rw [Nat.zero_add] at *
      obtain ⟨u, hu, rfl⟩ := at' hd
      have hf : sFor (iSeq (eVar 0)) (gN 2) b0__law_due_places [2] [some (.lst (ws.map .str)), some (.str u), none] = forL (gN 2) b0__law_due_places [2] (ws.map .str) [some (.lst (ws.map .str)), some (.str u), none] :=
        sFor_ok (by simp)
      rw [gN_e, SoP_some]
      unfold b1__law_due_places
      simp only [List.set_cons_succ, List.set_cons_zero]
      rw [hf]
      rcases inner i u hu with ⟨e, h1, rfl, h3⟩ | ⟨h1, h2⟩
      · rw [h1]
        simp
        intro j hj w hw
        rcases Nat.lt_succ_iff_lt_or_eq.mp hj with h | rfl
        · exact hi j h w hw
        · rw [hu] at hw; cases hw; exact h3
      · rw [h1]
        exact .inr ⟨rfl, h2⟩
    · rintro e ⟨rfl, hi⟩
      refine .inl ⟨rfl, fun u hu v hv => ?_⟩
      obtain ⟨j, hj⟩ := List.mem_iff_getElem?.mp hu
      exact hi j (by rw [Nat.zero_add, List.length_map]; exact (List.getElem?_eq_some_iff.mp hj).1) u hj v hv
  have hf : sFor (iSeq (eVar 0)) (gN 1) b1__law_due_places [1, 2] [some (.lst (ws.map .str)), none, none] = forL (gN 1) b1__law_due_places [1, 2] (ws.map .str) [some (.lst (ws.map .str)), none, none] :=
    sFor_ok (by simp)
  rw [e__law_due_places]
  unfold g__law_due_places
  rw [sSeq_e, hf]
  rcases outer with ⟨h1, h2⟩ | ⟨h1, h2⟩
  · rw [h1]
    exact ⟨true, rfl, by simp [h2]⟩
  · rw [h1]
    exact ⟨false, rfl, by simp [h2]⟩
theorem told_ok' (ws : List (List Nat)) (h : ws.length ≤ 6) (b : Bool) (hb : m_change_places [.tup (ws.map .str)] = .ok (.bl b)) : m__law_told_places [.lst (ws.map .str)] = .ok (.bl b) := by
  rw [e__law_told_places]
  unfold g__law_told_places
  match ws, h with
  | [], _ => simp at hb; simp [t6__law_told_places, hb]
  | [a], _ => simp at hb; simp [t6__law_told_places, t5__law_told_places, hb]
  | [a, b], _ => simp at hb; simp [t6__law_told_places, t5__law_told_places, t4__law_told_places, hb]
  | [a, b, c], _ => simp at hb; simp [t6__law_told_places, t5__law_told_places, t4__law_told_places, t3__law_told_places, hb]
  | [a, b, c, d], _ => simp at hb; simp [t6__law_told_places, t5__law_told_places, t4__law_told_places, t3__law_told_places, t2__law_told_places, hb]
  | [a, b, c, d, e], _ => simp at hb; simp [t6__law_told_places, t5__law_told_places, t4__law_told_places, t3__law_told_places, t2__law_told_places, t1__law_told_places, hb]
  | [a, b, c, d, e, f], _ => simp at hb; simp [t6__law_told_places, t5__law_told_places, t4__law_told_places, t3__law_told_places, t2__law_told_places, t1__law_told_places, t0__law_told_places, hb]
theorem places_right (ws : List (List Nat)) (h : ws.length ≤ 6) (hl : ∀ u ∈ ws, u.length ≤ 1000000) : m__law_places_right [.lst (ws.map .str)] = .ok (.bl true) := by
  obtain ⟨b, h1, h2⟩ := change_ok ws hl (by omega)
  obtain ⟨b', h3, h4⟩ := due_ok ws hl
  have e : b = b' := by
    cases b <;> cases b' <;> first | rfl | (exfalso; simp_all)
  subst e
  rw [e__law_places_right]
  unfold g__law_places_right
  simp [told_ok' ws h b h1, h3, pIsi, tyOf, isT]
theorem sg_filter (c : Nat) : 8 ≤ (([35, 97, 98, 99, 100, 101, 102, 103, 104] : List Nat).filter fun s => !decide (s = c)).length := by
  by_cases h0 : c = 35
  · subst h0; decide
  by_cases h1 : c = 97
  · subst h1; decide
  by_cases h2 : c = 98
  · subst h2; decide
  by_cases h3 : c = 99
  · subst h3; decide
  by_cases h4 : c = 100
  · subst h4; decide
  by_cases h5 : c = 101
  · subst h5; decide
  by_cases h6 : c = 102
  · subst h6; decide
  by_cases h7 : c = 103
  · subst h7; decide
  by_cases h8 : c = 104
  · subst h8; decide
  have : ∀ x ∈ ([35, 97, 98, 99, 100, 101, 102, 103, 104] : List Nat), (!decide (x = c)) = true := by
    intro x hx
    simp at hx ⊢
    omega
  rw [List.filter_eq_self.mpr this]
  decide
theorem spoilt_ok (w : List Nat) (way : Nat) (cell : Int) (hw : w.length ≤ 100000) (hway : way < 4) : ∃ x : List Nat, m__law_spoilt [.str w, .int way, .int cell] = .ok (.str x) ∧ x.length ≤ w.length + 8 := by
  obtain ⟨xs, e, hl, hx⟩ := nums_nat cell 360 3 (by decide) (by decide) (by decide)
  match xs, hl with
  | [d0, d1, d2], _ =>
    have e : m__law_numbers [.int cell, .int 360, .int 3] = .ok (.lst [.int d0, .int d1, .int d2]) := e
    obtain ⟨k0, ek0, hk0⟩ := modN d0 8 (by decide)
    obtain ⟨k1, ek1, hk1⟩ := modN d1 9 (by decide)
    obtain ⟨k2, ek2, hk2⟩ := modN d1 8 (by decide)
    have ek0 : (d0 : Int) % 8 = (k0 : Int) := ek0
    have ek1 : (d1 : Int) % 9 = (k1 : Int) := ek1
    have ek2 : (d1 : Int) % 8 = (k2 : Int) := ek2
    obtain ⟨fr, ef, hf⟩ := text_ok ((d2 : Int) + (if cell < 0 then -cell else cell)) ((1 : Int) + k1) k0 (by omega) (by omega) (by omega)
    rw [e__law_spoilt]
    unfold g__law_spoilt
    simp [e]
    simp [t6__law_spoilt, ek0, ek1, ef]
    by_cases c0 : way = 0
    · exact ⟨fr, by simp [t5__law_spoilt, c0], by omega⟩
    by_cases cw : w = []
    · exact ⟨fr, by simp [t5__law_spoilt, c0, cw], by omega⟩
    have hw0 : 0 < w.length := by
      cases w with
      | nil => exact absurd rfl cw
      | cons _ _ => simp
    simp [t5__law_spoilt, c0, cw]
    by_cases c1 : (way : Int) = 1
    · have p1 : ∃ c, pIx (.str [35, 97, 98, 99, 100, 101, 102, 103, 104]) (.int (k1 : Nat)) = some (.str [c]) := by
        rw [pIx_str]
        have hk1' : k1 < ([35, 97, 98, 99, 100, 101, 102, 103, 104] : List Nat).length := hk1
        exact ⟨_, by rw [List.getElem?_eq_getElem hk1']; rfl⟩
      obtain ⟨c, p1⟩ := p1
      have l1 : w.length + [c].length ≤ 16777216 := by simp; omega
      simp only [List.length_singleton] at l1
      exact ⟨w ++ [c], by simp [t4__law_spoilt, c1, ek1, p1, l1], by simp⟩
    simp [t4__law_spoilt, c1]
    by_cases c2 : (way : Int) = 2
    · have p1 : pSl (.str w) (some 1) none = some (.str (w.drop 1)) := pSl_from (k := 1)
      have p2 : pIx (.str w) (.int 0) = some (.str [w[0]]) := by
        have := pIx_str (x := w) (k := 0)
        rw [List.getElem?_eq_getElem hw0] at this
        exact this
      have l1 : w.length - 1 + 1 ≤ 16777216 := by omega
      exact ⟨w.drop 1 ++ [w[0]], by simp [t3__law_spoilt, c2, p1, p2, l1], by simp; omega⟩
    simp [t3__law_spoilt, c2]
    obtain ⟨at_, eat, hat⟩ := modN d0 w.length hw0
    have eat : pMod (.int (d0 : Nat)) (.int (w.length : Nat)) = some (.int (at_ : Nat)) := by rw [pMod_int (by omega), eat]
    simp [t2__law_spoilt, eat]
    have pa : pIx (.str w) (.int (at_ : Nat)) = some (.str [w[at_]]) := by
      rw [pIx_str, List.getElem?_eq_getElem hat]; rfl
    let SG : List Nat := [35, 97, 98, 99, 100, 101, 102, 103, 104]
    let G := SG.filter fun s => !decide (s = w[at_])
    have hG : 8 ≤ G.length := sg_filter _
    have hc : eComp (iSeq (eC (.str [35, 97, 98, 99, 100, 101, 102, 103, 104]))) (gN 7) (eB (eBin pNe (eVar 7) (eBin pIx (eVar 0) (eVar 5)))) (eVar 7) [7]
        [some (.str w), some (.int way), some (.int cell), some (.lst [.int d0, .int d1, .int d2]), some (.str fr), some (.int at_), none, none] = .ok (G.map fun c => .str [c]) := by
      refine eComp_e (ds := SG.map fun c => .str [c]) (by simp [SG]) ?_
      rw [compL_filter id (fun d => match d with | .str [c] => !decide (c = w[at_]) | _ => false)]
      · rw [List.map_id, List.filter_map]
        rfl
      · intro d hd
        obtain ⟨c, hc, rfl⟩ := List.mem_map.mp hd
        refine ⟨_, rfl, ?_, fun _ => ⟨rfl, rfl⟩⟩
        simp [pa]
    have p3 : pIx (.lst (G.map fun c => .str [c])) (.int (k2 : Nat)) = some (.str [G[k2]'(by omega)]) := by
      rw [pIx_lst, List.getElem?_map, List.getElem?_eq_getElem (by omega)]; rfl
    have q1 : at_ + 1 ≤ 16777216 := by omega
    have q2 : min at_ w.length + 1 + (w.length - (at_ + 1)) ≤ 16777216 := by omega
    have p4 : pSl (.str w) (some ((at_ : Int) + 1)) none = some (.str (w.drop (at_ + 1))) := pSl_from (k := at_ + 1)

    simp [t1__law_spoilt, hc, ek2, p3]
    have q3 : min at_ w.length + 1 ≤ 16777216 := by omega
    refine ⟨w.take at_ ++ [G[k2]'(by omega)] ++ w.drop (at_ + 1), ?_, by simp; omega⟩
    simp [t0__law_spoilt, pSl_to, p4, q2, q3]
theorem cells (ns : List Int) (i : Int) (k : Nat) (hi : i = k) (hk : k < 1000000) : m__law_cell [.scr ns, .int i] = .ok (.int (cellS ns k)) := by rw [hi]; exact cell_ok ns k hk
theorem words_ok (ns : List Int) (base : List Nat) (hb : base.length ≤ 9) : ∃ ws : List (List Nat), m__law_words [.scr ns, .str base] = .ok (.lst (ws.map .str)) ∧ ws.length ≤ 6 ∧ ∀ u ∈ ws, u.length ≤ 1000 := by
  obtain ⟨xs, e, hl, hx⟩ := nums_nat (cellS ns 2) 360 4 (by decide) (by decide) (by decide)
  match xs, hl with
  | [d0, d1, d2, d3], _ =>
    have e : m__law_numbers [.int (cellS ns 2), .int 360, .int 4] = .ok (.lst [.int d0, .int d1, .int d2, .int d3]) := e
    obtain ⟨k0, ek0, hk0⟩ := modN d0 7 (by decide)
    obtain ⟨k1, ek1, hk1⟩ := modN d1 8 (by decide)
    obtain ⟨k2, ek2, hk2⟩ := modN d2 4 (by decide)
    have ek0 : (d0 : Int) % 7 = (k0 : Int) := ek0
    have ek1 : (d1 : Int) % 8 = (k1 : Int) := ek1
    have ek2 : (d2 : Int) % 4 = (k2 : Int) := ek2
    have C2 : m__law_cell [.scr ns, .int 2] = .ok (.int (cellS ns 2)) := cell_ok ns 2 (by decide)
    have C3 : m__law_cell [.scr ns, .int 3] = .ok (.int (cellS ns 3)) := cell_ok ns 3 (by decide)
    let EV : List (List Nat) → En := fun ws => [some (.scr ns), some (.str base), some (.lst [.int d0, .int d1, .int d2, .int d3]), some (.int k0), some (.int k1), some (.olst (ws.map .str)), none, none, none, none]
    obtain ⟨en, he, ws, rfl, hl, hw⟩ := forL_inv (h := gN 6) (body := b0__law_words) (w := [6, 7, 8, 9]) (ds := rngL 0 k0) (env := EV []) (fun i e => ∃ ws : List (List Nat), e = EV ws ∧ ws.length = i ∧ ∀ u ∈ ws, u.length ≤ 1000)
      ⟨[], rfl, rfl, fun u h => nomatch h⟩ (by
        rintro i d en hd ⟨ws, rfl, hl, hw⟩
        obtain ⟨hi, rfl⟩ := rng_at hd
        obtain ⟨ys, e', hl', hy⟩ := nums_nat (cellS ns (4 + i)) 60 2 (by decide) (by decide) (by decide)
        match ys, hl' with
        | [t0, t1], _ =>
          have ht0 : t0 < 60 := hy t0 (by simp)
          have e' : m__law_numbers [.int (cellS ns (4 + i)), .int 60, .int 2] = .ok (.lst [.int t0, .int t1]) := e'
          have C4 : m__law_cell [.scr ns, .int (4 + (0 + (i : Int)))] = .ok (.int (cellS ns (4 + i))) := cells ns _ (4 + i) (by omega) (by omega)
          rw [show (0 : Int) + (i : Int) = (i : Int) by omega] at C4 ⊢
          obtain ⟨tm, etm, htm⟩ := modN t0 7 (by decide)
          have etm : (t0 : Int) % 7 = (tm : Int) := etm
          have hz : ws.length < 16777216 := by omega
          have key : ∀ (n : Nat), n < 60 → ∃ w : List Nat, w.length ≤ 540 ∧ pMul (.str base) (.int n) = some (.str w) := fun n hn => by
            refine ⟨_, ?_, pMul_str (x := base) (k := n) (Nat.le_trans (Nat.mul_le_mul hb (Nat.le_of_lt hn)) (by decide)) (by omega)⟩
            have := rp_len n base
            unfold rp at this
            rw [this]
            have := Nat.mul_le_mul (Nat.le_of_lt hn) hb
            omega
          obtain ⟨n, hn, hn1⟩ : ∃ n : Nat, n < 60 ∧ (if (d3 : Int) % 8 = 3 then (t0 : Int) else (tm : Int)) = n := by
            by_cases h : (d3 : Int) % 8 = 3
            · exact ⟨t0, ht0, by rw [if_pos h]⟩
            · exact ⟨tm, by omega, by rw [if_neg h]⟩
          obtain ⟨w, hwl, hpw⟩ := key n hn
          obtain ⟨w2, hs2, hw2⟩ := spoilt_ok w k2 (cellS ns 3) (by omega) hk2
          have fin : ∀ z : List Nat, z.length ≤ 1000 → ∃ ws' : List (List Nat), ws.map D.str ++ [.str z] = ws'.map D.str ∧ ws'.length = i + 1 ∧ ∀ u ∈ ws', u.length ≤ 1000 := fun z hz => ⟨ws ++ [z], by simp, by simp [hl], fun u hu => by
            rcases List.mem_append.mp hu with h | h
            · exact hw u h
            · rw [List.mem_singleton.mp h]; exact hz⟩
          rw [gN_e, SoP_some]
          unfold b0__law_words
          simp only [EV]
          simp [C4, e', etm]
          by_cases h8 : (d3 : Int) % 8 = 3
          · rw [if_pos h8] at hn1
            simp [h8, hn1, hpw]
            by_cases hk : (i : Int) = (k1 : Int)
            · simp [hk, ek2, C3, hs2, hz]
              exact fin w2 (by omega)
            · simp [hk, hz]
              exact fin w (by omega)
          · rw [if_neg h8] at hn1
            simp [h8, hn1, hpw]
            by_cases hk : (i : Int) = (k1 : Int)
            · simp [hk, ek2, C3, hs2, hz]
              exact fin w2 (by omega)
            · simp [hk, hz]
              exact fin w (by omega))
    rw [rngL_len] at hl
    refine ⟨ws, ?_, by omega, hw⟩
    rw [e__law_words]
    unfold g__law_words
    simp only [EV, List.map_nil] at he
    have hr : iRng1 [.int (k0 : Nat)] = .ok (rngL 0 k0) := iRng1_nat (by omega)
    simp [C2, e, ek0, ek1]
    simp [sFor_ok (ds := rngL 0 k0), hr, he]
theorem law_true (ns : List Int) (hn : ns.length ≤ 63) : m_law [.scr ns] = .ok (.bl true) := by
  have C0 : m__law_cell [.scr ns, .int 0] = .ok (.int (cellS ns 0)) := cell_ok ns 0 (by decide)
  have C1 : m__law_cell [.scr ns, .int 1] = .ok (.int (cellS ns 1)) := cell_ok ns 1 (by decide)
  have C10 : m__law_cell [.scr ns, .int 10] = .ok (.int (cellS ns 10)) := cell_ok ns 10 (by decide)
  obtain ⟨xs, e, hl, hx⟩ := nums_nat (cellS ns 0) 54 2 (by decide) (by decide) (by decide)
  match xs, hl with
  | [d0, d1], _ =>
    have e : m__law_numbers [.int (cellS ns 0), .int 54, .int 2] = .ok (.lst [.int d0, .int d1]) := e
    obtain ⟨k0, ek0, hk0⟩ := modN d0 6 (by decide)
    obtain ⟨k1, ek1, hk1⟩ := modN d1 9 (by decide)
    obtain ⟨k2, ek2, hk2⟩ := modN d0 4 (by decide)
    have ek0 : (d0 : Int) % 6 = (k0 : Int) := ek0
    have ek1 : (d1 : Int) % 9 = (k1 : Int) := ek1
    have ek2 : (d0 : Int) % 4 = (k2 : Int) := ek2
    obtain ⟨base, eb, hb⟩ := text_ok (cellS ns 1) ((1 : Int) + k1) (1 + k0) (by omega) (by omega) (by omega)
    rw [show ((1 + k0 : Nat) : Int) = 1 + (k0 : Int) by omega] at eb
    obtain ⟨ws, ew, hw1, hw2⟩ := words_ok ns base (by omega)
    obtain ⟨al, ea, ha⟩ := spoilt_ok base k2 (cellS ns 10) (by omega) hk2
    have R : ∀ u : List Nat, u.length ≤ 1000 → m__law_root_right [.str u] = .ok (.bl true) := fun u h => root_right u (by omega)
    have P : ∀ vs : List (List Nat), vs.length ≤ 6 → (∀ u ∈ vs, u.length ≤ 1000) → m__law_places_right [.lst (vs.map .str)] = .ok (.bl true) := fun vs h1 h2 => places_right vs h1 fun u hu => by have := h2 u hu; omega
    have lb : base.length ≤ 1000 := by omega
    have la : al.length ≤ 1000 := by omega
    have P2 : ∀ u v : List Nat, u.length ≤ 1000 → v.length ≤ 1000 → m__law_places_right [.lst [.str u, .str v]] = .ok (.bl true) := fun u v h1 h2 => P [u, v] (by simp) (by simp [h1, h2])
    have P1 : ∀ u : List Nat, u.length ≤ 1000 → m__law_places_right [.lst [.str u]] = .ok (.bl true) := fun u h1 => P [u] (by simp) (by simp [h1])
    have P3 : m__law_places_right [.lst [.str al, .str [], .str base]] = .ok (.bl true) := P [al, [], base] (by simp) (by simp [la, lb])
    have P0 : m__law_places_right [.lst []] = .ok (.bl true) := P [] (by simp) (fun u h => nomatch h)
    have Pw := P ws hw1 hw2
    have Pr : m__law_places_right [.lst (ws.map D.str).reverse] = .ok (.bl true) := by
      rw [← List.map_reverse]
      exact P ws.reverse (by simpa using hw1) (fun u hu => hw2 u (by simpa using hu))
    rw [e_law]
    unfold g_law
    simp [C0, e]
    simp [t7_law, C1, ek0, ek1, eb]
    simp [t6_law, ew]
    simp [t5_law, C10, ek2, ea]
    let E0 : En := [some (.scr ns), some (.lst [.int d0, .int d1]), some (.str base), some (.lst (ws.map .str)), some (.str al), none]
    have hz : (ws.map D.str).length + 3 ≤ 16777216 := by simp; omega
    have hf : sFor (iSeq (eBin pAdd (eVar 3) (eOfL (eLst (aCons (eVar 2) (aCons (eVar 4) (aCons (eC (.str [])) aNil))))))) (gN 5) b0_law [5] E0 = .nx E0 := by
      rw [sFor_ok (ds := (ws ++ [base, al, []]).map .str) (by simp at hz; simp [E0, hz])]
      obtain ⟨en, h1, h2⟩ := forL_inv (h := gN 5) (body := b0_law) (w := [5]) (ds := (ws ++ [base, al, []]).map .str) (env := wipeE [5] E0) (fun i e => e = E0) rfl (by
        rintro i d en hd rfl
        rw [List.getElem?_map] at hd
        cases q : (ws ++ [base, al, []])[i]? with
        | none => rw [q] at hd; cases hd
        | some u =>
          rw [q] at hd
          obtain rfl := (Option.some.inj hd).symm
          have hu : u.length ≤ 1000 := by
            rcases List.mem_append.mp (List.mem_of_getElem? q) with h | h
            · exact hw2 u h
            · simp at h
              rcases h with rfl | rfl | rfl
              · exact lb
              · exact la
              · simp
          unfold b0_law
          simp [E0, R u hu, P2 u u hu hu, P1 u hu])
      rw [h1, h2]
    simp only [E0] at hf
    unfold t4_law
    rw [sSeq_e, hf, seqR_nx]
    simp [t3_law, P2 base al lb la, P3]
    simp [t2_law, P0, Pw]
    simp [t1_law, Pr]
end Law

set_option Elab.async false
set_option linter.all false
set_option maxRecDepth 100000
set_option maxHeartbeats 4000000
namespace Law
open PySem L2 Z
def top (i : Nat) : Stmt := PySem.Challenge.pw_samebytesanywhere_k09_roots_and_places.main.body.getD i (.Pass ⟨0, 0, 0, 0⟩)
structure Pg (K : PySem.W.Frag) (mg : Str → Option Value) (fa : Nat → Addr) (fd : Nat → FuncData) : Prop where
  z_abs : mg "abs" = none
  z_all : mg "all" = none
  z_bool : mg "bool" = none
  z_int : mg "int" = none
  z_isinstance : mg "isinstance" = none
  z_len : mg "len" = none
  z_list : mg "list" = none
  z_range : mg "range" = none
  z_reversed : mg "reversed" = none
  z_str : mg "str" = none
  z_tuple : mg "tuple" = none
  f_root : Fun K "root" "root" (top 1) (fa 1) (fd 1)
  m_root : mg "root" = some (.ref (fa 1))
  b_root : Binds K (fd 1) ["word"] []
  f_change_places : Fun K "change_places" "change_places" (top 2) (fa 2) (fd 2)
  m_change_places : mg "change_places" = some (.ref (fa 2))
  f__law_cell : Fun K "_law_cell" "_law_cell" (top 4) (fa 4) (fd 4)
  m__law_cell : mg "_law_cell" = some (.ref (fa 4))
  b__law_cell : Binds K (fd 4) ["script", "k"] []
  f__law_numbers : Fun K "_law_numbers" "_law_numbers" (top 5) (fa 5) (fd 5)
  m__law_numbers : mg "_law_numbers" = some (.ref (fa 5))
  b__law_numbers : Binds K (fd 5) ["cell", "many", "count"] []
  f__law_text : Fun K "_law_text" "_law_text" (top 6) (fa 6) (fd 6)
  m__law_text : mg "_law_text" = some (.ref (fa 6))
  b__law_text : Binds K (fd 6) ["cell", "size", "few"] []
  f__law_spoilt : Fun K "_law_spoilt" "_law_spoilt" (top 7) (fa 7) (fd 7)
  m__law_spoilt : mg "_law_spoilt" = some (.ref (fa 7))
  b__law_spoilt : Binds K (fd 7) ["word", "way", "cell"] []
  f__law_words : Fun K "_law_words" "_law_words" (top 8) (fa 8) (fd 8)
  m__law_words : mg "_law_words" = some (.ref (fa 8))
  b__law_words : Binds K (fd 8) ["script", "base"] []
  f__law_due_root : Fun K "_law_due_root" "_law_due_root" (top 9) (fa 9) (fd 9)
  m__law_due_root : mg "_law_due_root" = some (.ref (fa 9))
  b__law_due_root : Binds K (fd 9) ["word"] []
  f__law_due_places : Fun K "_law_due_places" "_law_due_places" (top 10) (fa 10) (fd 10)
  m__law_due_places : mg "_law_due_places" = some (.ref (fa 10))
  b__law_due_places : Binds K (fd 10) ["words"] []
  f__law_told_places : Fun K "_law_told_places" "_law_told_places" (top 11) (fa 11) (fd 11)
  m__law_told_places : mg "_law_told_places" = some (.ref (fa 11))
  b__law_told_places : Binds K (fd 11) ["words"] []
  f__law_root_right : Fun K "_law_root_right" "_law_root_right" (top 12) (fa 12) (fd 12)
  m__law_root_right : mg "_law_root_right" = some (.ref (fa 12))
  b__law_root_right : Binds K (fd 12) ["word"] []
  f__law_places_right : Fun K "_law_places_right" "_law_places_right" (top 13) (fa 13) (fd 13)
  m__law_places_right : mg "_law_places_right" = some (.ref (fa 13))
  b__law_places_right : Binds K (fd 13) ["words"] []
  f_law : Fun K "law" "law" (top 14) (fa 14) (fd 14)
  m_law : mg "law" = some (.ref (fa 14))
  b_law : Binds K (fd 14) ["script"] []
section
variable {P : Program} {w : World} {K : Kx} {mg : Str → Option Value} {base : Heap} {fa : Nat → Addr} {fd : Nat → FuncData}
theorem sc_root : FnScope ["word", "size", "times"] ["word"] (defScope (top 1)) := ⟨rfl, rfl, rfl, by decide +kernel, rfl, by decide +kernel, by decide +kernel⟩
theorem ok_root (T : Pg K.k mg fa fd) : FnOk P w K.k mg base CX0 1 (fa 1) (fd 1) ["word"] (spP K 1 m_root) := by
  have nd := sc_root.nd
  refine fn1 (k := 0) (g := g_root) T.f_root sc_root rfl rfl rfl fun cdv A outer s H Ex F0 hr => ?_
  exact (SB.cons (SS.for [1, 2] PassesOwn.never rfl (SI.range2 (SA.cons SE.int (SA.cons (SE.bin (OpS.add rfl) (SE.callB (BS.len rfl) T.z_len bo_len (SA.cons (SE.var 0) SA.nil)) SE.int) SA.nil)) T.z_range) (SG.name 1 nd) (show SB _ _ _ _ b0_root from (SB.cons (SS.set 2 (SE.bin (OpS.div) (SE.callB (BS.len rfl) T.z_len bo_len (SA.cons (SE.var 0) SA.nil)) (SE.var 1)) nd)
  (SB.one (SS.ite (ST.cmp (OpS.eq rfl (u64 hr)) (SE.bin (OpS.mul) (SE.sl (SE.var 0) SO.none (SO.some (SE.var 1))) (SE.var 2)) (SE.var 0))
  (SB.one (SS.ret (SE.tup (SA.cons (SE.sl (SE.var 0) SO.none (SO.some (SE.var 1))) (SA.cons (SE.var 2) SA.nil)))))
  SB.nil)))))
  (SB.one (SS.ret (SE.tup (SA.cons (SE.str []) (SA.cons SE.int SA.nil))))))
theorem sc_change_places : FnScope ["words", "found", "word", "one"] ["words"] (defScope (top 2)) := ⟨rfl, rfl, rfl, by decide +kernel, rfl, by decide +kernel, by decide +kernel⟩
theorem ok_change_places (T : Pg K.k mg fa fd) : FnR P w K.k mg base CX0 2 (fa 2) (spS K m_change_places) := by
  have nd := sc_change_places.nd
  refine fnS (k := 1) (g := g_change_places) T.f_change_places sc_change_places (fun _ _ _ _ _ _ rest => match rest with | [] => rfl | _ :: _ => rfl) rfl rfl fun cdv A outer s H Ex F0 hr => ?_
  exact (SB.cons (SS.set 1 (SE.ofL (SL.comp (own := [("word", 2)]) rfl nd (SI.seq (SE.var 0)) (blkOk_by (by kernel_rfl)) (Blk.mk' (fun _ _ _ _ _ => (SG.name 2 nd)) (fun _ _ _ _ _ => (SC.one (ST.cmp (OpS.ne rfl (u64 hr)) (SE.var 2) (SE.str [])))) (fun _ _ _ _ _ => (SE.ix (SE.call0 (ok_root T) runB0_nox (hr.mono (by decide)) T.m_root T.f_root.kp T.b_root (SA.cons (SE.var 2) SA.nil)) SE.int))))) nd)
  (SB.one (SS.ret (SE.callB (BS.all rfl) T.z_all bo_all (SA.cons (SE.ofL (SL.comp (own := [("one", 3)]) rfl nd (SI.seq (SE.var 1)) (blkOk_by (by kernel_rfl)) (Blk.mk' (fun _ _ _ _ _ => (SG.name 3 nd)) (fun _ _ _ _ _ => SC.nil) (fun _ _ _ _ _ => (SE.cmp (OpS.eq rfl (u64 hr)) (SE.var 3) (SE.ix (SE.var 1) SE.int)))))) SA.nil)))))
theorem sc__law_cell : FnScope ["script", "k"] ["script", "k"] (defScope (top 4)) := ⟨rfl, rfl, rfl, by decide +kernel, rfl, by decide +kernel, by decide +kernel⟩
theorem ok__law_cell (T : Pg K.k mg fa fd) : FnOk P w K.k mg base CX0 1 (fa 4) (fd 4) ["script", "k"] (spP K 2 m__law_cell) := by
  have nd := sc__law_cell.nd
  refine fn1 (k := 0) (g := g__law_cell) T.f__law_cell sc__law_cell rfl rfl rfl fun cdv A outer s H Ex F0 hr => ?_
  exact (SB.cons (SS.ite (ST.cmp OpS.lt (SE.var 1) (SE.callB (BS.len rfl) T.z_len bo_len (SA.cons (SE.var 0) SA.nil)))
  (SB.one (SS.ret (SE.ix (SE.var 0) (SE.var 1))))
  SB.nil)
  (SB.one (SS.ret (SE.bin (OpS.add rfl) (SE.bin (OpS.mul) SE.int (SE.var 1)) SE.int))))
theorem sc__law_numbers : FnScope ["cell", "many", "count", "rest", "large", "mixed", "found", "k"] ["cell", "many", "count"] (defScope (top 5)) := ⟨rfl, rfl, rfl, by decide +kernel, rfl, by decide +kernel, by decide +kernel⟩
theorem ok__law_numbers (T : Pg K.k mg fa fd) : FnOk P w K.k mg base CX0 1 (fa 5) (fd 5) ["cell", "many", "count"] (spP K 3 m__law_numbers) := by
  have nd := sc__law_numbers.nd
  refine fn1 (k := 0) (g := g__law_numbers) T.f__law_numbers sc__law_numbers rfl rfl rfl fun cdv A outer s H Ex F0 hr => ?_
  exact (SB.cons (SS.set 3 (SE.callB (BS.abs) T.z_abs bo_abs (SA.cons (SE.callT (BS.int) T.z_int bo_int (SA.cons (SE.var 0) SA.nil)) SA.nil)) nd)
  (SB.cons (SS.set 4 (SE.cmp OpS.ge (SE.var 3) (SE.bin (OpS.pow) SE.int SE.int)) nd)
  (SB.cons (SS.set 5 (SE.bin (OpS.add rfl) (SE.bin (OpS.mod) (SE.callT (BS.int) T.z_int bo_int (SA.cons (SE.var 3) SA.nil)) SE.int) SE.int) nd)
  (SB.cons (SS.setL 6 (SL.lst SA.nil) nd)
  (SB.cons (SS.for [7] PassesOwn.never rfl (SI.range1 (SA.cons (SE.var 2) SA.nil) T.z_range) (SG.name 7 nd) (show SB _ _ _ _ b0__law_numbers from (SB.one (SS.ite (ST.tru (SE.var 4))
  (SB.cons (SS.app 6 (SE.bin (OpS.mod) (SE.callT (BS.int) T.z_int bo_int (SA.cons (SE.var 3) SA.nil)) (SE.var 1)))
  (SB.one (SS.set 3 (SE.bin (OpS.div) (SE.var 3) (SE.var 1)) nd)))
  (SB.cons (SS.set 5 (SE.bin (OpS.mod) (SE.callT (BS.int) T.z_int bo_int (SA.cons (SE.bin (OpS.add rfl) (SE.bin (OpS.add rfl) (SE.bin (OpS.mul) (SE.var 5) SE.int) (SE.bin (OpS.mul) SE.int (SE.var 7))) SE.int) SA.nil)) SE.int) nd)
  (SB.one (SS.app 6 (SE.bin (OpS.mod) (SE.callT (BS.int) T.z_int bo_int (SA.cons (SE.bin (OpS.div) (SE.var 5) SE.int) SA.nil)) (SE.var 1)))))))))
  (SB.one (SS.frz 6 (SS.ret (SE.var 6)))))))))
theorem sc__law_text : FnScope ["cell", "size", "few", "signs", "number"] ["cell", "size", "few"] (defScope (top 6)) := ⟨rfl, rfl, rfl, by decide +kernel, rfl, by decide +kernel, by decide +kernel⟩
theorem ok__law_text (T : Pg K.k mg fa fd) : FnOk P w K.k mg base CX0 2 (fa 6) (fd 6) ["cell", "size", "few"] (spP K 3 m__law_text) := by
  have nd := sc__law_text.nd
  refine fn1 (k := 1) (g := g__law_text) T.f__law_text sc__law_text rfl rfl rfl fun cdv A outer s H Ex F0 hr => ?_
  exact (SB.cons (SS.set 3 (SE.str [35, 97, 98, 99, 100, 101, 102, 103, 104]) nd)
  (SB.one (SS.ret (SE.join (sep := []) (SE.ofL (SL.comp (own := [("number", 4)]) rfl nd (SI.seq (SE.call0 (ok__law_numbers T) runB0_nox (hr.mono (by decide)) T.m__law_numbers T.f__law_numbers.kp T.b__law_numbers (SA.cons (SE.var 0) (SA.cons SE.int (SA.cons (SE.var 1) SA.nil))))) (blkOk_by (by kernel_rfl)) (Blk.mk' (fun _ _ _ _ _ => (SG.name 4 nd)) (fun _ _ _ _ _ => SC.nil) (fun _ _ _ _ _ => (SE.ix (SE.var 3) (SE.bin (OpS.mod) (SE.callT (BS.int) T.z_int bo_int (SA.cons (SE.var 4) SA.nil)) (SE.var 2)))))))))))
theorem sc__law_spoilt : FnScope ["word", "way", "cell", "draw", "free", "at", "other", "sign"] ["word", "way", "cell"] (defScope (top 7)) := ⟨rfl, rfl, rfl, by decide +kernel, rfl, by decide +kernel, by decide +kernel⟩
theorem ok__law_spoilt (T : Pg K.k mg fa fd) : FnOk P w K.k mg base CX0 3 (fa 7) (fd 7) ["word", "way", "cell"] (spP K 3 m__law_spoilt) := by
  have nd := sc__law_spoilt.nd
  refine fn1 (k := 2) (g := g__law_spoilt) T.f__law_spoilt sc__law_spoilt rfl rfl rfl fun cdv A outer s H Ex F0 hr => ?_
  exact (SB.cons (SS.set 3 (SE.call0 (ok__law_numbers T) runB0_nox (hr.mono (by decide)) T.m__law_numbers T.f__law_numbers.kp T.b__law_numbers (SA.cons (SE.var 2) (SA.cons SE.int (SA.cons SE.int SA.nil)))) nd)
  (SB.cons (SS.set 4 (SE.call0 (ok__law_text T) runB0_nox (hr.mono (by decide)) T.m__law_text T.f__law_text.kp T.b__law_text (SA.cons (SE.bin (OpS.add rfl) (SE.ix (SE.var 3) SE.int) (SE.callB (BS.abs) T.z_abs bo_abs (SA.cons (SE.callT (BS.int) T.z_int bo_int (SA.cons (SE.var 2) SA.nil)) SA.nil))) (SA.cons (SE.bin (OpS.mod) (SE.callT (BS.int) T.z_int bo_int (SA.cons (SE.ix (SE.var 3) SE.int) SA.nil)) SE.int) (SA.cons (SE.bin (OpS.add rfl) SE.int (SE.bin (OpS.mod) (SE.callT (BS.int) T.z_int bo_int (SA.cons (SE.ix (SE.var 3) SE.int) SA.nil)) SE.int)) SA.nil)))) nd)
  (SB.cons (SS.ite (ST.w (SW.or (ST.cmp (OpS.eq rfl (u64 hr)) (SE.var 1) SE.int) (SW.or1 (ST.cmp (OpS.eq rfl (u64 hr)) (SE.var 0) (SE.str [])))))
  (SB.one (SS.ret (SE.var 4)))
  SB.nil)
  (SB.cons (SS.ite (ST.cmp (OpS.eq rfl (u64 hr)) (SE.var 1) SE.int)
  (SB.one (SS.ret (SE.bin (OpS.add rfl) (SE.var 0) (SE.ix (SE.str [35, 97, 98, 99, 100, 101, 102, 103, 104]) (SE.bin (OpS.mod) (SE.callT (BS.int) T.z_int bo_int (SA.cons (SE.ix (SE.var 3) SE.int) SA.nil)) SE.int)))))
  SB.nil)
  (SB.cons (SS.ite (ST.cmp (OpS.eq rfl (u64 hr)) (SE.var 1) SE.int)
  (SB.one (SS.ret (SE.bin (OpS.add rfl) (SE.sl (SE.var 0) (SO.some SE.int) SO.none) (SE.ix (SE.var 0) SE.int))))
  SB.nil)
  (SB.cons (SS.set 5 (SE.bin (OpS.mod) (SE.callT (BS.int) T.z_int bo_int (SA.cons (SE.ix (SE.var 3) SE.int) SA.nil)) (SE.callB (BS.len rfl) T.z_len bo_len (SA.cons (SE.var 0) SA.nil))) nd)
  (SB.cons (SS.set 6 (SE.ix (SE.ofL (SL.comp (own := [("sign", 7)]) rfl nd (SI.seq (SE.str [35, 97, 98, 99, 100, 101, 102, 103, 104])) (blkOk_by (by kernel_rfl)) (Blk.mk' (fun _ _ _ _ _ => (SG.name 7 nd)) (fun _ _ _ _ _ => (SC.one (ST.cmp (OpS.ne rfl (u64 hr)) (SE.var 7) (SE.ix (SE.var 0) (SE.var 5))))) (fun _ _ _ _ _ => (SE.var 7))))) (SE.bin (OpS.mod) (SE.callT (BS.int) T.z_int bo_int (SA.cons (SE.ix (SE.var 3) SE.int) SA.nil)) SE.int)) nd)
  (SB.one (SS.ret (SE.bin (OpS.add rfl) (SE.bin (OpS.add rfl) (SE.sl (SE.var 0) SO.none (SO.some (SE.var 5))) (SE.var 6)) (SE.sl (SE.var 0) (SO.some (SE.bin (OpS.add rfl) (SE.var 5) SE.int)) SO.none)))))))))))
theorem sc__law_words : FnScope ["script", "base", "shape", "count", "spoilt", "words", "k", "draw", "times", "word"] ["script", "base"] (defScope (top 8)) := ⟨rfl, rfl, rfl, by decide +kernel, rfl, by decide +kernel, by decide +kernel⟩
theorem ok__law_words (T : Pg K.k mg fa fd) : FnOk P w K.k mg base CX0 4 (fa 8) (fd 8) ["script", "base"] (spP K 2 m__law_words) := by
  have nd := sc__law_words.nd
  refine fn1 (k := 3) (g := g__law_words) T.f__law_words sc__law_words rfl rfl rfl fun cdv A outer s H Ex F0 hr => ?_
  exact (SB.cons (SS.set 2 (SE.call0 (ok__law_numbers T) runB0_nox (hr.mono (by decide)) T.m__law_numbers T.f__law_numbers.kp T.b__law_numbers (SA.cons (SE.call0 (ok__law_cell T) runB0_nox (hr.mono (by decide)) T.m__law_cell T.f__law_cell.kp T.b__law_cell (SA.cons (SE.var 0) (SA.cons SE.int SA.nil))) (SA.cons SE.int (SA.cons SE.int SA.nil)))) nd)
  (SB.cons (SS.set 3 (SE.bin (OpS.mod) (SE.callT (BS.int) T.z_int bo_int (SA.cons (SE.ix (SE.var 2) SE.int) SA.nil)) SE.int) nd)
  (SB.cons (SS.set 4 (SE.bin (OpS.mod) (SE.callT (BS.int) T.z_int bo_int (SA.cons (SE.ix (SE.var 2) SE.int) SA.nil)) SE.int) nd)
  (SB.cons (SS.setL 5 (SL.lst SA.nil) nd)
  (SB.cons (SS.for [6, 7, 8, 9] PassesOwn.never rfl (SI.range1 (SA.cons (SE.var 3) SA.nil) T.z_range) (SG.name 6 nd) (show SB _ _ _ _ b0__law_words from (SB.cons (SS.set 7 (SE.call0 (ok__law_numbers T) runB0_nox (hr.mono (by decide)) T.m__law_numbers T.f__law_numbers.kp T.b__law_numbers (SA.cons (SE.call0 (ok__law_cell T) runB0_nox (hr.mono (by decide)) T.m__law_cell T.f__law_cell.kp T.b__law_cell (SA.cons (SE.var 0) (SA.cons (SE.bin (OpS.add rfl) SE.int (SE.var 6)) SA.nil))) (SA.cons SE.int (SA.cons SE.int SA.nil)))) nd)
  (SB.cons (SS.set 8 (SE.bin (OpS.mod) (SE.callT (BS.int) T.z_int bo_int (SA.cons (SE.ix (SE.var 7) SE.int) SA.nil)) SE.int) nd)
  (SB.cons (SS.ite (ST.cmp (OpS.eq rfl (u64 hr)) (SE.bin (OpS.mod) (SE.callT (BS.int) T.z_int bo_int (SA.cons (SE.ix (SE.var 2) SE.int) SA.nil)) SE.int) SE.int)
  (SB.one (SS.set 8 (SE.ix (SE.var 7) SE.int) nd))
  SB.nil)
  (SB.cons (SS.set 9 (SE.bin (OpS.mul) (SE.var 1) (SE.var 8)) nd)
  (SB.cons (SS.ite (ST.cmp (OpS.eq rfl (u64 hr)) (SE.var 6) (SE.var 4))
  (SB.one (SS.set 9 (SE.call0 (ok__law_spoilt T) runB0_nox (hr.mono (by decide)) T.m__law_spoilt T.f__law_spoilt.kp T.b__law_spoilt (SA.cons (SE.var 9) (SA.cons (SE.bin (OpS.mod) (SE.callT (BS.int) T.z_int bo_int (SA.cons (SE.ix (SE.var 2) SE.int) SA.nil)) SE.int) (SA.cons (SE.call0 (ok__law_cell T) runB0_nox (hr.mono (by decide)) T.m__law_cell T.f__law_cell.kp T.b__law_cell (SA.cons (SE.var 0) (SA.cons SE.int SA.nil))) SA.nil)))) nd))
  SB.nil)
  (SB.one (SS.app 5 (SE.var 9))))))))))
  (SB.one (SS.frz 5 (SS.ret (SE.var 5)))))))))
theorem sc__law_due_root : FnScope ["word", "size", "apart", "k"] ["word"] (defScope (top 9)) := ⟨rfl, rfl, rfl, by decide +kernel, rfl, by decide +kernel, by decide +kernel⟩
theorem ok__law_due_root (T : Pg K.k mg fa fd) : FnOk P w K.k mg base CX0 1 (fa 9) (fd 9) ["word"] (spP K 1 m__law_due_root) := by
  have nd := sc__law_due_root.nd
  refine fn1 (k := 0) (g := g__law_due_root) T.f__law_due_root sc__law_due_root rfl rfl rfl fun cdv A outer s H Ex F0 hr => ?_
  exact (SB.cons (SS.for [1, 2] PassesOwn.never rfl (SI.range2 (SA.cons SE.int (SA.cons (SE.bin (OpS.add rfl) (SE.callB (BS.len rfl) T.z_len bo_len (SA.cons (SE.var 0) SA.nil)) SE.int) SA.nil)) T.z_range) (SG.name 1 nd) (show SB _ _ _ _ b0__law_due_root from (SB.one (SS.ite (ST.cmp (OpS.eq rfl (u64 hr)) (SE.bin (OpS.mod) (SE.callT (BS.int) T.z_int bo_int (SA.cons (SE.callB (BS.len rfl) T.z_len bo_len (SA.cons (SE.var 0) SA.nil)) SA.nil)) (SE.var 1)) SE.int)
  (SB.cons (SS.setC (own := [("k", 3)]) 2 rfl nd (SI.range2 (SA.cons (SE.var 1) (SA.cons (SE.callB (BS.len rfl) T.z_len bo_len (SA.cons (SE.var 0) SA.nil)) SA.nil)) T.z_range) (blkOk_by (by kernel_rfl)) (Blk.mk' (fun _ _ _ _ _ => (SG.name 3 nd)) (fun _ _ _ _ _ => (SC.one (ST.cmp (OpS.ne rfl (u64 hr)) (SE.ix (SE.var 0) (SE.var 3)) (SE.ix (SE.var 0) (SE.bin (OpS.sub) (SE.var 3) (SE.var 1)))))) (fun _ _ _ _ _ => (SE.var 3))))
  (SB.one (SS.ite (ST.cmp (OpS.eq rfl (u64 hr)) (SE.callB (BS.len rfl) T.z_len bo_len (SA.cons (SE.var 2) SA.nil)) SE.int)
  (SB.one (SS.ret (SE.tup (SA.cons (SE.sl (SE.var 0) SO.none (SO.some (SE.var 1))) (SA.cons (SE.bin (OpS.div) (SE.callB (BS.len rfl) T.z_len bo_len (SA.cons (SE.var 0) SA.nil)) (SE.var 1)) SA.nil)))))
  SB.nil)))
  SB.nil))))
  (SB.one (SS.ret (SE.tup (SA.cons (SE.str []) (SA.cons SE.int SA.nil))))))
theorem sc__law_due_places : FnScope ["words", "one", "two"] ["words"] (defScope (top 10)) := ⟨rfl, rfl, rfl, by decide +kernel, rfl, by decide +kernel, by decide +kernel⟩
theorem ok__law_due_places (T : Pg K.k mg fa fd) : FnOk P w K.k mg base CX0 1 (fa 10) (fd 10) ["words"] (spP K 1 m__law_due_places) := by
  have nd := sc__law_due_places.nd
  refine fn1 (k := 0) (g := g__law_due_places) T.f__law_due_places sc__law_due_places rfl rfl rfl fun cdv A outer s H Ex F0 hr => ?_
  exact (SB.cons (SS.for [1, 2] PassesOwn.never rfl (SI.seq (SE.var 0)) (SG.name 1 nd) (show SB _ _ _ _ b1__law_due_places from (SB.one (SS.for [2] PassesOwn.never rfl (SI.seq (SE.var 0)) (SG.name 2 nd) (show SB _ _ _ _ b0__law_due_places from (SB.one (SS.ite (ST.cmp (OpS.ne rfl (u64 hr)) (SE.bin (OpS.add rfl) (SE.var 1) (SE.var 2)) (SE.bin (OpS.add rfl) (SE.var 2) (SE.var 1)))
  (SB.one (SS.ret SE.bl))
  SB.nil)))))))
  (SB.one (SS.ret SE.bl)))
theorem sc__law_told_places : FnScope ["words", "count"] ["words"] (defScope (top 11)) := ⟨rfl, rfl, rfl, by decide +kernel, rfl, by decide +kernel, by decide +kernel⟩
theorem ok__law_told_places (T : Pg K.k mg fa fd) : FnOk P w K.k mg base CX0 3 (fa 11) (fd 11) ["words"] (spP K 1 m__law_told_places) := by
  have nd := sc__law_told_places.nd
  refine fn1 (k := 2) (g := g__law_told_places) T.f__law_told_places sc__law_told_places rfl rfl rfl fun cdv A outer s H Ex F0 hr => ?_
  exact (SB.cons (SS.set 1 (SE.callB (BS.len rfl) T.z_len bo_len (SA.cons (SE.var 0) SA.nil)) nd)
  (SB.cons (SS.ite (ST.cmp (OpS.eq rfl (u64 hr)) (SE.var 1) SE.int)
  (SB.one (SS.ret (SE.callS0 (ok_change_places T) runB0_nox (hr.mono (by decide)) T.m_change_places T.f_change_places.kp)))
  SB.nil)
  (SB.cons (SS.ite (ST.cmp (OpS.eq rfl (u64 hr)) (SE.var 1) SE.int)
  (SB.one (SS.ret (SE.callS (ok_change_places T) runB0_nox (hr.mono (by decide)) T.m_change_places T.f_change_places.kp (SA.cons (SE.ix (SE.var 0) SE.int) SA.nil))))
  SB.nil)
  (SB.cons (SS.ite (ST.cmp (OpS.eq rfl (u64 hr)) (SE.var 1) SE.int)
  (SB.one (SS.ret (SE.callS (ok_change_places T) runB0_nox (hr.mono (by decide)) T.m_change_places T.f_change_places.kp (SA.cons (SE.ix (SE.var 0) SE.int) (SA.cons (SE.ix (SE.var 0) SE.int) SA.nil)))))
  SB.nil)
  (SB.cons (SS.ite (ST.cmp (OpS.eq rfl (u64 hr)) (SE.var 1) SE.int)
  (SB.one (SS.ret (SE.callS (ok_change_places T) runB0_nox (hr.mono (by decide)) T.m_change_places T.f_change_places.kp (SA.cons (SE.ix (SE.var 0) SE.int) (SA.cons (SE.ix (SE.var 0) SE.int) (SA.cons (SE.ix (SE.var 0) SE.int) SA.nil))))))
  SB.nil)
  (SB.cons (SS.ite (ST.cmp (OpS.eq rfl (u64 hr)) (SE.var 1) SE.int)
  (SB.one (SS.ret (SE.callS (ok_change_places T) runB0_nox (hr.mono (by decide)) T.m_change_places T.f_change_places.kp (SA.cons (SE.ix (SE.var 0) SE.int) (SA.cons (SE.ix (SE.var 0) SE.int) (SA.cons (SE.ix (SE.var 0) SE.int) (SA.cons (SE.ix (SE.var 0) SE.int) SA.nil)))))))
  SB.nil)
  (SB.cons (SS.ite (ST.cmp (OpS.eq rfl (u64 hr)) (SE.var 1) SE.int)
  (SB.one (SS.ret (SE.callS (ok_change_places T) runB0_nox (hr.mono (by decide)) T.m_change_places T.f_change_places.kp (SA.cons (SE.ix (SE.var 0) SE.int) (SA.cons (SE.ix (SE.var 0) SE.int) (SA.cons (SE.ix (SE.var 0) SE.int) (SA.cons (SE.ix (SE.var 0) SE.int) (SA.cons (SE.ix (SE.var 0) SE.int) SA.nil))))))))
  SB.nil)
  (SB.one (SS.ret (SE.callS (ok_change_places T) runB0_nox (hr.mono (by decide)) T.m_change_places T.f_change_places.kp (SA.cons (SE.ix (SE.var 0) SE.int) (SA.cons (SE.ix (SE.var 0) SE.int) (SA.cons (SE.ix (SE.var 0) SE.int) (SA.cons (SE.ix (SE.var 0) SE.int) (SA.cons (SE.ix (SE.var 0) SE.int) (SA.cons (SE.ix (SE.var 0) SE.int) SA.nil))))))))))))))))
theorem sc__law_root_right : FnScope ["word", "told"] ["word"] (defScope (top 12)) := ⟨rfl, rfl, rfl, by decide +kernel, rfl, by decide +kernel, by decide +kernel⟩
theorem ok__law_root_right (T : Pg K.k mg fa fd) : FnOk P w K.k mg base CX0 2 (fa 12) (fd 12) ["word"] (spP K 1 m__law_root_right) := by
  have nd := sc__law_root_right.nd
  refine fn1 (k := 1) (g := g__law_root_right) T.f__law_root_right sc__law_root_right rfl rfl rfl fun cdv A outer s H Ex F0 hr => ?_
  exact (SB.cons (SS.set 1 (SE.call0 (ok_root T) runB0_nox (hr.mono (by decide)) T.m_root T.f_root.kp T.b_root (SA.cons (SE.var 0) SA.nil)) nd)
  (SB.cons (SS.ite (ST.w (SW.or (ST.not (ST.tru (SE.isi "tuple" (SE.var 1) T.z_isinstance T.z_tuple bo_tuple))) (SW.or (ST.cmp (OpS.ne rfl (u64 hr)) (SE.callB (BS.len rfl) T.z_len bo_len (SA.cons (SE.var 1) SA.nil)) SE.int) (SW.or1 (ST.not (ST.tru (SE.isi "str" (SE.ix (SE.var 1) SE.int) T.z_isinstance T.z_str bo_str)))))))
  (SB.one (SS.ret SE.bl))
  SB.nil)
  (SB.cons (SS.ite (ST.w (SW.or (ST.not (ST.tru (SE.isi "int" (SE.ix (SE.var 1) SE.int) T.z_isinstance T.z_int bo_int))) (SW.or1 (ST.tru (SE.isi "bool" (SE.ix (SE.var 1) SE.int) T.z_isinstance T.z_bool bo_bool)))))
  (SB.one (SS.ret SE.bl))
  SB.nil)
  (SB.one (SS.ret (SE.cmp (OpS.eq rfl (u64 hr)) (SE.var 1) (SE.call0 (ok__law_due_root T) runB0_nox (hr.mono (by decide)) T.m__law_due_root T.f__law_due_root.kp T.b__law_due_root (SA.cons (SE.var 0) SA.nil))))))))
theorem sc__law_places_right : FnScope ["words", "told"] ["words"] (defScope (top 13)) := ⟨rfl, rfl, rfl, by decide +kernel, rfl, by decide +kernel, by decide +kernel⟩
theorem ok__law_places_right (T : Pg K.k mg fa fd) : FnOk P w K.k mg base CX0 4 (fa 13) (fd 13) ["words"] (spP K 1 m__law_places_right) := by
  have nd := sc__law_places_right.nd
  refine fn1 (k := 3) (g := g__law_places_right) T.f__law_places_right sc__law_places_right rfl rfl rfl fun cdv A outer s H Ex F0 hr => ?_
  exact (SB.cons (SS.set 1 (SE.call0 (ok__law_told_places T) runB0_nox (hr.mono (by decide)) T.m__law_told_places T.f__law_told_places.kp T.b__law_told_places (SA.cons (SE.var 0) SA.nil)) nd)
  (SB.one (SS.ret (SE.and (SE.isi "bool" (SE.var 1) T.z_isinstance T.z_bool bo_bool) (SE.one (SE.cmp (OpS.eq rfl (u64 hr)) (SE.var 1) (SE.call0 (ok__law_due_places T) runB0_nox (hr.mono (by decide)) T.m__law_due_places T.f__law_due_places.kp T.b__law_due_places (SA.cons (SE.var 0) SA.nil))))))))
theorem sc_law : FnScope ["script", "shape", "base", "words", "alone", "word"] ["script"] (defScope (top 14)) := ⟨rfl, rfl, rfl, by decide +kernel, rfl, by decide +kernel, by decide +kernel⟩
theorem ok_law (T : Pg K.k mg fa fd) : FnOk P w K.k mg base CX0 5 (fa 14) (fd 14) ["script"] (spP K 1 m_law) := by
  have nd := sc_law.nd
  refine fn1 (k := 4) (g := g_law) T.f_law sc_law rfl rfl rfl fun cdv A outer s H Ex F0 hr => ?_
  exact (SB.cons (SS.set 1 (SE.call0 (ok__law_numbers T) runB0_nox (hr.mono (by decide)) T.m__law_numbers T.f__law_numbers.kp T.b__law_numbers (SA.cons (SE.call0 (ok__law_cell T) runB0_nox (hr.mono (by decide)) T.m__law_cell T.f__law_cell.kp T.b__law_cell (SA.cons (SE.var 0) (SA.cons SE.int SA.nil))) (SA.cons SE.int (SA.cons SE.int SA.nil)))) nd)
  (SB.cons (SS.set 2 (SE.call0 (ok__law_text T) runB0_nox (hr.mono (by decide)) T.m__law_text T.f__law_text.kp T.b__law_text (SA.cons (SE.call0 (ok__law_cell T) runB0_nox (hr.mono (by decide)) T.m__law_cell T.f__law_cell.kp T.b__law_cell (SA.cons (SE.var 0) (SA.cons SE.int SA.nil))) (SA.cons (SE.bin (OpS.add rfl) SE.int (SE.bin (OpS.mod) (SE.callT (BS.int) T.z_int bo_int (SA.cons (SE.ix (SE.var 1) SE.int) SA.nil)) SE.int)) (SA.cons (SE.bin (OpS.add rfl) SE.int (SE.bin (OpS.mod) (SE.callT (BS.int) T.z_int bo_int (SA.cons (SE.ix (SE.var 1) SE.int) SA.nil)) SE.int)) SA.nil)))) nd)
  (SB.cons (SS.set 3 (SE.call0 (ok__law_words T) runB0_nox (hr.mono (by decide)) T.m__law_words T.f__law_words.kp T.b__law_words (SA.cons (SE.var 0) (SA.cons (SE.var 2) SA.nil))) nd)
  (SB.cons (SS.set 4 (SE.call0 (ok__law_spoilt T) runB0_nox (hr.mono (by decide)) T.m__law_spoilt T.f__law_spoilt.kp T.b__law_spoilt (SA.cons (SE.var 2) (SA.cons (SE.bin (OpS.mod) (SE.callT (BS.int) T.z_int bo_int (SA.cons (SE.ix (SE.var 1) SE.int) SA.nil)) SE.int) (SA.cons (SE.call0 (ok__law_cell T) runB0_nox (hr.mono (by decide)) T.m__law_cell T.f__law_cell.kp T.b__law_cell (SA.cons (SE.var 0) (SA.cons SE.int SA.nil))) SA.nil)))) nd)
  (SB.cons (SS.for [5] PassesOwn.never rfl (SI.seq (SE.bin (OpS.add rfl) (SE.var 3) (SE.ofL (SL.lst (SA.cons (SE.var 2) (SA.cons (SE.var 4) (SA.cons (SE.str []) SA.nil))))))) (SG.name 5 nd) (show SB _ _ _ _ b0_law from (SB.one (SS.ite (ST.w (SW.or (ST.not (ST.tru (SE.call0 (ok__law_root_right T) runB0_nox (hr.mono (by decide)) T.m__law_root_right T.f__law_root_right.kp T.b__law_root_right (SA.cons (SE.var 5) SA.nil)))) (SW.or (ST.not (ST.tru (SE.call0 (ok__law_places_right T) runB0_nox (hr.mono (by decide)) T.m__law_places_right T.f__law_places_right.kp T.b__law_places_right (SA.cons (SE.ofL (SL.lst (SA.cons (SE.var 5) (SA.cons (SE.var 5) SA.nil)))) SA.nil)))) (SW.or1 (ST.not (ST.tru (SE.call0 (ok__law_places_right T) runB0_nox (hr.mono (by decide)) T.m__law_places_right T.f__law_places_right.kp T.b__law_places_right (SA.cons (SE.ofL (SL.lst (SA.cons (SE.var 5) SA.nil))) SA.nil))))))))
  (SB.one (SS.ret SE.bl))
  SB.nil))))
  (SB.cons (SS.ite (ST.w (SW.or (ST.not (ST.tru (SE.call0 (ok__law_places_right T) runB0_nox (hr.mono (by decide)) T.m__law_places_right T.f__law_places_right.kp T.b__law_places_right (SA.cons (SE.ofL (SL.lst (SA.cons (SE.var 2) (SA.cons (SE.var 4) SA.nil)))) SA.nil)))) (SW.or1 (ST.not (ST.tru (SE.call0 (ok__law_places_right T) runB0_nox (hr.mono (by decide)) T.m__law_places_right T.f__law_places_right.kp T.b__law_places_right (SA.cons (SE.ofL (SL.lst (SA.cons (SE.var 4) (SA.cons (SE.str []) (SA.cons (SE.var 2) SA.nil))))) SA.nil)))))))
  (SB.one (SS.ret SE.bl))
  SB.nil)
  (SB.cons (SS.ite (ST.w (SW.or (ST.not (ST.tru (SE.call0 (ok__law_places_right T) runB0_nox (hr.mono (by decide)) T.m__law_places_right T.f__law_places_right.kp T.b__law_places_right (SA.cons (SE.ofL (SL.lst SA.nil)) SA.nil)))) (SW.or1 (ST.not (ST.tru (SE.call0 (ok__law_places_right T) runB0_nox (hr.mono (by decide)) T.m__law_places_right T.f__law_places_right.kp T.b__law_places_right (SA.cons (SE.var 3) SA.nil)))))))
  (SB.one (SS.ret SE.bl))
  SB.nil)
  (SB.one (SS.ret (SE.call0 (ok__law_places_right T) runB0_nox (hr.mono (by decide)) T.m__law_places_right T.f__law_places_right.kp T.b__law_places_right (SA.cons (SE.ofL (SL.lrev (SE.var 3) rfl T.z_list T.z_reversed)) SA.nil)))))))))))
end
end Law

set_option Elab.async false
set_option linter.all false
set_option maxRecDepth 100000
set_option maxHeartbeats 4000000
namespace Law
open PySem L2 Z
theorem all_mk {l : PySem.W.OpenLaw} {w : World} {K : PySem.W.Frag} {h : Heap} {mg : Str → Option Value} {fa0 f1 f2 f4 f5 f6 f7 f8 f9 f10 f11 f12 f13 f14 : Addr} (X : K.In h) (G : h.Ns mainGlobals mg) (hfa : mg "law" = some (.ref fa0))
    {od1 an1 od2 an2 od4 an4 od5 an5 od6 an6 od7 an7 od8 an8 od9 an9 od10 an10 od11 an11 od12 an12 od13 an13 od14 an14 : Option Addr} {sl1 sl2 sl4 sl5 sl6 sl7 sl8 sl9 sl10 sl11 sl12 sl13 sl14 : Array (Option Value)} {oc1 kV1 dc1 pm1 cd1 ct1 oc2 kV2 dc2 pm2 cd2 ct2 oc4 kV4 dc4 pm4 cd4 ct4 oc5 kV5 dc5 pm5 cd5 ct5 oc6 kV6 dc6 pm6 cd6 ct6 oc7 kV7 dc7 pm7 cd7 ct7 oc8 kV8 dc8 pm8 cd8 ct8 oc9 kV9 dc9 pm9 cd9 ct9 oc10 kV10 dc10 pm10 cd10 ct10 oc11 kV11 dc11 pm11 cd11 ct11 oc12 kV12 dc12 pm12 cd12 ct12 oc13 kV13 dc13 pm13 cd13 ct13 oc14 kV14 dc14 pm14 cd14 ct14 : Value}
    (a1 : PySem.W.nsIn K mainGlobals "root" = some (some (.ref f1))) (l1 : K.lookup f1 = some ⟨oc1, od1, .func (PySem.W.fnOf "root" "root" (defArgs (top 1)) (defBody (top 1)) (defScope (top 1)) .none kV1 dc1 pm1 an1 cd1 ct1), sl1⟩) (c1 : PySem.W.codeIn K cd1 "root" = true) (k1 : PySem.W.keepIn K (.ref f1) = true)
    (a2 : PySem.W.nsIn K mainGlobals "change_places" = some (some (.ref f2))) (l2 : K.lookup f2 = some ⟨oc2, od2, .func (PySem.W.fnOf "change_places" "change_places" (defArgs (top 2)) (defBody (top 2)) (defScope (top 2)) .none kV2 dc2 pm2 an2 cd2 ct2), sl2⟩) (c2 : PySem.W.codeIn K cd2 "change_places" = true) (k2 : PySem.W.keepIn K (.ref f2) = true)
    (a4 : PySem.W.nsIn K mainGlobals "_law_cell" = some (some (.ref f4))) (l4 : K.lookup f4 = some ⟨oc4, od4, .func (PySem.W.fnOf "_law_cell" "_law_cell" (defArgs (top 4)) (defBody (top 4)) (defScope (top 4)) .none kV4 dc4 pm4 an4 cd4 ct4), sl4⟩) (c4 : PySem.W.codeIn K cd4 "_law_cell" = true) (k4 : PySem.W.keepIn K (.ref f4) = true)
    (a5 : PySem.W.nsIn K mainGlobals "_law_numbers" = some (some (.ref f5))) (l5 : K.lookup f5 = some ⟨oc5, od5, .func (PySem.W.fnOf "_law_numbers" "_law_numbers" (defArgs (top 5)) (defBody (top 5)) (defScope (top 5)) .none kV5 dc5 pm5 an5 cd5 ct5), sl5⟩) (c5 : PySem.W.codeIn K cd5 "_law_numbers" = true) (k5 : PySem.W.keepIn K (.ref f5) = true)
    (a6 : PySem.W.nsIn K mainGlobals "_law_text" = some (some (.ref f6))) (l6 : K.lookup f6 = some ⟨oc6, od6, .func (PySem.W.fnOf "_law_text" "_law_text" (defArgs (top 6)) (defBody (top 6)) (defScope (top 6)) .none kV6 dc6 pm6 an6 cd6 ct6), sl6⟩) (c6 : PySem.W.codeIn K cd6 "_law_text" = true) (k6 : PySem.W.keepIn K (.ref f6) = true)
    (a7 : PySem.W.nsIn K mainGlobals "_law_spoilt" = some (some (.ref f7))) (l7 : K.lookup f7 = some ⟨oc7, od7, .func (PySem.W.fnOf "_law_spoilt" "_law_spoilt" (defArgs (top 7)) (defBody (top 7)) (defScope (top 7)) .none kV7 dc7 pm7 an7 cd7 ct7), sl7⟩) (c7 : PySem.W.codeIn K cd7 "_law_spoilt" = true) (k7 : PySem.W.keepIn K (.ref f7) = true)
    (a8 : PySem.W.nsIn K mainGlobals "_law_words" = some (some (.ref f8))) (l8 : K.lookup f8 = some ⟨oc8, od8, .func (PySem.W.fnOf "_law_words" "_law_words" (defArgs (top 8)) (defBody (top 8)) (defScope (top 8)) .none kV8 dc8 pm8 an8 cd8 ct8), sl8⟩) (c8 : PySem.W.codeIn K cd8 "_law_words" = true) (k8 : PySem.W.keepIn K (.ref f8) = true)
    (a9 : PySem.W.nsIn K mainGlobals "_law_due_root" = some (some (.ref f9))) (l9 : K.lookup f9 = some ⟨oc9, od9, .func (PySem.W.fnOf "_law_due_root" "_law_due_root" (defArgs (top 9)) (defBody (top 9)) (defScope (top 9)) .none kV9 dc9 pm9 an9 cd9 ct9), sl9⟩) (c9 : PySem.W.codeIn K cd9 "_law_due_root" = true) (k9 : PySem.W.keepIn K (.ref f9) = true)
    (a10 : PySem.W.nsIn K mainGlobals "_law_due_places" = some (some (.ref f10))) (l10 : K.lookup f10 = some ⟨oc10, od10, .func (PySem.W.fnOf "_law_due_places" "_law_due_places" (defArgs (top 10)) (defBody (top 10)) (defScope (top 10)) .none kV10 dc10 pm10 an10 cd10 ct10), sl10⟩) (c10 : PySem.W.codeIn K cd10 "_law_due_places" = true) (k10 : PySem.W.keepIn K (.ref f10) = true)
    (a11 : PySem.W.nsIn K mainGlobals "_law_told_places" = some (some (.ref f11))) (l11 : K.lookup f11 = some ⟨oc11, od11, .func (PySem.W.fnOf "_law_told_places" "_law_told_places" (defArgs (top 11)) (defBody (top 11)) (defScope (top 11)) .none kV11 dc11 pm11 an11 cd11 ct11), sl11⟩) (c11 : PySem.W.codeIn K cd11 "_law_told_places" = true) (k11 : PySem.W.keepIn K (.ref f11) = true)
    (a12 : PySem.W.nsIn K mainGlobals "_law_root_right" = some (some (.ref f12))) (l12 : K.lookup f12 = some ⟨oc12, od12, .func (PySem.W.fnOf "_law_root_right" "_law_root_right" (defArgs (top 12)) (defBody (top 12)) (defScope (top 12)) .none kV12 dc12 pm12 an12 cd12 ct12), sl12⟩) (c12 : PySem.W.codeIn K cd12 "_law_root_right" = true) (k12 : PySem.W.keepIn K (.ref f12) = true)
    (a13 : PySem.W.nsIn K mainGlobals "_law_places_right" = some (some (.ref f13))) (l13 : K.lookup f13 = some ⟨oc13, od13, .func (PySem.W.fnOf "_law_places_right" "_law_places_right" (defArgs (top 13)) (defBody (top 13)) (defScope (top 13)) .none kV13 dc13 pm13 an13 cd13 ct13), sl13⟩) (c13 : PySem.W.codeIn K cd13 "_law_places_right" = true) (k13 : PySem.W.keepIn K (.ref f13) = true)
    (a14 : PySem.W.nsIn K mainGlobals "law" = some (some (.ref f14))) (l14 : K.lookup f14 = some ⟨oc14, od14, .func (PySem.W.fnOf "law" "law" (defArgs (top 14)) (defBody (top 14)) (defScope (top 14)) .none kV14 dc14 pm14 an14 cd14 ct14), sl14⟩) (c14 : PySem.W.codeIn K cd14 "law" = true) (k14 : PySem.W.keepIn K (.ref f14) = true)
    (z_abs : PySem.W.nsIn K mainGlobals "abs" = some none)
    (z_all : PySem.W.nsIn K mainGlobals "all" = some none)
    (z_bool : PySem.W.nsIn K mainGlobals "bool" = some none)
    (z_int : PySem.W.nsIn K mainGlobals "int" = some none)
    (z_isinstance : PySem.W.nsIn K mainGlobals "isinstance" = some none)
    (z_len : PySem.W.nsIn K mainGlobals "len" = some none)
    (z_list : PySem.W.nsIn K mainGlobals "list" = some none)
    (z_range : PySem.W.nsIn K mainGlobals "range" = some none)
    (z_reversed : PySem.W.nsIn K mainGlobals "reversed" = some none)
    (z_str : PySem.W.nsIn K mainGlobals "str" = some none)
    (z_tuple : PySem.W.nsIn K mainGlobals "tuple" = some none)
    : ∃ fd : FuncData, (∀ (s : Shared) (v : Value), BindsTo s fd ⟨[v], []⟩ [("script", v)]) ∧ ∀ base : Heap, K.In base → base.Ns mainGlobals mg → FnOk l.prog w K mg base CX0 5 fa0 fd ["script"] (spLaw K) := by
  have e := hfa.symm.trans (PySem.W.mg_of X G a14)
  cases e
  have F1 := fun_mk (st := top 1) l1 c1 k1
  have F2 := fun_mk (st := top 2) l2 c2 k2
  have F4 := fun_mk (st := top 4) l4 c4 k4
  have F5 := fun_mk (st := top 5) l5 c5 k5
  have F6 := fun_mk (st := top 6) l6 c6 k6
  have F7 := fun_mk (st := top 7) l7 c7 k7
  have F8 := fun_mk (st := top 8) l8 c8 k8
  have F9 := fun_mk (st := top 9) l9 c9 k9
  have F10 := fun_mk (st := top 10) l10 c10 k10
  have F11 := fun_mk (st := top 11) l11 c11 k11
  have F12 := fun_mk (st := top 12) l12 c12 k12
  have F13 := fun_mk (st := top 13) l13 c13 k13
  have F14 := fun_mk (st := top 14) l14 c14 k14
  have T : Pg K mg (fun i => if i = 1 then f1 else if i = 2 then f2 else if i = 4 then f4 else if i = 5 then f5 else if i = 6 then f6 else if i = 7 then f7 else if i = 8 then f8 else if i = 9 then f9 else if i = 10 then f10 else if i = 11 then f11 else if i = 12 then f12 else if i = 13 then f13 else if i = 14 then fa0 else 0) (fun i => if i = 1 then PySem.W.fnOf "root" "root" (defArgs (top 1)) (defBody (top 1)) (defScope (top 1)) .none kV1 dc1 pm1 an1 cd1 ct1 else if i = 2 then PySem.W.fnOf "change_places" "change_places" (defArgs (top 2)) (defBody (top 2)) (defScope (top 2)) .none kV2 dc2 pm2 an2 cd2 ct2 else if i = 4 then PySem.W.fnOf "_law_cell" "_law_cell" (defArgs (top 4)) (defBody (top 4)) (defScope (top 4)) .none kV4 dc4 pm4 an4 cd4 ct4 else if i = 5 then PySem.W.fnOf "_law_numbers" "_law_numbers" (defArgs (top 5)) (defBody (top 5)) (defScope (top 5)) .none kV5 dc5 pm5 an5 cd5 ct5 else if i = 6 then PySem.W.fnOf "_law_text" "_law_text" (defArgs (top 6)) (defBody (top 6)) (defScope (top 6)) .none kV6 dc6 pm6 an6 cd6 ct6 else if i = 7 then PySem.W.fnOf "_law_spoilt" "_law_spoilt" (defArgs (top 7)) (defBody (top 7)) (defScope (top 7)) .none kV7 dc7 pm7 an7 cd7 ct7 else if i = 8 then PySem.W.fnOf "_law_words" "_law_words" (defArgs (top 8)) (defBody (top 8)) (defScope (top 8)) .none kV8 dc8 pm8 an8 cd8 ct8 else if i = 9 then PySem.W.fnOf "_law_due_root" "_law_due_root" (defArgs (top 9)) (defBody (top 9)) (defScope (top 9)) .none kV9 dc9 pm9 an9 cd9 ct9 else if i = 10 then PySem.W.fnOf "_law_due_places" "_law_due_places" (defArgs (top 10)) (defBody (top 10)) (defScope (top 10)) .none kV10 dc10 pm10 an10 cd10 ct10 else if i = 11 then PySem.W.fnOf "_law_told_places" "_law_told_places" (defArgs (top 11)) (defBody (top 11)) (defScope (top 11)) .none kV11 dc11 pm11 an11 cd11 ct11 else if i = 12 then PySem.W.fnOf "_law_root_right" "_law_root_right" (defArgs (top 12)) (defBody (top 12)) (defScope (top 12)) .none kV12 dc12 pm12 an12 cd12 ct12 else if i = 13 then PySem.W.fnOf "_law_places_right" "_law_places_right" (defArgs (top 13)) (defBody (top 13)) (defScope (top 13)) .none kV13 dc13 pm13 an13 cd13 ct13 else if i = 14 then PySem.W.fnOf "law" "law" (defArgs (top 14)) (defBody (top 14)) (defScope (top 14)) .none kV14 dc14 pm14 an14 cd14 ct14 else PySem.W.fnOf "law" "law" (defArgs (top 14)) (defBody (top 14)) (defScope (top 14)) .none kV14 dc14 pm14 an14 cd14 ct14) := {
    z_abs := PySem.W.mg_none_of X G z_abs
    z_all := PySem.W.mg_none_of X G z_all
    z_bool := PySem.W.mg_none_of X G z_bool
    z_int := PySem.W.mg_none_of X G z_int
    z_isinstance := PySem.W.mg_none_of X G z_isinstance
    z_len := PySem.W.mg_none_of X G z_len
    z_list := PySem.W.mg_none_of X G z_list
    z_range := PySem.W.mg_none_of X G z_range
    z_reversed := PySem.W.mg_none_of X G z_reversed
    z_str := PySem.W.mg_none_of X G z_str
    z_tuple := PySem.W.mg_none_of X G z_tuple
    f_root := F1
    m_root := PySem.W.mg_of X G a1
    b_root := F1.binds (ps := ["word"]) fun _ _ _ _ _ _ us hl => match us, hl with | [_], _ => rfl
    f_change_places := F2
    m_change_places := PySem.W.mg_of X G a2
    f__law_cell := F4
    m__law_cell := PySem.W.mg_of X G a4
    b__law_cell := F4.binds (ps := ["script", "k"]) fun _ _ _ _ _ _ us hl => match us, hl with | [_, _], _ => rfl
    f__law_numbers := F5
    m__law_numbers := PySem.W.mg_of X G a5
    b__law_numbers := F5.binds (ps := ["cell", "many", "count"]) fun _ _ _ _ _ _ us hl => match us, hl with | [_, _, _], _ => rfl
    f__law_text := F6
    m__law_text := PySem.W.mg_of X G a6
    b__law_text := F6.binds (ps := ["cell", "size", "few"]) fun _ _ _ _ _ _ us hl => match us, hl with | [_, _, _], _ => rfl
    f__law_spoilt := F7
    m__law_spoilt := PySem.W.mg_of X G a7
    b__law_spoilt := F7.binds (ps := ["word", "way", "cell"]) fun _ _ _ _ _ _ us hl => match us, hl with | [_, _, _], _ => rfl
    f__law_words := F8
    m__law_words := PySem.W.mg_of X G a8
    b__law_words := F8.binds (ps := ["script", "base"]) fun _ _ _ _ _ _ us hl => match us, hl with | [_, _], _ => rfl
    f__law_due_root := F9
    m__law_due_root := PySem.W.mg_of X G a9
    b__law_due_root := F9.binds (ps := ["word"]) fun _ _ _ _ _ _ us hl => match us, hl with | [_], _ => rfl
    f__law_due_places := F10
    m__law_due_places := PySem.W.mg_of X G a10
    b__law_due_places := F10.binds (ps := ["words"]) fun _ _ _ _ _ _ us hl => match us, hl with | [_], _ => rfl
    f__law_told_places := F11
    m__law_told_places := PySem.W.mg_of X G a11
    b__law_told_places := F11.binds (ps := ["words"]) fun _ _ _ _ _ _ us hl => match us, hl with | [_], _ => rfl
    f__law_root_right := F12
    m__law_root_right := PySem.W.mg_of X G a12
    b__law_root_right := F12.binds (ps := ["word"]) fun _ _ _ _ _ _ us hl => match us, hl with | [_], _ => rfl
    f__law_places_right := F13
    m__law_places_right := PySem.W.mg_of X G a13
    b__law_places_right := F13.binds (ps := ["words"]) fun _ _ _ _ _ _ us hl => match us, hl with | [_], _ => rfl
    f_law := F14
    m_law := PySem.W.mg_of X G a14
    b_law := F14.binds (ps := ["script"]) fun _ _ _ _ _ _ us hl => match us, hl with | [_], _ => rfl
  }
  exact ⟨PySem.W.fnOf "law" "law" (defArgs (top 14)) (defBody (top 14)) (defScope (top 14)) .none kV14 dc14 pm14 an14 cd14 ct14, fun s v => .of_eq rfl, fun base _ _ => law_of (ok_law (K := ⟨K, fun _ => 0⟩) T) law_true⟩
end Law
open PySem PySem.W PyProof.Rows in
set_option maxRecDepth 100000 in
set_option maxHeartbeats 0 in
theorem PySem.Challenge.cw_samebytesanywhere_k09_roots_and_places_holds : PySem.Challenge.rw_samebytesanywhere_k09_roots_and_places.Holds := by
  w_on; o_law; k_head; (case hw => w_witness2)
  k_fill
  refine Z.walk (k := 5) (l := PySem.Challenge.rw_samebytesanywhere_k09_roots_and_places) rfl rfl ⟨rfl, by decide, by decide⟩ (fun w h Y => PySem.W.kIn_of Y) ?F
  case F =>
    intro w mg fa h KX G hmg
    refine' Law.all_mk KX G hmg ?a1 ?l1 ?c1 ?k1 ?a2 ?l2 ?c2 ?k2 ?a4 ?l4 ?c4 ?k4 ?a5 ?l5 ?c5 ?k5 ?a6 ?l6 ?c6 ?k6 ?a7 ?l7 ?c7 ?k7 ?a8 ?l8 ?c8 ?k8 ?a9 ?l9 ?c9 ?k9 ?a10 ?l10 ?c10 ?k10 ?a11 ?l11 ?c11 ?k11 ?a12 ?l12 ?c12 ?k12 ?a13 ?l13 ?c13 ?k13 ?a14 ?l14 ?c14 ?k14 ?z_abs ?z_all ?z_bool ?z_int ?z_isinstance ?z_len ?z_list ?z_range ?z_reversed ?z_str ?z_tuple
    (case a1 => k_is)
    (case l1 => k_is)
    (case c1 => k_is)
    (case k1 => k_is)
    (case a2 => k_is)
    (case l2 => k_is)
    (case c2 => k_is)
    (case k2 => k_is)
    (case a4 => k_is)
    (case l4 => k_is)
    (case c4 => k_is)
    (case k4 => k_is)
    (case a5 => k_is)
    (case l5 => k_is)
    (case c5 => k_is)
    (case k5 => k_is)
    (case a6 => k_is)
    (case l6 => k_is)
    (case c6 => k_is)
    (case k6 => k_is)
    (case a7 => k_is)
    (case l7 => k_is)
    (case c7 => k_is)
    (case k7 => k_is)
    (case a8 => k_is)
    (case l8 => k_is)
    (case c8 => k_is)
    (case k8 => k_is)
    (case a9 => k_is)
    (case l9 => k_is)
    (case c9 => k_is)
    (case k9 => k_is)
    (case a10 => k_is)
    (case l10 => k_is)
    (case c10 => k_is)
    (case k10 => k_is)
    (case a11 => k_is)
    (case l11 => k_is)
    (case c11 => k_is)
    (case k11 => k_is)
    (case a12 => k_is)
    (case l12 => k_is)
    (case c12 => k_is)
    (case k12 => k_is)
    (case a13 => k_is)
    (case l13 => k_is)
    (case c13 => k_is)
    (case k13 => k_is)
    (case a14 => k_is)
    (case l14 => k_is)
    (case c14 => k_is)
    (case k14 => k_is)
    (case z_abs => k_is)
    (case z_all => k_is)
    (case z_bool => k_is)
    (case z_int => k_is)
    (case z_isinstance => k_is)
    (case z_len => k_is)
    (case z_list => k_is)
    (case z_range => k_is)
    (case z_reversed => k_is)
    (case z_str => k_is)
    (case z_tuple => k_is)

