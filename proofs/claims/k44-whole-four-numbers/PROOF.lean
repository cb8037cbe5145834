import PyProof.Rows.All
import Wide.All
import OpenK.AllK
import Wide.FinOn
import HandS.Lambda
import HandS.ForMost
import HandS.ForExc
import HandS.IsInst
import HandS.Deep
import HandS.TupAny
import HandS.TupMul
import HandS.Wide
import HandS.RaiseMore
import HandS.Conv
import HandS.Walk
import HandS.FStrTup
import PyProof.ReprRoads
import HandS.EndBits
import KE.KExcSuper
import HandS.ExcInit
import HandS.ExcField
import OpenK.KMore
import PySem.Challenge.RW_nolotmore_k44_whole_four_numbers
set_option Elab.async false
set_option linter.all false
set_option maxRecDepth 100000
set_option maxHeartbeats 4000000
/-! Nol, part A: data behind values, frames told by data, what an evaluation may change. -/
namespace Nol
open PySem PySem.Spec PyProof.Rows L2
abbrev St := L2.St

/-- what a value stands for -/
inductive D where
  | non
  | bl (b : Bool)
  | int (i : Int)
  | str (s : Str)
  | tup (ds : List D)
  | lst (ds : List D)
  | dct (ks : List Key) (ds : List D)
  | obj (c : Str) (ds : List D)
  /-- the script -/
  | scr (ns : List Int)

/-- what is known of the text's classes: where each stands, whether it is an error's, its fields -/
structure Gx where
  K : PySem.W.Frag
  cls : Str → Option Addr
  exc : Str → Bool
  flds : Str → List Str
  /-- the tables of code objects for the text's lambdas, each with its lambda's name -/
  T : List (Addr × Str)

/-- no table of code objects -/
abbrev NT (o : HO) : Prop := ∀ ps, o ≠ .tbl ps
/-- an error of the class C with its own dict at dx stands at a -/
def ExcA (C dx a : Addr) : HO := .ext fun h => ∃ (oe : Obj) (vs : Array Value), h.get? a = some oe ∧ Zc (.ref C) (some dx) oe ∧ oe.data = .fields vs

def ObjAt (G : Gx) (H : Hp) (a : Addr) (c : Str) (vs : List V) : Prop :=
  ∃ C, G.cls c = some C ∧
    ((G.exc c = false ∧ ∃ dx fs, H a = some (.ins C dx fs) ∧ fs.map Prod.fst = G.flds c ∧ vs = fs.map Prod.snd) ∨
     (G.exc c = true ∧ ∃ dx v, H a = some (ExcA C dx a) ∧ H dx = some (.xd [("value", v)]) ∧ vs = [v]))

/-- the script's list -/
def ScrAt (G : Gx) (H : Hp) (a : Addr) (vs : List V) : Prop :=
  (∃ o, H a = some (.frz o (.lst vs))) ∨
    ∃ (o : Obj) (its : Array Value) (n : Nat), G.K.lookup a = some o ∧ o.cls = .type "list" ∧ o.dict = none ∧ o.data = .seq its n ∧ its.size ≤ sizeLine ∧ Vals vs its.toList
theorem ScrAt.sql {G : Gx} {H : Hp} {a : Addr} {vs : List V} (h : ScrAt G H a vs) : SqL G.K H a vs := by
  rcases h with h | h
  · exact .inl (.inr h)
  · exact .inr h

mutual
/-- v stands for d in the heap H; at Ex lie lists that may be written to: none of them is a part of d -/
def Is (G : Gx) (Ex : Addr → Prop) (H : Hp) : D → V → Prop
  | .non, v => v = .non
  | .bl b, v => v = .bl b
  | .int i, v => v = .int i
  | .str s, v => v = .str s
  | .tup ds, v => ∃ a vs, v = .ref a ∧ H a = some (.tup vs) ∧ Are G Ex H ds vs
  | .lst ds, v => ∃ a vs, v = .ref a ∧ (H a = some (.lst vs) ∧ ¬ Ex a) ∧ Are G Ex H ds vs
  | .dct ks ds, v => ∃ a kvs, v = .ref a ∧ H a = some (.dK kvs) ∧ kvs.map Prod.fst = ks ∧ Are G Ex H ds (kvs.map Prod.snd)
  | .obj c ds, v => ∃ a vs, v = .ref a ∧ ObjAt G H a c vs ∧ Are G Ex H ds vs
  | .scr ns, v => ∃ a, v = .ref a ∧ ScrAt G H a (ns.map V.int)
def Are (G : Gx) (Ex : Addr → Prop) (H : Hp) : List D → List V → Prop
  | [], vs => vs = []
  | d :: ds, vs => ∃ v r, vs = v :: r ∧ Is G Ex H d v ∧ Are G Ex H ds r
end

/-- what a table tells is no list -/
theorem tabs_keep {T : List (Addr × Str)} {H H' : Hp} (t : LamX.Tabs T H) (hk : ∀ a o, H a = some o → (∀ xs, o ≠ .lst xs) → H' a = some o) : LamX.Tabs T H' := fun p hp => by
  obtain ⟨ps, h1, h2, h3⟩ := t p hp
  refine ⟨ps, hk _ _ h1 (fun _ z => nomatch z), h2, fun pos cv hc => ?_⟩
  obtain ⟨c, e1, e2⟩ := h3 pos cv hc
  exact ⟨c, e1, hk _ _ e2 (fun _ z => nomatch z)⟩
/-- what is written to is a list -/
def ExL (Ex : Addr → Prop) (H : Hp) : Prop := ∀ a, Ex a → ∃ xs, H a = some (.lst xs)

section
variable {G : Gx} {Ex Ex' : Addr → Prop} {H H' : Hp}

theorem rd_keep {a : Addr} {u : HO} (hk : ∀ a o, H a = some o → NT o → ¬ Ex a → H' a = some o) (hl : ExL Ex H) (h : Rd H a u) (nt : NT u) (n : Ex a → ∀ xs, u ≠ .lst xs) : Rd H' a u := by
  rcases h with h | ⟨o, h⟩
  · refine .inl (hk _ _ h nt fun e => ?_)
    obtain ⟨xs, q⟩ := hl a e
    rw [h] at q
    exact n e xs (Option.some.inj q)
  · refine .inr ⟨o, hk _ _ h (fun _ z => nomatch z) fun e => ?_⟩
    obtain ⟨xs, q⟩ := hl a e
    rw [h] at q
    cases q
theorem sqt_keep {a : Addr} {vs : List V} (hk : ∀ a o, H a = some o → NT o → ¬ Ex a → H' a = some o) (hl : ExL Ex H) (h : SqT G.K H a vs) : SqT G.K H' a vs := by
  rcases h with h | h
  · exact .inl (rd_keep hk hl h (fun _ z => nomatch z) fun _ _ z => nomatch z)
  · exact .inr h
theorem oth_keep {a : Addr} {u : HO} (hk : ∀ a o, H a = some o → NT o → ¬ Ex a → H' a = some o) (hl : ExL Ex H) (h : H a = some u) (n : ∀ xs, u ≠ .lst xs) (nt : NT u := by exact fun _ z => nomatch z) : H' a = some u := hk _ _ h nt fun e => by
  obtain ⟨xs, q⟩ := hl a e
  rw [h] at q
  exact n xs (Option.some.inj q)
theorem scr_keep {a : Addr} {vs : List V} (hk : ∀ a o, H a = some o → NT o → ¬ Ex a → H' a = some o) (hl : ExL Ex H) (h : ScrAt G H a vs) : ScrAt G H' a vs := by
  rcases h with ⟨o, h⟩ | h
  · exact .inl ⟨o, oth_keep hk hl h fun _ z => nomatch z⟩
  · exact .inr h
theorem objAt_keep {a : Addr} {c : Str} {vs : List V} (hk : ∀ a o, H a = some o → NT o → ¬ Ex a → H' a = some o) (hl : ExL Ex H) (h : ObjAt G H a c vs) : ObjAt G H' a c vs := by
  have kp : ∀ {a o}, H a = some o → NT o → (∀ xs, o ≠ .lst xs) → H' a = some o := fun {a o} h nt n => hk _ _ h nt fun e => by
    obtain ⟨xs, q⟩ := hl a e
    rw [h] at q
    exact n xs (Option.some.inj q)
  obtain ⟨C, hC, ⟨h1, dx, fs, h2, h3, h4⟩ | ⟨h1, dx, v, h2, h3, h4⟩⟩ := h
  · exact ⟨C, hC, .inl ⟨h1, dx, fs, kp h2 (fun _ z => nomatch z) (fun _ z => nomatch z), h3, h4⟩⟩
  · exact ⟨C, hC, .inr ⟨h1, dx, v, kp h2 (fun _ z => nomatch z) (fun _ z => nomatch z), kp h3 (fun _ z => nomatch z) (fun _ z => nomatch z), h4⟩⟩

mutual
theorem Is.keep (hk : ∀ a o, H a = some o → NT o → ¬ Ex a → H' a = some o) (hl : ExL Ex H) (hx : ∀ a, Ex' a → Ex a ∨ H a = none) : ∀ (d : D) (v : V), Is G Ex H d v → Is G Ex' H' d v
  | .non, v, h => by unfold Is at h ⊢; exact h
  | .bl b, v, h => by unfold Is at h ⊢; exact h
  | .int b, v, h => by unfold Is at h ⊢; exact h
  | .str b, v, h => by unfold Is at h ⊢; exact h
  | .tup ds, v, h => by
    unfold Is at h ⊢
    obtain ⟨a, vs, e, h1, h2⟩ := h
    exact ⟨a, vs, e, oth_keep hk hl h1 (fun _ z => nomatch z), Are.keep hk hl hx ds vs h2⟩
  | .lst ds, v, h => by
    unfold Is at h ⊢
    obtain ⟨a, vs, e, h1, h2⟩ := h
    refine ⟨a, vs, e, ⟨hk _ _ h1.1 (fun _ z => nomatch z) h1.2, fun z => ?_⟩, Are.keep hk hl hx ds vs h2⟩
    rcases hx a z with z | z
    · exact h1.2 z
    · rw [h1.1] at z; cases z
  | .dct ks ds, v, h => by
    unfold Is at h ⊢
    obtain ⟨a, vs, e, h1, h3, h2⟩ := h
    exact ⟨a, vs, e, oth_keep hk hl h1 (fun _ z => nomatch z), h3, Are.keep hk hl hx ds _ h2⟩
  | .obj c ds, v, h => by
    unfold Is at h ⊢
    obtain ⟨a, vs, e, h1, h2⟩ := h
    exact ⟨a, vs, e, objAt_keep hk hl h1, Are.keep hk hl hx ds vs h2⟩
  | .scr ns, v, h => by
    unfold Is at h ⊢
    obtain ⟨a, e, h1⟩ := h
    exact ⟨a, e, scr_keep hk hl h1⟩
theorem Are.keep (hk : ∀ a o, H a = some o → NT o → ¬ Ex a → H' a = some o) (hl : ExL Ex H) (hx : ∀ a, Ex' a → Ex a ∨ H a = none) : ∀ (ds : List D) (vs : List V), Are G Ex H ds vs → Are G Ex' H' ds vs
  | [], vs, h => by unfold Are at h ⊢; exact h
  | d :: ds, vs, h => by
    unfold Are at h ⊢
    obtain ⟨v, r, e, h1, h2⟩ := h
    exact ⟨v, r, e, Is.keep hk hl hx d v h1, Are.keep hk hl hx ds r h2⟩
end
/-- fewer lists that may be written to -/
theorem Is.less (hx : ∀ a, Ex' a → Ex a) (hl : ExL Ex H) {d : D} {v : V} (h : Is G Ex H d v) : Is G Ex' H d v := Is.keep (fun _ _ h _ _ => h) hl (fun a e => .inl (hx a e)) d v h
theorem Are.less (hx : ∀ a, Ex' a → Ex a) (hl : ExL Ex H) {ds : List D} {vs : List V} (h : Are G Ex H ds vs) : Are G Ex' H ds vs := Are.keep (fun _ _ h _ _ => h) hl (fun a e => .inl (hx a e)) ds vs h
theorem Are.length : ∀ {ds : List D} {vs : List V}, Are G Ex H ds vs → vs.length = ds.length
  | [], vs, h => by unfold Are at h; subst h; rfl
  | d :: ds, vs, h => by
    unfold Are at h
    obtain ⟨v, r, rfl, _, h2⟩ := h
    simp [Are.length h2]
theorem Are.get : ∀ {ds : List D} {vs : List V}, Are G Ex H ds vs → ∀ {i : Nat} {v : V}, vs[i]? = some v → ∃ d, ds[i]? = some d ∧ Is G Ex H d v
  | [], vs, h, i, v, e => by unfold Are at h; subst h; simp at e
  | d :: ds, vs, h, i, v, e => by
    unfold Are at h
    obtain ⟨w, r, rfl, h1, h2⟩ := h
    cases i with
    | zero => simp at e; subst e; exact ⟨d, rfl, h1⟩
    | succ i => simpa using Are.get h2 (by simpa using e)
theorem Are.get' : ∀ {ds : List D} {vs : List V}, Are G Ex H ds vs → ∀ {i : Nat} {d : D}, ds[i]? = some d → ∃ v, vs[i]? = some v ∧ Is G Ex H d v := by
  intro ds vs h i d e
  have hl := h.length
  have hi : i < ds.length := (List.getElem?_eq_some_iff.mp e).1
  obtain ⟨d', e', h'⟩ := h.get (i := i) (v := vs[i]) (List.getElem?_eq_getElem (by omega))
  rw [e] at e'
  cases e'
  exact ⟨_, List.getElem?_eq_getElem (by omega), h'⟩
theorem Are.of_get : ∀ {ds : List D} {vs : List V}, vs.length = ds.length → (∀ (i : Nat) d v, ds[i]? = some d → vs[i]? = some v → Is G Ex H d v) → Are G Ex H ds vs
  | [], vs, hl, _ => by unfold Are; exact List.length_eq_zero_iff.mp hl
  | d :: ds, [], hl, _ => by simp at hl
  | d :: ds, v :: vs, hl, h => by
    unfold Are
    exact ⟨v, vs, rfl, h 0 d v rfl rfl, Are.of_get (by simpa using hl) fun i d' v' e1 e2 => h (i + 1) d' v' (by simpa using e1) (by simpa using e2)⟩
theorem Are.append {ds es : List D} : ∀ {vs us : List V}, Are G Ex H ds vs → Are G Ex H es us → Are G Ex H (ds ++ es) (vs ++ us) := by
  induction ds with
  | nil => intro vs us h h'; unfold Are at h; subst h; exact h'
  | cons d ds ih =>
    intro vs us h h'
    unfold Are at h
    obtain ⟨v, r, rfl, h1, h2⟩ := h
    show Are G Ex H (d :: (ds ++ es)) (v :: (r ++ us))
    unfold Are
    exact ⟨v, _, rfl, h1, ih h2 h'⟩
theorem Are.one {d : D} {v : V} (h : Is G Ex H d v) : Are G Ex H [d] [v] := by
  unfold Are
  exact ⟨v, [], rfl, h, by unfold Are; rfl⟩
theorem Are.nil : Are G Ex H [] [] := by unfold Are; rfl
theorem Are.cons {d : D} {v : V} {ds : List D} {vs : List V} (h : Is G Ex H d v) (h' : Are G Ex H ds vs) : Are G Ex H (d :: ds) (v :: vs) := by
  unfold Are
  exact ⟨v, vs, rfl, h, h'⟩
theorem Are.set {ds : List D} : ∀ {vs : List V} {d : D} {v : V} {i : Nat}, Are G Ex H ds vs → Is G Ex H d v → Are G Ex H (ds.set i d) (vs.set i v) := by
  intro vs d v i h h'
  refine Are.of_get (by simp [h.length]) fun j d' v' e1 e2 => ?_
  by_cases hj : i = j
  · subst hj
    rw [List.getElem?_set] at e1 e2
    simp at e1 e2
    obtain ⟨_, rfl⟩ := e1
    obtain ⟨_, rfl⟩ := e2
    exact h'
  · rw [List.getElem?_set_ne hj] at e1 e2
    obtain ⟨d2, e3, h3⟩ := h.get e2
    rw [e1] at e3
    cases e3
    exact h3
theorem Are.drop {ds : List D} {vs : List V} (n : Nat) (h : Are G Ex H ds vs) : Are G Ex H (ds.drop n) (vs.drop n) := by
  refine Are.of_get (by simp [h.length]) fun j d v e1 e2 => ?_
  rw [List.getElem?_drop] at e1 e2
  obtain ⟨d2, e3, h3⟩ := h.get e2
  rw [e1] at e3
  cases e3
  exact h3
theorem Are.take {ds : List D} {vs : List V} (n : Nat) (h : Are G Ex H ds vs) : Are G Ex H (ds.take n) (vs.take n) := by
  refine Are.of_get (by simp [h.length]) fun j d v e1 e2 => ?_
  rw [List.getElem?_take] at e1 e2
  split at e1
  · rename_i hj
    rw [if_pos hj] at e2
    obtain ⟨d2, e3, h3⟩ := h.get e2
    rw [e1] at e3
    cases e3
    exact h3
  · cases e1
theorem Are.reverse {ds : List D} {vs : List V} (h : Are G Ex H ds vs) : Are G Ex H ds.reverse vs.reverse := by
  have hl := h.length
  refine Are.of_get (by simp [h.length]) fun j d v e1 e2 => ?_
  have hj : j < ds.length := by
    have := (List.getElem?_eq_some_iff.mp e1).1
    simpa using this
  rw [List.getElem?_reverse hj] at e1
  rw [List.getElem?_reverse (by omega), hl] at e2
  obtain ⟨d2, e3, h3⟩ := h.get e2
  rw [e1] at e3
  cases e3
  exact h3
end

/-! ### slots -/
/-- what a slot of the frame is known to hold: nothing that is known; data; a list of the frame's own; a list that the caller lends; a list that is looked at and not written to -/
inductive Sl where
  | un
  | v (d : D)
  | own (ds : List D)
  | par (ds : List D)
  | lock (ds : List D)
abbrev Fm := List Sl
def Sl.isM : Sl → Bool
  | .own _ => true
  | .par _ => true
  | .lock _ => true
  | _ => false
def SlIs (G : Gx) (Ex : Addr → Prop) (H : Hp) : Sl → Option V → Prop
  | .un, _ => True
  | .v d, some x => Is G Ex H d x
  | .own ds, some x => ∃ a vs, x = .ref a ∧ H a = some (.lst vs) ∧ Ex a ∧ Are G Ex H ds vs
  | .par ds, some x => ∃ a vs, x = .ref a ∧ H a = some (.lst vs) ∧ Ex a ∧ Are G Ex H ds vs
  | .lock ds, some x => ∃ a vs, x = .ref a ∧ H a = some (.lst vs) ∧ Ex a ∧ Are G Ex H ds vs
  | _, none => False
/-- the slot i holds the list at a, and is told so -/
def Holds (σ : St) (env : Fm) (i : Nat) (a : Addr) : Prop := σ[i]? = some (some (V.ref a)) ∧ ∃ s : Sl, env[i]? = some s ∧ s.isM = true
def Ow (σ : St) (env : Fm) (a : Addr) : Prop := ∃ (i : Nat) (ds : List D), env[i]? = some (Sl.own ds) ∧ σ[i]? = some (some (V.ref a))
def Pr (σ : St) (env : Fm) (a : Addr) : Prop := ∃ (i : Nat) (ds : List D), env[i]? = some (Sl.par ds) ∧ σ[i]? = some (some (V.ref a))
def Wr (σ : St) (env : Fm) (a : Addr) : Prop := Ow σ env a ∨ Pr σ env a
structure Rep (G : Gx) (Ex : Addr → Prop) (σ : St) (H : Hp) (env : Fm) : Prop where
  len : σ.length = env.length
  sl : ∀ (i : Nat) o s, σ[i]? = some o → env[i]? = some s → SlIs G Ex H s o
  dj : ∀ i j a, Holds σ env i a → Holds σ env j a → i = j
  ex : ExL Ex H
  tb : LamX.Tabs G.T H
/-- what a piece of the program has changed -/
structure Ext (Ex : Addr → Prop) (σ : St) (H : Hp) (env : Fm) (Ex' : Addr → Prop) (σ' : St) (H' : Hp) (env' : Fm) : Prop where
  keep : ∀ a o, H a = some o → NT o → ¬ Wr σ env a → H' a = some o
  thr : ∀ a, H a ≠ none → H' a ≠ none
  exs : ∀ a, Ex' a → Ex a ∨ H a = none
  exk : ∀ a, Ex a → ¬ Ow σ env a → Ex' a
  owk : ∀ a, Ow σ' env' a → Ow σ env a ∨ H a = none
  prk : ∀ a, Pr σ' env' a → Pr σ env a
/-- how an expression may change the slots -/
def SlSub : Sl → Sl → Prop
  | .un, .un => True
  | .v d, .v e => d = e
  | .own _, .own _ => True
  | .own _, .v _ => True
  | .par _, .par _ => True
  | .lock d, .lock e => d = e
  | _, _ => False
def Sub (env env' : Fm) : Prop := env.length = env'.length ∧ ∀ (i : Nat) s s', env[i]? = some s → env'[i]? = some s' → SlSub s s'

theorem SlSub.refl : ∀ s, SlSub s s
  | .un => trivial
  | .v _ => rfl
  | .own _ => trivial
  | .par _ => trivial
  | .lock _ => rfl
theorem SlSub.trans : ∀ {a b c : Sl}, SlSub a b → SlSub b c → SlSub a c := by
  intro a b c h1 h2
  cases a <;> cases b <;> simp only [SlSub] at h1 <;> cases c <;> simp only [SlSub] at h2 ⊢ <;> first | exact h1.trans h2 | trivial
theorem SlSub.isM : ∀ {a b : Sl}, SlSub a b → b.isM = true → a.isM = true := by
  intro a b h1 h2
  cases a <;> cases b <;> simp only [SlSub] at h1 <;> first | rfl | cases h2
theorem Sub.refl (env : Fm) : Sub env env := ⟨rfl, fun i s s' h h' => by rw [h] at h'; cases h'; exact SlSub.refl s⟩
theorem Sub.get {env env' : Fm} (h : Sub env env') {i : Nat} {s' : Sl} (e : env'[i]? = some s') : ∃ s, env[i]? = some s ∧ SlSub s s' := by
  have hi : i < env.length := by rw [h.1]; exact (List.getElem?_eq_some_iff.mp e).1
  exact ⟨env[i], List.getElem?_eq_getElem hi, h.2 i _ _ (List.getElem?_eq_getElem hi) e⟩
theorem Sub.trans {a b c : Fm} (h1 : Sub a b) (h2 : Sub b c) : Sub a c := ⟨h1.1.trans h2.1, fun i s s' e e' => by
  obtain ⟨t, et, q⟩ := h2.get e'
  exact (h1.2 i _ _ e et).trans q⟩
theorem Sub.ow {σ : St} {env env' : Fm} (h : Sub env env') {a : Addr} (o : Ow σ env' a) : Ow σ env a := by
  obtain ⟨i, ds, e, q⟩ := o
  obtain ⟨s, es, ss⟩ := h.get e
  cases s <;> simp only [SlSub] at ss
  exact ⟨i, _, es, q⟩
theorem Sub.pr {σ : St} {env env' : Fm} (h : Sub env env') {a : Addr} (o : Pr σ env' a) : Pr σ env a := by
  obtain ⟨i, ds, e, q⟩ := o
  obtain ⟨s, es, ss⟩ := h.get e
  cases s <;> simp only [SlSub] at ss
  exact ⟨i, _, es, q⟩
theorem Sub.holds {σ : St} {env env' : Fm} (h : Sub env env') {i : Nat} {a : Addr} (o : Holds σ env' i a) : Holds σ env i a := by
  obtain ⟨q, s, e, m⟩ := o
  obtain ⟨t, et, ss⟩ := h.get e
  exact ⟨q, t, et, ss.isM m⟩
theorem Ow.holds {σ : St} {env : Fm} {a : Addr} (h : Ow σ env a) : ∃ i, Holds σ env i a := by
  obtain ⟨i, ds, e, q⟩ := h
  exact ⟨i, q, _, e, rfl⟩
theorem Pr.holds {σ : St} {env : Fm} {a : Addr} (h : Pr σ env a) : ∃ i, Holds σ env i a := by
  obtain ⟨i, ds, e, q⟩ := h
  exact ⟨i, q, _, e, rfl⟩
theorem Wr.holds {σ : St} {env : Fm} {a : Addr} (h : Wr σ env a) : ∃ i, Holds σ env i a := h.elim Ow.holds Pr.holds
section
variable {G : Gx} {Ex Ex' : Addr → Prop} {σ : St} {H H' : Hp} {env env' : Fm}
theorem Rep.holds (R : Rep G Ex σ H env) {i : Nat} {a : Addr} (h : Holds σ env i a) : Ex a ∧ ∃ vs, H a = some (.lst vs) := by
  obtain ⟨q, s, e, m⟩ := h
  have z := R.sl i _ s q e
  cases s with
  | un => cases m
  | v d => cases m
  | own ds => obtain ⟨b, vs, e1, e2, e3, _⟩ := z; cases e1; exact ⟨e3, vs, e2⟩
  | par ds => obtain ⟨b, vs, e1, e2, e3, _⟩ := z; cases e1; exact ⟨e3, vs, e2⟩
  | lock ds => obtain ⟨b, vs, e1, e2, e3, _⟩ := z; cases e1; exact ⟨e3, vs, e2⟩
theorem Rep.wr (R : Rep G Ex σ H env) {a : Addr} (h : Wr σ env a) : Ex a ∧ ∃ vs, H a = some (.lst vs) := by
  obtain ⟨i, h⟩ := h.holds
  exact R.holds h
/-- what stands for data stands for it still -/
theorem Ext.is {σ' : St} (R : Rep G Ex σ H env) (x : Ext Ex σ H env Ex' σ' H' env') {d : D} {v : V} (h : Is G Ex H d v) : Is G Ex' H' d v :=
  Is.keep (fun a o e t n => x.keep a o e t fun w => n (R.wr w).1) R.ex x.exs d v h
theorem Ext.are {σ' : St} (R : Rep G Ex σ H env) (x : Ext Ex σ H env Ex' σ' H' env') {d : List D} {v : List V} (h : Are G Ex H d v) : Are G Ex' H' d v :=
  Are.keep (fun a o e t n => x.keep a o e t fun w => n (R.wr w).1) R.ex x.exs d v h
theorem Ext.refl : Ext Ex σ H env Ex σ H env := ⟨fun _ _ h _ _ => h, fun _ h => h, fun _ h => .inl h, fun _ h _ => h, fun _ h => .inl h, fun _ h => h⟩
theorem Ext.trans {Ex1 Ex2 : Addr → Prop} {σ1 σ2 : St} {H1 H2 : Hp} {env1 env2 : Fm} (R : Rep G Ex σ H env) (a : Ext Ex σ H env Ex1 σ1 H1 env1) (b : Ext Ex1 σ1 H1 env1 Ex2 σ2 H2 env2) : Ext Ex σ H env Ex2 σ2 H2 env2 where
  keep := fun c o h t n => b.keep c o (a.keep c o h t n) t fun w => by
    rcases w with w | w
    · rcases a.owk c w with w | w
      · exact n (.inl w)
      · rw [h] at w; cases w
    · exact n (.inr (a.prk c w))
  thr := fun c h => b.thr c (a.thr c h)
  exs := fun c h => by
    rcases b.exs c h with h | h
    · exact a.exs c h
    · right
      cases q : H c with
      | none => rfl
      | some o => exact absurd h (a.thr c (by rw [q]; simp))
  exk := fun c h n => b.exk c (a.exk c h n) fun w => by
    rcases a.owk c w with w | w
    · exact n w
    · obtain ⟨xs, q⟩ := R.ex c h
      rw [q] at w
      cases w
  owk := fun c h => by
    rcases b.owk c h with h | h
    · exact a.owk c h
    · right
      cases q : H c with
      | none => rfl
      | some o => exact absurd h (a.thr c (by rw [q]; simp))
  prk := fun c h => a.prk c (b.prk c h)
/-- data that is tracked is not new -/
theorem Ext.new {σ' : St} (x : Ext Ex σ H env Ex' σ' H' env') {a : Addr} (h : H' a = none) : H a = none := by
  cases q : H a with
  | none => rfl
  | some o => exact absurd h (x.thr a (by rw [q]; simp))
end
end Nol

set_option Elab.async false
set_option linter.all false
set_option maxRecDepth 100000
set_option maxHeartbeats 4000000
/-! Nol, part B: what an expression does to a frame told by data; the rules' common part. -/
namespace Nol
open PySem PySem.Spec PyProof.Rows L2

/-- a value that is looked at: data, or the list in a slot, as it stands when it is used -/
inductive PV where
  | d (d : D)
  | sl (i : Nat)
  /-- a tuple of the text's top -/
  | k (ds : List D)
/-- a value that comes: data, or a new list that nobody else has -/
inductive FV where
  | d (d : D)
  | fr (ds : List D)
inductive Rs (α : Type) where
  | ok (a : α) (env : Fm)
  | er (c : Str) (d : D) (env : Fm)
abbrev Ev (α : Type) := Fm → Option (Rs α)
def bindR {α γ : Type} : Option (Rs α) → (α → Fm → Option (Rs γ)) → Option (Rs γ)
  | some (.ok a e), k => k a e
  | some (.er c d e), _ => some (.er c d e)
  | none, _ => none
@[simp] theorem bindR_ok {α γ : Type} (a : α) (e : Fm) (k : α → Fm → Option (Rs γ)) : bindR (some (.ok a e)) k = k a e := rfl
@[simp] theorem bindR_er {α γ : Type} (c : Str) (d : D) (e : Fm) (k : α → Fm → Option (Rs γ)) : bindR (some (.er c d e)) k = some (.er c d e) := rfl
@[simp] theorem bindR_none {α γ : Type} (k : α → Fm → Option (Rs γ)) : bindR none k = none := rfl

/-- how what comes stands in the heap: at the start, behind it -/
abbrev Rl (α β : Type) := Hp → (Addr → Prop) → Hp → St → α → β → Prop
section
variable (G : Gx)
def RD : Rl D V := fun _ Ex H _ d v => Is G Ex H d v
def RP : Rl PV V := fun _ Ex H σ p v => match p with
  | .d d => Is G Ex H d v
  | .sl i => σ[i]? = some (some v)
  | .k ds => ∃ a vs, v = .ref a ∧ SqT G.K H a vs ∧ Are G Ex H ds vs
def RF : Rl FV V := fun H0 Ex H _ p v => match p with
  | .d d => Is G Ex H d v
  | .fr ds => ∃ a vs, v = .ref a ∧ H0 a = none ∧ Ex a ∧ H a = some (.lst vs) ∧ Are G Ex H ds vs
def RA : Rl (List D) (List V) := fun _ Ex H _ ds vs => Are G Ex H ds vs
def RB : Rl Bool Bool := fun _ _ _ _ b c => b = c

def Po {α β : Type} (W : WX) (rl : Rl α β) (Ex : Addr → Prop) (σ : St) (H : Hp) (env : Fm) (r : Option (Rs α)) (Q : β → Hp → Prop) : Prop :=
  match r with
  | none => False
  | some (.ok a env') => ∀ Ex' H' b, Ext Ex σ H env Ex' σ H' env' → Sub env env' → Rep G Ex' σ H' env' → rl H Ex' H' σ a b → Q b H'
  | some (.er c d env') => ∀ Ex' H' C dx v, Ext Ex σ H env Ex' σ H' env' → Sub env env' → Rep G Ex' σ H' env' → G.cls c = some C → H' dx = some (.xd [("value", v)]) → Is G Ex' H' d v → W (.ref C) (some dx) σ H'
/-- the reading of a piece that does f to the frame -/
def tX {α β : Type} (W : WX) (rl : Rl α β) (f : Ev α) : St → Hp → (β → Hp → Prop) → Prop := fun σ H Q => ∃ Ex env, Rep G Ex σ H env ∧ Po G W rl Ex σ H env (f env) Q

variable (X : Cx)
structure DE (e : Expr) (f : Ev D) : Prop where
  run : ∀ W, Takes X W → PE X e (tX G W (RD G) f)
structure DP (e : Expr) (f : Ev PV) : Prop where
  run : ∀ W, Takes X W → PE X e (tX G W (RP G) f)
structure DF (e : Expr) (f : Ev FV) : Prop where
  run : ∀ W, Takes X W → PE X e (tX G W (RF G) f)
structure DA (es : List Expr) (f : Ev (List D)) : Prop where
  run : ∀ W, Takes X W → PA X es (tX G W (RA G) f)
structure DT (e : Expr) (f : Ev Bool) : Prop where
  run : ∀ W, Takes X W → PT X e (tX G W RB f)
end

theorem pe_weak {X : Cx} {e : Expr} {t t' : TE} (h : PE X e t) (w : ∀ σ H Q, t' σ H Q → t σ H Q) : PE X e t' := ⟨fun pins s σ H Q I q => h.run pins s σ H Q I (w σ H Q q)⟩
theorem pt_weak {X : Cx} {e : Expr} {t t' : TT} (h : PT X e t) (w : ∀ σ H Q, t' σ H Q → t σ H Q) : PT X e t' := ⟨fun pins s σ H Q I q => h.run pins s σ H Q I (w σ H Q q)⟩
theorem pa_weak {X : Cx} {es : List Expr} {t t' : TA} (h : PA X es t) (w : ∀ σ H Q, t' σ H Q → t σ H Q) : PA X es t' := ⟨fun pos pins s σ H Q I q => h.run pos pins s σ H Q I (w σ H Q q)⟩

/-- what stands behind may as well be told from an earlier start -/
def StM {α β : Type} (rl : Rl α β) : Prop := ∀ (H0 H1 : Hp) Ex H σ a b, (∀ c, H1 c = none → H0 c = none) → rl H1 Ex H σ a b → rl H0 Ex H σ a b
section
variable {G : Gx}
theorem stm_RD : StM (RD G) := fun _ _ _ _ _ _ _ _ h => h
theorem stm_RP : StM (RP G) := fun _ _ _ _ _ _ _ _ h => h
theorem stm_RA : StM (RA G) := fun _ _ _ _ _ _ _ _ h => h
theorem stm_RB : StM RB := fun _ _ _ _ _ _ _ _ h => h
theorem stm_RF : StM (RF G) := fun H0 H1 Ex H σ p v k h => by
  cases p with
  | d d => exact h
  | fr ds =>
    obtain ⟨a, vs, e, n, r⟩ := h
    exact ⟨a, vs, e, k a n, r⟩
variable {W : WX} {Ex Ex' Ex1 : Addr → Prop} {σ : St} {H H' H1 : Hp} {env env' env1 : Fm} {α β γ δ : Type} {rl : Rl α β} {rl' : Rl γ δ}
theorem Po.tr {r : Option (Rs α)} {Q : β → Hp → Prop} (sm : StM rl) (R : Rep G Ex σ H env) (x : Ext Ex σ H env Ex1 σ H1 env1) (sb : Sub env env1) (p : Po G W rl Ex σ H env r Q) : Po G W rl Ex1 σ H1 env1 r Q := by
  cases r with
  | none => exact p
  | some r =>
    cases r with
    | ok a e => exact fun Ex' H' b x' s' R' q => p Ex' H' b (x.trans R x') (sb.trans s') R' (sm _ _ _ _ _ _ _ (fun c => x.new) q)
    | er c d e => exact fun Ex' H' C dx v x' s' R' => p Ex' H' C dx v (x.trans R x') (sb.trans s') R'
/-- one piece, then what follows -/
theorem Po.step {r : Option (Rs α)} {k : α → Fm → Option (Rs γ)} {Q : δ → Hp → Prop} {C : β → Hp → Prop} (sm : StM rl') (R : Rep G Ex σ H env) (p : Po G W rl' Ex σ H env (bindR r k) Q)
    (c : ∀ a env1 Ex1 H1 x, r = some (.ok a env1) → Ext Ex σ H env Ex1 σ H1 env1 → Sub env env1 → Rep G Ex1 σ H1 env1 → rl H Ex1 H1 σ a x → Po G W rl' Ex1 σ H1 env1 (k a env1) Q → C x H1) :
    Po G W rl Ex σ H env r C := by
  cases r with
  | none => exact p
  | some r =>
    cases r with
    | ok a e => exact fun Ex' H' b x' s' R' q => c a e Ex' H' b rfl x' s' R' q (Po.tr sm R x' s' p)
    | er c d e => exact p
/-- at the end -/
theorem Po.done {a : α} {Q : β → Hp → Prop} {b : β} (R : Rep G Ex σ H env) (p : Po G W rl Ex σ H env (some (.ok a env)) Q) (h : rl H Ex H σ a b) : Q b H :=
  p Ex H b Ext.refl (Sub.refl _) R h

/-! ### new objects -/
theorem Ext.grow (hs : Same H H') : Ext Ex σ H env Ex σ H' env :=
  ⟨fun a o e _ _ => hs a o e, fun a h => by
    cases q : H a with
    | none => exact absurd q h
    | some o => rw [hs a o q]; simp, fun _ h => .inl h, fun _ h _ => h, fun _ h => .inl h, fun _ h => h⟩
theorem Is.grow (R : ExL Ex H) (hs : Same H H') {d : D} {v : V} (h : Is G Ex H d v) : Is G Ex H' d v := Is.keep (fun a o e _ _ => hs a o e) R (fun _ h => .inl h) d v h
theorem Are.grow (R : ExL Ex H) (hs : Same H H') {d : List D} {v : List V} (h : Are G Ex H d v) : Are G Ex H' d v := Are.keep (fun a o e _ _ => hs a o e) R (fun _ h => .inl h) d v h
theorem SlIs.keep {s : Sl} {o : Option V} (hk : ∀ a o, H a = some o → NT o → ¬ Ex a → H' a = some o) (hl : ExL Ex H) (hx : ∀ a, Ex' a → Ex a ∨ H a = none) (he : ∀ a vs, s.isM = true → o = some (.ref a) → Ex a → H a = some (.lst vs) → Ex' a ∧ H' a = some (.lst vs)) (h : SlIs G Ex H s o) : SlIs G Ex' H' s o := by
  cases s with
  | un => trivial
  | v d =>
    cases o with
    | none => exact h
    | some x => exact Is.keep hk hl hx d x h
  | own ds =>
    cases o with
    | none => exact h
    | some x =>
      obtain ⟨a, vs, rfl, e, n, r⟩ := h
      obtain ⟨e1, e2⟩ := he a vs rfl rfl n e
      exact ⟨a, vs, rfl, e2, e1, Are.keep hk hl hx ds vs r⟩
  | par ds =>
    cases o with
    | none => exact h
    | some x =>
      obtain ⟨a, vs, rfl, e, n, r⟩ := h
      obtain ⟨e1, e2⟩ := he a vs rfl rfl n e
      exact ⟨a, vs, rfl, e2, e1, Are.keep hk hl hx ds vs r⟩
  | lock ds =>
    cases o with
    | none => exact h
    | some x =>
      obtain ⟨a, vs, rfl, e, n, r⟩ := h
      obtain ⟨e1, e2⟩ := he a vs rfl rfl n e
      exact ⟨a, vs, rfl, e2, e1, Are.keep hk hl hx ds vs r⟩
theorem Rep.grow (R : Rep G Ex σ H env) (hs : Same H H') : Rep G Ex σ H' env :=
  ⟨R.len, fun i o s e1 e2 => SlIs.keep (fun a o e _ _ => hs a o e) R.ex (fun _ h => .inl h) (fun a vs _ _ n e => ⟨n, hs _ _ e⟩) (R.sl i o s e1 e2), R.dj, (fun a h => let ⟨xs, e⟩ := R.ex a h; ⟨xs, hs _ _ e⟩), R.tb.ext hs⟩
/-- with one more list that may be written to; one fewer -/
def exAdd (Ex : Addr → Prop) (a : Addr) : Addr → Prop := fun b => Ex b ∨ b = a
def exDel (Ex : Addr → Prop) (a : Addr) : Addr → Prop := fun b => Ex b ∧ b ≠ a
theorem same_new {a : Addr} {o : HO} (h : H a = none) : Same H (upd H a o) := fun b u e => by
  rw [upd_ne (ne_of_none e h)]
  exact e
theorem exAdd_new {a : Addr} (h : H a = none) : ∀ b, exAdd Ex a b → Ex b ∨ H b = none := fun b e => e.imp id fun e => by rw [e]; exact h
theorem Is.add {a : Addr} (R : ExL Ex H) (hs : Same H H') (hn : H a = none) {d : D} {v : V} (h : Is G Ex H d v) : Is G (exAdd Ex a) H' d v := Is.keep (fun a o e _ _ => hs a o e) R (exAdd_new hn) d v h
theorem Are.add {a : Addr} (R : ExL Ex H) (hs : Same H H') (hn : H a = none) {d : List D} {v : List V} (h : Are G Ex H d v) : Are G (exAdd Ex a) H' d v := Are.keep (fun a o e _ _ => hs a o e) R (exAdd_new hn) d v h
theorem Rep.add {a : Addr} {vs : List V} (R : Rep G Ex σ H env) (hs : Same H H') (hn : H a = none) (ha : H' a = some (.lst vs)) : Rep G (exAdd Ex a) σ H' env :=
  ⟨R.len, fun i o s e1 e2 => SlIs.keep (fun a o e _ _ => hs a o e) R.ex (exAdd_new hn) (fun a vs _ _ n e => ⟨.inl n, hs _ _ e⟩) (R.sl i o s e1 e2), R.dj, (fun b h => by
    rcases h with h | rfl
    · obtain ⟨xs, e⟩ := R.ex b h
      exact ⟨xs, hs _ _ e⟩
    · exact ⟨vs, ha⟩), R.tb.ext hs⟩
theorem Ext.add {a : Addr} (hs : Same H H') (hn : H a = none) : Ext Ex σ H env (exAdd Ex a) σ H' env :=
  ⟨fun a o e _ _ => hs a o e, (Ext.grow (Ex := Ex) (σ := σ) (env := env) hs).thr, exAdd_new hn, fun _ h _ => .inl h, fun _ h => .inl h, fun _ h => h⟩
theorem Rep.del {a : Addr} (R : Rep G Ex σ H env) (n : ∀ i, ¬ Holds σ env i a) : Rep G (exDel Ex a) σ H env :=
  ⟨R.len, fun i o s e1 e2 => SlIs.keep (fun _ _ e _ _ => e) R.ex (fun _ h => .inl h.1) (fun b vs m eo nb e => ⟨⟨nb, fun z => n i ⟨by rw [e1, eo, z], s, e2, m⟩⟩, e⟩) (R.sl i o s e1 e2), R.dj, (fun b h => R.ex b h.1), R.tb⟩
/-- a list that nobody writes to any more is data -/
theorem Is.settle {a : Addr} {ds : List D} {vs : List V} (hl : ExL Ex H) (ha : H a = some (.lst vs)) (h : Are G Ex H ds vs) : Is G (exDel Ex a) H (.lst ds) (.ref a) := by
  unfold Is
  exact ⟨a, vs, rfl, ⟨ha, fun z => z.2 rfl⟩, h.less (fun _ z => z.1) hl⟩
def settleV : FV → D
  | .d d => d
  | .fr ds => .lst ds
def settle (r : Option (Rs FV)) : Option (Rs D) := bindR r fun v e => some (.ok (settleV v) e)
theorem Po.settle {r : Option (Rs FV)} {Q : VK} (R : Rep G Ex σ H env) (p : Po G W (RD G) Ex σ H env (settle r) Q) : Po G W (RF G) Ex σ H env r Q := by
  cases r with
  | none => exact p
  | some r =>
    cases r with
    | er c d e => exact p
    | ok v e =>
      intro Ex' H' b x s R' q
      cases v with
      | d d => exact p Ex' H' b x s R' q
      | fr ds =>
        obtain ⟨a, vs, rfl, n, ea, ha, hr⟩ := q
        have nh : ∀ i, ¬ Holds σ e i a := fun i h => by
          obtain ⟨_, us, z⟩ := R.holds (s.holds h)
          rw [n] at z
          cases z
        refine p (exDel Ex' a) H' (.ref a) ⟨x.keep, x.thr, fun b h => x.exs b h.1, fun b h o => ⟨x.exk b h o, fun z => ?_⟩, x.owk, x.prk⟩ s (R'.del nh) (Is.settle R'.ex ha hr)
        subst z
        obtain ⟨us, z⟩ := R.ex b h
        rw [n] at z
        cases z
variable {X : Cx}
theorem de_of {e : Expr} {f : Ev FV} (h : DF G X e f) : DE G X e (fun env => settle (f env)) :=
  ⟨fun W tk => pe_weak (h.run W tk) fun σ H Q ⟨Ex, env, R, p⟩ => ⟨Ex, env, R, p.settle R⟩⟩
def asF (r : Option (Rs D)) : Option (Rs FV) := bindR r fun d e => some (.ok (.d d) e)
theorem df_of {e : Expr} {f : Ev D} (h : DE G X e f) : DF G X e (fun env => asF (f env)) :=
  ⟨fun W tk => pe_weak (h.run W tk) fun σ H Q ⟨Ex, env, R, p⟩ => ⟨Ex, env, R, Po.step stm_RF R p fun a env1 Ex1 H1 x _ xt sb R1 q p1 => p1.done R1 q⟩⟩
def asP (r : Option (Rs D)) : Option (Rs PV) := bindR r fun d e => some (.ok (.d d) e)
theorem dp_of {e : Expr} {f : Ev D} (h : DE G X e f) : DP G X e (fun env => asP (f env)) :=
  ⟨fun W tk => pe_weak (h.run W tk) fun σ H Q ⟨Ex, env, R, p⟩ => ⟨Ex, env, R, Po.step stm_RP R p fun a env1 Ex1 H1 x _ xt sb R1 q p1 => p1.done R1 q⟩⟩

/-! ### what is read off -/
/-- the value reads as d: data, or a list of d's items that somebody may write to -/
def Se (G : Gx) (Ex : Addr → Prop) (H : Hp) (d : D) (v : V) : Prop := Is G Ex H d v ∨ (∃ ds a vs, d = .lst ds ∧ v = .ref a ∧ H a = some (.lst vs) ∧ Are G Ex H ds vs) ∨ ∃ ds a vs, d = .tup ds ∧ v = .ref a ∧ SqT G.K H a vs ∧ Are G Ex H ds vs
def deref (env : Fm) : PV → Option D
  | .d d => some d
  | .k ds => some (.tup ds)
  | .sl i => match env[i]? with
    | some (.own ds) => some (.lst ds)
    | some (.par ds) => some (.lst ds)
    | some (.lock ds) => some (.lst ds)
    | some (.v d) => some d
    | _ => none
@[simp] theorem deref_d (env : Fm) (d : D) : deref env (.d d) = some d := rfl
theorem se_of {p : PV} {d : D} {v : V} {H0 : Hp} (R : Rep G Ex σ H env) (h : RP G H0 Ex H σ p v) (e : deref env p = some d) : Se G Ex H d v := by
  cases p with
  | d d' =>
    cases e
    exact .inl h
  | k ds =>
    cases e
    obtain ⟨a, vs, h⟩ := h
    exact .inr (.inr ⟨ds, a, vs, rfl, h⟩)
  | sl i =>
    have h : σ[i]? = some (some v) := h
    unfold deref at e
    cases q : env[i]? with
    | none => simp [q] at e
    | some s =>
      have z := R.sl i _ s h q
      cases s with
      | un => simp [q] at e
      | v d' => simp [q] at e; subst e; exact .inl z
      | own ds => simp [q] at e; subst e; obtain ⟨a, vs, e1, e2, _, e3⟩ := z; exact .inr (.inl ⟨ds, a, vs, rfl, e1, e2, e3⟩)
      | par ds => simp [q] at e; subst e; obtain ⟨a, vs, e1, e2, _, e3⟩ := z; exact .inr (.inl ⟨ds, a, vs, rfl, e1, e2, e3⟩)
      | lock ds => simp [q] at e; subst e; obtain ⟨a, vs, e1, e2, _, e3⟩ := z; exact .inr (.inl ⟨ds, a, vs, rfl, e1, e2, e3⟩)
theorem RP.tr {p : PV} {v : V} {H0 H0' : Hp} (R : Rep G Ex σ H env) (x : Ext Ex σ H env Ex1 σ H1 env1) (h : RP G H0 Ex H σ p v) : RP G H0' Ex1 H1 σ p v := by
  cases p with
  | d d => exact x.is R h
  | sl i => exact h
  | k ds =>
    obtain ⟨a, vs, e, h1, h2⟩ := h
    exact ⟨a, vs, e, sqt_keep (fun a o e t n => x.keep a o e t fun w => n (R.wr w).1) R.ex h1, x.are R h2⟩
theorem Se.non {v : V} (h : Se G Ex H .non v) : v = .non := by
  rcases h with h | ⟨ds, a, vs, e, _⟩ | ⟨ds, a, vs, e, _⟩
  · unfold Is at h; exact h
  · cases e
  · cases e
theorem Se.bl {b : Bool} {v : V} (h : Se G Ex H (.bl b) v) : v = .bl b := by
  rcases h with h | ⟨ds, a, vs, e, _⟩ | ⟨ds, a, vs, e, _⟩
  · unfold Is at h; exact h
  · cases e
  · cases e
theorem Se.int {i : Int} {v : V} (h : Se G Ex H (.int i) v) : v = .int i := by
  rcases h with h | ⟨ds, a, vs, e, _⟩ | ⟨ds, a, vs, e, _⟩
  · unfold Is at h; exact h
  · cases e
  · cases e
theorem Se.str {i : Str} {v : V} (h : Se G Ex H (.str i) v) : v = .str i := by
  rcases h with h | ⟨ds, a, vs, e, _⟩ | ⟨ds, a, vs, e, _⟩
  · unfold Is at h; exact h
  · cases e
  · cases e
theorem Is.tupE {ds : List D} {v : V} (h : Is G Ex H (.tup ds) v) : ∃ a vs, v = .ref a ∧ H a = some (.tup vs) ∧ Are G Ex H ds vs := by
  unfold Is at h; exact h
theorem Is.lstE {ds : List D} {v : V} (h : Is G Ex H (.lst ds) v) : ∃ a vs, v = .ref a ∧ (H a = some (.lst vs) ∧ ¬ Ex a) ∧ Are G Ex H ds vs := by
  unfold Is at h; exact h
theorem Se.tup {ds : List D} {v : V} (h : Se G Ex H (.tup ds) v) : ∃ a vs, v = .ref a ∧ SqT G.K H a vs ∧ Are G Ex H ds vs := by
  rcases h with h | ⟨ds, a, vs, e, _⟩ | ⟨es, a, vs, e, h⟩
  · obtain ⟨a, vs, e, h1, h2⟩ := h.tupE
    exact ⟨a, vs, e, SqT.of h1, h2⟩
  · cases e
  · cases e
    exact ⟨a, vs, h⟩
theorem Se.lst {ds : List D} {v : V} (h : Se G Ex H (.lst ds) v) : ∃ a vs, v = .ref a ∧ H a = some (.lst vs) ∧ Are G Ex H ds vs := by
  rcases h with h | ⟨es, a, vs, e, h⟩ | ⟨ds, a, vs, e, _⟩
  · obtain ⟨a, vs, e, h1, h2⟩ := h.lstE
    exact ⟨a, vs, e, h1.1, h2⟩
  · cases e
    exact ⟨a, vs, h⟩
  · cases e
theorem Se.scr {ns : List Int} {v : V} (h : Se G Ex H (.scr ns) v) : ∃ a, v = .ref a ∧ ScrAt G H a (ns.map V.int) := by
  rcases h with h | ⟨es, a, vs, e, h⟩ | ⟨es, a, vs, e, h⟩
  · unfold Is at h
    exact h
  · cases e
  · cases e
theorem Se.dct {ks : List Key} {ds : List D} {v : V} (h : Se G Ex H (.dct ks ds) v) : ∃ a kvs, v = .ref a ∧ H a = some (.dK kvs) ∧ kvs.map Prod.fst = ks ∧ Are G Ex H ds (kvs.map Prod.snd) := by
  rcases h with h | ⟨es, a, vs, e, h⟩ | ⟨es, a, vs, e, h⟩
  · unfold Is at h
    exact h
  · cases e
  · cases e
theorem Se.obj {c : Str} {ds : List D} {v : V} (h : Se G Ex H (.obj c ds) v) : ∃ a vs, v = .ref a ∧ ObjAt G H a c vs ∧ Are G Ex H ds vs := by
  rcases h with h | ⟨es, a, vs, e, h⟩ | ⟨es, a, vs, e, h⟩
  · unfold Is at h
    exact h
  · cases e
  · cases e

/-! ### an operation by values -/
/-- what an operation gives: no frame is touched -/
def Yl (G : Gx) (Ex : Addr → Prop) (H : Hp) (o : Option FV) (Q : VK) : Prop :=
  match o with
  | none => False
  | some (.d d) => ∀ H' v, Same H H' → Is G Ex H' d v → Q v H'
  | some (.fr ds) => ∀ H' a vs, Same H H' → H a = none → H' a = some (.lst vs) → Are G (exAdd Ex a) H' ds vs → Q (.ref a) H'
def liftO (o : Option FV) (env : Fm) : Option (Rs FV) := o.map fun v => .ok v env
theorem Po.yl {o : Option FV} {Q : VK} (R : Rep G Ex σ H env) (p : Po G W (RF G) Ex σ H env (liftO o env) Q) : Yl G Ex H o Q := by
  cases o with
  | none => exact p
  | some v =>
    cases v with
    | d d => exact fun H' v hs h => p Ex H' v (Ext.grow hs) (Sub.refl _) (R.grow hs) h
    | fr ds => exact fun H' a vs hs hn ha h => p (exAdd Ex a) H' (.ref a) (Ext.add hs hn) (Sub.refl _) (R.add hs hn ha) ⟨a, vs, rfl, hn, .inr rfl, ha, h⟩
theorem Yl.d {d : D} {v : V} {Q : VK} (y : Yl G Ex H (some (.d d)) Q) (h : Is G Ex H d v) : Q v H := y H v (Same.refl _) h
theorem Yl.tup {ds : List D} {vs : List V} {Q : VK} (R : ExL Ex H) (y : Yl G Ex H (some (.d (.tup ds))) Q) (h : Are G Ex H ds vs) {p : Addr} (hp : H p = none) : Q (.ref p) (upd H p (.tup vs)) := by
  refine y _ _ (same_new hp) ?_
  unfold Is
  exact ⟨p, vs, rfl, upd_same, h.grow R (same_new hp)⟩
theorem Yl.lst {ds : List D} {vs : List V} {Q : VK} (R : ExL Ex H) (y : Yl G Ex H (some (.fr ds)) Q) (h : Are G Ex H ds vs) {p : Addr} (hp : H p = none) : Q (.ref p) (upd H p (.lst vs)) :=
  y _ _ vs (same_new hp) hp upd_same (h.add R (same_new hp) hp)
def ap1 (g : D → Option FV) (f : Ev PV) : Ev FV := fun env => bindR (f env) fun p env1 => match deref env1 p with
  | some d => liftO (g d) env1
  | none => none
def ap2 (g : D → D → Option FV) (fa fb : Ev PV) : Ev FV := fun env => bindR (fa env) fun p env1 => bindR (fb env1) fun q env2 => match deref env2 p, deref env2 q with
  | some d, some e => liftO (g d e) env2
  | _, _ => none
def apE (g : D → Option FV) (f : Ev D) : Ev FV := fun env => bindR (f env) fun d env1 => liftO (g d) env1
theorem apE_ok {g : D → Option FV} {r : V → Hp → VK → Prop} {e : Expr} {f : Ev D} {Q : VK} (hg : ∀ Ex H d x Q, ExL Ex H → Is G Ex H d x → Yl G Ex H (g d) Q → r x H Q) (h : tX G W (RF G) (apE g f) σ H Q) :
    tX G W (RD G) f σ H fun x H1 => r x H1 Q := by
  obtain ⟨Ex, env, R, p⟩ := h
  exact ⟨Ex, env, R, Po.step stm_RF R p fun a env1 Ex1 H1 x _ xt sb R1 q p1 => hg Ex1 H1 a x Q R1.ex q (p1.yl R1)⟩
/-- the common part of the rules for operations: the operation's own rule, by values -/
theorem ap1_ok {g : D → Option FV} {r : V → Hp → VK → Prop} {e : Expr} {f : Ev PV} {Q : VK} (hg : ∀ Ex H d x Q, ExL Ex H → Se G Ex H d x → Yl G Ex H (g d) Q → r x H Q) (h : tX G W (RF G) (ap1 g f) σ H Q) :
    tX G W (RP G) f σ H fun x H1 => r x H1 Q := by
  obtain ⟨Ex, env, R, p⟩ := h
  refine ⟨Ex, env, R, Po.step stm_RF R p fun a env1 Ex1 H1 x _ xt sb R1 q p1 => ?_⟩
  cases z : deref env1 a with
  | none => simp [z] at p1; exact False.elim p1
  | some d =>
    simp only [z] at p1
    exact hg Ex1 H1 d x Q R1.ex (se_of R1 q z) (p1.yl R1)
theorem ap2_ok {g : D → D → Option FV} {r : R2} {fa fb : Ev PV} {Q : VK} (hg : ∀ Ex H d e x y Q, ExL Ex H → Se G Ex H d x → Se G Ex H e y → Yl G Ex H (g d e) Q → r x y H Q) (h : tX G W (RF G) (ap2 g fa fb) σ H Q) :
    tX G W (RP G) fa σ H fun x H1 => tX G W (RP G) fb σ H1 fun y H2 => r x y H2 Q := by
  obtain ⟨Ex, env, R, p⟩ := h
  refine ⟨Ex, env, R, Po.step stm_RF R p fun a env1 Ex1 H1 x _ xt sb R1 q p1 => ⟨Ex1, env1, R1, Po.step stm_RF R1 p1 fun b env2 Ex2 H2 y _ xt2 sb2 R2 q2 p2 => ?_⟩⟩
  have q' := q.tr (H0' := H) R1 xt2
  cases z : deref env2 a with
  | none => simp [z] at p2; exact False.elim p2
  | some d =>
    cases z2 : deref env2 b with
    | none => simp [z, z2] at p2; exact False.elim p2
    | some d2 =>
      simp only [z, z2] at p2
      exact hg Ex2 H2 d d2 x y Q R2.ex (se_of R2 q' z) (se_of R2 q2 z2) (p2.yl R2)
end
end Nol

set_option Elab.async false
set_option linter.all false
set_option maxRecDepth 100000
set_option maxHeartbeats 4000000
/-! Nol, part C: the rules for expressions. -/
namespace Nol
open PySem PySem.Spec PyProof.Rows L2

/-- where one stands: the written part is the one that G tells, there is room for calls, no repr runs -/
structure XG (G : Gx) (gf : Bool) (k : Nat) (X : Cx) : Prop where
  K : X.K = G.K
  nd : X.N.Nodup
  calm : X.calm = true
  room : Room k X.A
  gd : gf = true → X.A.guards = some []
  bl : ∀ x : Str, x ∈ (["len", "int", "str", "sum", "max", "min", "abs", "list", "tuple", "all", "any", "repr", "isinstance", "range", "enumerate", "zip", "sorted", "set", "bool", "dict"] : List Str) → X.mg x = none
theorem XG.hu {G : Gx} {gf : Bool} {k : Nat} {X : Cx} (h : XG G gf k X) : X.A.units + 65 < cLine := by have := h.room.un; omega

section
variable {G : Gx} {X : Cx} {k : Nat} {gf : Bool} {pos p : Pos}

/-! ### constants, names -/
def evC (d : D) : Ev D := fun env => some (.ok d env)
theorem de_const {e : Expr} {v : V} {d : D} (h : PE X e (tC v)) (hd : ∀ Ex H, Is G Ex H d v) : DE G X e (evC d) :=
  ⟨fun W tk => pe_weak h fun σ H Q ⟨Ex, env, R, p⟩ => p.done R (hd _ _)⟩
theorem de_int {i : Int} {j : Nat} : DE G X (.Constant (.int i) j pos) (evC (.int i)) := de_const pe_int fun _ _ => by unfold Is; rfl
theorem de_str {i : Str} {j : Nat} : DE G X (.Constant (.str i) j pos) (evC (.str i)) := de_const pe_str fun _ _ => by unfold Is; rfl
theorem de_bl {i : Bool} {j : Nat} : DE G X (.Constant (.bool i) j pos) (evC (.bl i)) := de_const pe_bl fun _ _ => by unfold Is; rfl
theorem de_non {j : Nat} : DE G X (.Constant .none j pos) (evC .non) := de_const pe_non fun _ _ => by unfold Is; rfl
/-- a constant of the text's top: a number, a text -/
theorem de_globS {x : Str} {s : Str} {t : Tok} (hg : Gl X x) (hm : X.mg x = some (.str s t)) (hd : (x == ("__debug__" : Str)) = false := by decide) : DE G X (.Name x pos) (evC (.str s)) :=
  de_const (v := .str s) (pe_glob hg hm ⟨t, rfl⟩ hd) fun _ _ => by unfold Is; rfl
theorem de_globI {x : Str} {s : Int} {t : Tok} (hg : Gl X x) (hm : X.mg x = some (.int s t)) (hd : (x == ("__debug__" : Str)) = false := by decide) : DE G X (.Name x pos) (evC (.int s)) :=
  de_const (v := .int s) (pe_glob hg hm ⟨t, rfl⟩ hd) fun _ _ => by unfold Is; rfl

def varP (i : Nat) : Ev PV := fun env => match env[i]? with
  | some (.v d) => some (.ok (.d d) env)
  | some (.own _) => some (.ok (.sl i) env)
  | some (.par _) => some (.ok (.sl i) env)
  | some (.lock _) => some (.ok (.sl i) env)
  | _ => none
theorem slot_get {Ex : Addr → Prop} {σ : St} {H : Hp} {env : Fm} (R : Rep G Ex σ H env) {i : Nat} {s : Sl} (e : env[i]? = some s) (hs : s ≠ .un) : ∃ v, σ[i]? = some (some v) ∧ SlIs G Ex H s (some v) := by
  have hi : i < σ.length := by rw [R.len]; exact (List.getElem?_eq_some_iff.mp e).1
  have q : σ[i]? = some σ[i] := List.getElem?_eq_getElem hi
  have z := R.sl i _ s q e
  cases w : σ[i] with
  | none =>
    rw [w] at z
    cases s <;> first | exact absurd rfl hs | exact z.elim
  | some v =>
    rw [w] at q z
    exact ⟨v, q, z⟩
theorem dp_var {i : Nat} {x : Str} (h : PE X (.Name x pos) (tVar i)) : DP G X (.Name x pos) (varP i) := by
  refine ⟨fun W tk => pe_weak h fun σ H Q ⟨Ex, env, R, p⟩ => ?_⟩
  unfold varP at p
  cases e : env[i]? with
  | none => simp [e] at p; exact p.elim
  | some s =>
    cases s with
    | un => simp [e] at p; exact p.elim
    | v d =>
      simp only [e] at p
      obtain ⟨v, q, z⟩ := slot_get R e (by simp)
      exact ⟨v, q, p.done R z⟩
    | own d =>
      simp only [e] at p
      obtain ⟨v, q, z⟩ := slot_get R e (by simp)
      exact ⟨v, q, p.done R q⟩
    | par d =>
      simp only [e] at p
      obtain ⟨v, q, z⟩ := slot_get R e (by simp)
      exact ⟨v, q, p.done R q⟩
    | lock d =>
      simp only [e] at p
      obtain ⟨v, q, z⟩ := slot_get R e (by simp)
      exact ⟨v, q, p.done R q⟩
/-- a tuple of the text's top, looked at -/
theorem dp_globT {x : Str} {a : Addr} {ds : List D} {vs : List V} (hK : X.K = G.K) (hg : Gl X x) (hm : X.mg x = some (.ref a)) (ht : ∀ H, SqT G.K H a vs) (hd : ∀ Ex H, Are G Ex H ds vs) (hdb : (x == ("__debug__" : Str)) = false := by decide) :
    DP G X (.Name x pos) (fun env => some (.ok (.k ds) env)) :=
  ⟨fun W tk => pe_weak (pe_glob hg hm (v := .ref a) rfl hdb) fun σ H Q ⟨Ex, env, R, p⟩ => p.done R ⟨a, vs, rfl, ht H, hd Ex H⟩⟩

/-- a list that was the frame's own is data from now on -/
def varE (i : Nat) : Ev D := fun env => match env[i]? with
  | some (.v d) => some (.ok d env)
  | some (.own ds) => some (.ok (.lst ds) (env.set i (.v (.lst ds))))
  | _ => none
theorem set_holds {σ : St} {env : Fm} {i j : Nat} {d : D} {a : Addr} (h : Holds σ (env.set i (.v d)) j a) : Holds σ env j a ∧ j ≠ i := by
  obtain ⟨q, s, e, m⟩ := h
  rw [List.getElem?_set] at e
  split at e
  · split at e
    · cases e; cases m
    · cases e
  · rename_i hne
    exact ⟨⟨q, s, e, m⟩, fun z => hne z.symm⟩
theorem freeze {Ex : Addr → Prop} {σ : St} {H : Hp} {env : Fm} (R : Rep G Ex σ H env) {i : Nat} {ds : List D} (e : env[i]? = some (.own ds)) :
    ∃ a vs, σ[i]? = some (some (.ref a)) ∧ H a = some (.lst vs) ∧ Ext Ex σ H env (exDel Ex a) σ H (env.set i (.v (.lst ds))) ∧ Sub env (env.set i (.v (.lst ds))) ∧ Rep G (exDel Ex a) σ H (env.set i (.v (.lst ds))) ∧ Is G (exDel Ex a) H (.lst ds) (.ref a) := by
  obtain ⟨v, q, a, vs, rfl, ha, ea, hr⟩ := slot_get R e (by simp)
  have hi : i < env.length := (List.getElem?_eq_some_iff.mp e).1
  have own : Ow σ env a := ⟨i, ds, e, q⟩
  have isd := Is.settle (G := G) R.ex ha hr
  refine ⟨a, vs, q, ha, ⟨fun _ _ h _ _ => h, fun _ h => h, fun b h => .inl h.1, fun b h n => ⟨h, fun z => n (by rw [z]; exact own)⟩, fun b h => .inl ?_, fun b h => ?_⟩, ⟨by simp, fun j s s' e1 e2 => ?_⟩, ⟨by simp [R.len], fun j o s e1 e2 => ?_, fun j l b h1 h2 => R.dj j l b (set_holds h1).1 (set_holds h2).1, (fun b h => R.ex b h.1), R.tb⟩, isd⟩
  · obtain ⟨j, es, e1, e2⟩ := h
    rw [List.getElem?_set] at e1
    split at e1
    · first | cases e1 | (split at e1 <;> cases e1)
    · exact ⟨j, es, e1, e2⟩
  · obtain ⟨j, es, e1, e2⟩ := h
    rw [List.getElem?_set] at e1
    split at e1
    · first | cases e1 | (split at e1 <;> cases e1)
    · exact ⟨j, es, e1, e2⟩
  · rw [List.getElem?_set] at e2
    split at e2
    · rename_i hij
      subst hij
      rw [e] at e1
      cases e1
      cases e2
      trivial
    · rw [e1] at e2
      cases e2
      exact SlSub.refl _
  · rw [List.getElem?_set] at e2
    split at e2
    · rename_i hij
      subst hij
      rw [q] at e1
      cases e1
      cases e2
      exact isd
    · rename_i hij
      refine SlIs.keep (fun _ _ h _ _ => h) R.ex (fun _ h => .inl h.1) (fun b us m eo nb hb => ⟨⟨nb, fun z => hij ?_⟩, hb⟩) (R.sl j o s e1 e2)
      subst z
      exact R.dj i j b ⟨q, _, e, rfl⟩ ⟨by rw [e1, eo], s, e2, m⟩
theorem de_var {i : Nat} {x : Str} (h : PE X (.Name x pos) (tVar i)) : DE G X (.Name x pos) (varE i) := by
  refine ⟨fun W tk => pe_weak h fun σ H Q ⟨Ex, env, R, p⟩ => ?_⟩
  unfold varE at p
  cases e : env[i]? with
  | none => simp [e] at p; exact p.elim
  | some s =>
    cases s with
    | un => simp [e] at p; exact p.elim
    | v d =>
      simp only [e] at p
      obtain ⟨v, q, z⟩ := slot_get R e (by simp)
      exact ⟨v, q, p.done R z⟩
    | own ds =>
      simp only [e] at p
      obtain ⟨a, vs, q, ha, x, s, R', isd⟩ := freeze R e
      exact ⟨_, q, p _ H _ x s R' isd⟩
    | par d => simp [e] at p; exact p.elim
    | lock d => simp [e] at p; exact p.elim

/-! ### rows of expressions, tuples, lists -/
def evNil : Ev (List D) := fun env => some (.ok [] env)
def evCons (f : Ev D) (g : Ev (List D)) : Ev (List D) := fun env => bindR (f env) fun d env1 => bindR (g env1) fun ds env2 => some (.ok (d :: ds) env2)
variable {e a b c : Expr} {es : List Expr}
theorem da_nil : DA G X [] evNil := ⟨fun W tk => pa_weak pa_nil fun σ H Q ⟨Ex, env, R, p⟩ => p.done R Are.nil⟩
theorem da_cons {f : Ev D} {g : Ev (List D)} (h1 : DE G X e f) (h2 : DA G X es g) (hs : starEach (e :: es) X.env = (false, eval e X.env) :: starEach es X.env := by rfl) : DA G X (e :: es) (evCons f g) := by
  refine ⟨fun W tk => pa_weak (pa_cons (h1.run W tk) (h2.run W tk) hs) fun σ H Q ⟨Ex, env, R, p⟩ => ⟨Ex, env, R, Po.step stm_RA R p fun d env1 Ex1 H1 x _ xt sb R1 q p1 => ⟨Ex1, env1, R1, Po.step stm_RA R1 p1 fun ds env2 Ex2 H2 xs _ xt2 sb2 R2 q2 p2 => ?_⟩⟩⟩
  exact p2.done R2 (Are.cons (xt2.is R1 q) q2)
def ckLen (n : Nat) : Bool := decide (n ≤ 1000)
theorem ckLen_line {n : Nat} (h : ckLen n = true) : n ≤ sizeLine := by
  have := of_decide_eq_true h
  rw [sizeLine_eq]
  omega
def evTup (g : Ev (List D)) : Ev D := fun env => bindR (g env) fun ds env1 => if ckLen ds.length = true then some (.ok (.tup ds) env1) else none
def evLst (g : Ev (List D)) : Ev FV := fun env => bindR (g env) fun ds env1 => if ckLen ds.length = true then some (.ok (.fr ds) env1) else none
theorem de_tup {g : Ev (List D)} {k : Nat} (h : DA G X es g) : DE G X (.Tuple es k pos) (evTup g) := by
  refine ⟨fun W tk => pe_weak (pe_tup (h.run W tk)) fun σ H Q ⟨Ex, env, R, p⟩ => ⟨Ex, env, R, Po.step stm_RD R p fun ds env1 Ex1 H1 xs _ xt sb R1 q p1 => ?_⟩⟩
  by_cases hc : ckLen ds.length = true
  · rw [if_pos hc] at p1
    refine ⟨by rw [Are.length q]; exact ckLen_line hc, fun r hr => ?_⟩
    refine p1 Ex1 _ _ (Ext.grow (same_new hr)) (Sub.refl _) (R1.grow (same_new hr)) ?_
    show Is G Ex1 _ _ _
    unfold Is
    exact ⟨r, xs, rfl, upd_same, Are.grow R1.ex (same_new hr) q⟩
  · rw [if_neg hc] at p1
    exact p1.elim
theorem df_lst {g : Ev (List D)} (h : DA G X es g) : DF G X (.List es pos) (evLst g) := by
  refine ⟨fun W tk => pe_weak (pe_lst (h.run W tk)) fun σ H Q ⟨Ex, env, R, p⟩ => ⟨Ex, env, R, Po.step stm_RF R p fun ds env1 Ex1 H1 xs _ xt sb R1 q p1 => ?_⟩⟩
  by_cases hc : ckLen ds.length = true
  · rw [if_pos hc] at p1
    refine ⟨by rw [Are.length q]; exact ckLen_line hc, fun r hr => ?_⟩
    exact p1 (exAdd Ex1 r) _ _ (Ext.add (same_new hr) hr) (Sub.refl _) (R1.add (same_new hr) hr upd_same) ⟨r, xs, rfl, hr, .inr rfl, upd_same, Are.add R1.ex (same_new hr) hr q⟩
  · rw [if_neg hc] at p1
    exact p1.elim

/-! ### operators -/
theorem df_bin {op : Operator} {r : R2} {g : D → D → Option FV} {fa fb : Ev PV} (ho : OpR X (binaryOp op) r) (hg : ∀ Ex H d e x y Q, ExL Ex H → Se G Ex H d x → Se G Ex H e y → Yl G Ex H (g d e) Q → r x y H Q) (ha : DP G X a fa) (hb : DP G X b fb) :
    DF G X (.BinOp a op b pos) (ap2 g fa fb) := ⟨fun W tk => pe_weak (pe_op ho (ha.run W tk) (hb.run W tk)) fun σ H Q h => ap2_ok hg h⟩
theorem df_un {op : UnaryOp} {r : V → Hp → VK → Prop} {g : D → Option FV} {fa : Ev PV} (ho : UnR X (unaryOp op) r) (hg : ∀ Ex H d x Q, ExL Ex H → Se G Ex H d x → Yl G Ex H (g d) Q → r x H Q) (ha : DP G X a fa) :
    DF G X (.UnaryOp op a pos) (ap1 g fa) := ⟨fun W tk => pe_weak (pe_un ho (ha.run W tk)) fun σ H Q h => ap1_ok (e := a) hg h⟩
theorem df_cmp {op : CmpOp} {r : R2} {g : D → D → Option FV} {fa fb : Ev PV} (ho : OpR X (compareOp op) r) (hg : ∀ Ex H d e x y Q, ExL Ex H → Se G Ex H d x → Se G Ex H e y → Yl G Ex H (g d e) Q → r x y H Q) (ha : DP G X a fa) (hb : DP G X b fb) (hm : behindInMarks op b = false) :
    DF G X (.Compare a [op] [b] pos) (ap2 g fa fb) := ⟨fun W tk => pe_weak (pe_cmpR ho (ha.run W tk) (hb.run W tk) hm) fun σ H Q h => ap2_ok hg h⟩

/-- ints alone -/
def iiD (c : Int → Int → Bool) (g : Int → Int → Int) : D → D → Option FV
  | .int i, .int j => if c i j = true then some (.d (.int (g i j))) else none
  | _, _ => none
@[simp] theorem iiD_int (c : Int → Int → Bool) (g : Int → Int → Int) (i j : Int) : iiD c g (.int i) (.int j) = if c i j = true then some (.d (.int (g i j))) else none := rfl
theorem iiD_ok {C : Int → Int → Prop} {c : Int → Int → Bool} {g : Int → Int → Int} (hc : ∀ i j, c i j = true → C i j) : ∀ Ex H d e x y Q, ExL Ex H → Se G Ex H d x → Se G Ex H e y → Yl G Ex H (iiD c g d e) Q → rI C (fun i j => V.int (g i j)) x y H Q := by
  intro Ex H d e x y Q hl h1 h2 h
  cases d with
  | int i =>
    cases e with
    | int j =>
      rw [iiD_int] at h
      by_cases hc' : c i j = true
      · rw [if_pos hc'] at h
        exact ⟨i, j, h1.int, h2.int, hc i j hc', h.d (by unfold Is; rfl)⟩
      · rw [if_neg hc'] at h
        exact h.elim
    | _ => exact h.elim
  | _ => exact h.elim
theorem rI0_of {g : Int → Int → V} {x y : V} {H : Hp} {Q : VK} (h : rI (fun _ _ => True) g x y H Q) : rI0 g x y H Q := by
  obtain ⟨i, j, e1, e2, _, q⟩ := h
  exact ⟨i, j, e1, e2, q⟩
abbrev yes2 : Int → Int → Bool := fun _ _ => true
theorem iiD0_ok {g : Int → Int → Int} : ∀ Ex H d e x y Q, ExL Ex H → Se G Ex H d x → Se G Ex H e y → Yl G Ex H (iiD yes2 g d e) Q → rI0 (fun i j => V.int (g i j)) x y H Q :=
  fun Ex H d e x y Q hl h1 h2 h => rI0_of (iiD_ok (C := fun _ _ => True) (fun _ _ _ => trivial) Ex H d e x y Q hl h1 h2 h)
def subD : D → D → Option FV := iiD yes2 fun i j => i - j
theorem df_sub {fa fb : Ev PV} (ha : DP G X a fa) (hb : DP G X b fb) : DF G X (.BinOp a .Sub b pos) (ap2 subD fa fb) := df_bin op_sub iiD0_ok ha hb
/-- products: one side below 2 ^ 64, or both together below a million bits -/
def mulC (i j : Int) : Bool := decide (i.natAbs.log2 + j.natAbs.log2 + 2 ≤ 900000)
def modC (_ j : Int) : Bool := decide (0 < j)
def modD : D → D → Option FV := iiD modC fun i j => i % j
theorem df_mod {fa fb : Ev PV} (ha : DP G X a fa) (hb : DP G X b fb) : DF G X (.BinOp a .Mod b pos) (ap2 modD fa fb) := df_bin op_mod (iiD_ok fun _ _ h => of_decide_eq_true h) ha hb
def andD : D → D → Option FV := iiD yes2 Builtin.bitAnd
def orD : D → D → Option FV := iiD yes2 Builtin.bitOr
def xorD : D → D → Option FV := iiD yes2 Builtin.bitXor
theorem df_and {fa fb : Ev PV} (ha : DP G X a fa) (hb : DP G X b fb) : DF G X (.BinOp a .BitAnd b pos) (ap2 andD fa fb) := df_bin op_and iiD0_ok ha hb
theorem df_or {fa fb : Ev PV} (ha : DP G X a fa) (hb : DP G X b fb) : DF G X (.BinOp a .BitOr b pos) (ap2 orD fa fb) := df_bin op_or iiD0_ok ha hb
theorem df_xor {fa fb : Ev PV} (ha : DP G X a fa) (hb : DP G X b fb) : DF G X (.BinOp a .BitXor b pos) (ap2 xorD fa fb) := df_bin op_xor iiD0_ok ha hb
def shC (i j : Int) : Bool := decide (0 ≤ j) && decide (j ≤ 1000000) && decide (i.natAbs < 2 ^ 64)
def shlD : D → D → Option FV := iiD shC fun i j => i * 2 ^ j.toNat
def powC (i j : Int) : Bool := decide (0 ≤ j) && decide (((i.natAbs.log2 + 1 : Nat) : Int) * j ≤ 2 ^ 27)
def powD : D → D → Option FV := iiD powC fun i j => i ^ j.toNat
theorem op_powG : OpR X (binaryOp .Pow) (rI (fun i j => powC i j = true) fun i j => .int (i ^ j.toNat)) := opI fun i j _ _ _ _ _ hc q => by
  unfold powC at hc
  simp only [Bool.and_eq_true, decide_eq_true_eq] at hc
  refine pow_int hc.1 (Int.le_trans (Int.mul_le_mul_of_nonneg_right ?_ hc.1) hc.2) q
  have : Builtin.Int.intBits i ≤ i.natAbs.log2 + 1 := by
    unfold Builtin.Int.intBits
    split <;> omega
  omega
def shrC (_ j : Int) : Bool := decide (0 ≤ j)
def shrD : D → D → Option FV := iiD shrC fun i j => i / 2 ^ j.toNat
theorem shC_ok (i j : Int) (h : shC i j = true) : CPow i j := by
  unfold shC at h
  simp only [Bool.and_eq_true, decide_eq_true_eq] at h
  exact ⟨h.1.1, h.1.2, h.2⟩
theorem df_shl {fa fb : Ev PV} (ha : DP G X a fa) (hb : DP G X b fb) : DF G X (.BinOp a .LShift b pos) (ap2 shlD fa fb) := df_bin op_shl (iiD_ok shC_ok) ha hb
theorem df_pow {fa fb : Ev PV} (ha : DP G X a fa) (hb : DP G X b fb) : DF G X (.BinOp a .Pow b pos) (ap2 powD fa fb) := df_bin op_powG (iiD_ok fun _ _ h => h) ha hb
theorem df_shr {fa fb : Ev PV} (ha : DP G X a fa) (hb : DP G X b fb) : DF G X (.BinOp a .RShift b pos) (ap2 shrD fa fb) := df_bin op_shr (iiD_ok fun _ _ h => of_decide_eq_true h) ha hb
end
end Nol

set_option Elab.async false
set_option linter.all false
set_option maxRecDepth 100000
set_option maxHeartbeats 4000000
/-! Nol, part D: further rules for expressions: sums and products of things of any kind, equality, tests, places, slices. -/
namespace Nol
open PySem PySem.Spec PyProof.Rows L2

mutual
def py : D → PyData
  | .non => .none
  | .bl b => .bool b
  | .int i => .int i
  | .str s => .str s
  | .tup ds => .tuple (pys ds)
  | .lst ds => .list (pys ds)
  | .dct _ _ => .dict []
  | .obj _ _ => .none
  | .scr _ => .none
def pys : List D → List PyData
  | [] => []
  | d :: ds => py d :: pys ds
end
/-- data of none, truths, ints, texts, tuples and lists, no more than n deep -/
def shp : Nat → D → Bool
  | _, .non => true
  | _, .bl _ => true
  | _, .int _ => true
  | _, .str s => PyData.strOk s
  | n + 1, .tup ds => ds.all (shp n)
  | n + 1, .lst ds => ds.all (shp n)
  | _, _ => false
theorem pys_shape {n : Nat} (ih : ∀ d, shp n d = true → (py d).canLay0 = true ∧ (py d).depth ≤ n) : ∀ ds : List D, ds.all (shp n) = true → PyData.canLayAll0 (pys ds) = true ∧ PyData.depthAll (pys ds) ≤ n
  | [], _ => by simp [pys, PyData.canLayAll0, PyData.depthAll]
  | d :: ds, h => by
    simp only [List.all_cons, Bool.and_eq_true] at h
    obtain ⟨a1, a2⟩ := ih d h.1
    obtain ⟨b1, b2⟩ := pys_shape ih ds h.2
    simp only [pys, PyData.canLayAll0, PyData.depthAll, a1, b1, Bool.and_self, true_and]
    omega
theorem shp_ok : ∀ (n : Nat) (d : D), shp n d = true → (py d).canLay0 = true ∧ (py d).depth ≤ n
  | n, .non, _ => by simp [py, PyData.canLay0, PyData.depth]
  | n, .bl _, _ => by simp [py, PyData.canLay0, PyData.depth]
  | n, .int _, _ => by simp [py, PyData.canLay0, PyData.depth]
  | n, .str s, h => by
    have h : PyData.strOk s = true := by cases n <;> exact h
    simp [py, PyData.canLay0, PyData.depth, h]
  | n + 1, .tup ds, h => by
    obtain ⟨a1, a2⟩ := pys_shape (shp_ok n) ds h
    simp only [py, PyData.canLay0, PyData.depth, a1, true_and]
    omega
  | n + 1, .lst ds, h => by
    obtain ⟨a1, a2⟩ := pys_shape (shp_ok n) ds h
    simp only [py, PyData.canLay0, PyData.depth, a1, true_and]
    omega
  | 0, .tup ds, h => by cases h
  | 0, .lst ds, h => by cases h
  | 0, .dct _ _, h => by cases h
  | n + 1, .dct _ _, h => by cases h
  | 0, .obj _ _, h => by cases h
  | n + 1, .obj _ _, h => by cases h
  | 0, .scr _, h => by cases h
  | n + 1, .scr _, h => by cases h
theorem shaped_of {d : D} (h : shp 50 d = true) : SeqAt.shaped (py d) = true := by
  obtain ⟨a1, a2⟩ := shp_ok 50 d h
  unfold SeqAt.shaped
  simp only [a1, Bool.true_and, decide_eq_true_eq]
  omega
section
variable {G : Gx} {Ex : Addr → Prop} {H : Hp}
theorem shp_all {n : Nat} {ds : List D} (h : shp (n + 1) (.tup ds) = true ∨ shp (n + 1) (.lst ds) = true) : ∀ d ∈ ds, shp n d = true := by
  have h : ds.all (shp n) = true := h.elim id id
  exact fun d hd => List.all_eq_true.mp h d hd
theorem dps_of {n : Nat} (ih : ∀ d v, shp n d = true → Is G Ex H d v → Dp G.K H v (py d)) : ∀ (ds : List D) (vs : List V), (∀ d ∈ ds, shp n d = true) → Are G Ex H ds vs → DpAll G.K H vs (pys ds)
  | [], vs, _, h => by
    unfold Are at h
    subst h
    exact .nil
  | d :: ds, vs, hs, h => by
    unfold Are at h
    obtain ⟨v, r, rfl, h1, h2⟩ := h
    exact .cons (ih d v (hs d List.mem_cons_self) h1) (dps_of ih ds r (fun d hd => hs d (List.mem_cons_of_mem _ hd)) h2)
theorem dp_is : ∀ (n : Nat) (d : D) (v : V), shp n d = true → Is G Ex H d v → Dp G.K H v (py d)
  | n, .non, v, _, h => by
    unfold Is at h
    subst h
    exact .non
  | n, .bl _, v, _, h => by
    unfold Is at h
    subst h
    exact .bl _
  | n, .int _, v, _, h => by
    unfold Is at h
    subst h
    exact .int _
  | n, .str s, v, _, h => by
    unfold Is at h
    subst h
    exact .str _
  | n + 1, .tup ds, v, hs, h => by
    obtain ⟨a, vs, rfl, h1, h2⟩ := h.tupE
    exact .tup (SqT.of h1) (dps_of (dp_is n) ds vs (shp_all (.inl hs)) h2)
  | n + 1, .lst ds, v, hs, h => by
    obtain ⟨a, vs, rfl, h1, h2⟩ := h.lstE
    exact .lst (SqL.of h1.1) (dps_of (dp_is n) ds vs (shp_all (.inr hs)) h2)
  | 0, .tup ds, v, h, _ => by cases h
  | 0, .lst ds, v, h, _ => by cases h
  | 0, .dct _ _, v, h, _ => by cases h
  | n + 1, .dct _ _, v, h, _ => by cases h
  | 0, .obj _ _, v, h, _ => by cases h
  | n + 1, .obj _ _, v, h, _ => by cases h
  | 0, .scr _, v, h, _ => by cases h
  | n + 1, .scr _, v, h, _ => by cases h
theorem dp_se {n : Nat} {d : D} {v : V} (hs : shp (n + 1) d = true) (h : Se G Ex H d v) : Dp G.K H v (py d) := by
  rcases h with h | ⟨ds, a, vs, rfl, rfl, h1, h2⟩ | ⟨ds, a, vs, rfl, rfl, h1, h2⟩
  · exact dp_is _ d v hs h
  · exact .lst (SqL.of h1) (dps_of (dp_is n) ds vs (shp_all (.inr hs)) h2)
  · exact .tup h1 (dps_of (dp_is n) ds vs (shp_all (.inl hs)) h2)
theorem Yl.bl {b : Bool} {Q : VK} (y : Yl G Ex H (some (.d (.bl b))) Q) : Q (.bl b) H := y.d (by unfold Is; rfl)
theorem Yl.int {b : Int} {Q : VK} (y : Yl G Ex H (some (.d (.int b))) Q) : Q (.int b) H := y.d (by unfold Is; rfl)
theorem Yl.str {b : Str} {Q : VK} (y : Yl G Ex H (some (.d (.str b))) Q) : Q (.str b) H := y.d (by unfold Is; rfl)

/-! ### equality, in -/
def eqB (d e : D) : Bool := PyData.eqv (py d) (py e)
def eqD (d e : D) : Option FV := if (shp 50 d && shp 50 e) = true then some (.d (.bl (eqB d e))) else none
def neD (d e : D) : Option FV := if (shp 50 d && shp 50 e) = true then some (.d (.bl (!eqB d e))) else none
theorem eqD_ok {K : PySem.W.Frag} (hK : K = G.K) : ∀ Ex H d e x y Q, ExL Ex H → Se G Ex H d x → Se G Ex H e y → Yl G Ex H (eqD d e) Q → rEqD K x y H Q := by
  intro Ex H d e x y Q hl h1 h2 h
  unfold eqD at h
  by_cases hc : (shp 50 d && shp 50 e) = true
  · rw [if_pos hc] at h
    rw [Bool.and_eq_true] at hc
    subst hK
    exact ⟨py d, py e, dp_se hc.1 h1, dp_se hc.2 h2, shaped_of hc.1, shaped_of hc.2, h.bl⟩
  · rw [if_neg hc] at h
    exact h.elim
theorem neD_ok {K : PySem.W.Frag} (hK : K = G.K) : ∀ Ex H d e x y Q, ExL Ex H → Se G Ex H d x → Se G Ex H e y → Yl G Ex H (neD d e) Q → rNeD K x y H Q := by
  intro Ex H d e x y Q hl h1 h2 h
  unfold neD at h
  by_cases hc : (shp 50 d && shp 50 e) = true
  · rw [if_pos hc] at h
    rw [Bool.and_eq_true] at hc
    subst hK
    exact ⟨py d, py e, dp_se hc.1 h1, dp_se hc.2 h2, shaped_of hc.1, shaped_of hc.2, h.bl⟩
  · rw [if_neg hc] at h
    exact h.elim
def rInT (K : PySem.W.Frag) (neg : Bool) : R2 := fun x y H Q => ∃ d ds, Dp K H x d ∧ Dp K H y (.tuple ds) ∧ SeqAt.shaped d = true ∧ SeqAt.shaped (.tuple ds) = true ∧ Q (.bl (if neg then !ds.any fun z => PyData.eqv z d else ds.any fun z => PyData.eqv z d)) H
theorem op_inT {X : Cx} (hu : X.A.units + 65 < cLine) : OpR X (compareOp .In) (rInT X.K false) := by
  intro pins s σ H x y v u Q I rx ry h
  obtain ⟨d, ds, hd, he, sd, se, q⟩ := h
  obtain ⟨as, r1⟩ := Dp.reads I d x v hd rx
  obtain ⟨bs, r2⟩ := Dp.reads I (.tuple ds) y u he ry
  exact SeqAt.in_tuple_reads r2 r1 (SeqAt.canLay_of_shaped se) (SeqAt.canLay_of_shaped sd) (room_in_shaped sd hu) ⟨.bl _, H, I, rfl, q⟩
theorem op_notInT {X : Cx} (hu : X.A.units + 65 < cLine) : OpR X (compareOp .NotIn) (rInT X.K true) := by
  intro pins s σ H x y v u Q I rx ry h
  obtain ⟨d, ds, hd, he, sd, se, q⟩ := h
  obtain ⟨as, r1⟩ := Dp.reads I d x v hd rx
  obtain ⟨bs, r2⟩ := Dp.reads I (.tuple ds) y u he ry
  exact SeqAt.notIn_tuple_reads r2 r1 (SeqAt.canLay_of_shaped se) (SeqAt.canLay_of_shaped sd) (room_in_shaped sd hu) ⟨.bl _, H, I, rfl, q⟩
def isIn (d : D) (ds : List D) : Bool := ds.any fun z => eqB z d
/-- the sign that a text of one sign is -/
def sign? (s : Str) : Option Nat := match s.cps.toList with
  | [c] => some c
  | _ => none
theorem sign?_eq {s : Str} {c : Nat} (h : sign? s = some c) : s = ⟨#[c]⟩ := by
  unfold sign? at h
  split at h
  · rename_i c' e
    cases h
    obtain ⟨a⟩ := s
    obtain ⟨l⟩ := a
    simp at e
    subst e
    rfl
  · cases h
def inD (neg : Bool) : D → D → Option FV
  | d, .lst ds => if (shp 49 d && ds.all (shp 49)) = true then some (.d (.bl (if neg then !isIn d ds else isIn d ds))) else none
  | d, .tup ds => if (shp 49 d && ds.all (shp 49)) = true then some (.d (.bl (if neg then !isIn d ds else isIn d ds))) else none
  | .str s, .str z => match sign? s with
    | some c => some (.d (.bl (if neg then !decide (c ∈ z.cps.toList) else decide (c ∈ z.cps.toList))))
    | none => none
  | _, _ => none
theorem pys_any (f : PyData → Bool) : ∀ ds : List D, (pys ds).any f = ds.any fun z => f (py z)
  | [] => rfl
  | d :: ds => by simp only [pys, List.any_cons, pys_any f ds]
theorem shp_up : ∀ {n : Nat} {d : D}, shp n d = true → shp (n + 1) d = true
  | n, .non, h => by cases n <;> rfl
  | n, .bl _, h => by cases n <;> rfl
  | n, .int _, h => by cases n <;> rfl
  | n, .str _, h => by cases n <;> exact h
  | n + 1, .tup ds, h => by
    have h : ds.all (shp n) = true := h
    show ds.all (shp (n + 1)) = true
    rw [List.all_eq_true] at h ⊢
    exact fun d hd => shp_up (h d hd)
  | n + 1, .lst ds, h => by
    have h : ds.all (shp n) = true := h
    show ds.all (shp (n + 1)) = true
    rw [List.all_eq_true] at h ⊢
    exact fun d hd => shp_up (h d hd)
  | 0, .tup ds, h => by cases h
  | 0, .lst ds, h => by cases h
  | 0, .dct _ _, h => by cases h
  | n + 1, .dct _ _, h => by cases h
  | 0, .obj _ _, h => by cases h
  | n + 1, .obj _ _, h => by cases h
  | 0, .scr _, h => by cases h
  | n + 1, .scr _, h => by cases h
def rInAny (K : PySem.W.Frag) : R2 := fun x y H Q => (rInD K x y H Q ∨ rInT K false x y H Q) ∨ ∃ (c : Nat) (z : Str), x = .str ⟨#[c]⟩ ∧ y = .str z ∧ Q (.bl (decide (c ∈ z.cps.toList))) H
def rNotInAny (K : PySem.W.Frag) : R2 := fun x y H Q => (rNotInD K x y H Q ∨ rInT K true x y H Q) ∨ ∃ (c : Nat) (z : Str), x = .str ⟨#[c]⟩ ∧ y = .str z ∧ Q (.bl (!decide (c ∈ z.cps.toList))) H
theorem inD_ok {K : PySem.W.Frag} (hK : K = G.K) : ∀ Ex H d e x y Q, ExL Ex H → Se G Ex H d x → Se G Ex H e y → Yl G Ex H (inD false d e) Q → rInAny K x y H Q := by
  intro Ex H d e x y Q hl h1 h2 h
  subst hK
  unfold inD at h
  split at h
  · rename_i ds
    by_cases hc : (shp 49 d && ds.all (shp 49)) = true
    · rw [if_pos hc] at h
      rw [Bool.and_eq_true] at hc
      have hs : shp 50 (.lst ds) = true := hc.2
      have q := h.bl
      refine .inl (.inl ⟨py d, pys ds, dp_se hc.1 h1, dp_se hs h2, shaped_of (shp_up hc.1), shaped_of hs, ?_⟩)
      rw [pys_any]
      exact q
    · rw [if_neg hc] at h
      exact h.elim
  · rename_i ds
    by_cases hc : (shp 49 d && ds.all (shp 49)) = true
    · rw [if_pos hc] at h
      rw [Bool.and_eq_true] at hc
      have hs : shp 50 (.tup ds) = true := hc.2
      have q := h.bl
      refine .inl (.inr ⟨py d, pys ds, dp_se hc.1 h1, dp_se hs h2, shaped_of (shp_up hc.1), shaped_of hs, ?_⟩)
      rw [pys_any]
      exact q
    · rw [if_neg hc] at h
      exact h.elim
  · rename_i s z
    split at h
    · rename_i c e
      refine .inr ⟨c, z, by rw [h1.str, sign?_eq e], h2.str, h.bl⟩
    · exact h.elim
  · exact h.elim
theorem notInD_ok {K : PySem.W.Frag} (hK : K = G.K) : ∀ Ex H d e x y Q, ExL Ex H → Se G Ex H d x → Se G Ex H e y → Yl G Ex H (inD true d e) Q → rNotInAny K x y H Q := by
  intro Ex H d e x y Q hl h1 h2 h
  subst hK
  unfold inD at h
  split at h
  · rename_i ds
    by_cases hc : (shp 49 d && ds.all (shp 49)) = true
    · rw [if_pos hc] at h
      rw [Bool.and_eq_true] at hc
      have hs : shp 50 (.lst ds) = true := hc.2
      have q := h.bl
      refine .inl (.inl ⟨py d, pys ds, dp_se hc.1 h1, dp_se hs h2, shaped_of (shp_up hc.1), shaped_of hs, ?_⟩)
      rw [pys_any]
      exact q
    · rw [if_neg hc] at h
      exact h.elim
  · rename_i ds
    by_cases hc : (shp 49 d && ds.all (shp 49)) = true
    · rw [if_pos hc] at h
      rw [Bool.and_eq_true] at hc
      have hs : shp 50 (.tup ds) = true := hc.2
      have q := h.bl
      refine .inl (.inr ⟨py d, pys ds, dp_se hc.1 h1, dp_se hs h2, shaped_of (shp_up hc.1), shaped_of hs, ?_⟩)
      rw [pys_any]
      exact q
    · rw [if_neg hc] at h
      exact h.elim
  · rename_i s z
    split at h
    · rename_i c e
      refine .inr ⟨c, z, by rw [h1.str, sign?_eq e], h2.str, h.bl⟩
    · exact h.elim
  · exact h.elim
end
section
variable {G : Gx} {X : Cx} {k : Nat} {gf : Bool} {pos p : Pos} {e a b c : Expr} {es : List Expr} {fa fb fc : Ev PV}
theorem df_eq (xg : XG G gf k X) (ha : DP G X a fa) (hb : DP G X b fb) : DF G X (.Compare a [.Eq] [b] pos) (ap2 eqD fa fb) := df_cmp (op_eqD xg.room.units) (eqD_ok xg.K) ha hb (nomark _)
theorem df_ne (xg : XG G gf k X) (ha : DP G X a fa) (hb : DP G X b fb) : DF G X (.Compare a [.NotEq] [b] pos) (ap2 neD fa fb) := df_cmp (op_neD xg.room.units) (neD_ok xg.K) ha hb (nomark _)
theorem df_in (xg : XG G gf k X) (ha : DP G X a fa) (hb : DP G X b fb) (hm : behindInMarks .In b = false := by with_unfolding_all rfl) : DF G X (.Compare a [.In] [b] pos) (ap2 (inD false) fa fb) :=
  df_cmp (((op_inD xg.hu).or (op_inT xg.hu)).or op_in_sign) (inD_ok xg.K) ha hb hm
theorem df_notIn (xg : XG G gf k X) (ha : DP G X a fa) (hb : DP G X b fb) (hm : behindInMarks .NotIn b = false := by with_unfolding_all rfl) : DF G X (.Compare a [.NotIn] [b] pos) (ap2 (inD true) fa fb) :=
  df_cmp (((op_notInD xg.hu).or (op_notInT xg.hu)).or op_notIn_sign) (notInD_ok xg.K) ha hb hm

/-! ### order of ints -/
def ibD (g : Int → Int → Bool) : D → D → Option FV
  | .int i, .int j => some (.d (.bl (g i j)))
  | _, _ => none
@[simp] theorem ibD_int (g : Int → Int → Bool) (i j : Int) : ibD g (.int i) (.int j) = some (.d (.bl (g i j))) := rfl
theorem ibD_ok {g : Int → Int → Bool} : ∀ Ex H d e x y Q, ExL Ex H → Se G Ex H d x → Se G Ex H e y → Yl G Ex H (ibD g d e) Q → rI0 (fun i j => V.bl (g i j)) x y H Q := by
  intro Ex H d e x y Q hl h1 h2 h
  cases d with
  | int i =>
    cases e with
    | int j => exact ⟨i, j, h1.int, h2.int, h.bl⟩
    | _ => exact h.elim
  | _ => exact h.elim
def ltD : D → D → Option FV := ibD fun i j => decide (i < j)
def leD : D → D → Option FV := ibD fun i j => decide (i ≤ j)
def gtD : D → D → Option FV := ibD fun i j => decide (j < i)
def geD : D → D → Option FV := ibD fun i j => decide (j ≤ i)
theorem df_lt (ha : DP G X a fa) (hb : DP G X b fb) : DF G X (.Compare a [.Lt] [b] pos) (ap2 ltD fa fb) := df_cmp op_lt ibD_ok ha hb (nomark _)
theorem df_le (ha : DP G X a fa) (hb : DP G X b fb) : DF G X (.Compare a [.LtE] [b] pos) (ap2 leD fa fb) := df_cmp op_le ibD_ok ha hb (nomark _)
theorem df_gt (ha : DP G X a fa) (hb : DP G X b fb) : DF G X (.Compare a [.Gt] [b] pos) (ap2 gtD fa fb) := df_cmp op_gt ibD_ok ha hb (nomark _)
theorem df_ge (ha : DP G X a fa) (hb : DP G X b fb) : DF G X (.Compare a [.GtE] [b] pos) (ap2 geD fa fb) := df_cmp op_ge ibD_ok ha hb (nomark _)
def isNone (neg : Bool) : D → D → Option FV
  | .non, .non => some (.d (.bl (!neg)))
  | .bl _, .non => some (.d (.bl neg))
  | .int _, .non => some (.d (.bl neg))
  | .str _, .non => some (.d (.bl neg))
  | .tup _, .non => some (.d (.bl neg))
  | .lst _, .non => some (.d (.bl neg))
  | .dct _ _, .non => some (.d (.bl neg))
  | .obj _ _, .non => some (.d (.bl neg))
  | _, _ => none
theorem isNone_ok {neg : Bool} : ∀ Ex H d e x y Q, ExL Ex H → Se G Ex H d x → Se G Ex H e y → Yl G Ex H (isNone neg d e) Q → y = .non ∧ Q (.bl (if neg then !decide (x = .non) else decide (x = .non))) H := by
  intro Ex H d e x y Q hl h1 h2 h
  have key : ∀ {x' : V}, x = x' → x' ≠ .non → Yl G Ex H (some (.d (.bl neg))) Q → Q (.bl (if neg then !decide (x = .non) else decide (x = .non))) H := fun {x'} e1 e2 h => by
    have q := h.bl
    rw [e1, decide_eq_false e2]
    cases neg <;> exact q
  cases e with
  | non =>
    refine ⟨h2.non, ?_⟩
    cases d with
    | non =>
      have q := h.bl
      rw [h1.non]
      cases neg <;> exact q
    | bl b => exact key h1.bl (by simp) h
    | int b => exact key h1.int (by simp) h
    | str b => exact key h1.str (by simp) h
    | tup b => obtain ⟨r, _, e, _⟩ := h1.tup; exact key e (by simp) h
    | lst b => obtain ⟨r, _, e, _⟩ := h1.lst; exact key e (by simp) h
    | dct b b2 => obtain ⟨r, _, e, _⟩ := h1.dct; exact key e (by simp) h
    | obj b b2 => obtain ⟨r, _, e, _⟩ := h1.obj; exact key e (by simp) h
    | scr b => exact h.elim
  | _ => cases d <;> exact h.elim
theorem df_is (ha : DP G X a fa) (hb : DP G X b fb) : DF G X (.Compare a [.Is] [b] pos) (ap2 (isNone false) fa fb) :=
  df_cmp op_isN (fun Ex H d e x y Q hl h1 h2 h => isNone_ok Ex H d e x y Q hl h1 h2 h) ha hb (nomark _)
theorem df_isNot (ha : DP G X a fa) (hb : DP G X b fb) : DF G X (.Compare a [.IsNot] [b] pos) (ap2 (isNone true) fa fb) :=
  df_cmp op_notN (fun Ex H d e x y Q hl h1 h2 h => isNone_ok Ex H d e x y Q hl h1 h2 h) ha hb (nomark _)
/-- two comparisons in a row: the second one is asked if the first one holds -/
def apC (g g' : D → D → Option FV) (fa fb fc : Ev PV) : Ev D := fun env => bindR (fa env) fun p env1 => bindR (fb env1) fun q env2 => match deref env2 p, deref env2 q with
  | some d, some e => match g d e with
    | some (.d (.bl true)) => bindR (fc env2) fun r env3 => match deref env3 q, deref env3 r with
      | some d', some e' => settle (liftO (g' d' e') env3)
      | _, _ => none
    | some (.d (.bl false)) => some (.ok (.bl false) env2)
    | _ => none
  | _, _ => none
theorem de_chain {op op' : CmpOp} {r r' : R2} {g g' : D → D → Option FV} (ho : OpR X (compareOp op) r) (ho' : OpR X (compareOp op') r')
    (hg : ∀ Ex H d e x y Q, ExL Ex H → Se G Ex H d x → Se G Ex H e y → Yl G Ex H (g d e) Q → r x y H Q) (hg' : ∀ Ex H d e x y Q, ExL Ex H → Se G Ex H d x → Se G Ex H e y → Yl G Ex H (g' d e) Q → r' x y H Q)
    (ha : DP G X a fa) (hb : DP G X b fb) (hc : DP G X c fc) (hm : lastMarks [op, op'] [b, c] = false := by with_unfolding_all rfl) : DE G X (.Compare a [op, op'] [b, c] pos) (apC g g' fa fb fc) := by
  refine ⟨fun W tk => pe_weak (pe_chain ho ho' (ha.run W tk) (hb.run W tk) (hc.run W tk) hm) fun σ H Q ⟨Ex, env, R, p⟩ => ⟨Ex, env, R, Po.step stm_RD R p fun pa env1 Ex1 H1 x _ xt sb R1 q1 p1 => ⟨Ex1, env1, R1, Po.step stm_RD R1 p1 fun pb env2 Ex2 H2 y _ xt2 sb2 R2 q2 p2 => ?_⟩⟩⟩
  have q1' := q1.tr (H0' := H) R1 xt2
  cases z : deref env2 pa with
  | none => simp [z] at p2; exact p2.elim
  | some d =>
    cases z2 : deref env2 pb with
    | none => simp [z, z2] at p2; exact p2.elim
    | some d2 =>
      simp only [z, z2] at p2
      refine hg Ex2 H2 d d2 x y _ R2.ex (se_of R2 q1' z) (se_of R2 q2 z2) ?_
      cases gg : g d d2 with
      | none => simp [gg] at p2; exact p2.elim
      | some fv =>
        cases fv with
        | fr ds => simp [gg] at p2; exact p2.elim
        | d dd =>
          cases dd with
          | bl bb =>
            intro H3 v hs hv
            unfold Is at hv
            subst hv
            refine ⟨bb, rfl, ?_⟩
            have R3 := R2.grow hs
            have x3 : Ext Ex2 σ H2 env2 Ex2 σ H3 env2 := Ext.grow hs
            cases bb with
            | true =>
              simp only [gg] at p2
              rw [if_pos rfl]
              refine ⟨Ex2, env2, R3, Po.step stm_RD R3 (Po.tr stm_RD R2 x3 (Sub.refl _) p2) fun pc env3 Ex3 H4 w _ xt3 sb3 R4 q3 p3 => ?_⟩
              have q2' := (q2.tr (H0' := H) R2 x3).tr (H0' := H) R3 xt3
              cases y1 : deref env3 pb with
              | none => simp [y1] at p3; exact p3.elim
              | some d' =>
                cases y2 : deref env3 pc with
                | none => simp [y1, y2] at p3; exact p3.elim
                | some e' =>
                  simp only [y1, y2] at p3
                  exact hg' Ex3 H4 d' e' y w Q R4.ex (se_of R4 q2' y1) (se_of R4 q3 y2) ((p3.settle R4).yl R4)
            | false =>
              simp only [gg] at p2
              rw [if_neg Bool.false_ne_true]
              exact (Po.tr stm_RD R2 x3 (Sub.refl _) p2).done R3 (by show Is G Ex2 H3 _ _; unfold Is; rfl)
          | _ => simp [gg] at p2; exact p2.elim
theorem de_lele (ha : DP G X a fa) (hb : DP G X b fb) (hc : DP G X c fc) (hm : lastMarks [.LtE, .LtE] [b, c] = false := by with_unfolding_all rfl) : DE G X (.Compare a [.LtE, .LtE] [b, c] pos) (apC leD leD fa fb fc) := de_chain op_le op_le ibD_ok ibD_ok ha hb hc hm
theorem de_ltle (ha : DP G X a fa) (hb : DP G X b fb) (hc : DP G X c fc) (hm : lastMarks [.Lt, .LtE] [b, c] = false := by with_unfolding_all rfl) : DE G X (.Compare a [.Lt, .LtE] [b, c] pos) (apC ltD leD fa fb fc) := de_chain op_lt op_le ibD_ok ibD_ok ha hb hc hm
theorem de_lelt (ha : DP G X a fa) (hb : DP G X b fb) (hc : DP G X c fc) (hm : lastMarks [.LtE, .Lt] [b, c] = false := by with_unfolding_all rfl) : DE G X (.Compare a [.LtE, .Lt] [b, c] pos) (apC leD ltD fa fb fc) := de_chain op_le op_lt ibD_ok ibD_ok ha hb hc hm
end
end Nol

set_option Elab.async false
set_option linter.all false
set_option maxRecDepth 100000
set_option maxHeartbeats 4000000
/-! Nol, part E: and, or, not, tests, places, slices, the built-in functions. -/
namespace Nol
open PySem PySem.Spec PyProof.Rows L2
section
variable {G : Gx} {X : Cx} {k : Nat} {gf : Bool} {pos p : Pos} {e a b c : Expr} {es rest : List Expr} {fa fb fc : Ev PV} {ga gb : Ev D}
def ap2E (g : D → D → Option FV) (fa fb : Ev D) : Ev FV := fun env => bindR (fa env) fun d env1 => bindR (fb env1) fun e env2 => liftO (g d e) env2
theorem ap2E_ok {W : WX} {σ : St} {H : Hp} {g : D → D → Option FV} {r : R2} {Q : VK} (hg : ∀ Ex H d e x y Q, ExL Ex H → Is G Ex H d x → Is G Ex H e y → Yl G Ex H (g d e) Q → r x y H Q) (h : tX G W (RF G) (ap2E g ga gb) σ H Q) :
    tX G W (RD G) ga σ H fun x H1 => tX G W (RD G) gb σ H1 fun y H2 => r x y H2 Q := by
  obtain ⟨Ex, env, R, p⟩ := h
  refine ⟨Ex, env, R, Po.step stm_RF R p fun a env1 Ex1 H1 x _ xt sb R1 q p1 => ⟨Ex1, env1, R1, Po.step stm_RF R1 p1 fun b env2 Ex2 H2 y _ xt2 sb2 R2 q2 p2 => ?_⟩⟩
  exact hg Ex2 H2 a b x y Q R2.ex (xt2.is R1 q) q2 (p2.yl R2)
theorem df_binE {op : Operator} {r : R2} {g : D → D → Option FV} (ho : OpR X (binaryOp op) r) (hg : ∀ Ex H d e x y Q, ExL Ex H → Is G Ex H d x → Is G Ex H e y → Yl G Ex H (g d e) Q → r x y H Q) (ha : DE G X a ga) (hb : DE G X b gb) :
    DF G X (.BinOp a op b pos) (ap2E g ga gb) := ⟨fun W tk => pe_weak (pe_op ho (ha.run W tk) (hb.run W tk)) fun σ H Q h => ap2E_ok hg h⟩
theorem Is.se {Ex : Addr → Prop} {H : Hp} {d : D} {v : V} (h : Is G Ex H d v) : Se G Ex H d v := .inl h

/-! ### + and * of anything -/
def okSum (m n : Nat) : Bool := decide (m + n ≤ 16000000)
theorem okSum_line {m n : Nat} (h : okSum m n = true) : m + n ≤ sizeLine := by
  have := of_decide_eq_true h
  rw [sizeLine_eq]
  omega
def addD : D → D → Option FV
  | .int i, .int j => some (.d (.int (i + j)))
  | .str x, .str y => if okSum x.length y.length = true then some (.d (.str (x ++ y))) else none
  | .tup x, .tup y => if okSum x.length y.length = true then some (.d (.tup (x ++ y))) else none
  | .lst x, .lst y => if okSum x.length y.length = true then some (.fr (x ++ y)) else none
  | _, _ => none
def rAddAny (K : PySem.W.Frag) : R2 := fun x y H Q => ((rI0 (fun i j => .int (i + j)) x y H Q ∨ ∃ i j, x = .str i ∧ y = .str j ∧ i.length + j.length ≤ sizeLine ∧ Q (.str (i ++ j)) H) ∨ rCatA K x y H Q) ∨ rCat x y H Q
theorem if_yl {Ex : Addr → Prop} {H : Hp} {c : Prop} [Decidable c] {o : Option FV} {Q : VK} (h : Yl G Ex H (if c then o else none) Q) : c ∧ Yl G Ex H o Q := by
  by_cases hc : c
  · rw [if_pos hc] at h
    exact ⟨hc, h⟩
  · rw [if_neg hc] at h
    exact h.elim
theorem addD_ok {K : PySem.W.Frag} (hK : K = G.K) : ∀ Ex H d e x y Q, ExL Ex H → Is G Ex H d x → Is G Ex H e y → Yl G Ex H (addD d e) Q → rAddAny K x y H Q := by
  intro Ex H d e x y Q hl h1 h2 h
  subst hK
  cases d with
  | int i =>
    cases e with
    | int j => exact .inl (.inl (.inl ⟨i, j, h1.se.int, h2.se.int, h.int⟩))
    | _ => exact h.elim
  | str i =>
    cases e with
    | str j =>
      obtain ⟨hc, h⟩ := if_yl h
      exact .inl (.inl (.inr ⟨i, j, h1.se.str, h2.se.str, okSum_line hc, h.str⟩))
    | _ => exact h.elim
  | tup i =>
    cases e with
    | tup j =>
      obtain ⟨hc, h⟩ := if_yl h
      obtain ⟨a1, vs1, rfl, t1, r1⟩ := h1.tupE
      obtain ⟨a2, vs2, rfl, t2, r2⟩ := h2.tupE
      refine .inl (.inr ⟨a1, a2, vs1, vs2, rfl, rfl, SqT.of t1, SqT.of t2, by rw [r1.length, r2.length]; exact okSum_line hc, fun z => ?_, fun _ z => ?_, fun _ _ p hp => h.tup hl (r1.append r2) hp⟩)
      · subst z
        have : i = [] := List.length_eq_zero_iff.mp (by have := r1.length; simp at this; omega)
        subst this
        exact h.d h2
      · subst z
        have : j = [] := List.length_eq_zero_iff.mp (by have := r2.length; simp at this; omega)
        subst this
        rw [List.append_nil] at h
        exact h.d h1
    | _ => exact h.elim
  | lst i =>
    cases e with
    | lst j =>
      obtain ⟨hc, h⟩ := if_yl h
      obtain ⟨a1, vs1, rfl, t1, r1⟩ := h1.lstE
      obtain ⟨a2, vs2, rfl, t2, r2⟩ := h2.lstE
      exact .inr ⟨a1, a2, vs1, vs2, rfl, rfl, t1.1, t2.1, by rw [r1.length, r2.length]; exact okSum_line hc, fun p hp => h.lst hl (r1.append r2) hp⟩
    | _ => exact h.elim
  | _ => cases e <;> exact h.elim
theorem df_add (xg : XG G gf k X) (ha : DE G X a ga) (hb : DE G X b gb) : DF G X (.BinOp a .Add b pos) (ap2E addD ga gb) := df_binE (((op_add.or op_add_str).or op_catA).or op_cat) (addD_ok xg.K) ha hb

def okRep (m : Nat) (k : Int) : Bool := decide (k ≤ 1000000) && decide (m * k.toNat ≤ 16000000)
def okRepT (m : Nat) (k : Int) : Bool := decide (0 < m) && decide (2 ≤ k) && decide (k ≤ 1000) && decide (m ≤ 1000)
def mulD : D → D → Option FV
  | .int i, .int j => if decide (i.natAbs.log2 + j.natAbs.log2 < 1000000) = true then some (.d (.int (i * j))) else none
  | .tup x, .int j => if okRepT x.length j = true then some (.d (.tup (List.replicate j.toNat x).flatten)) else none
  | .lst x, .int j => if (okRep x.length j && decide (-1000000 ≤ j)) = true then some (.fr (List.replicate j.toNat x).flatten) else none
  | _, _ => none
def rMulAny (K : PySem.W.Frag) : R2 := fun x y H Q => (rI CMulW (fun i j => .int (i * j)) x y H Q ∨ rRepT K x y H Q) ∨ rRep x y H Q
theorem are_rep {Ex : Addr → Prop} {H : Hp} {ds : List D} {vs : List V} (h : Are G Ex H ds vs) : ∀ n : Nat, Are G Ex H (List.replicate n ds).flatten (List.replicate n vs).flatten
  | 0 => Are.nil
  | n + 1 => by
    rw [List.replicate_succ, List.replicate_succ, List.flatten_cons, List.flatten_cons]
    exact h.append (are_rep h n)
theorem mulD_ok {K : PySem.W.Frag} (hK : K = G.K) : ∀ Ex H d e x y Q, ExL Ex H → Is G Ex H d x → Is G Ex H e y → Yl G Ex H (mulD d e) Q → rMulAny K x y H Q := by
  intro Ex H d e x y Q hl h1 h2 h
  subst hK
  cases d with
  | int i =>
    cases e with
    | int j =>
      obtain ⟨hc, h⟩ := if_yl h
      exact .inl (.inl ⟨i, j, h1.se.int, h2.se.int, (show i.natAbs.log2 + j.natAbs.log2 < 1000000 from of_decide_eq_true hc), h.int⟩)
    | _ => exact h.elim
  | tup i =>
    cases e with
    | int j =>
      obtain ⟨hc, h⟩ := if_yl h
      obtain ⟨a1, vs1, rfl, t1, r1⟩ := h1.tupE
      unfold okRepT at hc
      simp only [Bool.and_eq_true, decide_eq_true_eq] at hc
      have e1 := r1.length
      refine .inl (.inr ⟨a1, j, vs1, rfl, h2.se.int, SqT.of t1, fun z => ?_, by omega, by omega, by omega, fun p hp => h.tup hl (are_rep r1 _) hp⟩)
      subst z
      simp at e1
      omega
    | _ => exact h.elim
  | lst i =>
    cases e with
    | int j =>
      obtain ⟨hc, h⟩ := if_yl h
      obtain ⟨a1, vs1, rfl, t1, r1⟩ := h1.lstE
      unfold okRep at hc
      simp only [Bool.and_eq_true, decide_eq_true_eq] at hc
      exact .inr ⟨a1, j, vs1, rfl, h2.se.int, t1.1, by omega, by omega, by rw [r1.length, sizeLine_eq]; omega, fun p hp => h.lst hl (are_rep r1 _) hp⟩
    | _ => exact h.elim
  | _ => cases e <;> exact h.elim
theorem df_mul (xg : XG G gf k X) (ha : DE G X a ga) (hb : DE G X b gb) : DF G X (.BinOp a .Mult b pos) (ap2E mulD ga gb) := df_binE ((op_mulW.or op_repT).or op_rep) (mulD_ok xg.K) ha hb
def fdivC (_ j : Int) : Bool := decide (0 < j) && decide (j.natAbs.log2 < 9000)
def fdivD : D → D → Option FV := iiD fdivC fun i j => i / j
theorem df_fdiv (ha : DP G X a fa) (hb : DP G X b fb) : DF G X (.BinOp a .FloorDiv b pos) (ap2 fdivD fa fb) := df_bin op_fdivW (iiD_ok fun _ _ h => by
  unfold fdivC at h
  simp only [Bool.and_eq_true, decide_eq_true_eq] at h
  exact h) ha hb
def negD : D → Option FV
  | .int i => some (.d (.int (-i)))
  | _ => none
theorem df_neg (ha : DP G X a fa) : DF G X (.UnaryOp .USub a pos) (ap1 negD fa) := df_un un_neg (fun Ex H d x Q hl h1 h => by
  cases d with
  | int i => exact ⟨i, h1.int, h.int⟩
  | _ => exact h.elim) ha

/-! ### and, or, not as values; a if t else b -/
def evAnd (f g : Ev D) : Ev D := fun env => bindR (f env) fun d env1 => match d with
  | .bl true => g env1
  | .bl false => some (.ok (.bl false) env1)
  | _ => none
def evOr (f g : Ev D) : Ev D := fun env => bindR (f env) fun d env1 => match d with
  | .bl false => g env1
  | .bl true => some (.ok (.bl true) env1)
  | _ => none
theorem de_one {op : BoolOp} (h : DE G X a ga) : DE G X (.BoolOp op [a] pos) ga := ⟨fun W tk => pe_one (h.run W tk)⟩
theorem de_and (h : DE G X a ga) (h' : DE G X (.BoolOp .And (b :: rest) pos) gb) : DE G X (.BoolOp .And (a :: b :: rest) pos) (evAnd ga gb) := by
  refine ⟨fun W tk => pe_weak (pe_and (h.run W tk) (h'.run W tk)) fun σ H Q ⟨Ex, env, R, p⟩ => ⟨Ex, env, R, Po.step stm_RD R p fun d env1 Ex1 H1 x _ xt sb R1 q p1 => ?_⟩⟩
  cases d with
  | bl bb =>
    refine ⟨bb, Is.se (G := G) q |>.bl, ?_⟩
    cases bb with
    | true => rw [if_pos rfl]; exact ⟨Ex1, env1, R1, p1⟩
    | false => rw [if_neg Bool.false_ne_true]; exact p1.done R1 (by show Is G _ _ _ _; unfold Is; rfl)
  | _ => exact p1.elim
theorem de_or (h : DE G X a ga) (h' : DE G X (.BoolOp .Or (b :: rest) pos) gb) : DE G X (.BoolOp .Or (a :: b :: rest) pos) (evOr ga gb) := by
  refine ⟨fun W tk => pe_weak (pe_or (h.run W tk) (h'.run W tk)) fun σ H Q ⟨Ex, env, R, p⟩ => ⟨Ex, env, R, Po.step stm_RD R p fun d env1 Ex1 H1 x _ xt sb R1 q p1 => ?_⟩⟩
  cases d with
  | bl bb =>
    refine ⟨bb, Is.se (G := G) q |>.bl, ?_⟩
    cases bb with
    | false => rw [if_neg Bool.false_ne_true]; exact ⟨Ex1, env1, R1, p1⟩
    | true => rw [if_pos rfl]; exact p1.done R1 (by show Is G _ _ _ _; unfold Is; rfl)
  | _ => exact p1.elim
def evNot (f : Ev D) : Ev D := fun env => bindR (f env) fun d env1 => match d with
  | .bl b => some (.ok (.bl (!b)) env1)
  | _ => none
theorem de_not (h : DE G X a ga) : DE G X (.UnaryOp .Not a pos) (evNot ga) := by
  refine ⟨fun W tk => pe_weak (pe_not (h.run W tk)) fun σ H Q ⟨Ex, env, R, p⟩ => ⟨Ex, env, R, Po.step stm_RD R p fun d env1 Ex1 H1 x _ xt sb R1 q p1 => ?_⟩⟩
  cases d with
  | bl bb => exact ⟨bb, Is.se (G := G) q |>.bl, p1.done R1 (by show Is G _ _ _ _; unfold Is; rfl)⟩
  | _ => exact p1.elim
def evIf {α : Type} (t : Ev Bool) (f g : Ev α) : Ev α := fun env => bindR (t env) fun c env1 => if c = true then f env1 else g env1
theorem df_if {t : Ev Bool} {f g : Ev FV} (hc : DT G X c t) (ha : DF G X a f) (hb : DF G X b g) : DF G X (.IfExp c a b pos) (evIf t f g) := by
  refine ⟨fun W tk => pe_weak (pe_ifExp (hc.run W tk) (ha.run W tk) (hb.run W tk)) fun σ H Q ⟨Ex, env, R, p⟩ => ⟨Ex, env, R, Po.step stm_RF R p fun d env1 Ex1 H1 x _ xt sb R1 q p1 => ?_⟩⟩
  cases (show d = x from q)
  cases d with
  | true => rw [if_pos rfl] at p1 ⊢; exact ⟨Ex1, env1, R1, p1⟩
  | false => rw [if_neg Bool.false_ne_true] at p1 ⊢; exact ⟨Ex1, env1, R1, p1⟩
theorem de_if {t : Ev Bool} {f g : Ev D} (hc : DT G X c t) (ha : DE G X a f) (hb : DE G X b g) : DE G X (.IfExp c a b pos) (evIf t f g) := by
  refine ⟨fun W tk => pe_weak (pe_ifExp (hc.run W tk) (ha.run W tk) (hb.run W tk)) fun σ H Q ⟨Ex, env, R, p⟩ => ⟨Ex, env, R, Po.step stm_RD R p fun d env1 Ex1 H1 x _ xt sb R1 q p1 => ?_⟩⟩
  cases (show d = x from q)
  cases d with
  | true => rw [if_pos rfl] at p1 ⊢; exact ⟨Ex1, env1, R1, p1⟩
  | false => rw [if_neg Bool.false_ne_true] at p1 ⊢; exact ⟨Ex1, env1, R1, p1⟩

/-! ### tests -/
def truthD : D → Option Bool
  | .non => some false
  | .bl b => some b
  | .int i => some (i != 0)
  | .str s => if ckLen s.length = true then some ((s.length : Int) != 0) else none
  | .tup ds => some (!ds.isEmpty)
  | .lst ds => some (!ds.isEmpty)
  | _ => none
theorem isEmpty_are {Ex : Addr → Prop} {H : Hp} {ds : List D} {vs : List V} (h : Are G Ex H ds vs) : (!ds.isEmpty) = !vs.isEmpty := by
  have := h.length
  cases ds <;> cases vs <;> simp at this ⊢
theorem truth_ok {K : PySem.W.Frag} (hK : K = G.K) {Ex : Addr → Prop} {H : Hp} {d : D} {x : V} {b : Bool} (h : Se G Ex H d x) (e : truthD d = some b) : TruV K x H b := by
  subst hK
  cases d with
  | non => cases e; rw [h.non]; exact rfl
  | bl i => cases e; rw [h.bl]; exact rfl
  | int i => cases e; rw [h.int]; exact rfl
  | str i =>
    have e : (if ckLen i.length = true then some ((i.length : Int) != 0) else none) = some b := e
    by_cases hc : ckLen i.length = true
    · rw [if_pos hc] at e
      cases e
      rw [h.str]
      exact ⟨ckLen_line hc, rfl⟩
    · rw [if_neg hc] at e; cases e
  | tup ds =>
    cases e
    obtain ⟨r, vs, rfl, t, q⟩ := h.tup
    exact .inr (.inl ⟨vs, t, isEmpty_are q⟩)
  | lst ds =>
    cases e
    obtain ⟨r, vs, rfl, t, q⟩ := h.lst
    exact .inl ⟨vs, SqL.of t, isEmpty_are q⟩
  | _ => cases e
def evTest (f : Ev PV) : Ev Bool := fun env => bindR (f env) fun p env1 => match (deref env1 p).bind truthD with
  | some b => some (.ok b env1)
  | none => none
theorem dt_val (xg : XG G gf k X) (h : DP G X a fa) (he : ∀ whole, isTrue a X.env whole = (do let v ← whole; standAt a.pos; holding [v] (truthy v)) := by intro _; rfl) : DT G X a (evTest fa) := by
  refine ⟨fun W tk => pt_weak (pt_truth (h.run W tk) he) fun σ H Q ⟨Ex, env, R, p⟩ => ⟨Ex, env, R, Po.step stm_RB R p fun d env1 Ex1 H1 x _ xt sb R1 q p1 => ?_⟩⟩
  cases z : (deref env1 d).bind truthD with
  | none => simp [z] at p1; exact p1.elim
  | some bb =>
    simp only [z] at p1
    cases z2 : deref env1 d with
    | none => rw [z2] at z; cases z
    | some dd =>
      rw [z2] at z
      exact ⟨bb, truth_ok xg.K (se_of R1 q z2) z, p1.done R1 rfl⟩
/-- a comparison as a test -/
def evB (f : Ev D) : Ev Bool := fun env => bindR (f env) fun d env1 => match d with
  | .bl b => some (.ok b env1)
  | _ => none
structure DW (G : Gx) (X : Cx) (e : Expr) (f : Ev Bool) : Prop where
  run : ∀ W, Takes X W → PW X e (tX G W RB f)
theorem dt_of {f : Ev Bool} (h : DW G X a f) : DT G X a f := ⟨fun W tk => (h.run W tk).pt⟩
theorem dw_and1 {f : Ev Bool} (h : DT G X a f) : DW G X (.BoolOp .And [a] pos) f := ⟨fun W tk => pw_and1 (h.run W tk)⟩
theorem dw_or1 {f : Ev Bool} (h : DT G X a f) : DW G X (.BoolOp .Or [a] pos) f := ⟨fun W tk => pw_or1 (h.run W tk)⟩
theorem pw_weak {X : Cx} {e : Expr} {t t' : TT} (h : PW X e t) (w : ∀ σ H Q, t' σ H Q → t σ H Q) : PW X e t' := ⟨fun wh pins s σ H Q I q => h.run wh pins s σ H Q I (w σ H Q q)⟩
def evAndB (f g : Ev Bool) : Ev Bool := fun env => bindR (f env) fun d env1 => if d = true then g env1 else some (.ok false env1)
def evOrB (f g : Ev Bool) : Ev Bool := fun env => bindR (f env) fun d env1 => if d = true then some (.ok true env1) else g env1
def evNotB (f : Ev Bool) : Ev Bool := fun env => bindR (f env) fun d env1 => some (.ok (!d) env1)
theorem dw_and {f g : Ev Bool} (h : DT G X a f) (h' : DW G X (.BoolOp .And (b :: rest) pos) g) : DW G X (.BoolOp .And (a :: b :: rest) pos) (evAndB f g) := by
  refine ⟨fun W tk => pw_weak (pw_and (h.run W tk) (h'.run W tk)) fun σ H Q ⟨Ex, env, R, p⟩ => ⟨Ex, env, R, Po.step stm_RB R p fun d env1 Ex1 H1 x _ xt sb R1 q p1 => ?_⟩⟩
  cases (show d = x from q)
  cases d with
  | true => rw [if_pos rfl] at p1 ⊢; exact ⟨Ex1, env1, R1, p1⟩
  | false => rw [if_neg Bool.false_ne_true] at p1 ⊢; exact p1.done R1 rfl
theorem dw_or {f g : Ev Bool} (h : DT G X a f) (h' : DW G X (.BoolOp .Or (b :: rest) pos) g) : DW G X (.BoolOp .Or (a :: b :: rest) pos) (evOrB f g) := by
  refine ⟨fun W tk => pw_weak (pw_or (h.run W tk) (h'.run W tk)) fun σ H Q ⟨Ex, env, R, p⟩ => ⟨Ex, env, R, Po.step stm_RB R p fun d env1 Ex1 H1 x _ xt sb R1 q p1 => ?_⟩⟩
  cases (show d = x from q)
  cases d with
  | true => rw [if_pos rfl] at p1 ⊢; exact p1.done R1 rfl
  | false => rw [if_neg Bool.false_ne_true] at p1 ⊢; exact ⟨Ex1, env1, R1, p1⟩
theorem dt_not {f : Ev Bool} (h : DT G X a f) : DT G X (.UnaryOp .Not a pos) (evNotB f) :=
  ⟨fun W tk => pt_weak (pt_not (h.run W tk)) fun σ H Q ⟨Ex, env, R, p⟩ => ⟨Ex, env, R, Po.step stm_RB R p fun d env1 Ex1 H1 x _ xt sb R1 q p1 => by
    cases (show d = x from q)
    exact p1.done R1 rfl⟩⟩
/-- a comparison's rule, by data -/
def CmpK (G : Gx) (X : Cx) (op : CmpOp) (g : D → D → Option FV) : Prop := ∃ r : R2, OpR X (compareOp op) r ∧ ∀ Ex H d e x y Q, ExL Ex H → Se G Ex H d x → Se G Ex H e y → Yl G Ex H (g d e) Q → r x y H Q
theorem ck_eq (xg : XG G gf k X) : CmpK G X .Eq eqD := ⟨_, op_eqD xg.room.units, eqD_ok xg.K⟩
theorem ck_ne (xg : XG G gf k X) : CmpK G X .NotEq neD := ⟨_, op_neD xg.room.units, neD_ok xg.K⟩
theorem ck_in (xg : XG G gf k X) : CmpK G X .In (inD false) := ⟨_, ((op_inD xg.hu).or (op_inT xg.hu)).or op_in_sign, inD_ok xg.K⟩
theorem ck_notIn (xg : XG G gf k X) : CmpK G X .NotIn (inD true) := ⟨_, ((op_notInD xg.hu).or (op_notInT xg.hu)).or op_notIn_sign, notInD_ok xg.K⟩
theorem ck_lt : CmpK G X .Lt ltD := ⟨_, op_lt, ibD_ok⟩
theorem ck_le : CmpK G X .LtE leD := ⟨_, op_le, ibD_ok⟩
theorem ck_gt : CmpK G X .Gt gtD := ⟨_, op_gt, ibD_ok⟩
theorem ck_ge : CmpK G X .GtE geD := ⟨_, op_ge, ibD_ok⟩
theorem ck_is : CmpK G X .Is (isNone false) := ⟨_, op_isN, fun Ex H d e x y Q hl h1 h2 h => isNone_ok Ex H d e x y Q hl h1 h2 h⟩
theorem ck_isNot : CmpK G X .IsNot (isNone true) := ⟨_, op_notN, fun Ex H d e x y Q hl h1 h2 h => isNone_ok Ex H d e x y Q hl h1 h2 h⟩
theorem df_ck {op : CmpOp} {g : D → D → Option FV} (hk : CmpK G X op g) (ha : DP G X a fa) (hb : DP G X b fb) (hm : behindInMarks op b = false) : DF G X (.Compare a [op] [b] pos) (ap2 g fa fb) :=
  let ⟨_, ho, hg⟩ := hk; df_cmp ho hg ha hb hm
theorem de_ck2 {op op' : CmpOp} {g g' : D → D → Option FV} (hk : CmpK G X op g) (hk' : CmpK G X op' g') (ha : DP G X a fa) (hb : DP G X b fb) (hc : DP G X c fc) (hm : lastMarks [op, op'] [b, c] = false := by with_unfolding_all rfl) :
    DE G X (.Compare a [op, op'] [b, c] pos) (apC g g' fa fb fc) := let ⟨_, ho, hg⟩ := hk; let ⟨_, ho', hg'⟩ := hk'; de_chain ho ho' hg hg' ha hb hc hm
theorem dt_ck {op : CmpOp} {g : D → D → Option FV} (hk : CmpK G X op g) (ha : DP G X a fa) (hb : DP G X b fb) (hm : behindInMarks op b = false) : DT G X (.Compare a [op] [b] pos) (evB fun env => settle (ap2 g fa fb env)) := by
  obtain ⟨r, ho, hg⟩ := hk
  refine ⟨fun W tk => pt_weak (pt_cmpR ho (ha.run W tk) (hb.run W tk) hm) fun σ H Q ⟨Ex, env, R, p⟩ => ?_⟩
  show tX G W (RP G) fa σ H fun x H1 => tX G W (RP G) fb σ H1 fun y H2 => r x y H2 fun x H' => ∃ k, x = .bl k ∧ Q k H'
  have q : Po G W (RD G) Ex σ H env (settle (ap2 g fa fb env)) (fun v H' => ∃ k, v = .bl k ∧ Q k H') := Po.step stm_RB R p fun d env1 Ex1 H1 x _ xt sb R1 q p1 => by
    cases d with
    | bl bb => exact ⟨bb, Is.se (G := G) q |>.bl, p1.done R1 rfl⟩
    | _ => exact p1.elim
  exact ap2_ok hg ⟨Ex, env, R, q.settle R⟩

/-! ### places -/
def atD (ds : List D) (i : Int) : Option D := atI ds i
def subsD : D → D → Option FV
  | .lst ds, .int i => (atI ds i).map .d
  | .tup ds, .int i => (atI ds i).map .d
  | .scr ns, .int i => (atI ns i).map fun n => .d (.int n)
  | .str s, .int i => if ckLen s.length = true then (atI s.cps.toList i).map fun c => .d (.str ⟨#[c]⟩) else none
  | _, _ => none
theorem are_at {Ex : Addr → Prop} {H : Hp} {ds : List D} {vs : List V} (h : Are G Ex H ds vs) {i : Int} {d : D} (e : atI ds i = some d) : ∃ v, atI vs i = some v ∧ Is G Ex H d v := by
  unfold atI at e ⊢
  rw [h.length]
  cases z : ixN ds.length i with
  | none => rw [z] at e; cases e
  | some j =>
    rw [z] at e
    exact h.get' e
theorem at_map {α β : Type} (f : α → β) (xs : List α) (i : Int) : atI (xs.map f) i = (atI xs i).map f := by
  unfold atI
  rw [List.length_map]
  cases ixN xs.length i with
  | none => rfl
  | some j => simp
theorem subsD_ok {K : PySem.W.Frag} (hK : K = G.K) : ∀ Ex H d e x y Q, ExL Ex H → Se G Ex H d x → Se G Ex H e y → Yl G Ex H (subsD d e) Q → rIx K x y H Q := by
  intro Ex H d e x y Q hl h1 h2 h
  subst hK
  cases e with
  | int i =>
    cases d with
    | lst ds =>
      obtain ⟨r, vs, rfl, t, q⟩ := h1.lst
      have h : Yl G Ex H ((atI ds i).map .d) Q := h
      cases z : atI ds i with
      | none => rw [z] at h; exact h.elim
      | some d =>
        rw [z] at h
        obtain ⟨v, e1, e2⟩ := are_at q z
        exact .inl ⟨r, vs, i, v, rfl, h2.int, SqL.of t, e1, h.d e2⟩
    | tup ds =>
      obtain ⟨r, vs, rfl, t, q⟩ := h1.tup
      have h : Yl G Ex H ((atI ds i).map .d) Q := h
      cases z : atI ds i with
      | none => rw [z] at h; exact h.elim
      | some d =>
        rw [z] at h
        obtain ⟨v, e1, e2⟩ := are_at q z
        exact .inr (.inl ⟨r, vs, i, v, rfl, h2.int, t, e1, h.d e2⟩)
    | scr ns =>
      obtain ⟨r, rfl, t⟩ := h1.scr
      have h : Yl G Ex H ((atI ns i).map fun n => .d (.int n)) Q := h
      cases z : atI ns i with
      | none => rw [z] at h; exact h.elim
      | some n =>
        rw [z] at h
        exact .inl ⟨r, _, i, .int n, rfl, h2.int, t.sql, by rw [at_map, z]; rfl, h.int⟩
    | str s =>
      obtain ⟨hc, h⟩ := if_yl (show Yl G Ex H (if ckLen s.length = true then (atI s.cps.toList i).map (fun c => FV.d (.str ⟨#[c]⟩)) else none) Q from h)
      cases z : atI s.cps.toList i with
      | none => rw [z] at h; exact h.elim
      | some n =>
        rw [z] at h
        exact .inr (.inr ⟨s, i, n, h1.str, h2.int, ckLen_line hc, z, h.str⟩)
    | _ => exact h.elim
  | _ => cases d <;> exact h.elim
theorem df_sub_ix (xg : XG G gf k X) (ha : DP G X a fa) (hb : DP G X b fb) (hs : PlainIx b := by exact fun _ _ => rfl) : DF G X (.Subscript a b pos) (ap2 subsD fa fb) :=
  ⟨fun W tk => pe_weak (pe_ix ix_seq (ha.run W tk) (hb.run W tk) hs) fun σ H Q h => ap2_ok (subsD_ok xg.K) h⟩

/-! ### slices -/
def cutL {α : Type} (xs : List α) (lo hi : Option Int) : List α := (xs.drop (HT.sIx xs.length 0 lo)).take (HT.sIx xs.length xs.length hi - HT.sIx xs.length 0 lo)
def sliceD (lo hi : Option Int) : D → Option FV
  | .lst ds => some (.fr (cutL ds lo hi))
  | .tup ds => some (.d (.tup (cutL ds lo hi)))
  | .scr ns => some (.fr ((cutL ns lo hi).map .int))
  | .str s => if ckLen s.length = true then some (.d (.str (cutS s lo hi))) else none
  | _ => none
def rSlAny (K : PySem.W.Frag) : V → Option Int → Option Int → Hp → VK → Prop := fun x lo hi H Q => (rSlL K x lo hi H Q ∨ rSlA K x lo hi H Q) ∨ rSlS x lo hi H Q
theorem cutV_are {Ex : Addr → Prop} {H : Hp} {ds : List D} {vs : List V} (h : Are G Ex H ds vs) (lo hi : Option Int) : Are G Ex H (cutL ds lo hi) (cutV vs lo hi) := by
  unfold cutL cutV
  rw [h.length]
  exact (h.drop _).take _
theorem are_ints {Ex : Addr → Prop} {H : Hp} : ∀ ns : List Int, Are G Ex H (ns.map D.int) (ns.map V.int)
  | [] => Are.nil
  | n :: ns => Are.cons (by unfold Is; rfl) (are_ints ns)
theorem cutV_map (ns : List Int) (lo hi : Option Int) : cutV (ns.map V.int) lo hi = (cutL ns lo hi).map V.int := by
  unfold cutL cutV
  rw [List.length_map, List.map_take, List.map_drop]
theorem sliceD_ok {K : PySem.W.Frag} (hK : K = G.K) (lo hi : Option Int) : ∀ Ex H d x Q, ExL Ex H → Is G Ex H d x → Yl G Ex H (sliceD lo hi d) Q → rSlAny K x lo hi H Q := by
  intro Ex H d x Q hl h1 h
  subst hK
  cases d with
  | lst ds =>
    obtain ⟨r, vs, rfl, t, q⟩ := h1.lstE
    exact .inl (.inl ⟨r, vs, rfl, SqL.of t.1, fun p hp => h.lst hl (cutV_are q lo hi) hp⟩)
  | tup ds =>
    obtain ⟨r, vs, rfl, t, q⟩ := h1.tupE
    refine .inl (.inr ⟨r, vs, rfl, SqT.of t, fun ⟨z1, z2⟩ => ?_, fun _ p hp => h.tup hl (cutV_are q lo hi) hp⟩)
    have e : cutL ds lo hi = ds := by
      unfold cutL
      rw [q.length] at z1 z2
      rw [z1, z2]
      simp
    have h : Yl G Ex H (some (.d (.tup (cutL ds lo hi)))) Q := h
    rw [e] at h
    exact h.d h1
  | scr ns =>
    obtain ⟨r, rfl, t⟩ := h1.se.scr
    refine .inl (.inl ⟨r, _, rfl, t.sql, fun p hp => ?_⟩)
    rw [cutV_map]
    exact h.lst hl (are_ints _) hp
  | str s =>
    obtain ⟨hc, h⟩ := if_yl (show Yl G Ex H (if ckLen s.length = true then some (.d (.str (cutS s lo hi))) else none) Q from h)
    exact .inr ⟨s, h1.se.str, ckLen_line hc, h.str⟩
  | _ => exact h.elim
/-- the ends of a slice -/
structure DO (G : Gx) (X : Cx) (e : Option Expr) (f : Ev (Option Int)) : Prop where
  run : ∀ W, Takes X W → PO X e (tX G W (fun _ _ _ _ (i j : Option Int) => i = j) f)
theorem do_none : DO G X none (fun env => some (.ok none env)) := ⟨fun W tk => ⟨fun pins s σ H Q I ⟨Ex, env, R, p⟩ => po_none.run pins s σ H Q I (p.done R rfl)⟩⟩
def evPart (f : Ev D) : Ev (Option Int) := fun env => bindR (f env) fun d env1 => match d with
  | .int i => some (.ok (some i) env1)
  | _ => none
theorem stm_eq {α : Type} : StM (fun _ _ _ _ (i j : α) => i = j) := fun _ _ _ _ _ _ _ _ h => h
theorem do_some (h : DE G X a ga) : DO G X (some a) (evPart ga) := ⟨fun W tk => ⟨fun pins s σ H Q I ⟨Ex, env, R, p⟩ => (po_some (h.run W tk)).run pins s σ H Q I ⟨Ex, env, R, Po.step stm_eq R p fun d env1 Ex1 H1 x _ xt sb R1 q p1 => by
  cases d with
  | int i => exact ⟨i, Is.se (G := G) q |>.int, p1.done R1 rfl⟩
  | _ => exact p1.elim⟩⟩⟩
def evSlice (f : Ev D) (lo hi : Ev (Option Int)) : Ev FV := fun env => bindR (f env) fun d env1 => bindR (lo env1) fun i env2 => bindR (hi env2) fun j env3 => liftO (sliceD i j d) env3
theorem df_slice (xg : XG G gf k X) {lo hi : Option Expr} {fl fh : Ev (Option Int)} {p2 : Pos} (h : DE G X a ga) (hl : DO G X lo fl) (hh : DO G X hi fh) : DF G X (.Subscript a (.Slice lo hi none p2) pos) (evSlice ga fl fh) := by
  refine ⟨fun W tk => pe_weak (pe_slice ((sl_list.or sl_tupA).or sl_str) (h.run W tk) (hl.run W tk) (hh.run W tk)) fun σ H Q ⟨Ex, env, R, p⟩ => ⟨Ex, env, R, Po.step stm_RF R p fun d env1 Ex1 H1 x _ xt sb R1 q p1 => ⟨Ex1, env1, R1, Po.step stm_RF R1 p1 fun i env2 Ex2 H2 x2 _ xt2 sb2 R2 q2 p2 => ⟨Ex2, env2, R2, Po.step stm_RF R2 p2 fun j env3 Ex3 H3 x3 _ xt3 sb3 R3 q3 p3 => ?_⟩⟩⟩⟩
  cases q2
  cases q3
  exact sliceD_ok xg.K _ _ Ex3 H3 d x Q R3.ex (xt3.is R2 (xt2.is R1 q)) (p3.yl R3)
end
end Nol

set_option Elab.async false
set_option linter.all false
set_option maxRecDepth 100000
set_option maxHeartbeats 4000000
/-! Nol, part F: the built-in functions. -/
namespace Nol
open PySem PySem.Spec PyProof.Rows L2
section
variable {G : Gx} {X : Cx} {k : Nat} {gf : Bool} {pos p : Pos} {x : Str} {e a b c : Expr} {es rest : List Expr} {fa fb fc : Ev PV} {ga gb : Ev D}
/-- a built-in function or type, of one value, by data -/
def CalK (G : Gx) (X : Cx) (f : Value) (g : D → Option FV) : Prop := ∃ r : List V → Hp → VK → Prop, CallR X f r ∧ ∀ Ex H d x Q, ExL Ex H → Se G Ex H d x → Yl G Ex H (g d) Q → r [x] H Q
def CalE (G : Gx) (X : Cx) (f : Value) (g : D → Option FV) : Prop := ∃ r : List V → Hp → VK → Prop, CallR X f r ∧ ∀ Ex H d x Q, ExL Ex H → Is G Ex H d x → Yl G Ex H (g d) Q → r [x] H Q
def CalE2 (G : Gx) (X : Cx) (f : Value) (g : D → D → Option FV) : Prop := ∃ r : List V → Hp → VK → Prop, CallR X f r ∧ ∀ Ex H d e x y Q, ExL Ex H → Is G Ex H d x → Is G Ex H e y → Yl G Ex H (g d e) Q → r [x, y] H Q
theorem df_callB {id : String} {g : D → Option FV} (hk : CalK G X (.builtin id) g) (hg : Gl X x) (hm : X.mg x = none) (hv : bootBuiltins x = some (.builtin id)) (ha : DP G X a fa) (hn : x ≠ "__name__" := by decide) (hdb : (x == ("__debug__" : Str)) = false := by decide)
    (hs : starEach [a] X.env = (false, eval a X.env) :: starEach [] X.env := by rfl) : DF G X (.Call (.Name x p) [a] [] pos) (ap1 g fa) := by
  obtain ⟨r, hc, hr⟩ := hk
  exact ⟨fun W tk => pe_weak (pe_callB hc hg hm hv (pa_cons (ha.run W tk) pa_nil hs) hn hdb hs) fun σ H Q h => ap1_ok (e := a) (r := fun v => r [v]) hr h⟩
theorem df_callT {id : String} {g : D → Option FV} (hk : CalK G X (.type id) g) (hg : Gl X x) (hm : X.mg x = none) (hv : bootBuiltins x = some (.type id)) (ha : DP G X a fa) (hn : x ≠ "__name__" := by decide) (hdb : (x == ("__debug__" : Str)) = false := by decide)
    (hs : starEach [a] X.env = (false, eval a X.env) :: starEach [] X.env := by rfl) : DF G X (.Call (.Name x p) [a] [] pos) (ap1 g fa) := by
  obtain ⟨r, hc, hr⟩ := hk
  exact ⟨fun W tk => pe_weak (pe_callTy hc hg hm hv (pa_cons (ha.run W tk) pa_nil hs) hn hdb hs) fun σ H Q h => ap1_ok (e := a) (r := fun v => r [v]) hr h⟩
theorem df_callBE {id : String} {g : D → Option FV} (hk : CalE G X (.builtin id) g) (hg : Gl X x) (hm : X.mg x = none) (hv : bootBuiltins x = some (.builtin id)) (ha : DE G X a ga) (hn : x ≠ "__name__" := by decide) (hdb : (x == ("__debug__" : Str)) = false := by decide)
    (hs : starEach [a] X.env = (false, eval a X.env) :: starEach [] X.env := by rfl) : DF G X (.Call (.Name x p) [a] [] pos) (apE g ga) := by
  obtain ⟨r, hc, hr⟩ := hk
  exact ⟨fun W tk => pe_weak (pe_callB hc hg hm hv (pa_cons (ha.run W tk) pa_nil hs) hn hdb hs) fun σ H Q h => apE_ok (e := a) (r := fun v => r [v]) hr h⟩
theorem df_callTE {id : String} {g : D → Option FV} (hk : CalE G X (.type id) g) (hg : Gl X x) (hm : X.mg x = none) (hv : bootBuiltins x = some (.type id)) (ha : DE G X a ga) (hn : x ≠ "__name__" := by decide) (hdb : (x == ("__debug__" : Str)) = false := by decide)
    (hs : starEach [a] X.env = (false, eval a X.env) :: starEach [] X.env := by rfl) : DF G X (.Call (.Name x p) [a] [] pos) (apE g ga) := by
  obtain ⟨r, hc, hr⟩ := hk
  exact ⟨fun W tk => pe_weak (pe_callTy hc hg hm hv (pa_cons (ha.run W tk) pa_nil hs) hn hdb hs) fun σ H Q h => apE_ok (e := a) (r := fun v => r [v]) hr h⟩
theorem df_callB2 {id : String} {g : D → D → Option FV} (hk : CalE2 G X (.builtin id) g) (hg : Gl X x) (hm : X.mg x = none) (hv : bootBuiltins x = some (.builtin id)) (ha : DE G X a ga) (hb : DE G X b gb) (hn : x ≠ "__name__" := by decide) (hdb : (x == ("__debug__" : Str)) = false := by decide)
    (hs : starEach [a, b] X.env = (false, eval a X.env) :: starEach [b] X.env := by rfl) (hs2 : starEach [b] X.env = (false, eval b X.env) :: starEach [] X.env := by rfl) (hpl : (backTo pos (starEach [b] X.env)).any (·.1) = false := by rfl) : DF G X (.Call (.Name x p) [a, b] [] pos) (ap2E g ga gb) := by
  obtain ⟨r, hc, hr⟩ := hk
  exact ⟨fun W tk => pe_weak (pe_callB hc hg hm hv (pa_cons (ha.run W tk) (pa_cons (hb.run W tk) pa_nil hs2) hs) hn hdb hs hpl) fun σ H Q h => ap2E_ok (r := fun v w => r [v, w]) hr h⟩

/-! ### len -/
def lenD : D → Option FV
  | .lst ds => some (.d (.int ds.length))
  | .tup ds => some (.d (.int ds.length))
  | .scr ns => some (.d (.int ns.length))
  | .str s => if ckLen s.length = true then some (.d (.int s.length)) else none
  | _ => none
theorem ck_len (hK : X.K = G.K) : CalK G X (.builtin "len") lenD := by
  refine ⟨_, call_len, fun Ex H d x Q hl h1 h => ?_⟩
  rw [hK]
  cases d with
  | lst ds =>
    obtain ⟨r, vs, rfl, t, q⟩ := h1.lst
    exact ⟨_, ds.length, rfl, .inl ⟨vs, SqL.of t, q.length.symm⟩, h.int⟩
  | tup ds =>
    obtain ⟨r, vs, rfl, t, q⟩ := h1.tup
    exact ⟨_, ds.length, rfl, .inr ⟨vs, t, q.length.symm⟩, h.int⟩
  | scr ns =>
    obtain ⟨r, rfl, t⟩ := h1.scr
    exact ⟨_, ns.length, rfl, .inl ⟨_, t.sql, by simp⟩, h.int⟩
  | str s =>
    obtain ⟨hc, h⟩ := if_yl (show Yl G Ex H (if ckLen s.length = true then some (.d (.int s.length)) else none) Q from h)
    rw [h1.str]
    exact ⟨_, s.length, rfl, ⟨ckLen_line hc, rfl⟩, h.int⟩
  | _ => exact h.elim
/-! ### int, str, abs, max, min -/
def intD : D → Option FV
  | .int i => some (.d (.int i))
  | .bl b => some (.d (.int (if b then 1 else 0)))
  | _ => none
theorem ck_int : CalK G X (.type "int") intD := by
  refine ⟨_, call_int1, fun Ex H d x Q hl h1 h => ?_⟩
  cases d with
  | int i => exact .inl ⟨i, by rw [h1.int], h.int⟩
  | bl i => exact .inr ⟨i, by rw [h1.bl], h.int⟩
  | _ => exact h.elim
def strD : D → Option FV
  | .int i => if decide (i.natAbs.log2 < 1920) = true then some (.d (.str (toString i))) else none
  | .str s => some (.d (.str s))
  | _ => none
theorem ck_str : CalK G X (.type "str") strD := by
  refine ⟨_, call_str_int.or SkE.call_str_str, fun Ex H d x Q hl h1 h => ?_⟩
  cases d with
  | int i =>
    obtain ⟨hc, h⟩ := if_yl (show Yl G Ex H (if decide (i.natAbs.log2 < 1920) = true then some (.d (.str (toString i))) else none) Q from h)
    exact .inl ⟨i, by rw [h1.int], of_decide_eq_true hc, h.str⟩
  | str s => exact .inr ⟨s, by rw [h1.str], h.str⟩
  | _ => exact h.elim
def absD : D → Option FV
  | .int i => some (.d (.int (if i < 0 then -i else i)))
  | _ => none
theorem ck_abs : CalK G X (.builtin "abs") absD := by
  refine ⟨_, call_abs, fun Ex H d x Q hl h1 h => ?_⟩
  cases d with
  | int i => exact ⟨i, by rw [h1.int], h.int⟩
  | _ => exact h.elim
def max2D : D → D → Option FV
  | .int i, .int j => some (.d (.int (if j > i then j else i)))
  | _, _ => none
def min2D : D → D → Option FV
  | .int i, .int j => some (.d (.int (if j < i then j else i)))
  | _, _ => none
theorem ck_max2 (hc : X.calm = true) : CalE2 G X (.builtin "max") max2D := by
  refine ⟨_, call_max2 hc, fun Ex H d e x y Q hl h1 h2 h => ?_⟩
  cases d with
  | int i =>
    cases e with
    | int j => exact ⟨i, j, by rw [h1.se.int, h2.se.int], h.int⟩
    | _ => exact h.elim
  | _ => exact h.elim
theorem ck_min2 (hc : X.calm = true) : CalE2 G X (.builtin "min") min2D := by
  refine ⟨_, call_min2 hc, fun Ex H d e x y Q hl h1 h2 h => ?_⟩
  cases d with
  | int i =>
    cases e with
    | int j => exact ⟨i, j, by rw [h1.se.int, h2.se.int], h.int⟩
    | _ => exact h.elim
  | _ => exact h.elim
/-- all items are ints -/
def intsOf : List D → Option (List Int)
  | [] => some []
  | .int i :: ds => (intsOf ds).map (i :: ·)
  | _ => none
@[simp] theorem intsOf_map : ∀ ns : List Int, intsOf (ns.map D.int) = some ns
  | [] => rfl
  | n :: ns => by simp [intsOf, intsOf_map ns]
theorem intsOf_eq : ∀ {ds : List D} {ns : List Int}, intsOf ds = some ns → ds = ns.map D.int
  | [], ns, h => by cases h; rfl
  | .int i :: ds, ns, h => by
    have h : (intsOf ds).map (i :: ·) = some ns := h
    cases z : intsOf ds with
    | none => rw [z] at h; cases h
    | some ms =>
      rw [z] at h
      cases h
      rw [intsOf_eq z]
      rfl
  | .non :: ds, ns, h => by cases h
  | .bl _ :: ds, ns, h => by cases h
  | .str _ :: ds, ns, h => by cases h
  | .tup _ :: ds, ns, h => by cases h
  | .lst _ :: ds, ns, h => by cases h
  | .dct _ _ :: ds, ns, h => by cases h
  | .obj _ _ :: ds, ns, h => by cases h
  | .scr _ :: ds, ns, h => by cases h
theorem are_ints_eq {Ex : Addr → Prop} {H : Hp} : ∀ {ns : List Int} {vs : List V}, Are G Ex H (ns.map D.int) vs → vs = ns.map V.int
  | [], vs, h => by
    have h : Are G Ex H [] vs := h
    unfold Are at h
    subst h
    rfl
  | n :: ns, vs, h => by
    have h : Are G Ex H (.int n :: ns.map D.int) vs := h
    unfold Are at h
    obtain ⟨v, r, rfl, h1, h2⟩ := h
    rw [are_ints_eq h2, Is.se (G := G) h1 |>.int]
    rfl
def boolsOf : List D → Option (List Bool)
  | [] => some []
  | .bl i :: ds => (boolsOf ds).map (i :: ·)
  | _ => none
@[simp] theorem boolsOf_map : ∀ ns : List Bool, boolsOf (ns.map D.bl) = some ns
  | [] => rfl
  | n :: ns => by simp [boolsOf, boolsOf_map ns]
theorem boolsOf_eq : ∀ {ds : List D} {ns : List Bool}, boolsOf ds = some ns → ds = ns.map D.bl
  | [], ns, h => by cases h; rfl
  | .bl i :: ds, ns, h => by
    have h : (boolsOf ds).map (i :: ·) = some ns := h
    cases z : boolsOf ds with
    | none => rw [z] at h; cases h
    | some ms =>
      rw [z] at h
      cases h
      rw [boolsOf_eq z]
      rfl
  | .non :: ds, ns, h => by cases h
  | .int _ :: ds, ns, h => by cases h
  | .str _ :: ds, ns, h => by cases h
  | .tup _ :: ds, ns, h => by cases h
  | .lst _ :: ds, ns, h => by cases h
  | .dct _ _ :: ds, ns, h => by cases h
  | .obj _ _ :: ds, ns, h => by cases h
  | .scr _ :: ds, ns, h => by cases h
theorem are_bools_eq {Ex : Addr → Prop} {H : Hp} : ∀ {ns : List Bool} {vs : List V}, Are G Ex H (ns.map D.bl) vs → vs = ns.map V.bl
  | [], vs, h => by
    have h : Are G Ex H [] vs := h
    unfold Are at h
    subst h
    rfl
  | n :: ns, vs, h => by
    have h : Are G Ex H (.bl n :: ns.map D.bl) vs := h
    unfold Are at h
    obtain ⟨v, r, rfl, h1, h2⟩ := h
    rw [are_bools_eq h2, Is.se (G := G) h1 |>.bl]
    rfl
def allD : D → Option FV
  | .lst ds => (boolsOf ds).map fun bs => .d (.bl (bs.all id))
  | _ => none
def anyD : D → Option FV
  | .lst ds => (boolsOf ds).map fun bs => .d (.bl (bs.any id))
  | _ => none
theorem ck_all (xg : XG G gf k X) : CalK G X (.builtin "all") allD := by
  refine ⟨_, cr_all xg.calm, fun Ex H d x Q hl h1 h => ?_⟩
  cases d with
  | lst ds =>
    obtain ⟨r, vs, rfl, t, q⟩ := h1.lst
    have h : Yl G Ex H ((boolsOf ds).map fun bs => FV.d (.bl (bs.all id))) Q := h
    cases z : boolsOf ds with
    | none => rw [z] at h; exact h.elim
    | some bs =>
      rw [z] at h
      rw [boolsOf_eq z] at q
      rw [are_bools_eq q] at t
      exact ⟨r, bs, rfl, SqL.of t, h.bl⟩
  | _ => exact h.elim
theorem ck_any (xg : XG G gf k X) : CalK G X (.builtin "any") anyD := by
  refine ⟨_, cr_any xg.calm, fun Ex H d x Q hl h1 h => ?_⟩
  cases d with
  | lst ds =>
    obtain ⟨r, vs, rfl, t, q⟩ := h1.lst
    have h : Yl G Ex H ((boolsOf ds).map fun bs => FV.d (.bl (bs.any id))) Q := h
    cases z : boolsOf ds with
    | none => rw [z] at h; exact h.elim
    | some bs =>
      rw [z] at h
      rw [boolsOf_eq z] at q
      rw [are_bools_eq q] at t
      exact ⟨r, bs, rfl, SqL.of t, h.bl⟩
  | _ => exact h.elim
/-! ### list, tuple -/
def listD : D → Option FV
  | .lst ds => some (.fr ds)
  | .tup ds => some (.fr ds)
  | .scr ns => some (.fr (ns.map .int))
  | _ => none
theorem ck_list (hK : X.K = G.K) : CalK G X (.type "list") listD := by
  refine ⟨_, call_list_of, fun Ex H d x Q hl h1 h => ?_⟩
  rw [hK]
  cases d with
  | lst ds =>
    obtain ⟨r, vs, rfl, t, q⟩ := h1.lst
    exact ⟨r, vs, rfl, .inl (SqL.of t), fun p hp => h.lst hl q hp⟩
  | tup ds =>
    obtain ⟨r, vs, rfl, t, q⟩ := h1.tup
    exact ⟨r, vs, rfl, .inr t, fun p hp => h.lst hl q hp⟩
  | scr ns =>
    obtain ⟨r, rfl, t⟩ := h1.scr
    exact ⟨r, _, rfl, .inl t.sql, fun p hp => h.lst hl (are_ints _) hp⟩
  | _ => exact h.elim
def tupleD : D → Option FV
  | .lst ds => some (.d (.tup ds))
  | .tup ds => some (.d (.tup ds))
  | _ => none
theorem ck_tuple (hK : X.K = G.K) : CalE G X (.type "tuple") tupleD := by
  refine ⟨_, call_tuple_of, fun Ex H d x Q hl h1 h => ?_⟩
  rw [hK]
  cases d with
  | lst ds =>
    obtain ⟨r, vs, rfl, t, q⟩ := h1.lstE
    exact ⟨r, vs, rfl, .inl ⟨SqL.of t.1, fun p hp => h.tup hl q hp⟩⟩
  | tup ds =>
    obtain ⟨r, vs, rfl, t, q⟩ := h1.tupE
    exact ⟨r, vs, rfl, .inr ⟨SqT.of t, h.d h1⟩⟩
  | _ => exact h.elim
/-- of a list that is still the frame's own -/
theorem ck_tupleP (hK : X.K = G.K) : CalK G X (.type "tuple") (fun d => match d with | .lst ds => some (.d (.tup ds)) | _ => none) := by
  refine ⟨_, call_tuple_of, fun Ex H d x Q hl h1 h => ?_⟩
  rw [hK]
  cases d with
  | lst ds =>
    obtain ⟨r, vs, rfl, t, q⟩ := h1.lst
    exact ⟨r, vs, rfl, .inl ⟨SqL.of t, fun p hp => h.tup hl q hp⟩⟩
  | _ => exact h.elim
/-! ### isinstance, of a built-in type -/
def tyN : D → Option String
  | .non => some "NoneType"
  | .bl _ => some "bool"
  | .int _ => some "int"
  | .str _ => some "str"
  | .tup _ => some "tuple"
  | .lst _ => some "list"
  | .dct _ _ => some "dict"
  | _ => none
theorem tyN_ok {K : PySem.W.Frag} {Ex : Addr → Prop} {H : Hp} {d : D} {v : V} {n : String} (h : Is G Ex H d v) (e : tyN d = some n) : TyX K H v (.type n) := by
  cases d with
  | non => cases e; rw [h.se.non]; exact .base .non
  | bl b => cases e; rw [h.se.bl]; exact .base (.bl _)
  | int b => cases e; rw [h.se.int]; exact .base (.int _)
  | str b => cases e; rw [h.se.str]; exact .base (.str _)
  | tup ds => cases e; obtain ⟨a, vs, rfl, t, _⟩ := h.tupE; exact .base (.tup t)
  | lst ds => cases e; obtain ⟨a, vs, rfl, t, _⟩ := h.lstE; exact .base (.lst t.1)
  | dct ks ds => cases e; obtain ⟨a, vs, rfl, t, _⟩ := h.se.dct; exact .base (.dK t)
  | _ => cases e
def isiD (T : String) (d : D) : Option FV := (tyN d).bind fun n => (kitB n T).map fun b => .d (.bl b)
/-- isinstance(e, T) -/
theorem df_isi {T : String} {y : Str} {py : Pos} (xg : XG G gf k X) (hg : Gl X "isinstance") (hgT : Gl X y) (hvT : bootBuiltins y = some (.type T)) (hmT : X.mg y = none) (ha : DE G X a ga) (hn : y ≠ "__name__" := by decide) (hdb : (y == ("__debug__" : Str)) = false := by decide)
    (hs : starEach [a, .Name y py] X.env = (false, eval a X.env) :: starEach [.Name y py] X.env := by rfl) : DF G X (.Call (.Name "isinstance" p) [a, .Name y py] [] pos) (apE (isiD T) ga) := by
  have ht : PE X (.Name y py) (tC (.ty T)) := pe_bltn hgT hmT hvT rfl hn hdb
  refine ⟨fun W tk => pe_weak (pe_callB call_isi hg (xg.bl _ (by decide +kernel)) (by decide +kernel) (pa_cons (ha.run W tk) (pa_cons ht pa_nil) hs) (by decide) (by decide) hs) fun σ H Q h => ?_⟩
  refine apE_ok (e := a) (r := fun v H Q => rIsi X.K [v, .ty T] H Q) (fun Ex H d x Q hl h1 h => ?_) h
  unfold isiD at h
  cases z : tyN d with
  | none => rw [z] at h; exact h.elim
  | some n =>
    rw [z] at h
    have h : Yl G Ex H ((kitB n T).map fun b => FV.d (.bl b)) Q := h
    cases z2 : kitB n T with
    | none => rw [z2] at h; exact h.elim
    | some b =>
      rw [z2] at h
      exact ⟨x, .ty T, _, _, b, rfl, .ty T, tyN_ok h1 z, kit_ty z2, h.bl⟩
/-! ### sum, max, min of a list -/
theorem sum_rawT {prog : Program} {w : World} {A : Around} {E : Value → Shared → Prop} {s : Shared} {l : Addr} {its : List Value} {ns : List Int} {Q : Value → Shared → Prop} (hh : A.handled = none) (hl : s.heap.IsTuple l its.toArray) (hi : IntsAre its ns)
    (h : ∀ h' tk t', (∀ b o, s.heap.get? b = some o → h'.get? b = some o) → Q (.int ns.sum t') { s with heap := h', toks := tk }) : wpAny (model prog w) A (call (.builtin "sum") [.ref l]) Q E s := by
  obtain ⟨xs, e⟩ := hi.allInts.items
  have hn : numsOf (intItems xs).toList = ns := by rw [← e]; exact hi.numsOf
  rw [nums_intItems] at hn
  rw [e] at hl
  refine PySem.W.ktm_sumG hh hl fun h' tk t' hk => ?_
  have := h h' tk t' hk
  rw [preSum_eq, List.take_of_length_le (by simp), hn]; exact this
/-- sum(t) of a tuple of ints -/
def rSumT (K : PySem.W.Frag) : List V → Hp → VK → Prop := fun vs H Q => ∃ (a : Addr) (ns : List Int), vs = [V.ref a] ∧ SqT K H a (ns.map V.int) ∧ Q (.int ns.sum) H
theorem cr_sumT (hc : X.calm = true) : CallR X (.builtin "sum") (rSumT X.K) := by
  intro pins s σ H vs us Q I r h
  obtain ⟨a, ns, rfl, hs, q⟩ := h
  obtain ⟨its, rv, ht, _⟩ := I.tuple hs
  rw [Vals.ref1 r]
  exact sum_rawT (I.ok.hd hc) ht rv.ints fun h' tk t' hk => ⟨.int _, H, I.kept hk, ⟨_, rfl⟩, q⟩
def sumD : D → Option FV
  | .lst ds => (intsOf ds).map fun ns => .d (.int ns.sum)
  | .tup ds => (intsOf ds).map fun ns => .d (.int ns.sum)
  | .scr ns => some (.d (.int ns.sum))
  | _ => none
theorem ck_sum (xg : XG G gf k X) : CalK G X (.builtin "sum") sumD := by
  refine ⟨_, (cr_sum xg.calm).or (cr_sumT xg.calm), fun Ex H d x Q hl h1 h => ?_⟩
  rw [xg.K]
  cases d with
  | lst ds =>
    obtain ⟨r, vs, rfl, t, q⟩ := h1.lst
    have h : Yl G Ex H ((intsOf ds).map fun ns => FV.d (.int ns.sum)) Q := h
    cases z : intsOf ds with
    | none => rw [z] at h; exact h.elim
    | some bs =>
      rw [z] at h
      rw [intsOf_eq z] at q
      rw [are_ints_eq q] at t
      exact .inl ⟨r, bs, rfl, SqL.of t, h.int⟩
  | tup ds =>
    obtain ⟨r, vs, rfl, t, q⟩ := h1.tup
    have h : Yl G Ex H ((intsOf ds).map fun ns => FV.d (.int ns.sum)) Q := h
    cases z : intsOf ds with
    | none => rw [z] at h; exact h.elim
    | some bs =>
      rw [z] at h
      rw [intsOf_eq z] at q
      rw [are_ints_eq q] at t
      exact .inr ⟨r, bs, rfl, t, h.int⟩
  | scr ns =>
    obtain ⟨r, rfl, t⟩ := h1.scr
    exact .inl ⟨r, ns, rfl, t.sql, h.int⟩
  | _ => exact h.elim
def maxL : List Int → Int
  | [] => 0
  | n :: ns => ns.foldl max n
def minL : List Int → Int
  | [] => 0
  | n :: ns => ns.foldl min n
theorem foldl_max_ge : ∀ (ns : List Int) (m : Int), m ≤ ns.foldl max m ∧ (∀ y ∈ ns, y ≤ ns.foldl max m) ∧ (ns.foldl max m = m ∨ ns.foldl max m ∈ ns)
  | [], m => by simp
  | n :: ns, m => by
    obtain ⟨h1, h2, h3⟩ := foldl_max_ge ns (max m n)
    refine ⟨by simp only [List.foldl_cons]; omega, fun y hy => ?_, ?_⟩
    · simp only [List.foldl_cons]
      rcases List.mem_cons.mp hy with rfl | hy
      · omega
      · exact h2 y hy
    · simp only [List.foldl_cons]
      rcases h3 with h3 | h3
      · rw [h3]
        by_cases hm : n ≤ m
        · left; omega
        · right
          rw [show max m n = n by omega]
          exact List.mem_cons_self
      · exact .inr (List.mem_cons_of_mem _ h3)
theorem maxL_unique {ns : List Int} {m : Int} (h1 : m ∈ ns) (h2 : ∀ y ∈ ns, y ≤ m) : m = maxL ns := by
  cases ns with
  | nil => cases h1
  | cons n ns =>
    obtain ⟨a1, a2, a3⟩ := foldl_max_ge ns n
    show m = ns.foldl max n
    have b1 : m ≤ ns.foldl max n := by
      rcases List.mem_cons.mp h1 with rfl | h1
      · exact a1
      · exact a2 m h1
    have b2 : ns.foldl max n ≤ m := by
      rcases a3 with a3 | a3
      · rw [a3]; exact h2 n List.mem_cons_self
      · exact h2 _ (List.mem_cons_of_mem _ a3)
    omega
theorem foldl_min_le : ∀ (ns : List Int) (m : Int), ns.foldl min m ≤ m ∧ (∀ y ∈ ns, ns.foldl min m ≤ y) ∧ (ns.foldl min m = m ∨ ns.foldl min m ∈ ns)
  | [], m => by simp
  | n :: ns, m => by
    obtain ⟨h1, h2, h3⟩ := foldl_min_le ns (min m n)
    refine ⟨by simp only [List.foldl_cons]; omega, fun y hy => ?_, ?_⟩
    · simp only [List.foldl_cons]
      rcases List.mem_cons.mp hy with rfl | hy
      · omega
      · exact h2 y hy
    · simp only [List.foldl_cons]
      rcases h3 with h3 | h3
      · rw [h3]
        by_cases hm : m ≤ n
        · left; omega
        · right
          rw [show min m n = n by omega]
          exact List.mem_cons_self
      · exact .inr (List.mem_cons_of_mem _ h3)
theorem minL_unique {ns : List Int} {m : Int} (h1 : m ∈ ns) (h2 : ∀ y ∈ ns, m ≤ y) : m = minL ns := by
  cases ns with
  | nil => cases h1
  | cons n ns =>
    obtain ⟨a1, a2, a3⟩ := foldl_min_le ns n
    show m = ns.foldl min n
    have b1 : ns.foldl min n ≤ m := by
      rcases List.mem_cons.mp h1 with rfl | h1
      · exact a1
      · exact a2 m h1
    have b2 : m ≤ ns.foldl min n := by
      rcases a3 with a3 | a3
      · rw [a3]; exact h2 n List.mem_cons_self
      · exact h2 _ (List.mem_cons_of_mem _ a3)
    omega
def maxD : D → Option FV
  | .lst ds => (intsOf ds).bind fun ns => if decide (0 < ns.length) = true then some (.d (.int (maxL ns))) else none
  | _ => none
def minD : D → Option FV
  | .lst ds => (intsOf ds).bind fun ns => if decide (0 < ns.length) = true then some (.d (.int (minL ns))) else none
  | _ => none
theorem ck_max (xg : XG G gf k X) : CalK G X (.builtin "max") maxD := by
  refine ⟨_, cr_max xg.calm, fun Ex H d x Q hl h1 h => ?_⟩
  rw [xg.K]
  cases d with
  | lst ds =>
    obtain ⟨r, vs, rfl, t, q⟩ := h1.lst
    have h : Yl G Ex H ((intsOf ds).bind fun ns => if decide (0 < ns.length) = true then some (FV.d (.int (maxL ns))) else none) Q := h
    cases z : intsOf ds with
    | none => rw [z] at h; exact h.elim
    | some bs =>
      rw [z] at h
      rw [intsOf_eq z] at q
      rw [are_ints_eq q] at t
      obtain ⟨hc, h⟩ := if_yl (show Yl G Ex H (if decide (0 < bs.length) = true then some (FV.d (.int (maxL bs))) else none) Q from h)
      exact ⟨r, bs, rfl, SqL.of t, of_decide_eq_true hc, fun m m1 m2 => by rw [maxL_unique m1 m2]; exact h.int⟩
  | _ => exact h.elim
theorem ck_min (xg : XG G gf k X) : CalK G X (.builtin "min") minD := by
  refine ⟨_, cr_min xg.calm, fun Ex H d x Q hl h1 h => ?_⟩
  rw [xg.K]
  cases d with
  | lst ds =>
    obtain ⟨r, vs, rfl, t, q⟩ := h1.lst
    have h : Yl G Ex H ((intsOf ds).bind fun ns => if decide (0 < ns.length) = true then some (FV.d (.int (minL ns))) else none) Q := h
    cases z : intsOf ds with
    | none => rw [z] at h; exact h.elim
    | some bs =>
      rw [z] at h
      rw [intsOf_eq z] at q
      rw [are_ints_eq q] at t
      obtain ⟨hc, h⟩ := if_yl (show Yl G Ex H (if decide (0 < bs.length) = true then some (FV.d (.int (minL bs))) else none) Q from h)
      exact ⟨r, bs, rfl, SqL.of t, of_decide_eq_true hc, fun m m1 m2 => by rw [minL_unique m1 m2]; exact h.int⟩
  | _ => exact h.elim
end
end Nol

set_option Elab.async false
set_option linter.all false
set_option maxRecDepth 100000
set_option maxHeartbeats 4000000
/-! Nol, part G: repr. -/
namespace Nol
open PySem PySem.Spec PyProof.Rows L2
/-- scalars, tuples, and dicts that are empty -/
def shpT : Nat → D → Bool
  | _, .non => true
  | _, .bl _ => true
  | _, .int _ => true
  | _, .str s => PyData.strOk s
  | n + 1, .tup ds => ds.all (shpT n)
  | _, .dct [] [] => true
  | _, _ => false
mutual
/-- ints that repr writes out -/
def shw : D → Bool
  | .int i => decide (i.natAbs.log2 < 1000)
  | .tup ds => shws ds
  | .lst ds => shws ds
  | _ => true
def shws : List D → Bool
  | [] => true
  | d :: ds => shw d && shws ds
end
mutual
/-- no shorter than what repr writes -/
def rsz : D → Nat
  | .non => 4
  | .bl _ => 5
  | .int i => i.natAbs.log2 + 2
  | .str s => 10 * s.length + 2
  | .tup ds => rszs ds + 2
  | .lst ds => rszs ds + 2
  | _ => 5
def rszs : List D → Nat
  | [] => 0
  | d :: ds => rsz d + 2 + rszs ds
end
theorem listText_le (ts : List Str) : (listText ts).length ≤ piled ts + 2 := by
  unfold listText
  have e1 : ((("[" : String) : Str)).length = 1 := rfl
  have e2 : ((("]" : String) : Str)).length = 1 := rfl
  rw [strLen_append, e2]
  cases ts with
  | nil => show (("[" : String) : Str).length + 1 ≤ _; rw [e1]; omega
  | cons t r =>
    show (textFrom 1 ((("[" : String) : Str) ++ (if 0 > 0 then ", " else "" : String) ++ t) r).length + 1 ≤ _
    rw [textFrom_length_pos _ _ _ (by decide), strLen_append, strLen_append, e1, piled_cons]
    have : (((if 0 > 0 then ", " else "" : String)) : Str).length = 0 := rfl
    omega
mutual
def okS : D → Bool
  | .str s => PyData.strOk s
  | .tup ds => okSs ds
  | .lst ds => okSs ds
  | .dct [] [] => true
  | .dct _ _ => false
  | .obj _ _ => false
  | .scr _ => false
  | _ => true
def okSs : List D → Bool
  | [] => true
  | d :: ds => okS d && okSs ds
end
mutual
theorem shown_len : ∀ (d : D), okS d = true → (py d).shown.length ≤ rsz d
  | .non, _ => by decide
  | .bl b, _ => by cases b <;> decide
  | .int i, _ => by
    show (Str.ofString (toString i)).length ≤ _
    rw [PySem.ofString_length]
    have := int_text_length_le (a := i) (k := i.natAbs.log2 + 1) (by omega) (by omega)
    show _ ≤ i.natAbs.log2 + 2
    omega
  | .str s, h => by
    show (reprText s).length ≤ 10 * s.length + 2
    refine StrLaws.reprText_len s fun c hc => ?_
    have h : s.cps.all (· < 0x110000) = true := h
    rw [← Array.all_toList, List.all_eq_true] at h
    have := h c hc
    simp only [decide_eq_true_eq] at this
    omega
  | .tup ds, h => by
    have h1 := shown_lens ds h
    have h2 := fmt_text (PyData.shownAll (pys ds))
    show (tupleText (PyData.shownAll (pys ds))).length ≤ rszs ds + 2
    omega
  | .lst ds, h => by
    have h1 := shown_lens ds h
    have h2 := listText_le (PyData.shownAll (pys ds))
    show (listText (PyData.shownAll (pys ds))).length ≤ rszs ds + 2
    omega
  | .dct [] [], _ => by decide
  | .dct (_ :: _) _, h => by cases h
  | .dct [] (_ :: _), h => by cases h
  | .obj _ _, h => by cases h
  | .scr _, h => by cases h
theorem shown_lens : ∀ (ds : List D), okSs ds = true → piled (PyData.shownAll (pys ds)) ≤ rszs ds
  | [], _ => Nat.le_refl _
  | d :: ds, h => by
    have h : (okS d && okSs ds) = true := h
    rw [Bool.and_eq_true] at h
    have h1 := shown_len d h.1
    have h2 := shown_lens ds h.2
    show piled ((py d).shown :: PyData.shownAll (pys ds)) ≤ rsz d + 2 + rszs ds
    rw [piled_cons]
    omega
end
mutual
theorem showable_of : ∀ (d : D), okS d = true → shw d = true → (py d).showable = true
  | .non, _, _ => rfl
  | .bl b, _, _ => rfl
  | .int i, _, h => by
    have h : decide (i.natAbs.log2 < 1000) = true := h
    show decide (i.natAbs.log2 < 1920) = true
    rw [decide_eq_true_eq] at h ⊢
    omega
  | .str s, _, _ => rfl
  | .tup ds, h, h' => showables_of ds h h'
  | .lst ds, h, h' => showables_of ds h h'
  | .dct [] [], _, _ => rfl
  | .dct (_ :: _) _, h, _ => by cases h
  | .dct [] (_ :: _), h, _ => by cases h
  | .obj _ _, h, _ => by cases h
  | .scr _, h, _ => by cases h
theorem showables_of : ∀ (ds : List D), okSs ds = true → shws ds = true → PyData.showableAll (pys ds) = true
  | [], _, _ => rfl
  | d :: ds, h, h' => by
    have h : (okS d && okSs ds) = true := h
    have h' : (shw d && shws ds) = true := h'
    rw [Bool.and_eq_true] at h h'
    show ((py d).showable && PyData.showableAll (pys ds)) = true
    rw [showable_of d h.1 h'.1, showables_of ds h.2 h'.2]
    rfl
end
theorem okSs_all {n : Nat} {f : Nat → D → Bool} (ih : ∀ d, f n d = true → okS d = true) : ∀ ds : List D, ds.all (f n) = true → okSs ds = true
  | [], _ => rfl
  | d :: ds, h => by
    simp only [List.all_cons, Bool.and_eq_true] at h
    show (okS d && okSs ds) = true
    rw [ih d h.1, okSs_all ih ds h.2]
    rfl
theorem okS_shp : ∀ (n : Nat) (d : D), shp n d = true → okS d = true
  | n, .non, _ => rfl
  | n, .bl _, _ => rfl
  | n, .int _, _ => rfl
  | n, .str s, h => by cases n <;> exact h
  | n + 1, .tup ds, h => okSs_all (okS_shp n) ds h
  | n + 1, .lst ds, h => okSs_all (okS_shp n) ds h
  | 0, .tup ds, h => by cases h
  | 0, .lst ds, h => by cases h
  | 0, .dct _ _, h => by cases h
  | n + 1, .dct _ _, h => by cases h
  | 0, .obj _ _, h => by cases h
  | n + 1, .obj _ _, h => by cases h
  | 0, .scr _, h => by cases h
  | n + 1, .scr _, h => by cases h
theorem okS_shpT : ∀ (n : Nat) (d : D), shpT n d = true → okS d = true
  | n, .non, _ => rfl
  | n, .bl _, _ => rfl
  | n, .int _, _ => rfl
  | n, .str s, h => by cases n <;> exact h
  | n + 1, .tup ds, h => okSs_all (okS_shpT n) ds h
  | 0, .tup ds, h => by cases h
  | 0, .lst ds, h => by cases h
  | n + 1, .lst ds, h => by cases h
  | n, .dct [] [], h => rfl
  | 0, .dct (_ :: _) _, h => by cases h
  | 0, .dct [] (_ :: _), h => by cases h
  | n + 1, .dct (_ :: _) _, h => by cases h
  | n + 1, .dct [] (_ :: _), h => by cases h
  | 0, .obj _ _, h => by cases h
  | n + 1, .obj _ _, h => by cases h
  | 0, .scr _, h => by cases h
  | n + 1, .scr _, h => by cases h
section
variable {G : Gx} {Ex : Addr → Prop} {H : Hp} {X : Cx} {pins : List (Addr × Obj)} {σ : St} {s : Shared}
theorem reads_alls {n : Nat} (ih : ∀ d v u, shpT n d = true → Is G Ex H d v → RelV v u → ∃ as, Reads s.heap u (py d) as ∧ sysModules ∉ as) : ∀ (ds : List D) (vs : List V) (us : List Value), ds.all (shpT n) = true → Are G Ex H ds vs → Vals vs us → ∃ as, ReadsAll s.heap us (pys ds) as ∧ sysModules ∉ as
  | [], vs, us, _, h, r => by
    unfold Are at h
    subst h
    cases r
    exact ⟨[], .nil, by simp⟩
  | d :: ds, vs, us, hs, h, r => by
    unfold Are at h
    obtain ⟨v, w, rfl, h1, h2⟩ := h
    simp only [List.all_cons, Bool.and_eq_true] at hs
    cases r with
    | cons r1 r2 =>
      obtain ⟨as, q1, n1⟩ := ih d _ _ hs.1 h1 r1
      obtain ⟨bs, q2, n2⟩ := reads_alls ih ds _ _ hs.2 h2 r2
      exact ⟨_, .cons q1 q2, by simp [n1, n2]⟩
theorem readsT (I : Inv X pins σ H s) : ∀ (n : Nat) (d : D) (v : V) (u : Value), shpT n d = true → Is G Ex H d v → RelV v u → ∃ as, Reads s.heap u (py d) as ∧ sysModules ∉ as
  | n, .non, v, u, _, h, r => by
    cases h.se.non
    cases r
    exact ⟨_, .none, by simp⟩
  | n, .bl b, v, u, _, h, r => by
    cases h.se.bl
    cases r
    exact ⟨_, .bool b, by simp⟩
  | n, .int b, v, u, _, h, r => by
    cases h.se.int
    obtain ⟨t, rfl⟩ := r
    exact ⟨_, .int b t, by simp⟩
  | n, .str b, v, u, _, h, r => by
    cases h.se.str
    obtain ⟨t, rfl⟩ := r
    exact ⟨_, .str b t, by simp⟩
  | n + 1, .tup ds, v, u, hs, h, r => by
    obtain ⟨a, vs, rfl, t, q⟩ := h.tupE
    cases r
    obtain ⟨_, its, rv, o, ho, hc, m, hd⟩ : ObjOk X.prog X.w H s.heap a (.tup vs) := I.hok a _ t
    obtain ⟨as, hr, hn⟩ := reads_alls (readsT I n) ds _ its hs q rv
    exact ⟨_, .tuple ho hc hd hr, hn⟩
  | n, .dct [] [], v, u, _, h, r => by
    obtain ⟨a, kvs, rfl, t, e, _⟩ := h.se.dct
    cases r
    have e : kvs = [] := List.map_eq_nil_iff.mp e
    subst e
    obtain ⟨_, hne, vs, kv, o, es, ep, ho, hx, hd, _, hp, _⟩ : ObjOk X.prog X.w H s.heap a (.dK []) := I.hok a _ t
    cases kv
    have z : es.toList = [] := by
      generalize es.toList = l at hp
      cases hp
      rfl
    have ra : ReadsAll s.heap (es.toList.map (·.key)) (([] : List (PyData × PyData)).map (·.1)) [] := by rw [z]; exact .nil
    have rb : ReadsAll s.heap (es.toList.map (·.val)) (([] : List (PyData × PyData)).map (·.2)) [] := by rw [z]; exact .nil
    refine ⟨_, .dict ho hx.1 hd ra rb, ?_⟩
    have : a ≠ sysModules := by
      intro z
      rw [z] at hne
      simp at hne
    simp
    exact fun z => this z.symm
  | 0, .tup ds, v, u, h, _, _ => by cases h
  | 0, .lst ds, v, u, h, _, _ => by cases h
  | n + 1, .lst ds, v, u, h, _, _ => by cases h
  | 0, .dct (_ :: _) _, v, u, h, _, _ => by cases h
  | 0, .dct [] (_ :: _), v, u, h, _, _ => by cases h
  | n + 1, .dct (_ :: _) _, v, u, h, _, _ => by cases h
  | n + 1, .dct [] (_ :: _), v, u, h, _, _ => by cases h
  | 0, .obj _ _, v, u, h, _, _ => by cases h
  | n + 1, .obj _ _, v, u, h, _, _ => by cases h
  | 0, .scr _, v, u, h, _, _ => by cases h
  | n + 1, .scr _, v, u, h, _, _ => by cases h
end
theorem noDict_shp {n : Nat} (ih : ∀ d, shp n d = true → (py d).hasDict = false) : ∀ ds : List D, ds.all (shp n) = true → PyData.hasDictAll (pys ds) = false
  | [], _ => rfl
  | d :: ds, h => by
    simp only [List.all_cons, Bool.and_eq_true] at h
    show ((py d).hasDict || PyData.hasDictAll (pys ds)) = false
    rw [ih d h.1, noDict_shp ih ds h.2]
    rfl
theorem noDict : ∀ (n : Nat) (d : D), shp n d = true → (py d).hasDict = false := fun n d h => PyData.hasDict_of_canLay (py d) (shp_ok n d h).1
theorem depthT_all {n : Nat} (ih : ∀ d, shpT n d = true → (py d).depth ≤ n + 1) : ∀ ds : List D, ds.all (shpT n) = true → PyData.depthAll (pys ds) ≤ n + 1
  | [], _ => Nat.zero_le _
  | d :: ds, h => by
    simp only [List.all_cons, Bool.and_eq_true] at h
    have h1 := ih d h.1
    have h2 := depthT_all ih ds h.2
    show max (py d).depth (PyData.depthAll (pys ds)) ≤ n + 1
    omega
theorem depthT : ∀ (n : Nat) (d : D), shpT n d = true → (py d).depth ≤ n + 1
  | n, .non, _ => Nat.zero_le _
  | n, .bl _, _ => Nat.zero_le _
  | n, .int _, _ => Nat.zero_le _
  | n, .str s, h => Nat.zero_le _
  | n + 1, .tup ds, h => by
    have := depthT_all (depthT n) ds h
    show PyData.depthAll (pys ds) + 1 ≤ _
    omega
  | 0, .tup ds, h => by cases h
  | 0, .lst ds, h => by cases h
  | n + 1, .lst ds, h => by cases h
  | n, .dct [] [], h => by show 0 + 1 ≤ _; omega
  | 0, .dct (_ :: _) _, h => by cases h
  | 0, .dct [] (_ :: _), h => by cases h
  | n + 1, .dct (_ :: _) _, h => by cases h
  | n + 1, .dct [] (_ :: _), h => by cases h
  | 0, .obj _ _, h => by cases h
  | n + 1, .obj _ _, h => by cases h
  | 0, .scr _, h => by cases h
  | n + 1, .scr _, h => by cases h
/-- what repr tells -/
def shown (d : D) : Str := (py d).shown
def reprD (d : D) : Option FV := if ((shp 50 d || shpT 50 d) && shw d && decide (rsz d ≤ 16000000)) = true then some (.d (.str (shown d))) else none
section
variable {G : Gx} {X : Cx} {k : Nat} {gf : Bool}
def rRepr (G : Gx) (X : Cx) : List V → Hp → VK → Prop := fun xs H Q => ∃ v d, xs = [v] ∧ ((shp 50 d = true ∧ ∃ Ex, Se G Ex H d v) ∨ (shpT 50 d = true ∧ ∃ Ex, Is G Ex H d v)) ∧ shw d = true ∧ rsz d ≤ 16000000 ∧ Q (.str (shown d)) H
theorem cr_repr (xg : XG G true k X) : CallR X (.builtin "repr") (rRepr G X) := by
  intro pins s σ H xs us Q I r h
  obtain ⟨v, d, rfl, hd, hw, hz, q⟩ := h
  obtain ⟨u, rfl, rv⟩ := vals1 r
  have hok : okS d = true := by
    rcases hd with hd | hd
    · exact okS_shp 50 d hd.1
    · exact okS_shpT 50 d hd.1
  have hlen : (py d).shown.length ≤ sizeLine := by
    have := shown_len d hok
    rw [sizeLine_eq]
    omega
  have hsh := showable_of d hok hw
  have hu := xg.room.un
  have main : ∀ as, Reads s.heap u (py d) as → ((py d).hasDict = true → sysModules ∉ as) → (py d).depth ≤ 60 → wpAny (model X.prog X.w) X.A (call (.builtin "repr") [u]) (EP X pins σ Q) X.xe s := fun as rd hs hdp => by
    cases d with
    | non =>
      cases rd
      exact PySem.P.repr_of_none ⟨.str _, H, I.tok _, ⟨_, rfl⟩, q⟩
    | bl b =>
      cases rd
      exact PySem.P.repr_of_bool ⟨.str _, H, I.tok _, ⟨_, rfl⟩, q⟩
    | int i =>
      cases rd
      have hw : decide (i.natAbs.log2 < 1000) = true := hw
      rw [decide_eq_true_eq] at hw
      exact PySem.P.repr_of_int (by omega) ⟨.str _, H, I.tok _, ⟨_, rfl⟩, q⟩
    | str x =>
      cases rd
      exact PySem.P.repr_of_str ⟨.str _, H, I.tok _, ⟨_, rfl⟩, q⟩ hlen
    | tup ds =>
      cases rd with
      | tuple h1 h2 h3 h4 =>
        have hdp : (PyData.tuple (pys ds)).depth ≤ 60 := hdp
        exact repr_of_reads' (.tuple h1 h2 h3 h4) hsh hs (xg.gd rfl) (by omega) (fun _ _ e => e) (fun h' u tk hk => ⟨.str _, H, I.kept hk, ⟨_, rfl⟩, q⟩) hlen
    | lst ds =>
      cases rd with
      | list h1 h2 h3 h4 =>
        have hdp : (PyData.list (pys ds)).depth ≤ 60 := hdp
        exact repr_of_reads' (.list h1 h2 h3 h4) hsh hs (xg.gd rfl) (by omega) (fun _ _ e => e) (fun h' u tk hk => ⟨.str _, H, I.kept hk, ⟨_, rfl⟩, q⟩) hlen
    | dct ks ds =>
      cases rd with
      | dict h1 h2 h3 h4 h5 =>
        have hdp : (PyData.dict []).depth ≤ 60 := hdp
        exact repr_of_reads' (.dict h1 h2 h3 h4 h5) hsh hs (xg.gd rfl) (by omega) (fun _ _ e => e) (fun h' u tk hk => ⟨.str _, H, I.kept hk, ⟨_, rfl⟩, q⟩) hlen
    | obj c ds => cases hok
    | scr ns => cases hok
  rcases hd with ⟨hs, Ex, hv⟩ | ⟨hs, Ex, hv⟩
  · have hv := dp_se (n := 49) hs hv
    rw [← xg.K] at hv
    obtain ⟨as, rd⟩ := Dp.reads I (py d) v u hv rv
    have := (shp_ok 50 d hs).2
    exact main as rd (fun z => by rw [noDict 50 d hs] at z; cases z) (by omega)
  · obtain ⟨as, rd, hn⟩ := readsT I 50 d v u hs hv rv
    have := depthT 50 d hs
    exact main as rd (fun _ => hn) (by omega)
theorem ck_repr (xg : XG G true k X) : CalE G X (.builtin "repr") reprD := by
  refine ⟨_, cr_repr xg, fun Ex H d x Q hl h1 h => ?_⟩
  obtain ⟨hc, h⟩ := if_yl h
  simp only [Bool.and_eq_true, Bool.or_eq_true, decide_eq_true_eq] at hc
  refine ⟨x, d, rfl, ?_, hc.1.2, hc.2, h.str⟩
  rcases hc.1.1 with e | e
  · exact .inl ⟨e, Ex, .inl h1⟩
  · exact .inr ⟨e, Ex, h1⟩
end
end Nol

set_option Elab.async false
set_option linter.all false
set_option maxRecDepth 100000
set_option maxHeartbeats 4000000
/-! Nol, part H: statements: names stored, lists written to, if, return. -/
namespace Nol
open PySem PySem.Spec PyProof.Rows L2

inductive RS where
  | nx (env : Fm)
  | bk (env : Fm)
  | ct (env : Fm)
  | rt (d : D) (env : Fm)
  | rf (ds : List D) (env : Fm)
  | er (c : Str) (d : D) (env : Fm)
abbrev Sv := Fm → Option RS
def bindS : Option RS → Sv → Option RS
  | some (.nx e), k => k e
  | r, _ => r
@[simp] theorem bindS_nx (e : Fm) (k : Sv) : bindS (some (.nx e)) k = k e := rfl
@[simp] theorem bindS_bk (e : Fm) (k : Sv) : bindS (some (.bk e)) k = some (.bk e) := rfl
@[simp] theorem bindS_ct (e : Fm) (k : Sv) : bindS (some (.ct e)) k = some (.ct e) := rfl
@[simp] theorem bindS_rt (d : D) (e : Fm) (k : Sv) : bindS (some (.rt d e)) k = some (.rt d e) := rfl
@[simp] theorem bindS_rf (d : List D) (e : Fm) (k : Sv) : bindS (some (.rf d e)) k = some (.rf d e) := rfl
@[simp] theorem bindS_er (c : Str) (d : D) (e : Fm) (k : Sv) : bindS (some (.er c d e)) k = some (.er c d e) := rfl
@[simp] theorem bindS_none (k : Sv) : bindS none k = none := rfl
/-- an expression's end, then a statement -/
def bindE {α : Type} : Option (Rs α) → (α → Sv) → Option RS
  | some (.ok a e), k => k a e
  | some (.er c d e), _ => some (.er c d e)
  | none, _ => none
@[simp] theorem bindE_ok {α : Type} (a : α) (e : Fm) (k : α → Sv) : bindE (some (.ok a e)) k = k a e := rfl
@[simp] theorem bindE_er {α : Type} (c : Str) (d : D) (e : Fm) (k : α → Sv) : bindE (some (.er c d e)) k = some (.er c d e) := rfl
@[simp] theorem bindE_none {α : Type} (k : α → Sv) : bindE none k = none := rfl

section
variable (G : Gx)
def PoS (W : WX) (Ex : Addr → Prop) (σ : St) (H : Hp) (env : Fm) (r : Option RS) (D : Ends) : Prop :=
  match r with
  | none => False
  | some (.nx env') => ∀ Ex' σ' H', Ext Ex σ H env Ex' σ' H' env' → Rep G Ex' σ' H' env' → D.nx σ' H'
  | some (.bk env') => ∀ Ex' σ' H', Ext Ex σ H env Ex' σ' H' env' → Rep G Ex' σ' H' env' → D.bk σ' H'
  | some (.ct env') => ∀ Ex' σ' H', Ext Ex σ H env Ex' σ' H' env' → Rep G Ex' σ' H' env' → D.ct σ' H'
  | some (.rt d env') => ∀ Ex' σ' H' v, Ext Ex σ H env Ex' σ' H' env' → Rep G Ex' σ' H' env' → Is G Ex' H' d v → D.rt v H'
  | some (.rf ds env') => ∀ Ex' σ' H' a vs, Ext Ex σ H env Ex' σ' H' env' → Rep G Ex' σ' H' env' → (H a = none ∨ Ow σ env a) → Ex' a → H' a = some (.lst vs) → Are G Ex' H' ds vs → D.rt (.ref a) H'
  | some (.er c d env') => ∀ Ex' σ' H' C dx v, Ext Ex σ H env Ex' σ' H' env' → Rep G Ex' σ' H' env' → G.cls c = some C → H' dx = some (.xd [("value", v)]) → Is G Ex' H' d v → W (.ref C) (some dx) σ' H'
def tS (W : WX) (f : Sv) : TS := fun D σ H => ∃ Ex env, Rep G Ex σ H env ∧ PoS G W Ex σ H env (f env) D
variable (X : Cx)
structure DS (st : Stmt) (f : Sv) : Prop where
  run : ∀ W, Takes X W → PS X st (tS G W f)
structure DSs (st : List Stmt) (f : Sv) : Prop where
  run : ∀ W, Takes X W → PSs X st (tS G W f)
end
theorem ps_weak {X : Cx} {e : Stmt} {t t' : TS} (h : PS X e t) (w : ∀ D σ H, t' D σ H → t D σ H) : PS X e t' := ⟨fun pins s σ H D I q => h.run pins s σ H D I (w D σ H q)⟩
theorem pss_weak {X : Cx} {e : List Stmt} {t t' : TS} (h : PSs X e t) (w : ∀ D σ H, t' D σ H → t D σ H) : PSs X e t' := ⟨fun pins s σ H D I q => h.run pins s σ H D I (w D σ H q)⟩

section
variable {G : Gx} {X : Cx} {W : WX} {Ex Ex' Ex1 : Addr → Prop} {σ σ1 : St} {H H' H1 : Hp} {env env' env1 : Fm} {k : Nat} {gf : Bool}
theorem Ext.owF (x : Ext Ex σ H env Ex1 σ1 H1 env1) {a : Addr} (h : H1 a = none ∨ Ow σ1 env1 a) : H a = none ∨ Ow σ env a := by
  rcases h with h | h
  · exact .inl (x.new h)
  · exact (x.owk a h).symm
theorem PoS.tr {r : Option RS} {D : Ends} (R : Rep G Ex σ H env) (x : Ext Ex σ H env Ex1 σ1 H1 env1) (p : PoS G W Ex σ H env r D) : PoS G W Ex1 σ1 H1 env1 r D := by
  cases r with
  | none => exact p
  | some r =>
    cases r with
    | nx e => exact fun Ex' σ' H' x' R' => p Ex' σ' H' (x.trans R x') R'
    | bk e => exact fun Ex' σ' H' x' R' => p Ex' σ' H' (x.trans R x') R'
    | ct e => exact fun Ex' σ' H' x' R' => p Ex' σ' H' (x.trans R x') R'
    | rt d e => exact fun Ex' σ' H' v x' R' => p Ex' σ' H' v (x.trans R x') R'
    | rf d e => exact fun Ex' σ' H' a vs x' R' n => p Ex' σ' H' a vs (x.trans R x') R' (x.owF n)
    | er c d e => exact fun Ex' σ' H' C dx v x' R' => p Ex' σ' H' C dx v (x.trans R x') R'
/-- a statement ends so -/
theorem PoS.now {D : Ends} {e : Fm} (R : Rep G Ex σ H e) (p : PoS G W Ex σ H e (some (.nx e)) D) : D.nx σ H := p Ex σ H Ext.refl R
/-- an expression, then what a statement does with it -/
theorem Po.toS {α β : Type} {rl : Rl α β} {r : Option (Rs α)} {k : α → Sv} {D : Ends} {C : β → Hp → Prop} (R : Rep G Ex σ H env) (p : PoS G W Ex σ H env (bindE r k) D)
    (c : ∀ a env1 Ex1 H1 x, r = some (.ok a env1) → Ext Ex σ H env Ex1 σ H1 env1 → Sub env env1 → Rep G Ex1 σ H1 env1 → rl H Ex1 H1 σ a x → PoS G W Ex1 σ H1 env1 (k a env1) D → C x H1) :
    Po G W rl Ex σ H env r C := by
  cases r with
  | none => exact p
  | some r =>
    cases r with
    | ok a e => exact fun Ex' H' b x' s' R' q => c a e Ex' H' b rfl x' s' R' q (PoS.tr R x' p)
    | er c d e => exact fun Ex' H' C dx v x' s' R' => p Ex' σ H' C dx v x' R'

/-! ### blocks -/
variable {st : Stmt} {sts : List Stmt} {f g : Sv} {pos p : Pos}
def svNil : Sv := fun env => some (.nx env)
def svSeq (f g : Sv) : Sv := fun env => bindS (f env) g
theorem dss_nil : DSs G X [] svNil := ⟨fun W tk => pss_weak pss_nil fun D σ H ⟨Ex, env, R, p⟩ => PoS.now R p⟩
theorem dss_cons (h : DS G X st f) (h' : DSs G X sts g) : DSs G X (st :: sts) (svSeq f g) := by
  refine ⟨fun W tk => pss_weak (pss_cons (h.run W tk) (h'.run W tk)) fun D σ H ⟨Ex, env, R, p⟩ => ⟨Ex, env, R, ?_⟩⟩
  have p : PoS G W Ex σ H env (bindS (f env) g) D := p
  cases z : f env with
  | none => rw [z] at p; exact p
  | some r =>
    rw [z] at p
    cases r with
    | nx e => exact fun Ex' σ' H' x R' => ⟨Ex', e, R', PoS.tr R x p⟩
    | bk e => exact p
    | ct e => exact p
    | rt d e => exact p
    | rf d e => exact p
    | er c d e => exact p
theorem dss_one (h : DS G X st f) : DSs G X [st] f := ⟨fun W tk => pss_one (h.run W tk)⟩
theorem ds_pass : DS G X (.Pass pos) svNil := ⟨fun W tk => ps_weak ps_pass fun D σ H ⟨Ex, env, R, p⟩ => PoS.now R p⟩
theorem ds_break : DS G X (.Break pos) (fun env => some (.bk env)) := ⟨fun W tk => ps_weak ps_break fun D σ H ⟨Ex, env, R, p⟩ => p Ex σ H Ext.refl R⟩
theorem ds_continue : DS G X (.Continue pos) (fun env => some (.ct env)) := ⟨fun W tk => ps_weak ps_continue fun D σ H ⟨Ex, env, R, p⟩ => p Ex σ H Ext.refl R⟩
variable {e : Expr} {c : Expr} {a b : List Stmt}
def svDrop {α : Type} (f : Ev α) : Sv := fun env => bindE (f env) fun _ env1 => some (.nx env1)
theorem ds_expr {f : Ev FV} (h : DF G X e f) (hs : swapsWith e none pos.line X.env = pure false := by rfl) : DS G X (.Expr e pos) (svDrop f) :=
  ⟨fun W tk => ps_weak (ps_expr (h.run W tk) hs) fun D σ H ⟨Ex, env, R, p⟩ => ⟨Ex, env, R, Po.toS R p fun a env1 Ex1 H1 x _ xt sb R1 q p1 => p1.now R1⟩⟩
def svRet (f : Ev FV) : Sv := fun env => bindE (f env) fun v env1 => match v with
  | .d d => some (.rt d env1)
  | .fr ds => some (.rf ds env1)
theorem ds_ret {f : Ev FV} (h : DF G X e f) : DS G X (.Return (some e) pos) (svRet f) := by
  refine ⟨fun W tk => ps_weak (ps_ret (h.run W tk)) fun D σ H ⟨Ex, env, R, p⟩ => ⟨Ex, env, R, ?_⟩⟩
  have p : PoS G W Ex σ H env (bindE (f env) _) D := p
  cases z : f env with
  | none => rw [z] at p; exact p
  | some r =>
    rw [z] at p
    cases r with
    | er c d e => exact fun Ex' H' C dx v x s R' => p Ex' σ H' C dx v x R'
    | ok v e =>
      intro Ex' H' b x s R' q
      cases v with
      | d d => exact p Ex' σ H' b x R' q
      | fr ds =>
        obtain ⟨a, vs, rfl, n, ea, ha, hr⟩ := q
        exact p Ex' σ H' a vs x R' (.inl n) ea ha hr
/-- return of a name that holds a list of the frame's own -/
def svRetV (i : Nat) : Sv := fun env => match env[i]? with
  | some (.v d) => some (.rt d env)
  | some (.own ds) => some (.rf ds env)
  | _ => none
theorem ds_retV {i : Nat} {x : Str} {p' : Pos} (h : PE X (.Name x p') (tVar i)) : DS G X (.Return (some (.Name x p')) pos) (svRetV i) := by
  refine ⟨fun W tk => ps_weak (ps_ret h) fun D σ H ⟨Ex, env, R, p⟩ => ?_⟩
  unfold svRetV at p
  cases z : env[i]? with
  | none => simp [z] at p; exact p.elim
  | some s =>
    cases s with
    | v d =>
      simp only [z] at p
      obtain ⟨v, q, w⟩ := slot_get R z (by simp)
      exact ⟨v, q, p Ex σ H v Ext.refl R w⟩
    | own ds =>
      simp only [z] at p
      obtain ⟨v, q, a, vs, rfl, ha, ea, hr⟩ := slot_get R z (by simp)
      exact ⟨_, q, p Ex σ H a vs Ext.refl R (.inr ⟨i, ds, z, q⟩) ea ha hr⟩
    | un => simp [z] at p; exact p.elim
    | par d => simp [z] at p; exact p.elim
    | lock d => simp [z] at p; exact p.elim
theorem ds_retN : DS G X (.Return none pos) (fun env => some (.rt .non env)) := ⟨fun W tk => ps_weak ps_retN fun D σ H ⟨Ex, env, R, p⟩ => p Ex σ H _ Ext.refl R (by unfold Is; rfl)⟩
def svIf (t : Ev Bool) (f g : Sv) : Sv := fun env => bindE (t env) fun c env1 => if c = true then f env1 else g env1
theorem ds_if {t : Ev Bool} (hc : DT G X c t) (ha : DSs G X a f) (hb : DSs G X b g) : DS G X (.If c a b pos) (svIf t f g) := by
  refine ⟨fun W tk => ps_weak (ps_if (hc.run W tk) (ha.run W tk) (hb.run W tk)) fun D σ H ⟨Ex, env, R, p⟩ => ⟨Ex, env, R, Po.toS R p fun d env1 Ex1 H1 x _ xt sb R1 q p1 => ?_⟩⟩
  cases (show d = x from q)
  cases d with
  | true => rw [if_pos rfl] at p1 ⊢; exact ⟨Ex1, env1, R1, p1⟩
  | false => rw [if_neg Bool.false_ne_true] at p1 ⊢; exact ⟨Ex1, env1, R1, p1⟩

/-! ### a name is stored -/
def slOf : FV → Sl
  | .d d => .v d
  | .fr ds => .own ds
@[simp] theorem slOf_d (d : D) : slOf (.d d) = .v d := rfl
@[simp] theorem slOf_fr (d : List D) : slOf (.fr d) = .own d := rfl
theorem set_cases {α : Type} {l : List α} {i j : Nat} {a b : α} (h : (l.set i a)[j]? = some b) : (j = i ∧ b = a) ∨ (j ≠ i ∧ l[j]? = some b) := by
  rw [List.getElem?_set] at h
  split at h
  · rename_i hij
    split at h
    · cases h
      exact .inl ⟨hij.symm, rfl⟩
    · cases h
  · rename_i hij
    exact .inr ⟨fun z => hij z.symm, h⟩
theorem Rep.put {i : Nat} {v : V} {s : Sl} (R : Rep G Ex σ H env) (hs : SlIs G Ex H s (some v)) (hd : ∀ a j, s.isM = true → v = .ref a → j ≠ i → ¬ Holds σ env j a) : Rep G Ex (σ.set i (some v)) H (env.set i s) := by
  have hh : ∀ {j a}, Holds (σ.set i (some v)) (env.set i s) j a → (j = i ∧ s.isM = true ∧ v = .ref a) ∨ (j ≠ i ∧ Holds σ env j a) := fun {j a} ⟨q1, t, q2, m⟩ => by
    rcases set_cases q1 with ⟨hj, e1⟩ | ⟨hj, e1⟩
    · rcases set_cases q2 with ⟨_, e2⟩ | ⟨hk, _⟩
      · injection e1 with e1
        exact .inl ⟨hj, e2 ▸ m, e1.symm⟩
      · exact absurd hj hk
    · rcases set_cases q2 with ⟨hk, _⟩ | ⟨_, e2⟩
      · exact absurd hk hj
      · exact .inr ⟨hj, e1, t, e2, m⟩
  refine ⟨by simp [R.len], fun j o t q1 q2 => ?_, fun j l a h1 h2 => ?_, R.ex, R.tb⟩
  · rcases set_cases q1 with ⟨hj, e1⟩ | ⟨hj, e1⟩
    · rcases set_cases q2 with ⟨_, e2⟩ | ⟨hk, _⟩
      · rw [e1, e2]
        exact hs
      · exact absurd hj hk
    · rcases set_cases q2 with ⟨hk, _⟩ | ⟨_, e2⟩
      · exact absurd hk hj
      · exact R.sl j o t e1 e2
  · rcases hh h1 with ⟨hj, m, e⟩ | ⟨hj, g1⟩
    · rcases hh h2 with ⟨hl, _, _⟩ | ⟨hl, g2⟩
      · exact hj.trans hl.symm
      · exact absurd g2 (hd a l m e hl)
    · rcases hh h2 with ⟨hl, m, e⟩ | ⟨hl, g2⟩
      · exact absurd g1 (hd a j m e hj)
      · exact R.dj j l a g1 g2
theorem Ext.put {Ex0 : Addr → Prop} {σ0 : St} {H0 : Hp} {env0 : Fm} {i : Nat} {v : V} {s : Sl} (x : Ext Ex0 σ0 H0 env0 Ex σ H env) (hp : ∀ ds, s ≠ .par ds) (ho : ∀ a ds, s = .own ds → v = .ref a → Ow σ0 env0 a ∨ H0 a = none) :
    Ext Ex0 σ0 H0 env0 Ex (σ.set i (some v)) H (env.set i s) :=
  ⟨x.keep, x.thr, x.exs, x.exk, fun a ⟨j, ds, q1, q2⟩ => by
    rcases set_cases q1 with ⟨hj, e1⟩ | ⟨hj, e1⟩
    · rcases set_cases q2 with ⟨_, e2⟩ | ⟨hk, _⟩
      · injection e2 with e2
        exact ho a ds e1.symm e2.symm
      · exact absurd hj hk
    · rcases set_cases q2 with ⟨hk, _⟩ | ⟨_, e2⟩
      · exact absurd hk hj
      · exact x.owk a ⟨j, ds, e1, e2⟩, fun a ⟨j, ds, q1, q2⟩ => by
    rcases set_cases q1 with ⟨hj, e1⟩ | ⟨hj, e1⟩
    · exact absurd e1.symm (hp ds)
    · rcases set_cases q2 with ⟨hk, _⟩ | ⟨_, e2⟩
      · exact absurd hk hj
      · exact x.prk a ⟨j, ds, e1, e2⟩⟩
/-- a new value into a slot -/
theorem put_fv {i : Nat} {v : V} {fv : FV} {H0 : Hp} {Ex0 : Addr → Prop} {σ0 : St} {env0 : Fm} (R0 : Rep G Ex0 σ0 H0 env0) (x : Ext Ex0 σ0 H0 env0 Ex σ H env) (R : Rep G Ex σ H env) (h : RF G H0 Ex H σ fv v)
    (hn : ∀ ds a j, fv = .fr ds → v = .ref a → H0 a = none → j ≠ i → ¬ Holds σ env j a) : Rep G Ex (σ.set i (some v)) H (env.set i (slOf fv)) ∧ Ext Ex0 σ0 H0 env0 Ex (σ.set i (some v)) H (env.set i (slOf fv)) := by
  cases fv with
  | d d => exact ⟨R.put h (fun a j m => by cases m), x.put (fun ds z => by cases z) fun a ds z => by cases z⟩
  | fr ds =>
    obtain ⟨a, vs, rfl, n, ea, ha, hr⟩ := h
    refine ⟨R.put ⟨a, vs, rfl, ha, ea, hr⟩ fun b j _ e hj => ?_, x.put (fun ds z => by cases z) fun b ds _ e => ?_⟩
    · cases e
      exact hn ds a j rfl rfl n hj
    · cases e
      exact .inr n
def svAsg (i : Nat) (f : Ev FV) : Sv := fun env => bindE (f env) fun v env1 => some (.nx (env1.set i (slOf v)))
variable {i j : Nat} {x y : Str} {pos' px py pt : Pos}
theorem asg_core {f : Ev FV} {D : Ends} (h : tS G W (svAsg i f) D σ H) : tX G W (RF G) f σ H fun v H1 => D.nx (σ.set i (some v)) H1 := by
  obtain ⟨Ex, env, R, p⟩ := h
  refine ⟨Ex, env, R, Po.toS R p fun v env1 Ex1 H1 x e xt sb R1 q p1 => ?_⟩
  obtain ⟨R2, x2⟩ := put_fv (i := i) R xt R1 q fun ds a j _ e n hj hh => by
    obtain ⟨_, us, z⟩ := R.holds (sb.holds hh)
    rw [n] at z
    cases z
  have p' : PoS G W Ex σ H env (some (.nx (env1.set i (slOf v)))) D := by
    have p : PoS G W Ex σ H env (bindE (f env) fun v env1 => some (.nx (env1.set i (slOf v)))) D := p
    rw [e] at p
    exact p
  exact p' Ex1 _ H1 x2 R2
theorem ds_asg {f : Ev FV} (xg : XG G gf k X) (hi : X.N[i]? = some x) (hx : Loc X.env.scope x) (he : DF G X e f) (hs : swapsWith e (some (.Name x pos')) pos.line X.env = pure false := by rfl)
    (hf : X.fn x = true ∨ X.env.scope.names.lookup x = some .local := by first | exact .inl rfl | exact .inr rfl | assumption) : DS G X (.Assign [.Name x pos'] e pos) (svAsg i f) :=
  ⟨fun W tk => ps_weak (ps_set xg.nd hi hx (he.run W tk) hs hf) fun D σ H h => asg_core h⟩
/-- x, y = e1, e2 with plain local names -/
def svPar (i j : Nat) (f g : Ev FV) : Sv := fun env => bindE (f env) fun v env1 => bindE (g env1) fun w env2 => some (.nx ((env2.set i (slOf v)).set j (slOf w)))
theorem RF.tr {σ : St} {p : FV} {v : V} {H0 : Hp} {Ex0 : Addr → Prop} {env0 : Fm} (R0 : Rep G Ex0 σ H0 env0) (sb : Sub env0 env) (R : Rep G Ex σ H env) (x : Ext Ex σ H env Ex1 σ H1 env1) (h : RF G H0 Ex H σ p v) : RF G H0 Ex1 H1 σ p v := by
  cases p with
  | d d => exact x.is R h
  | fr ds =>
    obtain ⟨a, vs, e, n, ea, ha, hr⟩ := h
    have nh : ∀ i, ¬ Holds σ env i a := fun i hh => by
      obtain ⟨_, us, z⟩ := R0.holds (sb.holds hh)
      rw [n] at z
      cases z
    have nw : ¬ Wr σ env a := fun w => by
      obtain ⟨i, hh⟩ := w.holds
      exact nh i hh
    exact ⟨a, vs, e, n, x.exk a ea fun o => nw (.inl o), x.keep a _ ha (fun _ z => nomatch z) nw, x.are R hr⟩
end
end Nol

set_option Elab.async false
set_option linter.all false
set_option maxRecDepth 100000
set_option maxHeartbeats 4000000
/-! Nol, part I: targets, loops. -/
namespace Nol
open PySem PySem.Spec PyProof.Rows L2

section
variable (G : Gx)
/-- the slots a target names are changed, no other -/
structure Off (is : List Nat) {α : Type} (l l' : List α) : Prop where
  len : l'.length = l.length
  off : ∀ j : Nat, ¬ j ∈ is → l'[j]? = l[j]?
def tG (is : List Nat) (g : D → Fm → Option Fm) : TG := fun v σ H Q => ∃ Ex env d env', Rep G Ex σ H env ∧ Is G Ex H d v ∧ g d env = some env' ∧ ∀ σ', Off is σ σ' → Ext Ex σ H env Ex σ' H env' → Rep G Ex σ' H env' → Q σ' H
def tGs (is : List Nat) (g : List D → Fm → Option Fm) : TGs := fun vs σ H Q => ∃ Ex env ds env', Rep G Ex σ H env ∧ Are G Ex H ds vs ∧ g ds env = some env' ∧ ∀ σ', Off is σ σ' → Ext Ex σ H env Ex σ' H env' → Rep G Ex σ' H env' → Q σ' H
variable (X : Cx)
structure DG (tg : Expr) (is : List Nat) (g : D → Fm → Option Fm) : Prop where
  run : PG X tg (tG G is g)
  off : ∀ d env env', g d env = some env' → Off is env env'
structure DGs (tgs : List Expr) (is : List Nat) (g : List D → Fm → Option Fm) : Prop where
  run : PGs X tgs (tGs G is g)
  off : ∀ d env env', g d env = some env' → Off is env env'
end
theorem Off.refl {α : Type} {is : List Nat} {l : List α} : Off is l l := ⟨rfl, fun _ _ => rfl⟩
theorem Off.trans {α : Type} {is js : List Nat} {a b c : List α} (h : Off is a b) (h' : Off js b c) : Off (is ++ js) a c :=
  ⟨h'.len.trans h.len, fun j n => (h'.off j fun z => n (List.mem_append_right _ z)).trans (h.off j fun z => n (List.mem_append_left _ z))⟩
theorem Off.set {α : Type} {i : Nat} {l : List α} {a : α} : Off [i] l (l.set i a) := ⟨by simp, fun j n => by
  rw [List.getElem?_set_ne (fun e => n (by simp [e]))]⟩
section
variable {G : Gx} {X : Cx} {W : WX} {Ex Ex' Ex1 : Addr → Prop} {σ σ1 : St} {H H' H1 : Hp} {env env' env1 : Fm} {k : Nat} {gf : Bool} {pos : Pos}
def putN (i : Nat) (d : D) (env : Fm) : Option Fm := some (env.set i (.v d))
theorem dg_name {i : Nat} {x : Str} (xg : XG G gf k X) (hi : X.N[i]? = some x) (hx : Loc X.env.scope x) (hf : X.fn x = true ∨ X.env.scope.names.lookup x = some .local := by first | exact .inl rfl | exact .inr rfl | assumption) : DG G X (.Name x pos) [i] (putN i) := by
  refine ⟨⟨fun pins s σ H v u Q I r ⟨Ex, env, d, env', R, hd, e, q⟩ => (pg_name xg.nd hi hx hf).run pins s σ H v u Q I r ?_⟩, fun d env env' e => ?_⟩
  · cases e
    exact q _ Off.set (Ext.put Ext.refl (fun ds z => by cases z) fun a ds z => by cases z) (R.put hd fun a j m => by cases m)
  · cases e
    exact Off.set
def putNil (ds : List D) (env : Fm) : Option Fm := match ds with
  | [] => some env
  | _ :: _ => none
def putCons (g : D → Fm → Option Fm) (h : List D → Fm → Option Fm) (ds : List D) (env : Fm) : Option Fm := match ds with
  | [] => none
  | d :: r => (g d env).bind (h r)
theorem dgs_nil : DGs G X [] [] putNil := by
  refine ⟨⟨fun pins s σ H vs us Q I r ⟨Ex, env, ds, env', R, hd, e, q⟩ => pgs_nil.run pins s σ H vs us Q I r ?_⟩, fun ds env env' e => ?_⟩
  · cases ds with
    | nil =>
      cases e
      unfold Are at hd
      exact ⟨hd, q σ Off.refl Ext.refl R⟩
    | cons _ _ => cases e
  · cases ds with
    | nil => cases e; exact Off.refl
    | cons _ _ => cases e
theorem dgs_cons {e : Expr} {es : List Expr} {is js : List Nat} {g : D → Fm → Option Fm} {h : List D → Fm → Option Fm} (h1 : DG G X e is g) (h2 : DGs G X es js h)
    (hs : (assignEach (e :: es) X.env).map (·.2) = assign e X.env :: (assignEach es X.env).map (·.2) := by rfl) : DGs G X (e :: es) (is ++ js) (putCons g h) := by
  refine ⟨⟨fun pins s σ H vs us Q I r ⟨Ex, env, ds, env', R, hd, e, q⟩ => (pgs_cons h1.run h2.run hs).run pins s σ H vs us Q I r ?_⟩, fun ds env env' e => ?_⟩
  · cases ds with
    | nil => cases e
    | cons d ds =>
      unfold Are at hd
      obtain ⟨v, vr, rfl, q1, q2⟩ := hd
      unfold putCons at e
      cases z : g d env with
      | none => simp [z] at e
      | some env1 =>
        simp [z] at e
        exact ⟨v, vr, rfl, Ex, env, d, env1, R, q1, z, fun σ1 o1 x1 R1 => ⟨Ex, env1, ds, env', R1, x1.are R q2, e, fun σ2 o2 x2 R2 => q σ2 (o1.trans o2) (x1.trans R x2) R2⟩⟩
  · cases ds with
    | nil => cases e
    | cons d ds =>
      unfold putCons at e
      cases z : g d env with
      | none => simp [z] at e
      | some env1 =>
        simp [z] at e
        exact (h1.off _ _ _ z).trans (h2.off _ _ _ e)
def putTup (n : Nat) (h : List D → Fm → Option Fm) (d : D) (env : Fm) : Option Fm := match d with
  | .tup ds => if ds.length = n then h ds env else none
  | _ => none
theorem dg_tup {es : List Expr} {j n : Nat} {is : List Nat} {h : List D → Fm → Option Fm} (xg : XG G gf k X) (hh : DGs G X es is h) (hn : (assignEach es X.env).length = n := by rfl) (hst : (assignEach es X.env).findIdx? (·.1) = none := by rfl) :
    DG G X (.Tuple es j pos) is (putTup n h) := by
  refine ⟨⟨fun pins s σ H v u Q I r ⟨Ex, env, d, env', R, hd, e, q⟩ => (pg_tup (pos := pos) (k := j) xg.calm hh.run hn hst).run pins s σ H v u Q I r ?_⟩, fun d env env' e => ?_⟩
  · cases d with
    | tup ds =>
      unfold putTup at e
      simp only at e
      by_cases hl : ds.length = n
      · rw [if_pos hl] at e
        obtain ⟨a, vs, rfl, ha, hr⟩ := hd.tupE
        exact ⟨a, vs, rfl, SqT.of ha, hr.length.trans hl, Ex, env, ds, env', R, hr, e, q⟩
      · rw [if_neg hl] at e; cases e
    | _ => cases e
  · cases d with
    | tup ds =>
      unfold putTup at e
      simp only at e
      by_cases hl : ds.length = n
      · rw [if_pos hl] at e
        exact hh.off _ _ _ e
      · rw [if_neg hl] at e; cases e
    | _ => cases e
/-- a target, then what follows -/
def svPut (g : D → Fm → Option Fm) (f : Ev D) : Sv := fun env => bindE (f env) fun d env1 => match g d env1 with
  | some e => some (.nx e)
  | none => none
theorem ds_put {tg e : Expr} {is : List Nat} {g : D → Fm → Option Fm} {f : Ev D} (hg : DG G X tg is g) (he : DE G X e f) (hs : swapsWithSole [tg] e pos.line X.env = pure false := by rfl) (hw : swappedStores [tg] e X.env = pure none := by rfl)
    (h1 : (assignEach [tg] X.env).map (·.2) = [assign tg X.env] := by rfl) : DS G X (.Assign [tg] e pos) (svPut g f) := by
  refine ⟨fun W tk => ps_weak (ps_asg (he.run W tk) hg.run hs hw h1) fun D σ H ⟨Ex, env, R, p⟩ => ⟨Ex, env, R, Po.toS R p fun d env1 Ex1 H1 x z xt sb R1 q p1 => ?_⟩⟩
  cases y : g d env1 with
  | none => simp [y] at p1; exact p1.elim
  | some e2 =>
    simp only [y] at p1
    exact ⟨Ex1, env1, d, e2, R1, q, y, fun σ2 _ x2 R2 => p1 Ex1 σ2 H1 x2 R2⟩
variable {i j : Nat} {x y : Str} {px py pt : Pos} {a b c : Expr}
theorem Po.imp {α β : Type} {rl : Rl α β} {r : Option (Rs α)} {Q Q' : β → Hp → Prop} (h : Po G W rl Ex σ H env r Q) (hQ : ∀ v H', Q v H' → Q' v H') : Po G W rl Ex σ H env r Q' := by
  cases r with
  | none => exact h
  | some r =>
    cases r with
    | ok a e => exact fun Ex' H' b x s R q => hQ _ _ (h Ex' H' b x s R q)
    | er c d e => exact h
/-- two values, then both are stored -/
theorem par_core {f g : Ev FV} {D0 : Ends} (h : tS G W (svPar i j f g) D0 σ H) : tX G W (RF G) f σ H fun v H1 => tX G W (RF G) g σ H1 fun w H2 => ∀ H3, Same H2 H3 → D0.nx ((σ.set i (some v)).set j (some w)) H3 := by
  obtain ⟨Ex, env, R, p⟩ := h
  refine ⟨Ex, env, R, Po.toS R p fun v env1 Ex1 H1 vv z xt sb R1 q p1 => ?_⟩
  refine ⟨Ex1, env1, R1, Po.toS R1 p1 fun w env2 Ex2 H2 ww z2 xt2 sb2 R2 q2 p2 H3 sm => ?_⟩
  have q' : RF G H Ex2 H2 σ v vv := q.tr R sb R1 xt2
  have fresh : ∀ a, H a = none → ∀ j', ¬ Holds σ env2 j' a := fun a n j' hh => by
    obtain ⟨_, us, z⟩ := R.holds ((sb.trans sb2).holds hh)
    rw [n] at z
    cases z
  obtain ⟨R3, x3⟩ := put_fv (i := i) R (xt.trans R xt2) R2 q' fun ds a j' _ e n hj' => fresh a n j'
  obtain ⟨R4, x4⟩ := put_fv (i := j) R x3 R3 (stm_RF _ _ _ _ _ _ _ (fun c => xt.new) q2) fun ds a j' e1 e2 n hj' hh => by
    obtain ⟨h1, s, h2, m⟩ := hh
    rcases set_cases h1 with ⟨_, e3⟩ | ⟨hk, e3⟩
    · rcases set_cases h2 with ⟨_, e4⟩ | ⟨hk, _⟩
      · injection e3 with e3
        cases v with
        | d d => rw [e4] at m; cases m
        | fr es =>
          obtain ⟨a1, vs1, e5, _, _, h5, _⟩ := q
          subst e1
          obtain ⟨a2, vs2, e6, n6, _⟩ := q2
          rw [e5] at e3
          rw [e2] at e6
          cases e3
          cases e6
          rw [n6] at h5
          cases h5
      · exact absurd ‹_› hk
    · rcases set_cases h2 with ⟨hk2, _⟩ | ⟨_, e4⟩
      · exact absurd hk2 hk
      · exact fresh a n j' ⟨e3, s, e4, m⟩
  have p' : PoS G W Ex σ H env (some (.nx ((env2.set i (slOf v)).set j (slOf w)))) D0 := by
    have p : PoS G W Ex σ H env (bindE (f env) fun v env1 => bindE (g env1) fun w env2 => some (.nx ((env2.set i (slOf v)).set j (slOf w)))) D0 := p
    rw [z] at p
    have p : PoS G W Ex σ H env (bindE (g env1) fun w env2 => some (.nx ((env2.set i (slOf v)).set j (slOf w)))) D0 := p
    rw [z2] at p
    exact p
  exact p' Ex2 _ H3 (x4.trans R (Ext.grow sm)) (R4.grow sm)
/-- x, y = e1, e2, plain local names -/
theorem ds_par {f g : Ev FV} {kt k2 pt2} (xg : XG G gf k X) (hi : X.N[i]? = some x) (hj : X.N[j]? = some y) (hij : i ≠ j) (hx : X.env.scope.names.lookup x = some .local) (hy : X.env.scope.names.lookup y = some .local)
    (ha : DF G X a f) (hb : DF G X b g) (hw : swappedStores [.Tuple [.Name x px, .Name y py] kt pt] (.Tuple [a, b] k2 pt2) X.env = pure (some [x, y]))
    (hst : starEach [a, b] X.env = (false, eval a X.env) :: starEach [b] X.env := by rfl) (hst2 : starEach [b] X.env = (false, eval b X.env) :: starEach [] X.env := by rfl)
    (hsw : swapsWithSole [.Tuple [.Name x px, .Name y py] kt pt] (.Tuple [a, b] k2 pt2) pos.line X.env = pure false := by rfl) :
    DS G X (.Assign [.Tuple [.Name x px, .Name y py] kt pt] (.Tuple [a, b] k2 pt2) pos) (svPar i j f g) := by
  refine ⟨fun W tk => ps_weak (ps_par xg.calm xg.nd hi hj hij hx hy (pa_cons (ha.run W tk) (pa_cons (hb.run W tk) pa_nil hst2) hst) hw hsw) fun D0 σ H h => ?_⟩
  obtain ⟨Ex, env, R, p⟩ := par_core h
  exact ⟨Ex, env, R, p.imp fun v H1 ⟨Ex1, env1, R1, p1⟩ => ⟨Ex1, env1, R1, p1.imp fun w H2 h2 => ⟨v, w, rfl, h2 H2 (Same.refl _)⟩⟩⟩
/-- the same where a name is captured by an inner block: the pair is laid, then taken apart -/
theorem ds_parC {f g : Ev FV} {kt k2 : Nat} {pt2 : Pos} (xg : XG G gf k X) (hi : X.N[i]? = some x) (hj : X.N[j]? = some y) (hx : Loc X.env.scope x) (hy : Loc X.env.scope y)
    (ha : DF G X a f) (hb : DF G X b g) (hw : swappedStores [.Tuple [.Name x px, .Name y py] kt pt] (.Tuple [a, b] k2 pt2) X.env = pure none := by rfl)
    (hst : starEach [a, b] X.env = (false, eval a X.env) :: starEach [b] X.env := by rfl) (hst2 : starEach [b] X.env = (false, eval b X.env) :: starEach [] X.env := by rfl)
    (hsw : swapsWithSole [.Tuple [.Name x px, .Name y py] kt pt] (.Tuple [a, b] k2 pt2) pos.line X.env = pure false := by rfl)
    (hfx : X.fn x = true ∨ X.env.scope.names.lookup x = some .local := by first | exact .inl rfl | exact .inr rfl | assumption) (hfy : X.fn y = true ∨ X.env.scope.names.lookup y = some .local := by first | exact .inl rfl | exact .inr rfl | assumption)
    (h1 : (assignEach [.Tuple [.Name x px, .Name y py] kt pt] X.env).map (·.2) = [assign (.Tuple [.Name x px, .Name y py] kt pt) X.env] := by rfl) (h2 : (assignEach [.Name x px, .Name y py] X.env).map (·.2) = assign (.Name x px) X.env :: (assignEach [.Name y py] X.env).map (·.2) := by rfl)
    (h3 : (assignEach [.Name y py] X.env).map (·.2) = assign (.Name y py) X.env :: (assignEach [] X.env).map (·.2) := by rfl) (h4 : (assignEach [.Name x px, .Name y py] X.env).length = 2 := by rfl) (h5 : (assignEach [.Name x px, .Name y py] X.env).findIdx? (·.1) = none := by rfl) :
    DS G X (.Assign [.Tuple [.Name x px, .Name y py] kt pt] (.Tuple [a, b] k2 pt2) pos) (svPar i j f g) := by
  refine ⟨fun W tk => ps_weak (ps_asg (pe_tup (pa_cons (ha.run W tk) (pa_cons (hb.run W tk) pa_nil hst2) hst)) (pg_tup (n := 2) xg.calm (pgs_cons (pg_name xg.nd hi hx hfx) (pgs_cons (pg_name xg.nd hj hy hfy) pgs_nil h3) h2) h4 h5) hsw hw h1) fun D0 σ H h => ?_⟩
  obtain ⟨Ex, env, R, p⟩ := par_core h
  exact ⟨Ex, env, R, p.imp fun v H1 ⟨Ex1, env1, R1, p1⟩ => ⟨Ex1, env1, R1, p1.imp fun w H2 h2 => ⟨(by show 2 ≤ sizeLine; decide), fun r hr => ⟨r, [v, w], rfl, SqT.of upd_same, rfl, v, [w], rfl, w, [], rfl, rfl, h2 _ (same_new hr)⟩⟩⟩⟩

/-! ### loops -/
/-- the turns over what is walked -/
def loopS (g : D → Fm → Option Fm) (body : Sv) : List D → Sv
  | [], env => some (.nx env)
  | d :: ds, env => match g d env with
    | none => none
    | some env1 => match body env1 with
      | some (.nx env2) => loopS g body ds env2
      | some (.ct env2) => loopS g body ds env2
      | some (.bk env2) => some (.nx env2)
      | r => r
def svFor (it : Ev (List D)) (g : D → Fm → Option Fm) (body : Sv) : Sv := fun env => bindE (it env) fun ds env1 => loopS g body ds env1
theorem loop_turn {g : D → Fm → Option Fm} {body : Sv} {d : D} {ds : List D} {D0 : Ends} {is : List Nat} {tg : Expr} {v : V} {sts : List Stmt} (Pv : St → Hp → Prop) (R : Rep G Ex σ H env) (hd : Is G Ex H d v) (p : PoS G W Ex σ H env (loopS g body (d :: ds) env) D0)
    (hP : ∀ Ex' σ' H' env', Ext Ex σ H env Ex' σ' H' env' → Rep G Ex' σ' H' env' → PoS G W Ex' σ' H' env' (loopS g body ds env') D0 → Pv σ' H') : tG G is g v σ H fun σ2 H2 => tS G W body { D0 with nx := Pv, ct := Pv, bk := D0.nx } σ2 H2 := by
  unfold loopS at p
  cases z : g d env with
  | none => simp [z] at p; exact p.elim
  | some env1 =>
    simp only [z] at p
    refine ⟨Ex, env, d, env1, R, hd, z, fun σ' _ x R1 => ⟨Ex, env1, R1, ?_⟩⟩
    have p1 := PoS.tr R x p
    cases y : body env1 with
    | none => simp [y] at p1; exact p1.elim
    | some r =>
      simp only [y] at p1
      cases r with
      | nx e => exact fun Ex' σ2 H2 x' R' => hP Ex' σ2 H2 e (x.trans R x') R' (PoS.tr R1 x' p1)
      | ct e => exact fun Ex' σ2 H2 x' R' => hP Ex' σ2 H2 e (x.trans R x') R' (PoS.tr R1 x' p1)
      | bk e => exact p1
      | rt d e => exact p1
      | rf d e => exact p1
      | er c d e => exact p1
def evSeq (tup : Bool) (f : Ev D) : Ev (List D) := fun env => bindR (f env) fun d env1 => match d, tup with
  | .lst ds, false => some (.ok ds env1)
  | .tup ds, true => some (.ok ds env1)
  | .scr ns, false => some (.ok (ns.map .int) env1)
  | _, _ => none
theorem Are.split {ds : List D} {vs : List V} {j : Nat} {v : V} (h : Are G Ex H ds vs) (e : vs[j]? = some v) : ∃ d, ds.drop j = d :: ds.drop (j + 1) ∧ Is G Ex H d v := by
  obtain ⟨d, e1, e2⟩ := h.get e
  obtain ⟨hj, e1⟩ := List.getElem?_eq_some_iff.mp e1
  exact ⟨d, by rw [← e1, List.drop_eq_getElem_cons hj], e2⟩
theorem drop_all {ds : List D} {vs : List V} (h : Are G Ex H ds vs) : ds.drop vs.length = [] := List.drop_eq_nil_of_le (Nat.le_of_eq h.length.symm)
variable {tg iter : Expr} {is : List Nat} {g : D → Fm → Option Fm} {body : List Stmt} {fb : Sv} {it : Ev (List D)}
/-- a for over a list (a tuple) that nobody writes to -/
theorem ds_for_tup {f : Ev D} (xg : XG G gf k X) (hp : PassesOwn (model X.prog X.w) X.A X.env X.xe) (hi : DE G X iter f) (hg : DG G X tg is g) (hb : DSs G X body fb) (hs : ∀ x, foldedSetIterable iter X.env x = pure x := by intro _; rfl) :
    DS G X (.For tg iter body [] pos) (svFor (evSeq true f) g fb) := by
  refine ⟨fun W tk => ps_weak (ps_for hp xg.calm (pi_tup (hi.run W tk)) hg.run (hb.run W tk) hs) fun D σ H ⟨Ex, env, R, p⟩ => ⟨Ex, env, R, ?_⟩⟩
  have p : PoS G W Ex σ H env (bindE (bindR (f env) _) _) D := p
  cases z : f env with
  | none => rw [z] at p; exact p.elim
  | some r =>
    rw [z] at p
    cases r with
    | er c d e => exact fun Ex' H' C dx v x s R' => p Ex' σ H' C dx v x R'
    | ok d e =>
      intro Ex1 H1 v x sb R1 q
      cases d with
      | tup ds =>
        have p : PoS G W Ex σ H env (loopS g fb ds e) D := p
        obtain ⟨a, vs, rfl, ha, hr⟩ := Is.tupE q
        have ht : SqT X.K H1 a vs := SqT.of ha
        refine ⟨a, rfl, ⟨vs, ht⟩, for_tup (xs := vs) (fun i σ' H' => ∃ Ex' env', Rep G Ex' σ' H' env' ∧ H' a = some (.tup vs) ∧ Are G Ex' H' ds vs ∧ PoS G W Ex' σ' H' env' (loopS g fb (ds.drop i) env') D) ⟨Ex1, e, R1, ha, hr, PoS.tr R x p⟩
          (fun i σ' H' _ ⟨Ex', env', R', h1, _⟩ => SqT.of h1) (fun i v σ' H' hv ⟨Ex', env', R', h1, h2, p'⟩ => ?_) fun σ' H' ⟨Ex', env', R', h1, h2, p'⟩ => ?_⟩
        · obtain ⟨d, e1, e2⟩ := h2.split hv
          rw [e1] at p'
          exact loop_turn (tg := tg) (sts := body) _ R' e2 p' fun Ex2 σ2 H2 env2 x2 R2 p2 => ⟨Ex2, env2, R2, x2.keep a _ h1 (fun _ z => nomatch z) (fun w => by
            obtain ⟨_, us, q⟩ := R'.wr w
            rw [h1] at q
            cases q), x2.are R' h2, p2⟩
        · rw [drop_all h2] at p'
          exact p'.now R'
      | _ => exact p.elim
theorem ds_for_lst {f : Ev D} (xg : XG G gf k X) (hp : PassesOwn (model X.prog X.w) X.A X.env X.xe) (hi : DE G X iter f) (hg : DG G X tg is g) (hb : DSs G X body fb) (hs : ∀ x, foldedSetIterable iter X.env x = pure x := by intro _; rfl) :
    DS G X (.For tg iter body [] pos) (svFor (evSeq false f) g fb) := by
  refine ⟨fun W tk => ps_weak (ps_for hp xg.calm (pi_list (hi.run W tk)) hg.run (hb.run W tk) hs) fun D0 σ H ⟨Ex, env, R, p⟩ => ⟨Ex, env, R, ?_⟩⟩
  have p : PoS G W Ex σ H env (bindE (bindR (f env) _) _) D0 := p
  cases z : f env with
  | none => rw [z] at p; exact p.elim
  | some r =>
    rw [z] at p
    cases r with
    | er c d e => exact fun Ex' H' C dx v x s R' => p Ex' σ H' C dx v x R'
    | ok d e =>
      intro Ex1 H1 v x sb R1 q
      have go : ∀ (ds : List D) (a : Addr) (vs : List V) (T : (Addr → Prop) → Hp → Prop), (∀ Ex' H', T Ex' H' → SqL X.K H' a vs) → (∀ Ex2 σ2 H2 env2 Ex3 σ3 H3 env3, Rep G Ex2 σ2 H2 env2 → Ext Ex2 σ2 H2 env2 Ex3 σ3 H3 env3 → T Ex2 H2 → T Ex3 H3) → T Ex1 H1 → Are G Ex1 H1 ds vs → PoS G W Ex σ H env (loopS g fb ds e) D0 →
          iList X.K (fun σ H Q => Q (.ref a) H) σ H1 (fun J H1 => ∃ W' : Nat → Nat → L2.St → Hp → Prop, (∃ m, W' 0 m σ H1) ∧ ∀ i m σ H, W' i m σ H → (J.stop i H ∧ D0.nx σ H) ∨ (J.go i H ∧ ∃ N : L2.St → Hp → Prop, (∀ σ' H', N σ' H' → ∃ m', m' < m ∧ W' (i + 1) m' σ' H') ∧ ∀ x H', J.yld i H x H' → tG G is g x σ H' fun σ2 H2 => tS G W fb { D0 with nx := N, ct := N, bk := D0.nx } σ2 H2)) := fun ds a vs T hT kT t1 hr p =>
        ⟨a, rfl, ⟨vs, hT _ _ t1⟩, for_list (xs := vs) (fun i σ' H' => ∃ Ex' env', Rep G Ex' σ' H' env' ∧ T Ex' H' ∧ Are G Ex' H' ds vs ∧ PoS G W Ex' σ' H' env' (loopS g fb (ds.drop i) env') D0) ⟨Ex1, e, R1, t1, hr, PoS.tr R x p⟩
          (fun i σ' H' _ ⟨Ex', env', R', h1, _⟩ => hT _ _ h1) (fun i v σ' H' hv ⟨Ex', env', R', h1, h2, p'⟩ => by
            obtain ⟨d, e1, e2⟩ := h2.split hv
            rw [e1] at p'
            exact loop_turn (tg := tg) (sts := body) _ R' e2 p' fun Ex2 σ2 H2 env2 x2 R2 p2 => ⟨Ex2, env2, R2, kT _ _ _ _ _ _ _ _ R' x2 h1, x2.are R' h2, p2⟩) fun σ' H' ⟨Ex', env', R', h1, h2, p'⟩ => by
            rw [drop_all h2] at p'
            exact p'.now R'⟩
      cases d with
      | lst ds =>
        obtain ⟨a, vs, rfl, ha, hr⟩ := Is.lstE q
        refine go ds a vs (fun Ex' H' => H' a = some (.lst vs) ∧ ¬ Ex' a) (fun Ex' H' t => SqL.of t.1) (fun Ex2 σ2 H2 env2 Ex3 σ3 H3 env3 R2 x2 t => ⟨x2.keep a _ t.1 (fun _ z => nomatch z) fun w => t.2 (R2.wr w).1, fun n => ?_⟩) ha hr p
        rcases x2.exs a n with n | n
        · exact t.2 n
        · rw [t.1] at n; cases n
      | scr ns =>
        have q : Is G Ex1 H1 (.scr ns) v := q
        unfold Is at q
        obtain ⟨a, rfl, ha⟩ := q
        refine go (ns.map .int) a (ns.map V.int) (fun Ex' H' => ScrAt G H' a (ns.map V.int)) (fun Ex' H' t => by rw [xg.K]; exact t.sql) (fun Ex2 σ2 H2 env2 Ex3 σ3 H3 env3 R2 x2 t => ?_) ha (are_ints ns) p
        have t' : Is G Ex2 H2 (.scr ns) (.ref a) := by unfold Is; exact ⟨a, rfl, t⟩
        have t2 := x2.is R2 t'
        unfold Is at t2
        obtain ⟨a', e, t2⟩ := t2
        cases e
        exact t2
      | _ => exact p.elim
def rngs (lo : Int) (n : Nat) : List D := (List.range n).map fun (i : Nat) => D.int (lo + (i : Int))
theorem rngs_get {lo : Int} {n i : Nat} (h : i < n) : (rngs lo n)[i]? = some (D.int (lo + (i : Int))) := by
  unfold rngs
  rw [List.getElem?_map, List.getElem?_range h]
  rfl
theorem rngs_drop {lo : Int} {n i : Nat} (h : i < n) : (rngs lo n).drop i = D.int (lo + (i : Int)) :: (rngs lo n).drop (i + 1) := by
  obtain ⟨hl, e⟩ := List.getElem?_eq_some_iff.mp (rngs_get (lo := lo) h)
  rw [List.drop_eq_getElem_cons hl, e]
theorem rngs_all {lo : Int} {n : Nat} : (rngs lo n).drop n = [] := List.drop_eq_nil_of_le (by unfold rngs; simp)
def rngC (j : Int) : Bool := decide (-(2 ^ 62) ≤ j) && decide (j < 2 ^ 62)
def evRng1 (f : Ev D) : Ev (List D) := fun env => bindR (f env) fun d env1 => match d with
  | .int j => if rngC j = true then some (.ok (rngs 0 j.toNat) env1) else none
  | _ => none
def evRng2 (f g : Ev D) : Ev (List D) := fun env => bindR (f env) fun d env1 => bindR (g env1) fun d2 env2 => match d, d2 with
  | .int i, .int j => if (rngC i && rngC j) = true then some (.ok (rngs i (j - i).toNat) env2) else none
  | _, _ => none
theorem for_rngs {lo : Int} {n : Nat} {e : Fm} {D : Ends} (tg : Expr) (body : List Stmt) (R : Rep G Ex σ H e) (p : PoS G W Ex σ H e (loopS g fb (rngs lo n) e) D) : tFor (fun σ H R => R (Itr lo n) H) (tG G is g) (tS G W fb) D σ H :=
  for_range (g := tG G is g) (tb := tS G W fb) (D := D) (lo := lo) (n := n) (σ := σ) (H := H) (fun i σ' H' => ∃ Ex' env', Rep G Ex' σ' H' env' ∧ PoS G W Ex' σ' H' env' (loopS g fb ((rngs lo n).drop i) env') D) ⟨Ex, e, R, p⟩
    (fun i σ' H' hi ⟨Ex', env', R', p'⟩ => by
      rw [rngs_drop hi] at p'
      exact loop_turn (tg := tg) (sts := body) _ R' (by unfold Is; rfl) p' fun Ex2 σ2 H2 env2 x2 R2 p2 => ⟨Ex2, env2, R2, p2⟩) fun σ' H' ⟨Ex', env', R', p'⟩ => by
      rw [rngs_all] at p'
      exact p'.now R'
theorem rngC_ok {j : Int} (h : rngC j = true) : -(2 ^ 62) ≤ j ∧ j < 2 ^ 62 := by
  unfold rngC at h
  simpa using h
theorem ds_for_rng1 {f : Ev D} {p2 p2' : Pos} (xg : XG G gf k X) (hp : PassesOwn (model X.prog X.w) X.A X.env X.xe) (hgl : Gl X "range") (ha : DE G X a f) (hg : DG G X tg is g) (hb : DSs G X body fb) (hs : ∀ x, foldedSetIterable (.Call (.Name "range" p2) [a] [] p2') X.env x = pure x := by intro _; rfl)
    (hst : starEach [a] X.env = [(false, eval a X.env)] := by rfl) :
    DS G X (.For tg (.Call (.Name "range" p2) [a] [] p2') body [] pos) (svFor (evRng1 f) g fb) := by
  refine ⟨fun W tk => ps_weak (ps_for hp xg.calm (pi_range1 hgl (xg.bl "range" (by decide)) (pa_cons (ha.run W tk) pa_nil hst) hst) hg.run (hb.run W tk) hs) fun D σ H ⟨Ex, env, R, p⟩ => ⟨Ex, env, R, ?_⟩⟩
  have p : PoS G W Ex σ H env (bindE (bindR (f env) _) _) D := p
  cases z : f env with
  | none => rw [z] at p; exact p.elim
  | some r =>
    rw [z] at p
    cases r with
    | er c d e => exact fun Ex' H' C dx v x s R' => p Ex' σ H' C dx v x R'
    | ok d e =>
      intro Ex1 H1 v x sb R1 q
      cases d with
      | int j =>
        have p : PoS G W Ex σ H env (bindE (if rngC j = true then _ else _) _) D := p
        by_cases hc : rngC j = true
        · rw [if_pos hc] at p
          have q : Is G Ex1 H1 (.int j) v := q
          unfold Is at q
          exact ⟨j, by rw [q], (rngC_ok hc).1, (rngC_ok hc).2, for_rngs tg body R1 (PoS.tr R x p)⟩
        · rw [if_neg hc] at p
          exact p.elim
      | _ => exact p.elim
end
end Nol

set_option Elab.async false
set_option linter.all false
set_option maxRecDepth 100000
set_option maxHeartbeats 4000000
/-! Nol, part J: lists that are written to. -/
namespace Nol
open PySem PySem.Spec PyProof.Rows L2

section
variable {G : Gx} {X : Cx} {W : WX} {Ex Ex' Ex1 : Addr → Prop} {σ σ1 : St} {H H' H1 : Hp} {env env' env1 : Fm} {k : Nat} {gf : Bool} {pos p : Pos}
/-- the list of a slot that may be written to; the slot with another list -/
def wrOf : Sl → Option (List D)
  | .own ds => some ds
  | .par ds => some ds
  | _ => none
def wrSet (s : Sl) (es : List D) : Sl := match s with
  | .own _ => .own es
  | .par _ => .par es
  | t => t
theorem wrOf_M {s : Sl} {ds : List D} (h : wrOf s = some ds) (es : List D) : s.isM = true ∧ (wrSet s es).isM = true ∧ SlSub s (wrSet s es) := by
  cases s <;> first | (cases h; exact ⟨rfl, rfl, trivial⟩) | cases h
theorem wr_get {s : Sl} {ds : List D} {v : V} (h : wrOf s = some ds) (z : SlIs G Ex H s (some v)) : ∃ a vs, v = .ref a ∧ H a = some (.lst vs) ∧ Ex a ∧ Are G Ex H ds vs := by
  cases s <;> first | (cases h; exact z) | cases h
theorem wr_put {s : Sl} {ds es : List D} {a : Addr} {vs : List V} (h : wrOf s = some ds) (ha : H a = some (.lst vs)) (e : Ex a) (r : Are G Ex H es vs) : SlIs G Ex H (wrSet s es) (some (.ref a)) := by
  cases s <;> first | (cases h; exact ⟨a, vs, rfl, ha, e, r⟩) | cases h
theorem set_slot {i j : Nat} {s t : Sl} (h : (env.set i s)[j]? = some t) : (j = i ∧ t = s) ∨ (j ≠ i ∧ env[j]? = some t) := set_cases h
/-- the list in slot i is written to -/
theorem wr_ok {i : Nat} {s : Sl} {ds es : List D} {a : Addr} {us : List V} (R : Rep G Ex σ H env) (e : env[i]? = some s) (hw : wrOf s = some ds) (q : σ[i]? = some (some (.ref a))) (r : Are G Ex H es us) :
    Rep G Ex σ (upd H a (.lst us)) (env.set i (wrSet s es)) ∧ Ext Ex σ H env Ex σ (upd H a (.lst us)) (env.set i (wrSet s es)) ∧ Sub env (env.set i (wrSet s es)) := by
  obtain ⟨a', vs, e1, ha, ea, hr⟩ := wr_get hw (R.sl i _ s q e)
  cases e1
  obtain ⟨m1, m2, m3⟩ := wrOf_M hw es
  have here : Holds σ env i a := ⟨q, s, e, m1⟩
  have wr : Wr σ env a := by
    cases s with
    | own d => exact .inl ⟨i, d, e, q⟩
    | par d => exact .inr ⟨i, d, e, q⟩
    | _ => cases hw
  have hk : ∀ b o, H b = some o → NT o → ¬ Ex b → upd H a (.lst us) b = some o := fun b o h _ n => by
    rw [upd_ne (fun z => n (by rw [z]; exact ea))]
    exact h
  have hh : ∀ {j b}, Holds σ (env.set i (wrSet s es)) j b → Holds σ env j b := fun {j b} ⟨h1, t, h2, h3⟩ => by
    rcases set_slot h2 with ⟨hj, e2⟩ | ⟨hj, e2⟩
    · subst hj
      rw [q] at h1
      cases h1
      exact here
    · exact ⟨h1, t, e2, h3⟩
  have hex : ExL Ex (upd H a (.lst us)) := fun b hb => by
    by_cases z : b = a
    · rw [z]; exact ⟨us, upd_same⟩
    · obtain ⟨xs, h⟩ := R.ex b hb
      exact ⟨xs, by rw [upd_ne z]; exact h⟩
  refine ⟨⟨by simp [R.len], fun j o t h1 h2 => ?_, fun j l b h1 h2 => R.dj j l b (hh h1) (hh h2), hex, tabs_keep R.tb fun b o h n => by rw [upd_ne (fun z => n vs (by rw [z, ha] at h; cases h; rfl))]; exact h⟩, ⟨fun b o h _ n => by rw [upd_ne (fun z => n (by rw [z]; exact wr))]; exact h, fun b h => ?_, fun _ h => .inl h, fun _ h _ => h, fun b ⟨j, d, h1, h2⟩ => .inl ?_, fun b ⟨j, d, h1, h2⟩ => ?_⟩, by simp, fun j t t' h1 h2 => ?_⟩
  · rcases set_slot h2 with ⟨hj, e2⟩ | ⟨hj, e2⟩
    · subst hj
      rw [q] at h1
      cases h1
      rw [e2]
      exact wr_put hw upd_same ea (Are.keep hk R.ex (fun _ h => .inl h) es us r)
    · refine SlIs.keep hk R.ex (fun _ h => .inl h) (fun b vs2 m eo nb hb => ⟨nb, ?_⟩) (R.sl j o t h1 e2)
      have nab : b ≠ a := fun z => hj (R.dj j i a ⟨by rw [h1, eo, z], t, e2, m⟩ here)
      rw [upd_ne nab]
      exact hb
  · by_cases z : b = a
    · rw [z, upd_same]; simp
    · rw [upd_ne z]; exact h
  · rcases set_slot h1 with ⟨hj, e2⟩ | ⟨hj, e2⟩
    · subst hj
      cases s with
      | own d' =>
        exact ⟨j, d', e, h2⟩
      | par d' => cases e2
      | _ => cases hw
    · exact ⟨j, d, e2, h2⟩
  · rcases set_slot h1 with ⟨hj, e2⟩ | ⟨hj, e2⟩
    · subst hj
      cases s with
      | own d' => cases e2
      | par d' =>
        exact ⟨j, d', e, h2⟩
      | _ => cases hw
    · exact ⟨j, d, e2, h2⟩
  · rcases set_slot h2 with ⟨hj, e2⟩ | ⟨hj, e2⟩
    · subst hj
      rw [e] at h1
      cases h1
      rw [e2]
      exact m3
    · rw [h1] at e2
      cases e2
      exact SlSub.refl _
/-- the list in slot i, to be written to -/
def wrAt (env : Fm) (i : Nat) : Option (Sl × List D) := match env[i]? with
  | some s => (wrOf s).map fun ds => (s, ds)
  | none => none
theorem wrAt_ok {i : Nat} {s : Sl} {ds : List D} (R : Rep G Ex σ H env) (h : wrAt env i = some (s, ds)) : env[i]? = some s ∧ wrOf s = some ds ∧ ∃ a vs, σ[i]? = some (some (.ref a)) ∧ H a = some (.lst vs) ∧ Are G Ex H ds vs := by
  unfold wrAt at h
  cases e : env[i]? with
  | none => simp [e] at h
  | some t =>
    simp only [e] at h
    cases w : wrOf t with
    | none => simp [w] at h
    | some es =>
      simp [w] at h
      obtain ⟨rfl, rfl⟩ := h
      obtain ⟨v, q, z⟩ := slot_get R e (by intro h0; rw [h0] at w; cases w)
      obtain ⟨a, vs, rfl, ha, _, hr⟩ := wr_get w z
      exact ⟨rfl, w, a, vs, q, ha, hr⟩
/-- a change of the list in slot i by a value, with what comes -/
def evWr1 (i : Nat) (g : List D → Option (List D × D)) : Ev FV := fun env1 => match wrAt env1 i with
  | some (s, ds) => match g ds with
    | some (es, r) => some (.ok (.d r) (env1.set i (wrSet s es)))
    | none => none
  | none => none
def evWr (i : Nat) (f : Ev D) (g : List D → D → Option (List D × D)) : Ev FV := fun env => match wrAt env i with
  | some _ => bindR (f env) fun d env1 => evWr1 i (fun ds => g ds d) env1
  | none => none
variable {c e : Expr} {x : Str} {i : Nat} {pos' : Pos}
/-- what a method does to the items -/
def MthK (G : Gx) (X : Cx) (id : String) (g : List D → D → Option (List D × D)) : Prop := ∃ r : V → List V → Hp → VK → Prop, MtR X id r ∧ ∀ Ex H ds d es y a vs v Q, ExL Ex H → H a = some (.lst vs) → Are G Ex H ds vs → Is G Ex H d v → g ds d = some (es, y) →
  ∃ us u, Are G Ex H es us ∧ Is G Ex H y u ∧ (Q u (upd H a (.lst us)) → r (.ref a) [v] H Q)
def MthK0 (G : Gx) (X : Cx) (id : String) (g : List D → Option (List D × D)) : Prop := ∃ r : V → List V → Hp → VK → Prop, MtR X id r ∧ ∀ Ex H ds es y a vs Q, ExL Ex H → H a = some (.lst vs) → Are G Ex H ds vs → g ds = some (es, y) →
  ∃ us u, Are G Ex H es us ∧ Is G Ex H y u ∧ (Q u (upd H a (.lst us)) → r (.ref a) [] H Q)
theorem wr_is {i : Nat} {s : Sl} {ds : List D} {a : Addr} {us : List V} {d : D} {v : V} (R : Rep G Ex σ H env) (e : env[i]? = some s) (hw : wrOf s = some ds) (q : σ[i]? = some (some (.ref a))) (h : Is G Ex H d v) : Is G Ex (upd H a (.lst us)) d v := by
  obtain ⟨a', vs, e1, ha, ea, hr⟩ := wr_get hw (R.sl i _ s q e)
  cases e1
  exact Is.keep (fun b o h _ n => by rw [upd_ne (fun z => n (by rw [z]; exact ea))]; exact h) R.ex (fun _ h => .inl h) d v h
theorem wr1_run {i : Nat} {g : List D → Option (List D × D)} {a : Addr} {Q : VK} (R : Rep G Ex σ H env) (q : σ[i]? = some (some (.ref a))) (p : Po G W (RF G) Ex σ H env (evWr1 i g env) Q) :
    ∃ ds vs es y, H a = some (.lst vs) ∧ Are G Ex H ds vs ∧ g ds = some (es, y) ∧ ∀ us u, Are G Ex H es us → Is G Ex H y u → Q u (upd H a (.lst us)) := by
  unfold evWr1 at p
  cases w : wrAt env i with
  | none => simp [w] at p; exact p.elim
  | some sd =>
    obtain ⟨s, ds⟩ := sd
    simp only [w] at p
    obtain ⟨e1, e2, a', vs, q2, h1, h2⟩ := wrAt_ok R w
    rw [q] at q2
    cases q2
    cases z : g ds with
    | none => simp [z] at p; exact p.elim
    | some ey =>
      obtain ⟨es, y⟩ := ey
      simp only [z] at p
      refine ⟨ds, vs, es, y, h1, h2, z, fun us u k1 k2 => ?_⟩
      obtain ⟨R2, x2, s2⟩ := wr_ok R e1 e2 q k1
      exact p Ex _ u x2 s2 R2 (wr_is R e1 e2 q k2)
/-- c.m(e) of a list that may be written to -/
theorem df_meth {f : Ev D} {g : List D → D → Option (List D × D)} {name : Str} {id : String} {apos cpos : Pos} (slot : Slot "list" name id) (hty : typeOf (.builtin id) = pure (.type "method_descriptor")) (hk : MthK G X id g)
    (hc : PE X (.Name x p) (tVar i)) (he : DE G X e f) (hs : starEach [e] X.env = (false, eval e X.env) :: starEach [] X.env := by rfl)
    (hbase : attributeBase (.Name x p) name X.env (eval (.Name x p) X.env) = eval (.Name x p) X.env := by rfl)
    (hfew : ((backTo cpos (starEach [e] X.env)).all (fun x => !x.1) && (backToKw cpos (keywordEach [] X.env)).all (fun x => x.1.isSome)
      && decide (([e] : List Expr).length + ([] : List Keyword).length + (if ([] : List Keyword).isEmpty then 0 else 1) < 30)) = true := by rfl)
    (hline : (apos.endLine == cpos.line) = true := by rfl) (hpl : (backTo cpos (starEach [] X.env)).any (·.1) = false := by rfl) :
    DF G X (.Call (.Attribute (.Name x p) name apos) [e] [] cpos) (evWr i f g) := by
  obtain ⟨r, hm, hr⟩ := hk
  refine ⟨fun W tk => pe_weak (pe_bm PySem.F.plainAttrs_list slot hty hm hc (pa_cons (he.run W tk) pa_nil hs) hbase hfew hline hs hpl) fun σ H Q ⟨Ex, env, R, p⟩ => ?_⟩
  unfold evWr at p
  cases w0 : wrAt env i with
  | none => simp [w0] at p; exact p.elim
  | some sd0 =>
    obtain ⟨s0, ds0⟩ := sd0
    simp only [w0] at p
    obtain ⟨_, _, a, vs0, q0, ha0, _⟩ := wrAt_ok R w0
    refine ⟨.ref a, q0, .inl ⟨rfl, vs0, SqL.of ha0⟩, Ex, env, R, Po.step stm_RF R p fun d e1 Ex1 H1 v z xt sb R1 q p1 => ?_⟩
    obtain ⟨ds, vs, es, y, h1, h2, h3, h4⟩ := wr1_run R1 q0 p1
    obtain ⟨us, u, k1, k2, k3⟩ := hr Ex1 H1 ds d es y a vs v Q R1.ex h1 h2 q h3
    exact k3 (h4 us u k1 k2)
/-- c.m() -/
theorem df_meth0 {g : List D → Option (List D × D)} {name : Str} {id : String} {apos cpos : Pos} (slot : Slot "list" name id) (hty : typeOf (.builtin id) = pure (.type "method_descriptor")) (hk : MthK0 G X id g)
    (hc : PE X (.Name x p) (tVar i)) (hbase : attributeBase (.Name x p) name X.env (eval (.Name x p) X.env) = eval (.Name x p) X.env := by rfl) (hline : (apos.endLine == cpos.line) = true := by rfl) :
    DF G X (.Call (.Attribute (.Name x p) name apos) [] [] cpos) (evWr1 i g) := by
  obtain ⟨r, hm, hr⟩ := hk
  refine ⟨fun W tk => pe_weak (pe_bm0 PySem.F.plainAttrs_list slot hty hm hc hbase hline) fun σ H Q ⟨Ex, env, R, p⟩ => ?_⟩
  cases w0 : wrAt env i with
  | none => unfold evWr1 at p; simp [w0] at p; exact p.elim
  | some sd0 =>
    obtain ⟨s0, ds0⟩ := sd0
    obtain ⟨_, _, a, vs0, q0, ha0, _⟩ := wrAt_ok R w0
    refine ⟨.ref a, q0, .inl ⟨rfl, vs0, SqL.of ha0⟩, ?_⟩
    obtain ⟨ds, vs, es, y, h1, h2, h3, h4⟩ := wr1_run R q0 p
    obtain ⟨us, u, k1, k2, k3⟩ := hr Ex H ds es y a vs Q R.ex h1 h2 h3
    exact k3 (h4 us u k1 k2)
def appendG (ds : List D) (d : D) : Option (List D × D) := if ckLen (ds.length + 1) = true then some (ds ++ [d], .non) else none
theorem mk_append : MthK G X "list.append" appendG := by
  refine ⟨rAppend, mt_append, fun Ex H ds d es y a vs v Q hl ha hr hd e => ?_⟩
  unfold appendG at e
  by_cases c : ckLen (ds.length + 1) = true
  · rw [if_pos c] at e
    cases e
    have hz := ckLen_line c
    exact ⟨vs ++ [v], .non, hr.append (.one hd), by unfold Is; rfl, fun q => ⟨a, vs, v, rfl, rfl, ha, by rw [hr.length]; exact hz, q⟩⟩
  · rw [if_neg c] at e
    cases e
def extendG (ds : List D) (d : D) : Option (List D × D) := match d with
  | .lst zs => if ckLen (ds.length + zs.length) = true then some (ds ++ zs, .non) else none
  | _ => none
theorem mk_extend : MthK G X "list.extend" extendG := by
  refine ⟨rExtend, mt_extend, fun Ex H ds d es y a vs v Q hl ha hr hd e => ?_⟩
  cases d with
  | lst zs =>
    unfold extendG at e
    simp only at e
    by_cases c : ckLen (ds.length + zs.length) = true
    · rw [if_pos c] at e
      cases e
      obtain ⟨b, ws, rfl, hb, hw⟩ := hd.lstE
      exact ⟨vs ++ ws, .non, hr.append hw, by unfold Is; rfl, fun q => ⟨a, b, vs, ws, rfl, rfl, ha, hb.1, by rw [hr.length, hw.length]; exact ckLen_line c, q⟩⟩
    · rw [if_neg c] at e
      cases e
  | _ => cases e
def popG (ds : List D) : Option (List D × D) := (ds[ds.length - 1]?).map fun d => (ds.dropLast, d)
theorem Are.dropLast {ds : List D} {vs : List V} (h : Are G Ex H ds vs) : Are G Ex H ds.dropLast vs.dropLast := by
  rw [List.dropLast_eq_take, List.dropLast_eq_take, h.length]
  exact h.take _
theorem mk_pop : MthK0 G X "list.pop" popG := by
  refine ⟨rPop, mt_pop, fun Ex H ds es y a vs Q hl ha hr e => ?_⟩
  unfold popG at e
  cases z : ds[ds.length - 1]? with
  | none => simp [z] at e
  | some d =>
    simp [z] at e
    obtain ⟨rfl, rfl⟩ := e
    obtain ⟨v, hv, hd⟩ := hr.get' z
    exact ⟨_, v, hr.dropLast, hd, fun q => ⟨a, vs, v, rfl, rfl, ha, by rw [hr.length]; exact hv, q⟩⟩
def popAtG (ds : List D) (d : D) : Option (List D × D) := match d with
  | .int k => match ixN ds.length k with
    | some j => if ckLen ds.length = true then (ds[j]?).map fun d => (ds.eraseIdx j, d) else none
    | none => none
  | _ => none
theorem Are.eraseIdx {ds : List D} : ∀ {vs : List V} (i : Nat), Are G Ex H ds vs → Are G Ex H (ds.eraseIdx i) (vs.eraseIdx i) := by
  induction ds with
  | nil => intro vs i h; unfold Are at h; subst h; exact Are.nil
  | cons d ds ih =>
    intro vs i h
    unfold Are at h
    obtain ⟨v, r, rfl, h1, h2⟩ := h
    cases i with
    | zero => exact h2
    | succ i => exact Are.cons h1 (ih i h2)
theorem mk_popAt : MthK G X "list.pop" popAtG := by
  refine ⟨rPopAt, mt_popAt, fun Ex H ds d es y a vs v Q hl ha hr hd e => ?_⟩
  cases d with
  | int n =>
    unfold popAtG at e
    simp only at e
    cases z : ixN ds.length n with
    | none => simp [z] at e
    | some j =>
      simp only [z] at e
      by_cases c : ckLen ds.length = true
      · rw [if_pos c] at e
        cases z2 : ds[j]? with
        | none => simp [z2] at e
        | some d =>
          simp [z2] at e
          obtain ⟨rfl, rfl⟩ := e
          obtain ⟨v2, hv, hd2⟩ := hr.get' z2
          have hv' : v = .int n := by unfold Is at hd; exact hd
          obtain ⟨h1, h2, h3, h4⟩ := ixN_seq z
          have hz : ds.length ≤ 1000 := of_decide_eq_true c
          exact ⟨_, v2, hr.eraseIdx j, hd2, fun q => ⟨a, vs, n, j, v2, rfl, by rw [hv'], ha, by omega, by omega, by rw [hr.length]; exact h1, hv, q⟩⟩
      · rw [if_neg c] at e
        cases e
  | _ => cases e
/-- c[i] = e -/
def setG (ix d : D) (ds : List D) : Option (List D × D) := match ix with
  | .int k => (ixN ds.length k).map fun j => (ds.set j d, .non)
  | _ => none
def svSto (i : Nat) (fi : Ev D) (f : Ev D) : Sv := fun env => bindE (f env) fun d env1 => match wrAt env1 i with
  | some _ => bindE (fi env1) fun ix env2 => bindE (evWr1 i (setG ix d) env2) fun _ env3 => some (.nx env3)
  | none => none
theorem ds_sto {ix : Expr} {f fi : Ev D} (hc : PE X (.Name x p) (tVar i)) (hi : DE G X ix fi) (he : DE G X e f)
    (ha : ∀ v, assign (.Subscript (.Name x p) ix pos) X.env v = (do
      let ov ← holding [v] (eval (.Name x p) X.env)
      let iv ← holding [v, ov] (eval ix X.env)
      standAt pos
      holding [v, ov, iv] (setItem ov iv v)
      release [v, ov, iv] []) := by intro _; rfl)
    (hs : swapsWithSole [.Subscript (.Name x p) ix pos] e pos'.line X.env = pure false := by rfl) (hw : swappedStores [.Subscript (.Name x p) ix pos] e X.env = pure none := by rfl)
    (h1 : (assignEach [.Subscript (.Name x p) ix pos] X.env).map (·.2) = [assign (.Subscript (.Name x p) ix pos) X.env] := by rfl) :
    DS G X (.Assign [.Subscript (.Name x p) ix pos] e pos') (svSto i fi f) := by
  refine ⟨fun W tk => ps_weak (ps_asg (he.run W tk) (pg_sub hc (hi.run W tk) set_list ha) hs hw h1) fun D σ H ⟨Ex, env, R, p⟩ => ⟨Ex, env, R, Po.toS R p fun d env1 Ex1 H1 v z xt sb R1 q p1 => ?_⟩⟩
  cases w0 : wrAt env1 i with
  | none => simp [w0] at p1; exact p1.elim
  | some sd0 =>
    obtain ⟨s0, ds0⟩ := sd0
    simp only [w0] at p1
    obtain ⟨_, _, a, vs0, q0, ha0, _⟩ := wrAt_ok R1 w0
    refine ⟨.ref a, q0, Ex1, env1, R1, Po.toS R1 p1 fun iv env2 Ex2 H2 y z2 xt2 sb2 R2 q2 p2 => ?_⟩
    have q' := xt2.is R1 q
    unfold evWr1 at p2
    cases w : wrAt env2 i with
    | none => simp [w] at p2; exact p2.elim
    | some sd =>
      obtain ⟨s, ds⟩ := sd
      simp only [w] at p2
      obtain ⟨e1, e2, a', vs, q3, h1, h2⟩ := wrAt_ok R2 w
      rw [q0] at q3
      cases q3
      cases iv with
      | int n =>
        unfold setG at p2
        cases u : ixN ds.length n with
        | none => simp [u] at p2; exact p2.elim
        | some j =>
          simp [u] at p2
          have hy : y = .int n := by
            have q2 : Is G Ex2 H2 (.int n) y := q2
            unfold Is at q2
            exact q2
          refine ⟨a, vs, n, j, rfl, hy, h1, by rw [h2.length]; exact u, ?_⟩
          obtain ⟨R3, x3, s3⟩ := wr_ok R2 e1 e2 q0 (h2.set (i := j) q')
          exact p2 Ex2 σ _ x3 R3
      | _ => simp [setG] at p2; exact p2.elim
end
end Nol

set_option Elab.async false
set_option linter.all false
set_option maxRecDepth 100000
set_option maxHeartbeats 4000000
/-! Nol, part K: list comprehensions. -/
namespace Nol
open PySem PySem.Spec PyProof.Rows L2

/-- nothing may leave a comprehension -/
abbrev W0 : WX := fun _ _ _ _ => False
theorem takesW0 {X : Cx} : Takes X W0 := fun _ _ x => by
  obtain ⟨_, _, _, _, _, _, _, _, _, _, _, _, _, _, _, _, w⟩ := x
  exact w.elim
section
variable {G : Gx} {X : Cx} {W : WX} {Ex Ex' Ex1 : Addr → Prop} {σ σ1 : St} {H H' H1 : Hp} {env env' env1 : Fm} {k : Nat} {gf : Bool} {pos p : Pos}
theorem XG.blk (xg : XG G gf k X) (s : Shared) (H : Hp) (scope : Scope) (cenv : Env) (fp : List Addr) : XG G gf k (X.blk s H scope cenv fp) := ⟨xg.K, xg.nd, xg.calm, xg.room, xg.gd, xg.bl⟩
/-- the frame with a block's own names forgotten -/
def wipeF (env : Fm) : List Nat → Fm
  | [] => env
  | v :: vs => (wipeF env vs).set v .un
theorem wipeF_len (env : Fm) : ∀ vs : List Nat, (wipeF env vs).length = env.length
  | [] => rfl
  | v :: vs => by unfold wipeF; rw [List.length_set, wipeF_len env vs]
theorem wipeF_out {i : Nat} : ∀ {vs : List Nat}, ¬ i ∈ vs → (wipeF env vs)[i]? = env[i]?
  | [], _ => rfl
  | v :: vs, h => by
    unfold wipeF
    rw [List.getElem?_set_ne (fun e => h (by simp [e])), wipeF_out fun z => h (List.mem_cons_of_mem _ z)]
theorem wipeF_in {i : Nat} {s : Sl} : ∀ {vs : List Nat}, i ∈ vs → (wipeF env vs)[i]? = some s → s = .un
  | [], h, _ => by cases h
  | v :: vs, h, e => by
    unfold wipeF at e
    rcases set_cases e with ⟨_, e2⟩ | ⟨hj, e2⟩
    · exact e2
    · rcases List.mem_cons.mp h with z | z
      · exact absurd z hj
      · exact wipeF_in z e2
theorem wipe_in {i : Nat} {o : Option V} : ∀ {vs : List Nat}, i ∈ vs → (wipe σ vs)[i]? = some o → o = none
  | [], h, _ => by cases h
  | v :: vs, h, e => by
    unfold wipe at e
    rcases set_cases e with ⟨_, e2⟩ | ⟨hj, e2⟩
    · exact e2
    · rcases List.mem_cons.mp h with z | z
      · exact absurd z hj
      · exact wipe_in z e2
theorem wipe_off {is vs : List Nat} {σ' : St} (h : Off is (wipe σ vs) σ') (hs : ∀ i ∈ is, i ∈ vs) : wipe σ' vs = wipe σ vs := by
  have hl : (wipe σ' vs).length = (wipe σ vs).length := by rw [wipe_length, h.len]
  refine List.ext_getElem? fun i => ?_
  by_cases hi : i ∈ vs
  · cases e1 : (wipe σ' vs)[i]? with
    | none =>
      rw [List.getElem?_eq_none_iff] at e1
      rw [List.getElem?_eq_none (by omega)]
    | some o =>
      have := (List.getElem?_eq_some_iff.mp e1).1
      cases e2 : (wipe σ vs)[i]? with
      | none =>
        rw [List.getElem?_eq_none_iff] at e2
        omega
      | some o2 => rw [wipe_in hi e1, wipe_in hi e2]
  · rw [wipe_out hi, h.off i fun z => hi (hs i z)]
theorem wipeF_off {is vs : List Nat} (h : Off is (wipeF env vs) env') (hs : ∀ i ∈ is, i ∈ vs) : wipeF env' vs = wipeF env vs := by
  have hl : (wipeF env' vs).length = (wipeF env vs).length := by rw [wipeF_len, h.len]
  refine List.ext_getElem? fun i => ?_
  by_cases hi : i ∈ vs
  · cases e1 : (wipeF env' vs)[i]? with
    | none =>
      rw [List.getElem?_eq_none_iff] at e1
      rw [List.getElem?_eq_none (by omega)]
    | some o =>
      have := (List.getElem?_eq_some_iff.mp e1).1
      cases e2 : (wipeF env vs)[i]? with
      | none =>
        rw [List.getElem?_eq_none_iff] at e2
        omega
      | some o2 => rw [wipeF_in hi e1, wipeF_in hi e2]
  · rw [wipeF_out hi, h.off i fun z => hi (hs i z)]
theorem wipe_holds {vs : List Nat} {i : Nat} {a : Addr} (h : Holds (wipe σ vs) (wipeF env vs) i a) : Holds σ env i a ∧ ¬ i ∈ vs := by
  obtain ⟨h1, s, h2, m⟩ := h
  have ni : ¬ i ∈ vs := fun z => by rw [wipeF_in z h2] at m; cases m
  exact ⟨⟨(wipe_some h1).1, s, by rw [← wipeF_out ni]; exact h2, m⟩, ni⟩
/-- any frame, its slots vs forgotten -/
theorem Rep.wiped (R : Rep G Ex σ H env) (vs : List Nat) : Rep G Ex (wipe σ vs) H (wipeF env vs) := by
  refine ⟨by rw [wipe_length, wipeF_len]; exact R.len, fun i o s e1 e2 => ?_, fun i j a h1 h2 => R.dj i j a (wipe_holds h1).1 (wipe_holds h2).1, R.ex, R.tb⟩
  by_cases hi : i ∈ vs
  · rw [wipeF_in hi e2]
    cases o <;> exact trivial
  · rw [wipe_out hi] at e1
    rw [wipeF_out hi] at e2
    exact R.sl i o s e1 e2
theorem wipe_wipe {vs : List Nat} : wipe (wipe σ vs) vs = wipe σ vs := wipe_off (is := []) Off.refl (by simp)
/-- a turn's own names forgotten: what is told so is told of the wiped frame -/
theorem ow_wiped {vs : List Nat} {a : Addr} (h : Ow (wipe σ vs) (wipeF env vs) a) : Ow σ env a := by
  obtain ⟨i, ds, e1, e2⟩ := h
  have ni : ¬ i ∈ vs := fun z => by cases wipeF_in z e1
  exact ⟨i, ds, by rw [← wipeF_out ni]; exact e1, (wipe_some e2).1⟩
theorem pr_wiped {vs : List Nat} {a : Addr} (h : Pr (wipe σ vs) (wipeF env vs) a) : Pr σ env a := by
  obtain ⟨i, ds, e1, e2⟩ := h
  have ni : ¬ i ∈ vs := fun z => by cases wipeF_in z e1
  exact ⟨i, ds, by rw [← wipeF_out ni]; exact e1, (wipe_some e2).1⟩
/-- behind the block: the outer names as they were, the others as the block left them -/
def mend (env e : Fm) (vs : List Nat) : Fm := (List.range env.length).map fun i => if i ∈ vs then env.getD i .un else e.getD i .un
theorem mend_in {e : Fm} {vs : List Nat} {i : Nat} (h : i ∈ vs) : (mend env e vs)[i]? = env[i]? := by
  unfold mend
  rw [List.getElem?_map]
  by_cases hi : i < env.length
  · rw [List.getElem?_range hi]
    simp [h, List.getD, List.getElem?_eq_getElem hi]
  · rw [List.getElem?_eq_none (by simpa using hi), List.getElem?_eq_none (by simpa using hi)]
    rfl
theorem mend_out {e : Fm} {vs : List Nat} {i : Nat} (hl : e.length = env.length) (h : ¬ i ∈ vs) : (mend env e vs)[i]? = e[i]? := by
  unfold mend
  rw [List.getElem?_map]
  by_cases hi : i < env.length
  · rw [List.getElem?_range hi]
    have hi' : i < e.length := by omega
    simp [h, List.getD, List.getElem?_eq_getElem hi']
  · rw [List.getElem?_eq_none (by simpa using hi), List.getElem?_eq_none (by omega)]
    rfl
theorem mend_len {e : Fm} {vs : List Nat} : (mend env e vs).length = env.length := by unfold mend; simp
theorem mend_ok {vs : List Nat} {e : Fm} (R : Rep G Ex σ H env) (x : Ext Ex (wipe σ vs) H (wipeF env vs) Ex' (wipe σ vs) H' e) (s : Sub (wipeF env vs) e) (R' : Rep G Ex' (wipe σ vs) H' e) :
    Rep G Ex' σ H' (mend env e vs) ∧ Ext Ex σ H env Ex' σ H' (mend env e vs) ∧ Sub env (mend env e vs) := by
  have hl : e.length = env.length := by rw [← s.1, wipeF_len]
  have Rw := R.wiped vs
  -- where a name of the block stands
  have inn : ∀ {i : Nat} {t : Sl}, i ∈ vs → (mend env e vs)[i]? = some t → env[i]? = some t := fun {i t} h z => by rw [← mend_in h]; exact z
  have out : ∀ {i : Nat} {t : Sl}, ¬ i ∈ vs → (mend env e vs)[i]? = some t → e[i]? = some t := fun {i t} h z => by rw [← mend_out hl h]; exact z
  have hH : ∀ {i : Nat} {a : Addr}, Holds σ (mend env e vs) i a → Holds σ env i a := fun {i a} ⟨h1, t, h2, m⟩ => by
    by_cases hi : i ∈ vs
    · exact ⟨h1, t, inn hi h2, m⟩
    · have : Holds (wipe σ vs) e i a := ⟨by rw [wipe_out hi]; exact h1, t, out hi h2, m⟩
      exact (wipe_holds (s.holds this)).1
  have nw : ∀ {i : Nat} {a : Addr}, i ∈ vs → Holds σ env i a → ¬ Wr (wipe σ vs) (wipeF env vs) a := fun {i a} hi h w => by
    obtain ⟨j, hj⟩ := w.holds
    obtain ⟨hj1, hj2⟩ := wipe_holds hj
    exact hj2 (by rw [← R.dj i j a h hj1]; exact hi)
  refine ⟨⟨by rw [mend_len]; exact R.len, fun i o t h1 h2 => ?_, fun i j a h1 h2 => R.dj i j a (hH h1) (hH h2), R'.ex, R'.tb⟩, ⟨fun a o h t n => x.keep a o h t fun w => n (w.imp ow_wiped pr_wiped), x.thr, x.exs, fun a h n => x.exk a h fun w => n (ow_wiped w), fun a ⟨i, ds, h1, h2⟩ => ?_, fun a ⟨i, ds, h1, h2⟩ => ?_⟩, mend_len.symm, fun i t t' h1 h2 => ?_⟩
  · by_cases hi : i ∈ vs
    · have z := R.sl i o t h1 (inn hi h2)
      cases o with
      | none => cases t <;> first | exact z | trivial
      | some v =>
        have lst : ∀ ds, t.isM = true → (∃ a us, v = .ref a ∧ H a = some (.lst us) ∧ Ex a ∧ Are G Ex H ds us) → ∃ a us, v = .ref a ∧ H' a = some (.lst us) ∧ Ex' a ∧ Are G Ex' H' ds us := fun ds m ⟨a, us, e1, e2, e3, e4⟩ => by
          have w := nw hi ⟨by rw [h1, e1], t, inn hi h2, m⟩
          exact ⟨a, us, e1, x.keep a _ e2 (fun _ z => nomatch z) w, x.exk a e3 fun o => w (.inl o), x.are Rw e4⟩
        cases t with
        | un => trivial
        | v d => exact x.is Rw z
        | own ds => exact lst ds rfl z
        | par ds => exact lst ds rfl z
        | lock ds => exact lst ds rfl z
    · exact R'.sl i o t (by rw [wipe_out hi]; exact h1) (out hi h2)
  · by_cases hi : i ∈ vs
    · exact .inl ⟨i, ds, inn hi h1, h2⟩
    · exact (x.owk a ⟨i, ds, out hi h1, by rw [wipe_out hi]; exact h2⟩).imp ow_wiped id
  · by_cases hi : i ∈ vs
    · exact ⟨i, ds, inn hi h1, h2⟩
    · exact pr_wiped (x.prk a ⟨i, ds, out hi h1, by rw [wipe_out hi]; exact h2⟩)
  · by_cases hi : i ∈ vs
    · rw [inn hi h2] at h1
      cases h1
      exact SlSub.refl _
    · exact s.2 i t t' (by rw [wipeF_out hi]; exact h1) (out hi h2)
/-! ### the loop of a block -/
def noEr {α : Type} : Option (Rs α) → Option (Rs α)
  | some (.ok a e) => some (.ok a e)
  | _ => none
theorem noEr_ok {α : Type} {r : Option (Rs α)} {a : α} {e : Fm} (h : noEr r = some (.ok a e)) : r = some (.ok a e) := by
  cases r with
  | none => cases h
  | some r => cases r <;> first | exact h | cases h
def loopC (g : D → Fm → Option Fm) (tst : Ev Bool) (elt : Ev D) (vs : List Nat) : List D → Fm → List D → Option (Rs (List D))
  | [], env, acc => some (.ok acc env)
  | d :: ds, env, acc => match g d env with
    | none => none
    | some env2 => bindR (tst env2) fun b env3 => if b = true then bindR (elt env3) fun y env4 => if ckLen (acc.length + 1) = true then loopC g tst elt vs ds (wipeF env4 vs) (acc ++ [y]) else none
      else loopC g tst elt vs ds (wipeF env3 vs) acc
/-- the list comprehension: the new list's items -/
def evComp (it : Ev (List D)) (g : D → Fm → Option Fm) (tst : Ev Bool) (elt : Ev D) (vs : List Nat) : Ev FV := fun env => bindR (it env) fun ds env1 => bindR (noEr (loopC g tst elt vs ds (wipeF env1 vs) [])) fun acc e => some (.ok (.fr acc) (mend env1 e vs))
theorem bindR_inv {α γ : Type} {r : Option (Rs α)} {f : α → Fm → Option (Rs γ)} {c : γ} {e : Fm} (h : bindR r f = some (.ok c e)) : ∃ a e1, r = some (.ok a e1) ∧ f a e1 = some (.ok c e) := by
  cases r with
  | none => cases h
  | some r =>
    cases r with
    | ok a e1 => exact ⟨a, e1, rfl, h⟩
    | er _ _ _ => cases h
/-- a piece that does not fail, in a block -/
theorem Po.ok {α β : Type} {rl : Rl α β} {r : Option (Rs α)} {a : α} {e : Fm} {Q : β → Hp → Prop} (h : r = some (.ok a e)) (q : ∀ Ex' H' b, Ext Ex σ H env Ex' σ H' e → Sub env e → Rep G Ex' σ H' e → rl H Ex' H' σ a b → Q b H') : Po G W rl Ex σ H env r Q := by
  rw [h]
  exact q
theorem Ext.wiped (vs : List Nat) : Ext Ex σ H env Ex (wipe σ vs) H (wipeF env vs) :=
  ⟨fun _ _ h _ _ => h, fun _ h => h, fun _ h => .inl h, fun _ h _ => h, fun _ h => .inl (ow_wiped h), fun _ h => pr_wiped h⟩
theorem Sub.wiped {vs : List Nat} (s : Sub env env') : Sub (wipeF env vs) (wipeF env' vs) := by
  refine ⟨by rw [wipeF_len, wipeF_len]; exact s.1, fun i t t' h1 h2 => ?_⟩
  by_cases hi : i ∈ vs
  · rw [wipeF_in hi h1, wipeF_in hi h2]
    trivial
  · rw [wipeF_out hi] at h1 h2
    exact s.2 i t t' h1 h2
/-- a list that no slot holds is written to -/
theorem Rep.updFree {a : Addr} {us : List V} (R : Rep G Ex σ H env) (n : ∀ i, ¬ Holds σ env i a) (ea : Ex a) : Rep G Ex σ (upd H a (.lst us)) env :=
  ⟨R.len, fun i o s e1 e2 => SlIs.keep (fun b o h _ z => by rw [upd_ne (fun e => z (by rw [e]; exact ea))]; exact h) R.ex (fun _ h => .inl h) (fun b vs m eo nb hb => ⟨nb, by rw [upd_ne (fun z => n i ⟨by rw [e1, eo, z], s, e2, m⟩)]; exact hb⟩) (R.sl i o s e1 e2), R.dj, (fun b h => by
    by_cases z : b = a
    · rw [z]; exact ⟨us, upd_same⟩
    · obtain ⟨xs, q⟩ := R.ex b h
      exact ⟨xs, by rw [upd_ne z]; exact q⟩), tabs_keep R.tb fun b o h n => by
    obtain ⟨xs, q⟩ := R.ex a ea
    rw [upd_ne (fun z => n xs (by rw [z, q] at h; cases h; rfl))]
    exact h⟩
theorem Ext.updNew {Ex0 : Addr → Prop} {σ0 : St} {H0 : Hp} {env0 : Fm} {a : Addr} {us : List V} (x : Ext Ex0 σ0 H0 env0 Ex σ H env) (n : H0 a = none) : Ext Ex0 σ0 H0 env0 Ex σ (upd H a (.lst us)) env :=
  ⟨fun b o h t w => by rw [upd_ne (fun e => by rw [e, n] at h; cases h)]; exact x.keep b o h t w, fun b h => by
    by_cases z : b = a
    · rw [z, upd_same]; simp
    · rw [upd_ne z]; exact x.thr b h, x.exs, x.exk, x.owk, x.prk⟩
/-- the block's state between two turns: D the new list, rest what is still to be walked, RES the whole result -/
structure CInv (G : Gx) (g : D → Fm → Option Fm) (tst : Ev Bool) (elt : Ev D) (vs : List Nat) (Ex : Addr → Prop) (σ : St) (H : Hp) (env : Fm) (a : Addr) (res : List D × Fm) (rest : List D) (H' : Hp) : Prop where
  go : ∃ Ex' env' acc us, Rep G Ex' (wipe σ vs) H' env' ∧ Ext Ex (wipe σ vs) H (wipeF env vs) Ex' (wipe σ vs) H' env' ∧ Sub (wipeF env vs) env' ∧ wipeF env' vs = env' ∧ H' a = some (.lst us) ∧ Are G Ex' H' acc us ∧ Ex' a ∧ loopC g tst elt vs rest env' acc = some (.ok res.1 res.2)
theorem comp_step {is vs : List Nat} {g : D → Fm → Option Fm} {tst : Ev Bool} {elt : Ev D} {a : Addr} {res : List D × Fm} {d : D} {rest : List D} {v : V} (R : Rep G Ex σ H env) (hn : H a = none) (his : ∀ i ∈ is, i ∈ vs) (hg : ∀ d env env', g d env = some env' → Off is env env')
    (hd : Is G Ex H d v) (C : CInv G g tst elt vs Ex σ H env a res (d :: rest) H') :
    tG G is g v (wipe σ vs) H' fun σ2 H2 => wipe σ2 vs = wipe σ vs ∧ tX G W0 RB tst σ2 H2 fun b H3 =>
      if b = true then tX G W0 (RD G) elt σ2 H3 fun y H4 => ∃ acc, H4 a = some (.lst acc) ∧ acc.length < sizeLine ∧ CInv G g tst elt vs Ex σ H env a res rest (upd H4 a (.lst (acc ++ [y]))) else CInv G g tst elt vs Ex σ H env a res rest H3 := by
  obtain ⟨Ex1, env1, acc, us, R1, x1, s1, w1, ha, hr, ea, hl⟩ := C.go
  unfold loopC at hl
  cases z : g d env1 with
  | none => simp [z] at hl
  | some env2 =>
    simp only [z] at hl
    have Rw := R.wiped vs
    have hd1 := x1.is Rw hd
    -- the new list is nobody's
    have free1 : ∀ i, ¬ Holds (wipe σ vs) env1 i a := fun i h => by
      obtain ⟨_, xs, q⟩ := Rw.holds (s1.holds h)
      rw [hn] at q
      cases q
    have nw1 : ¬ Wr (wipe σ vs) env1 a := fun w => by
      obtain ⟨i, h⟩ := w.holds
      exact free1 i h
    refine ⟨Ex1, env1, d, env2, R1, hd1, z, fun σ2 o2 x2 R2 => ?_⟩
    have wσ : wipe σ2 vs = wipe σ vs := wipe_off o2 his
    have we : wipeF env2 vs = env1 := by
      have := hg d env1 env2 z
      rw [← w1] at this
      rw [wipeF_off this his, w1]
    refine ⟨wσ, Ex1, env2, R2, ?_⟩
    obtain ⟨b, env3, e3, hl⟩ := bindR_inv hl
    refine Po.ok e3 fun Ex3 H3 b' x3 s3 R3 q3 => ?_
    cases (show b = b' from q3)
    have x13 := (x2.trans R1 x3)
    have ha3 := x13.keep a _ ha (fun _ z => nomatch z) nw1
    have ea3 := x13.exk a ea fun o => nw1 (.inl o)
    have hr3 := x13.are R1 hr
    cases b with
    | false =>
      rw [if_neg Bool.false_ne_true] at hl ⊢
      have x4 := (x13.trans R1 (Ext.wiped vs))
      rw [wσ] at x4
      have R4 := R3.wiped vs
      rw [wσ] at R4
      have s4 := s3.wiped (vs := vs)
      rw [we] at s4
      exact ⟨Ex3, wipeF env3 vs, acc, us, R4, x1.trans Rw x4, s1.trans s4, wipeF_off (is := []) Off.refl (by simp), ha3, hr3, ea3, hl⟩
    | true =>
      rw [if_pos rfl] at hl ⊢
      refine ⟨Ex3, env3, R3, ?_⟩
      obtain ⟨y, env4, e4, hl⟩ := bindR_inv hl
      refine Po.ok e4 fun Ex4 H4 w x4 s4 R4 q4 => ?_
      have x14 := x13.trans R1 x4
      have ha4 := x14.keep a _ ha (fun _ z => nomatch z) nw1
      have ea4 := x14.exk a ea fun o => nw1 (.inl o)
      have hr4 := x14.are R1 hr
      by_cases hc : ckLen (acc.length + 1) = true
      · rw [if_pos hc] at hl
        have hz := ckLen_line hc
        have x5 := (x14.trans R1 (Ext.wiped vs))
        rw [wσ] at x5
        have R5 := R4.wiped vs
        rw [wσ] at R5
        have s5 := (s3.trans s4).wiped (vs := vs)
        rw [we] at s5
        have free5 : ∀ i, ¬ Holds (wipe σ vs) (wipeF env4 vs) i a := fun i h => free1 i (s5.holds h)
        have kp : ∀ b o, H4 b = some o → NT o → ¬ Ex4 b → upd H4 a (.lst (us ++ [w])) b = some o := fun b o h _ n => by
          rw [upd_ne (fun e => n (by rw [e]; exact ea4))]
          exact h
        refine ⟨us, ha4, by rw [hr4.length]; exact hz, Ex4, wipeF env4 vs, acc ++ [y], us ++ [w], R5.updFree free5 ea4, (x1.trans Rw x5).updNew hn, s1.trans s5, wipeF_off (is := []) Off.refl (by simp), upd_same, ?_, ea4, hl⟩
        exact Are.keep kp R4.ex (fun _ h => .inl h) _ _ (hr4.append (.one q4))
      · rw [if_neg hc] at hl
        cases hl
theorem comp_start {is vs : List Nat} {g : D → Fm → Option Fm} {tst : Ev Bool} {elt : Ev D} {a : Addr} {res : List D × Fm} {rest : List D} (R : Rep G Ex σ H env) (hn : H a = none) (hl : loopC g tst elt vs rest (wipeF env vs) [] = some (.ok res.1 res.2)) :
    CInv G g tst elt vs Ex σ H env a res rest (upd H a (.lst [])) :=
  ⟨exAdd Ex a, wipeF env vs, [], [], (R.wiped vs).add (same_new hn) hn upd_same, Ext.add (same_new hn) hn, Sub.refl _, wipeF_off (is := []) Off.refl (by simp), upd_same, Are.nil, .inr rfl, hl⟩
theorem comp_end {vs : List Nat} {g : D → Fm → Option Fm} {tst : Ev Bool} {elt : Ev D} {a : Addr} {res : List D × Fm} {Q : VK} {Ex0 : Addr → Prop} {H0 : Hp} {env0 : Fm} (R0 : Rep G Ex0 σ H0 env0) (x0 : Ext Ex0 σ H0 env0 Ex σ H env) (s0 : Sub env0 env) (R : Rep G Ex σ H env) (hn : H a = none)
    (C : CInv G g tst elt vs Ex σ H env a res [] H') (p : Po G W (RF G) Ex0 σ H0 env0 (some (.ok (.fr res.1) (mend env res.2 vs))) Q) : Q (.ref a) H' := by
  obtain ⟨Ex1, env1, acc, us, R1, x1, s1, w1, ha, hr, ea, hl⟩ := C.go
  unfold loopC at hl
  obtain ⟨res1, res2⟩ := res
  cases hl
  obtain ⟨R2, x2, s2⟩ := mend_ok R x1 s1 R1
  exact p Ex1 H' _ (x0.trans R0 x2) (s0.trans s2) R2 ⟨a, us, rfl, x0.new hn, ea, ha, hr⟩
end
end Nol

set_option Elab.async false
set_option linter.all false
set_option maxRecDepth 100000
set_option maxHeartbeats 4000000
/-! Nol, part L: the rules for list comprehensions; list(range(..)). -/
namespace Nol
open PySem PySem.Spec PyProof.Rows L2

section
variable {G : Gx} {X : Cx} {W : WX} {Ex Ex' Ex1 : Addr → Prop} {σ σ1 : St} {H H' H1 : Hp} {env env' env1 : Fm} {k : Nat} {gf : Bool} {pos p : Pos}
structure DTs (G : Gx) (X : Cx) (ifs : List Expr) (f : Ev Bool) : Prop where
  run : PTs X ifs (tX G W0 RB f)
theorem dts_nil : DTs G X [] (fun env => some (.ok true env)) := ⟨⟨fun pins s σ H Q I ⟨Ex, env, R, q⟩ => pts_nil.run pins s σ H Q I (q.done R rfl)⟩⟩
theorem dts_one {c : Expr} {f : Ev Bool} (h : DT G X c f) : DTs G X [c] f := ⟨pts_one (h.run W0 takesW0)⟩
variable {is vs : List Nat} {g : D → Fm → Option Fm} {tst : Ev Bool} {elt : Ev D} {f : Ev D}
theorem comp_res {r : Option (Rs (List D))} {f : List D → Fm → Option (Rs FV)} {Q : VK} (p : Po G W (RF G) Ex σ H env (bindR (noEr r) f) Q) : ∃ acc e, r = some (.ok acc e) ∧ Po G W (RF G) Ex σ H env (f acc e) Q := by
  cases r with
  | none => exact p.elim
  | some r =>
    cases r with
    | ok acc e => exact ⟨acc, e, rfl, p⟩
    | er _ _ _ => exact p.elim
theorem lcR_tup {Q : VK} (his : ∀ i ∈ is, i ∈ vs) (hg : ∀ d env env', g d env = some env' → Off is env env') (h : tX G W (RF G) (evComp (evSeq true f) g tst elt vs) σ H Q) :
    tLc (iTup X.K (tX G W (RD G) f)) (tG G is g) (tX G W0 RB tst) (tX G W0 (RD G) elt) vs σ H Q := by
  obtain ⟨Ex, env, R, p⟩ := h
  refine ⟨Ex, env, R, ?_⟩
  have p : Po G W (RF G) Ex σ H env (bindR (bindR (f env) _) _) Q := p
  cases z : f env with
  | none => rw [z] at p; exact p.elim
  | some r =>
    rw [z] at p
    cases r with
    | er c d e => exact p
    | ok d e =>
      intro Ex1 H1 v x s R1 q
      cases d with
      | tup ds =>
        obtain ⟨acc, e', hl, p⟩ := comp_res (show Po G W (RF G) Ex σ H env (bindR (noEr (loopC g tst elt vs ds (wipeF e vs) [])) fun acc e' => some (.ok (.fr acc) (mend e e' vs))) Q from p)
        obtain ⟨a, us, rfl, ha, hr⟩ := Is.tupE q
        refine ⟨a, rfl, ⟨us, SqT.of ha⟩, fun l hn => lc_tup (xs := us) (Qd := Q (.ref l)) (fun i H' => CInv G g tst elt vs Ex1 σ H1 e l (acc, e') (ds.drop i) H') (comp_start (is := is) R1 hn hl) (fun i H' hi C => ?_) (fun i v H' hv C => ?_) fun H' C => ?_⟩
        · obtain ⟨Ex2, e2, _, _, R2, x2, _⟩ := C.go
          refine SqT.of (x2.keep a _ ha (fun _ z => nomatch z) fun w => ?_)
          obtain ⟨_, xs, w⟩ := (R1.wiped vs).wr w
          rw [ha] at w
          cases w
        · obtain ⟨d, e1, e2⟩ := hr.split hv
          rw [e1] at C
          exact comp_step R1 hn his hg e2 C
        · rw [drop_all hr] at C
          exact comp_end R x s R1 hn C p
      | _ => exact p.elim
theorem lcR_lst {Q : VK} (hK : X.K = G.K) (his : ∀ i ∈ is, i ∈ vs) (hg : ∀ d env env', g d env = some env' → Off is env env') (h : tX G W (RF G) (evComp (evSeq false f) g tst elt vs) σ H Q) :
    tLc (iList X.K (tX G W (RD G) f)) (tG G is g) (tX G W0 RB tst) (tX G W0 (RD G) elt) vs σ H Q := by
  obtain ⟨Ex, env, R, p⟩ := h
  refine ⟨Ex, env, R, ?_⟩
  have p : Po G W (RF G) Ex σ H env (bindR (bindR (f env) _) _) Q := p
  cases z : f env with
  | none => rw [z] at p; exact p.elim
  | some r =>
    rw [z] at p
    cases r with
    | er c d e => exact p
    | ok d e =>
      intro Ex1 H1 v x s R1 q
      cases d with
      | lst ds =>
        obtain ⟨acc, e', hl, p⟩ := comp_res (show Po G W (RF G) Ex σ H env (bindR (noEr (loopC g tst elt vs ds (wipeF e vs) [])) fun acc e' => some (.ok (.fr acc) (mend e e' vs))) Q from p)
        obtain ⟨a, us, rfl, ⟨ha, na⟩, hr⟩ := Is.lstE q
        refine ⟨a, rfl, ⟨us, SqL.of ha⟩, fun l hn => lc_list (xs := us) (Qd := Q (.ref l)) (fun i H' => CInv G g tst elt vs Ex1 σ H1 e l (acc, e') (ds.drop i) H') (comp_start (is := is) R1 hn hl) (fun i H' hi C => ?_) (fun i v H' hv C => ?_) fun H' C => ?_⟩
        · obtain ⟨Ex2, e2, _, _, R2, x2, _⟩ := C.go
          exact SqL.of (x2.keep a _ ha (fun _ z => nomatch z) fun w => na ((R1.wiped vs).wr w).1)
        · obtain ⟨d, e1, e2⟩ := hr.split hv
          rw [e1] at C
          exact comp_step R1 hn his hg e2 C
        · rw [drop_all hr] at C
          exact comp_end R x s R1 hn C p
      | scr ns =>
        obtain ⟨acc, e', hl, p⟩ := comp_res (show Po G W (RF G) Ex σ H env (bindR (noEr (loopC g tst elt vs (ns.map .int) (wipeF e vs) [])) fun acc e' => some (.ok (.fr acc) (mend e e' vs))) Q from p)
        have q : Is G Ex1 H1 (.scr ns) v := q
        have q0 := q
        unfold Is at q
        obtain ⟨a, rfl, ha⟩ := q
        have hr := are_ints (G := G) (Ex := Ex1) (H := H1) ns
        refine ⟨a, rfl, ⟨ns.map V.int, by rw [hK]; exact ha.sql⟩, fun l hn => lc_list (xs := ns.map V.int) (Qd := Q (.ref l)) (fun i H' => CInv G g tst elt vs Ex1 σ H1 e l (acc, e') ((ns.map D.int).drop i) H') (comp_start (is := is) R1 hn hl) (fun i H' hi C => ?_) (fun i v H' hv C => ?_) fun H' C => ?_⟩
        · obtain ⟨Ex2, e2, _, _, R2, x2, _⟩ := C.go
          have t := x2.is (R1.wiped vs) q0
          unfold Is at t
          obtain ⟨a', e3, t⟩ := t
          cases e3
          rw [hK]
          exact t.sql
        · obtain ⟨d, e1, e2⟩ := hr.split hv
          rw [e1] at C
          exact comp_step R1 hn his hg e2 C
        · rw [drop_all hr] at C
          exact comp_end R x s R1 hn C p
      | _ => exact p.elim
theorem lcR_rng {a : Expr} {Q : VK} (his : ∀ i ∈ is, i ∈ vs) (hg : ∀ d env env', g d env = some env' → Off is env env') (h : tX G W (RF G) (evComp (evRng1 f) g tst elt vs) σ H Q) :
    tLc (iRng1 (fun σ H Q => tX G W (RD G) f σ H fun v H1 => Q [v] H1)) (tG G is g) (tX G W0 RB tst) (tX G W0 (RD G) elt) vs σ H Q := by
  obtain ⟨Ex, env, R, p⟩ := h
  refine ⟨Ex, env, R, ?_⟩
  have p : Po G W (RF G) Ex σ H env (bindR (bindR (f env) _) _) Q := p
  cases z : f env with
  | none => rw [z] at p; exact p.elim
  | some r =>
    rw [z] at p
    cases r with
    | er c d e => exact p
    | ok d e =>
      intro Ex1 H1 v x s R1 q
      cases d with
      | int j =>
        have p : Po G W (RF G) Ex σ H env (bindR (if rngC j = true then some (.ok (rngs 0 j.toNat) e) else none) _) Q := p
        by_cases hc : rngC j = true
        · rw [if_pos hc] at p
          obtain ⟨acc, e', hl, p⟩ := comp_res (show Po G W (RF G) Ex σ H env (bindR (noEr (loopC g tst elt vs (rngs 0 j.toNat) (wipeF e vs) [])) fun acc e' => some (.ok (.fr acc) (mend e e' vs))) Q from p)
          have q : Is G Ex1 H1 (.int j) v := q
          unfold Is at q
          refine ⟨j, by rw [q], (rngC_ok hc).1, (rngC_ok hc).2, fun l hn => lc_range (lo := 0) (n := j.toNat) (Qd := Q (.ref l)) (fun i H' => CInv G g tst elt vs Ex1 σ H1 e l (acc, e') ((rngs 0 j.toNat).drop i) H') (comp_start (is := is) R1 hn hl) (fun i H' hi C => ?_) fun H' C => ?_⟩
          · rw [rngs_drop hi] at C
            exact comp_step R1 hn his hg (by unfold Is; rfl) C
          · rw [rngs_all] at C
            exact comp_end R x s R1 hn C p
        · rw [if_neg hc] at p
          exact p.elim
      | _ => exact p.elim
variable {et tg iter a : Expr} {ifs : List Expr} {scope : Scope} {own : List (Str × Nat)} {y : Str} {py spos p1 p2 : Pos} {i : Nat}
theorem all_sub {is vs : List Nat} (h : (is.all fun i => vs.contains i) = true) : ∀ i ∈ is, i ∈ vs := fun i hi => by
  have := List.all_eq_true.mp h i hi
  simpa using this
theorem df_comp_tup (xg : XG G gf k X) (hi : DE G X iter f) (ok : BlkOk X.N X.env.scope scope own) (hsub : (is.all fun i => (own.map (·.2)).contains i) = true)
    (hg : ∀ (s : Shared) (H : Hp) (C : Addr) (cl : List (Str × Addr)) (fp : List Addr), DG G (X.blk s H scope (compEnvC scope cl C X.env) fp) tg is g) (ht : ∀ (s : Shared) (H : Hp) (C : Addr) (cl : List (Str × Addr)) (fp : List Addr), DTs G (X.blk s H scope (compEnvC scope cl C X.env) fp) ifs tst)
    (he : ∀ (s : Shared) (H : Hp) (C : Addr) (cl : List (Str × Addr)) (fp : List Addr), DE G (X.blk s H scope (compEnvC scope cl C X.env) fp) et elt) (hs : ∀ x, foldedSetIterable iter X.env x = pure x := by intro _; rfl) :
    DF G X (.ListComp et [⟨tg, iter, ifs, 0⟩] scope pos) (evComp (evSeq true f) g tst elt (own.map (·.2))) :=
  ⟨fun W tk => ⟨fun pins s σ H Q I h => (pe_lc xg.calm xg.nd (pi_tup (hi.run W tk)) ok (fun s H C cl fp => (hg s H C cl fp).run) (fun s H C cl fp => (ht s H C cl fp).run) (fun s H C cl fp => (he s H C cl fp).run W0 takesW0) hs).run pins s σ H Q I (lcR_tup (all_sub hsub) (hg s H 0 [] []).off h)⟩⟩
/-- the same, stored under a plain local name on the comprehension's own line -/
theorem ds_setComp_tup (xg : XG G gf k X) (hy : X.N[i]? = some y) (hyl : X.env.scope.names.lookup y = some .local) (hsw : swapsWith (.ListComp et [⟨tg, iter, ifs, 0⟩] scope pos) (some (.Name y py)) spos.line X.env = pure true) (hi : DE G X iter f) (ok : BlkOk X.N X.env.scope scope own) (hsub : (is.all fun i => (own.map (·.2)).contains i) = true)
    (hg : ∀ (s : Shared) (H : Hp) (C : Addr) (cl : List (Str × Addr)) (fp : List Addr), DG G (X.blk s H scope (compEnvC scope cl C X.env) fp) tg is g) (ht : ∀ (s : Shared) (H : Hp) (C : Addr) (cl : List (Str × Addr)) (fp : List Addr), DTs G (X.blk s H scope (compEnvC scope cl C X.env) fp) ifs tst)
    (he : ∀ (s : Shared) (H : Hp) (C : Addr) (cl : List (Str × Addr)) (fp : List Addr), DE G (X.blk s H scope (compEnvC scope cl C X.env) fp) et elt) (hs : ∀ x, foldedSetIterable iter X.env x = pure x := by intro _; rfl) :
    DS G X (.Assign [.Name y py] (.ListComp et [⟨tg, iter, ifs, 0⟩] scope pos) spos) (svAsg i (evComp (evSeq true f) g tst elt (own.map (·.2)))) :=
  ⟨fun W tk => ⟨fun pins s σ H D I h => (ps_setLc xg.calm xg.nd hy hyl hsw (pi_tup (hi.run W tk)) ok (fun s H C cl fp => (hg s H C cl fp).run) (fun s H C cl fp => (ht s H C cl fp).run) (fun s H C cl fp => (he s H C cl fp).run W0 takesW0) hs).run pins s σ H D I (lcR_tup (all_sub hsub) (hg s H 0 [] []).off (asg_core h))⟩⟩
theorem df_comp_lst (xg : XG G gf k X) (hi : DE G X iter f) (ok : BlkOk X.N X.env.scope scope own) (hsub : (is.all fun i => (own.map (·.2)).contains i) = true)
    (hg : ∀ (s : Shared) (H : Hp) (C : Addr) (cl : List (Str × Addr)) (fp : List Addr), DG G (X.blk s H scope (compEnvC scope cl C X.env) fp) tg is g) (ht : ∀ (s : Shared) (H : Hp) (C : Addr) (cl : List (Str × Addr)) (fp : List Addr), DTs G (X.blk s H scope (compEnvC scope cl C X.env) fp) ifs tst)
    (he : ∀ (s : Shared) (H : Hp) (C : Addr) (cl : List (Str × Addr)) (fp : List Addr), DE G (X.blk s H scope (compEnvC scope cl C X.env) fp) et elt) (hs : ∀ x, foldedSetIterable iter X.env x = pure x := by intro _; rfl) :
    DF G X (.ListComp et [⟨tg, iter, ifs, 0⟩] scope pos) (evComp (evSeq false f) g tst elt (own.map (·.2))) :=
  ⟨fun W tk => ⟨fun pins s σ H Q I h => (pe_lc xg.calm xg.nd (pi_list (hi.run W tk)) ok (fun s H C cl fp => (hg s H C cl fp).run) (fun s H C cl fp => (ht s H C cl fp).run) (fun s H C cl fp => (he s H C cl fp).run W0 takesW0) hs).run pins s σ H Q I (lcR_lst xg.K (all_sub hsub) (hg s H 0 [] []).off h)⟩⟩
/-- the same, stored under a plain local name on the comprehension's own line -/
theorem ds_setComp_lst (xg : XG G gf k X) (hy : X.N[i]? = some y) (hyl : X.env.scope.names.lookup y = some .local) (hsw : swapsWith (.ListComp et [⟨tg, iter, ifs, 0⟩] scope pos) (some (.Name y py)) spos.line X.env = pure true) (hi : DE G X iter f) (ok : BlkOk X.N X.env.scope scope own) (hsub : (is.all fun i => (own.map (·.2)).contains i) = true)
    (hg : ∀ (s : Shared) (H : Hp) (C : Addr) (cl : List (Str × Addr)) (fp : List Addr), DG G (X.blk s H scope (compEnvC scope cl C X.env) fp) tg is g) (ht : ∀ (s : Shared) (H : Hp) (C : Addr) (cl : List (Str × Addr)) (fp : List Addr), DTs G (X.blk s H scope (compEnvC scope cl C X.env) fp) ifs tst)
    (he : ∀ (s : Shared) (H : Hp) (C : Addr) (cl : List (Str × Addr)) (fp : List Addr), DE G (X.blk s H scope (compEnvC scope cl C X.env) fp) et elt) (hs : ∀ x, foldedSetIterable iter X.env x = pure x := by intro _; rfl) :
    DS G X (.Assign [.Name y py] (.ListComp et [⟨tg, iter, ifs, 0⟩] scope pos) spos) (svAsg i (evComp (evSeq false f) g tst elt (own.map (·.2)))) :=
  ⟨fun W tk => ⟨fun pins s σ H D I h => (ps_setLc xg.calm xg.nd hy hyl hsw (pi_list (hi.run W tk)) ok (fun s H C cl fp => (hg s H C cl fp).run) (fun s H C cl fp => (ht s H C cl fp).run) (fun s H C cl fp => (he s H C cl fp).run W0 takesW0) hs).run pins s σ H D I (lcR_lst xg.K (all_sub hsub) (hg s H 0 [] []).off (asg_core h))⟩⟩
theorem df_comp_rng (xg : XG G gf k X) (hgl : Gl X "range") (ha : DE G X a f) (ok : BlkOk X.N X.env.scope scope own) (hsub : (is.all fun i => (own.map (·.2)).contains i) = true)
    (hg : ∀ (s : Shared) (H : Hp) (C : Addr) (cl : List (Str × Addr)) (fp : List Addr), DG G (X.blk s H scope (compEnvC scope cl C X.env) fp) tg is g) (ht : ∀ (s : Shared) (H : Hp) (C : Addr) (cl : List (Str × Addr)) (fp : List Addr), DTs G (X.blk s H scope (compEnvC scope cl C X.env) fp) ifs tst)
    (he : ∀ (s : Shared) (H : Hp) (C : Addr) (cl : List (Str × Addr)) (fp : List Addr), DE G (X.blk s H scope (compEnvC scope cl C X.env) fp) et elt) (hs : ∀ x, foldedSetIterable (.Call (.Name "range" p1) [a] [] p2) X.env x = pure x := by intro _; rfl) (hst : starEach [a] X.env = [(false, eval a X.env)] := by rfl) :
    DF G X (.ListComp et [⟨tg, (.Call (.Name "range" p1) [a] [] p2), ifs, 0⟩] scope pos) (evComp (evRng1 f) g tst elt (own.map (·.2))) :=
  ⟨fun W tk => ⟨fun pins s σ H Q I h => (pe_lc xg.calm xg.nd (pi_range1 hgl (xg.bl "range" (by decide)) (pa_cons (ha.run W tk) pa_nil hst) hst) ok (fun s H C cl fp => (hg s H C cl fp).run) (fun s H C cl fp => (ht s H C cl fp).run) (fun s H C cl fp => (he s H C cl fp).run W0 takesW0) hs).run pins s σ H Q I (lcR_rng (a := a) (all_sub hsub) (hg s H 0 [] []).off h)⟩⟩
/-- the same, stored under a plain local name on the comprehension's own line -/
theorem ds_setComp_rng (xg : XG G gf k X) (hy : X.N[i]? = some y) (hyl : X.env.scope.names.lookup y = some .local) (hsw : swapsWith (.ListComp et [⟨tg, (.Call (.Name "range" p1) [a] [] p2), ifs, 0⟩] scope pos) (some (.Name y py)) spos.line X.env = pure true) (hgl : Gl X "range") (ha : DE G X a f) (ok : BlkOk X.N X.env.scope scope own) (hsub : (is.all fun i => (own.map (·.2)).contains i) = true)
    (hg : ∀ (s : Shared) (H : Hp) (C : Addr) (cl : List (Str × Addr)) (fp : List Addr), DG G (X.blk s H scope (compEnvC scope cl C X.env) fp) tg is g) (ht : ∀ (s : Shared) (H : Hp) (C : Addr) (cl : List (Str × Addr)) (fp : List Addr), DTs G (X.blk s H scope (compEnvC scope cl C X.env) fp) ifs tst)
    (he : ∀ (s : Shared) (H : Hp) (C : Addr) (cl : List (Str × Addr)) (fp : List Addr), DE G (X.blk s H scope (compEnvC scope cl C X.env) fp) et elt) (hs : ∀ x, foldedSetIterable (.Call (.Name "range" p1) [a] [] p2) X.env x = pure x := by intro _; rfl) (hst : starEach [a] X.env = [(false, eval a X.env)] := by rfl) :
    DS G X (.Assign [.Name y py] (.ListComp et [⟨tg, (.Call (.Name "range" p1) [a] [] p2), ifs, 0⟩] scope pos) spos) (svAsg i (evComp (evRng1 f) g tst elt (own.map (·.2)))) :=
  ⟨fun W tk => ⟨fun pins s σ H D I h => (ps_setLc xg.calm xg.nd hy hyl hsw (pi_range1 hgl (xg.bl "range" (by decide)) (pa_cons (ha.run W tk) pa_nil hst) hst) ok (fun s H C cl fp => (hg s H C cl fp).run) (fun s H C cl fp => (ht s H C cl fp).run) (fun s H C cl fp => (he s H C cl fp).run W0 takesW0) hs).run pins s σ H D I (lcR_rng (a := a) (all_sub hsub) (hg s H 0 [] []).off (asg_core h))⟩⟩
end
end Nol

set_option Elab.async false
set_option linter.all false
set_option maxRecDepth 100000
set_option maxHeartbeats 4000000
/-! Nol, part M: defs and their calls. -/
namespace Nol
open PySem PySem.Spec PyProof.Rows L2

/-- a def's promise, where no repr runs around it -/
structure FnG (gf : Bool) (P : Program) (w : World) (K : PySem.W.Frag) (mg : Str → Option Value) (base : Heap) (k : Nat) (f : Addr) (fd : FuncData) (ps : List Str) (sp : Sp) : Prop where
  len : ∀ vs H Q E, sp vs H Q E → vs.length = ps.length
  run : ∀ (A : Around) (outer : List Env) (s : Shared) (H : Hp) (args : Args) (us : List Value) (vs : List V) (Q : VK) (E : XK), Room k A → (gf = true → A.guards = some []) → Env0 P w K mg base A outer s H →
    BindsTo s fd args (ps.zip us) → Vals vs us → sp vs H Q E → codeAny (model P w) A (.call (.ref f) args) (CR (L2.CX P w) outer P w H s Q E) s
theorem FnG.mono {gf : Bool} {P : Program} {w : World} {K : PySem.W.Frag} {mg : Str → Option Value} {base : Heap} {j k : Nat} {f : Addr} {fd : FuncData} {ps : List Str} {sp : Sp} (F : FnG gf P w K mg base j f fd ps sp) (h : j ≤ k) : FnG gf P w K mg base k f fd ps sp :=
  ⟨F.len, fun A outer s H args us vs Q E hr => F.run A outer s H args us vs Q E (hr.mono h)⟩
/-- a def by its body -/
theorem fnG_of {gf : Bool} {P : Program} {w : World} {K : PySem.W.Frag} {mg : Str → Option Value} {base : Heap} {k : Nat} {f : Addr} {fd : FuncData} {x qual : Str} {st : Stmt} {N ps : List Str} {sp : Sp} (F : Fun K x qual st f fd) (S : FnScope N ps (defScope st))
    (len : ∀ vs H Q E, sp vs H Q E → vs.length = ps.length)
    (hbody : ∀ (cdv : Value) (A : Around) (outer : List Env) (s : Shared) (H : Hp) (vs : List V) (Q : VK) (E : XK), Room k (A.deeper (envOfC qual (defScope st) s.heap.objs.size f cdv)) → fd.code = cdv → (gf = true → A.guards = some []) → sp vs H Q E →
      ∃ t, PSs (cxOf (L2.CX P w) P w K mg base N qual (defScope st) f cdv A outer s H E) (defBody st) t ∧ t { nx := fun _ H' => Q .non H', rt := Q } (start N vs) H) : FnG gf P w K mg base (k + 1) f fd ps sp := by
  obtain ⟨oc, od, kV, doc, pm, an, cdv, ct, osl, rfl, lk, hcd⟩ := F.ex
  refine ⟨len, ?_⟩
  intro A outer s H args us vs Q E hr gd e0 bd rel prom
  have nlen := len _ _ _ _ prom
  have Kin : K.In s.heap := e0.mod.kin.keeps (fun b o q => (e0.bs b o q).1)
  have lim : s.heap.NoLimit := e0.mod.nolimit.keeps (fun b o q => (e0.bs b o q).1)
  have kinds : ∀ y ∈ ps.zip us, (defScope st).names.lookup y.1 = some .local ∨ ((defScope st).names.lookup y.1 = some .cell ∧ ((cellsFrom (s.heap.objs.size + 1) (defScope st).names []).lookup y.1).isSome = true) := by
    rintro ⟨n, v⟩ hy
    cases S.par n (List.of_mem_zip hy).1 with
    | inl q => exact .inl q
    | inr q => exact .inr ⟨q, PySem.W.cellsFrom_some _ _ _ (.inl q)⟩
  refine codeAny_call_function (hr.depth) (Kin _ _ lk) rfl S.co S.gen rfl (PySem.W.codeRec_of Kin hcd) (bd _ _ _ _ (wpAny_newFunctionEnv_cells S.kind kinds ?_))
  rintro env rfl s1 inC
  refine ⟨lim.keeps inC.toInCall.keep, codeAny_func ?_⟩
  obtain ⟨t, ht, hq⟩ := hbody cdv A outer s H vs Q E (hr.deeper _) rfl gd prom
  have I0 : Inv (cxOf (L2.CX P w) P w K mg base N qual (defScope st) f cdv A outer s H E) [] (start N vs) H s1 := inv_start S hr.hd e0 nlen rel inC
  refine wpAny_mono (ht.run [] s1 (start N vs) H _ I0 hq) ?_ (fun e s' h => h)
  intro fl s' h
  have out : ∀ (σ2 : L2.St) (H2 : Hp) (v : V) (u : Value), Inv (cxOf (L2.CX P w) P w K mg base N qual (defScope st) f cdv A outer s H E) [] σ2 H2 s' → RelV v u → Q v H2 → CE outer P w H s Q u s' :=
    fun _ H2 v _ J rv q => ⟨v, H2, J.os, J.bare, J.base, J.hok, rv, q⟩
  match fl, h with
  | .ret u, ⟨v, σ2, H2, J, rv, q⟩ => exact out σ2 H2 v u J rv q
  | .next, ⟨σ2, H2, J, q⟩ => exact out σ2 H2 V.non Value.none J rfl q
  | .brk, ⟨_, _, _, q⟩ => exact q.elim
  | .cont, ⟨_, _, _, q⟩ => exact q.elim

/-! ### what a def does, by data -/
inductive FR where
  | ok (v : FV)
  | er (c : Str) (d : D)
section
variable (G : Gx)
def FnE (Ex' : Addr → Prop) (H H' : Hp) (r : FR) (Q : VK) (E : XK) : Prop := match r with
  | .ok (.d d) => ∀ v, Is G Ex' H' d v → Q v H'
  | .ok (.fr es) => ∀ b vs, H b = none → Ex' b → H' b = some (.lst vs) → Are G Ex' H' es vs → Q (.ref b) H'
  | .er c d => ∀ C dx v, G.cls c = some C → H' dx = some (.xd [("value", v)]) → Is G Ex' H' d v → E (.ref C) (some dx) H'
/-- more lists that may be written to, all of them new -/
structure Wid (Ex : Addr → Prop) (H : Hp) (Ex' : Addr → Prop) (H' : Hp) : Prop where
  tb : LamX.Tabs G.T H'
  thr : ∀ b, H b ≠ none → H' b ≠ none
  sub : ∀ b, Ex b → Ex' b
  new : ∀ b, Ex' b → Ex b ∨ H b = none
  ex : ExL Ex' H'
/-- a def that touches nothing -/
def spP (f : List D → Option FR) (n : Nat) : Sp := fun vs H Q E => vs.length = n ∧ ∃ Ex ds r, LamX.Tabs G.T H ∧ ExL Ex H ∧ Are G Ex H ds vs ∧ f ds = some r ∧ ∀ Ex' H', Wid G Ex H Ex' H' → LamX.ExtN H H' → FnE G Ex' H H' r Q E
/-- a def that is lent a list -/
def spQ (f : List D → List D → Option (FR × List D)) (n : Nat) : Sp := fun vs H Q E => vs.length = n ∧ ∃ Ex a ps pds us ds r, vs = .ref a :: us ∧ LamX.Tabs G.T H ∧ ExL Ex H ∧ Ex a ∧ H a = some (.lst ps) ∧ Are G Ex H pds ps ∧ Are G Ex H ds us ∧ f pds ds = some r ∧
  ∀ Ex' H' qs, Wid G Ex H Ex' H' → (∀ b o, H b = some o → NT o → b ≠ a → H' b = some o) → H' a = some (.lst qs) → Are G Ex' H' r.2 qs → FnE G Ex' H H' r.1 Q E
end
def startF (N : List Str) (ss : List Sl) : Fm := ss ++ List.replicate (N.length - ss.length) .un
def endR : Option RS → Option (FR × Fm)
  | some (.nx e) => some (.ok (.d .non), e)
  | some (.rt d e) => some (.ok (.d d), e)
  | some (.rf ds e) => some (.ok (.fr ds), e)
  | some (.er c d e) => some (.er c d, e)
  | _ => none
def runP (N : List Str) (fb : Sv) (ds : List D) : Option FR := (endR (fb (startF N (ds.map .v)))).map (·.1)
def runQ (N : List Str) (fb : Sv) (pds ds : List D) : Option (FR × List D) := match endR (fb (startF N (.par pds :: ds.map .v))) with
  | some re => match (re.2[0]? : Option Sl) with
    | some (Sl.par q) => some (re.1, q)
    | _ => none
  | none => none
section
variable {G : Gx} {X : Cx} {W : WX} {Ex Ex' Ex1 : Addr → Prop} {σ σ1 : St} {H H' H1 : Hp} {env env' env1 : Fm} {k : Nat} {gf : Bool} {pos p : Pos}
theorem map_v_get {ds : List D} {i : Nat} {s : Sl} (h : (ds.map Sl.v)[i]? = some s) : ∃ d, ds[i]? = some d ∧ s = .v d := by
  rw [List.getElem?_map] at h
  cases e : ds[i]? with
  | none => rw [e] at h; cases h
  | some d => rw [e] at h; cases h; exact ⟨d, rfl, rfl⟩
theorem startF_get {N : List Str} {ss : List Sl} {i : Nat} {s : Sl} (h : (startF N ss)[i]? = some s) : ss[i]? = some s ∨ (s = .un ∧ ss.length ≤ i) := by
  unfold startF at h
  by_cases hi : i < ss.length
  · rw [List.getElem?_append_left hi] at h
    exact .inl h
  · rw [List.getElem?_append_right (by omega), List.getElem?_replicate] at h
    split at h
    · cases h; exact .inr ⟨rfl, by omega⟩
    · cases h
theorem start_get {N : List Str} {vs : List V} {i : Nat} {o : Option V} (h : (L2.start N vs)[i]? = some o) : (∃ v, vs[i]? = some v ∧ o = some v) ∨ (o = none ∧ vs.length ≤ i) := by
  unfold L2.start at h
  by_cases hi : i < vs.length
  · rw [List.getElem?_append_left (by simpa using hi), List.getElem?_map] at h
    cases e : vs[i]? with
    | none => rw [e] at h; cases h
    | some v => rw [e] at h; cases h; exact .inl ⟨v, rfl, rfl⟩
  · rw [List.getElem?_append_right (by simp; omega), List.getElem?_replicate] at h
    split at h
    · cases h; exact .inr ⟨rfl, by omega⟩
    · cases h
theorem startLen {N : List Str} {vs : List V} {ss : List Sl} (h : vs.length = ss.length) : (L2.start N vs).length = (startF N ss).length := by
  unfold L2.start startF
  simp [h]
theorem rep_startP {N : List Str} {vs : List V} {ds : List D} (tb : LamX.Tabs G.T H) (hl : ExL Ex H) (h : Are G Ex H ds vs) : Rep G Ex (L2.start N vs) H (startF N (ds.map .v)) := by
  have noM : ∀ i a, ¬ Holds (L2.start N vs) (startF N (ds.map .v)) i a := fun i a ⟨_, s, e, m⟩ => by
    rcases startF_get e with e | ⟨e, _⟩
    · obtain ⟨d, _, rfl⟩ := map_v_get e
      cases m
    · rw [e] at m; cases m
  refine ⟨startLen (by simp [h.length]), fun i o s e1 e2 => ?_, fun i j a h1 _ => absurd h1 (noM i a), hl, tb⟩
  rcases startF_get e2 with e2 | ⟨e2, hi⟩
  · obtain ⟨d, hd, rfl⟩ := map_v_get e2
    rcases start_get e1 with ⟨v, hv, rfl⟩ | ⟨_, hn⟩
    · obtain ⟨d', hd', hi⟩ := h.get hv
      rw [hd] at hd'
      cases hd'
      exact hi
    · have := (List.getElem?_eq_some_iff.mp hd).1
      have := h.length
      omega
  · rw [e2]
    cases o <;> trivial
theorem rep_startQ {N : List Str} {us : List V} {a : Addr} {ps : List V} {pds ds : List D} (tb : LamX.Tabs G.T H) (hl : ExL Ex H) (ea : Ex a) (ha : H a = some (.lst ps)) (hp : Are G Ex H pds ps) (h : Are G Ex H ds us) :
    Rep G Ex (L2.start N (.ref a :: us)) H (startF N (.par pds :: ds.map .v)) := by
  have hM : ∀ i b, Holds (L2.start N (.ref a :: us)) (startF N (.par pds :: ds.map .v)) i b → i = 0 := fun i b ⟨_, s, e, m⟩ => by
    rcases startF_get e with e | ⟨e, _⟩
    · cases i with
      | zero => rfl
      | succ i =>
        rw [List.getElem?_cons_succ] at e
        obtain ⟨d, _, rfl⟩ := map_v_get e
        cases m
    · rw [e] at m; cases m
  refine ⟨startLen (by simp [h.length]), fun i o s e1 e2 => ?_, fun i j b h1 h2 => (hM i b h1).trans (hM j b h2).symm, hl, tb⟩
  rcases startF_get e2 with e2 | ⟨e2, hi⟩
  · rcases start_get e1 with ⟨v, hv, rfl⟩ | ⟨_, hn⟩
    · cases i with
      | zero =>
        cases e2
        cases hv
        exact ⟨a, ps, rfl, ha, ea, hp⟩
      | succ i =>
        rw [List.getElem?_cons_succ] at e2 hv
        obtain ⟨d, hd, rfl⟩ := map_v_get e2
        obtain ⟨d', hd', hi⟩ := h.get hv
        rw [hd] at hd'
        cases hd'
        exact hi
    · have := (List.getElem?_eq_some_iff.mp e2).1
      have := h.length
      simp at *
      omega
  · rw [e2]
    cases o <;> trivial
theorem startP_wr {N : List Str} {ds : List D} {a : Addr} : ¬ Wr σ (startF N (ds.map .v)) a := fun w => by
  rcases w with ⟨i, es, e, _⟩ | ⟨i, es, e, _⟩ <;>
  · rcases startF_get e with e | ⟨e, _⟩
    · obtain ⟨d, _, z⟩ := map_v_get e
      cases z
    · cases e
theorem startQ_wr {N : List Str} {pds ds : List D} {us : List V} {a b : Addr} (w : Wr (L2.start N (.ref a :: us)) (startF N (.par pds :: ds.map .v)) b) : b = a ∧ ¬ Ow (L2.start N (.ref a :: us)) (startF N (.par pds :: ds.map .v)) b := by
  have no : ∀ c, ¬ Ow (L2.start N (.ref a :: us)) (startF N (.par pds :: ds.map .v)) c := fun c ⟨i, es, e, _⟩ => by
    rcases startF_get e with e | ⟨e, _⟩
    · cases i with
      | zero => cases e
      | succ i =>
        rw [List.getElem?_cons_succ] at e
        obtain ⟨d, _, z⟩ := map_v_get e
        cases z
    · cases e
  refine ⟨?_, no b⟩
  rcases w with w | ⟨i, es, e, q⟩
  · exact absurd w (no b)
  · rcases startF_get e with e | ⟨e, _⟩
    · cases i with
      | zero =>
        rcases start_get q with ⟨v, hv, e2⟩ | ⟨e2, _⟩
        · cases hv
          cases e2
          rfl
        · cases e2
      | succ i =>
        rw [List.getElem?_cons_succ] at e
        obtain ⟨d, _, z⟩ := map_v_get e
        cases z
    · cases e
/-- the end of a def's body, by data -/
theorem end_ok {r : Option RS} {fr : FR} {e : Fm} {Q : VK} {E : XK} (h : endR r = some (fr, e)) (no : ∀ a, ¬ Ow σ env a)
    (k : ∀ Ex' σ' H', Ext Ex σ H env Ex' σ' H' e → Rep G Ex' σ' H' e → FnE G Ex' H H' fr Q E) : PoS G (fun cls d _ H => E cls d H) Ex σ H env r { nx := fun _ H' => Q .non H', rt := Q } := by
  cases r with
  | none => cases h
  | some r =>
    cases r with
    | nx e' => cases h; exact fun Ex' σ' H' x R => k Ex' σ' H' x R .non (by unfold Is; rfl)
    | rt d e' => cases h; exact fun Ex' σ' H' v x R hv => k Ex' σ' H' x R v hv
    | rf ds e' => cases h; exact fun Ex' σ' H' a vs x R n ea ha hr => k Ex' σ' H' x R a vs (n.resolve_right (no a)) ea ha hr
    | er c d e' => cases h; exact fun Ex' σ' H' C dx v x R h1 h2 h3 => k Ex' σ' H' x R C dx v h1 h2 h3
    | bk _ => cases h
    | ct _ => cases h
theorem Ext.wid {σ' : St} (x : Ext Ex σ H env Ex' σ' H' env') (R : Rep G Ex' σ' H' env') (no : ∀ a, ¬ Ow σ env a) : Wid G Ex H Ex' H' := ⟨R.tb, x.thr, fun b h => x.exk b h (no b), x.exs, R.ex⟩
end
/-- the builtins' names are not the text's own -/
def bnames : List Str := ["len", "int", "str", "sum", "max", "min", "abs", "list", "tuple", "all", "any", "repr", "isinstance", "range", "enumerate", "zip", "sorted", "set", "bool", "dict"]
section
variable {G : Gx} {P : Program} {w : World} {K : PySem.W.Frag} {mg : Str → Option Value} {base : Heap} {k : Nat} {gf : Bool} {f : Addr} {fd : FuncData} {x qual : Str} {st : Stmt} {N ps : List Str} {fb : Sv}
/-- a body in the frame of its def -/
abbrev BodyIs (G : Gx) (gf : Bool) (P : Program) (w : World) (K : PySem.W.Frag) (mg : Str → Option Value) (base : Heap) (k : Nat) (f : Addr) (fd : FuncData) (qual : Str) (st : Stmt) (N : List Str) (fb : Sv) : Prop :=
  ∀ (cdv : Value) (A : Around) (outer : List Env) (s : Shared) (H : Hp) (E : XK), fd.code = cdv → XG G gf k (cxOf (L2.CX P w) P w K mg base N qual (defScope st) f cdv A outer s H E) → DSs G (cxOf (L2.CX P w) P w K mg base N qual (defScope st) f cdv A outer s H E) (defBody st) fb
theorem fnP_ok (F : Fun K x qual st f fd) (S : FnScope N ps (defScope st)) (hK : K = G.K) (hbl : ∀ x : Str, x ∈ bnames → mg x = none) (hb : BodyIs G gf P w K mg base k f fd qual st N fb) : FnG gf P w K mg base (k + 1) f fd ps (spP G (runP N fb) ps.length) := by
  refine fnG_of F S (fun vs H Q E h => h.1) fun cdv A outer s H vs Q E hr hcd gd h => ?_
  have xg : XG G gf k (cxOf (L2.CX P w) P w K mg base N qual (defScope st) f cdv A outer s H E) := ⟨hK, S.nd, rfl, hr, gd, hbl⟩
  obtain ⟨_, Ex, ds, r, tb, hl, har, hf, hq⟩ := h
  refine ⟨_, (hb cdv A outer s H E hcd xg).run _ (takes_of rfl rfl rfl rfl), Ex, startF N (ds.map .v), rep_startP tb hl har, ?_⟩
  unfold runP at hf
  cases z : endR (fb (startF N (ds.map .v))) with
  | none => simp [z] at hf
  | some fe =>
    obtain ⟨r', e⟩ := fe
    simp [z] at hf
    subst hf
    exact end_ok z (fun a o => startP_wr (.inl o)) fun Ex' σ' H' x R => hq Ex' H' (x.wid R fun a o => startP_wr (.inl o)) fun a o h t => x.keep a o h t startP_wr
theorem fnQ_ok (F : Fun K x qual st f fd) (S : FnScope N ps (defScope st)) (hK : K = G.K) (hbl : ∀ x : Str, x ∈ bnames → mg x = none) (hb : BodyIs G gf P w K mg base k f fd qual st N fb) : FnG gf P w K mg base (k + 1) f fd ps (spQ G (runQ N fb) ps.length) := by
  refine fnG_of F S (fun vs H Q E h => h.1) fun cdv A outer s H vs Q E hr hcd gd h => ?_
  have xg : XG G gf k (cxOf (L2.CX P w) P w K mg base N qual (defScope st) f cdv A outer s H E) := ⟨hK, S.nd, rfl, hr, gd, hbl⟩
  obtain ⟨_, Ex, a, qs, pds, us, ds, r, rfl, tb, hl, ea, ha, hp, har, hf, hq⟩ := h
  have R0 := rep_startQ (N := N) tb hl ea ha hp har
  refine ⟨_, (hb cdv A outer s H E hcd xg).run _ (takes_of rfl rfl rfl rfl), Ex, startF N (.par pds :: ds.map .v), R0, ?_⟩
  unfold runQ at hf
  cases z : endR (fb (startF N (.par pds :: ds.map .v))) with
  | none => simp [z] at hf
  | some fe =>
    obtain ⟨r', e⟩ := fe
    simp only [z] at hf
    have no : ∀ b, ¬ Ow (L2.start N (.ref a :: us)) (startF N (.par pds :: ds.map .v)) b := fun b o => (startQ_wr (.inl o)).2 o
    refine end_ok z no fun Ex' σ' H' x R => ?_
    cases y : e[0]? with
    | none => simp [y] at hf
    | some sl =>
      cases sl with
      | par q =>
        simp [y] at hf
        subst hf
        obtain ⟨v, e1, b, vs, rfl, hb1, hb2, hb3⟩ := slot_get R y (by simp)
        have eb : b = a := (startQ_wr (.inr (x.prk b ⟨0, q, y, e1⟩))).1
        subst eb
        exact hq Ex' H' vs (x.wid R no) (fun c o h t n => x.keep c o h t fun w => n (startQ_wr w).1) hb1 hb3
      | _ => simp [y] at hf
end
end Nol

set_option Elab.async false
set_option linter.all false
set_option maxRecDepth 100000
set_option maxHeartbeats 4000000
/-! Nol, part N: the calls of the text's own defs. -/
namespace Nol
open PySem PySem.Spec PyProof.Rows L2

/-- a def that the text's top has stored under its name, its promise kept -/
structure DefOk (gf : Bool) (P : Program) (w : World) (K : PySem.W.Frag) (mg : Str → Option Value) (base : Heap) (k : Nat) (x : Str) (ps : List Str) (sp : Sp) : Prop where
  go : ∃ f fd, FnG gf P w K mg base k f fd ps sp ∧ mg x = some (.ref f) ∧ PySem.W.keepIn K (.ref f) = true ∧ (∀ us : List Value, us.length = ps.length → bindArgs fd ⟨us, []⟩ = pure (ps.zip us)) ∧ ∀ us : List Value, us.length = ps.length → bindArgs fd ⟨[], ps.zip us⟩ = pure (ps.zip us)
section
variable {G : Gx} {X : Cx} {W : WX} {Ex Ex' Ex1 : Addr → Prop} {σ σ1 : St} {H H' H1 : Hp} {env env' env1 : Fm} {k j : Nat} {gf gc : Bool} {pos p : Pos} {x : Str} {ps : List Str} {sp : Sp} {e : Expr} {es : List Expr}
theorem runG {pins : List (Addr × Obj)} {s : Shared} {Q : VK} {us : List Value} {vs : List V} {f : Addr} {fd : FuncData} {args : Args} (F : FnG gc X.prog X.w X.K X.mg X.base j f fd ps sp) (hr : Room j X.A) (gd : gc = true → X.A.guards = some []) (tk : Takes X W)
    (I : Inv X pins σ H s) (hb : BindsTo s fd args (ps.zip us)) (r : Vals vs us) (h : sp vs H Q (WE W σ)) : codeAny (model X.prog X.w) X.A (.call (.ref f) args) (fun r s' => match r with
      | .ok (.ret u) => EP X pins σ Q u s'
      | .ok _ => False
      | .error e => X.xe e s') s := by
  refine codeAny_mono (F.run X.A X.stack s H args us vs Q (WE W σ) hr gd I.env0 hb r h) fun r s' hq => ?_
  match r, hq with
  | .ok (.ret u), hq => exact I.after hq
  | .ok .next, hq => exact (hq : False).elim
  | .ok .brk, hq => exact (hq : False).elim
  | .ok .cont, hq => exact (hq : False).elim
  | .error e, hq => exact passAt tk σ pins H s e s' I hq
def tCallG (sp : Sp) (W : WX) (t : TA) : TE := fun σ H Q => t σ H fun vs H1 => sp vs H1 Q (WE W σ)
theorem pe_callG {t : TA} (D : DefOk gc X.prog X.w X.K X.mg X.base j x ps sp) (xg : XG G gf k X) (hj : j ≤ k) (hgc : gc = true → gf = true) (tk : Takes X W) (hg : Gl X x) (ha : PA X (e :: es) t) (hdb : (x == ("__debug__" : Str)) = false := by decide)
    (he : starEach (e :: es) X.env = (false, eval e X.env) :: starEach es X.env := by rfl) (hpl : (backTo pos (starEach es X.env)).any (·.1) = false := by rfl) : PE X (.Call (.Name x p) (e :: es) [] pos) (tCallG sp W t) := by
  obtain ⟨f, fd, F, hm, hk, hb, _⟩ := D.go
  refine ⟨fun pins s σ H Q I h => wpAny_Call_Name_kw (ld_glob I hg hm ?_ hdb)⟩
  refine PySem.W.callWith_K (h₀ := X.base) I.ok.mod.kin hk ?_ he hpl
  refine thn (ha.run pos pins s σ H _ I h) ?_
  rintro us s1 ⟨vs, H1, I1, r, q⟩
  refine ⟨I1.kIn, wpAny_call (codeAny_mono (runG F (xg.room.mono hj) (fun h => xg.gd (hgc h)) tk I1 (.of_eq (hb us ?_)) r q) fun r s' hq => ?_)⟩
  · rw [← r.length]; exact F.len _ _ _ _ q
  · match r, hq with
    | .ok (.ret u), hq => exact hq
    | .ok .next, hq => exact (hq : False).elim
    | .ok .brk, hq => exact (hq : False).elim
    | .ok .cont, hq => exact (hq : False).elim
    | .error e, hq => exact hq
/-- every argument by its name, in the parameters' order -/
theorem pe_callGK {t : TA} {kws : List Keyword} (D : DefOk gc X.prog X.w X.K X.mg X.base j x ps sp) (xg : XG G gf k X) (hj : j ≤ k) (hgc : gc = true → gf = true) (tk : Takes X W) (hg : Gl X x) (hkw : PK X kws t) (hdb : (x == ("__debug__" : Str)) = false := by decide)
    (hall : (backToKw pos (keywordEach kws X.env)).all (·.1.isSome) = true := by rfl) (hks : (backToKw pos (keywordEach kws X.env)).filterMap (·.1) = ps := by rfl)
    (hpl : ((backTo pos (starEach [] X.env)).any (·.1) || (backToKw pos (keywordEach kws X.env)).any (·.1.isNone)) = false := by rfl) : PE X (.Call (.Name x p) [] kws pos) (tCallG sp W t) := by
  obtain ⟨f, fd, F, hm, hk, _, hb⟩ := D.go
  refine ⟨fun pins s σ H Q I h => wpAny_Call_Name_kw (ld_glob I hg hm ?_ hdb)⟩
  refine PySem.W.callWith_KW0 (h₀ := X.base) I.ok.mod.kin hk hall ?_ hpl
  refine thn (hkw.run pos pins s σ H _ I h) ?_
  rintro ws s1 ⟨vs, H1, I1, r, q⟩
  rw [hks]
  refine ⟨I1.kIn, wpAny_call (codeAny_mono (runG F (xg.room.mono hj) (fun h => xg.gd (hgc h)) tk I1 (.of_eq (hb ws ?_)) r q) fun r s' hq => ?_)⟩
  · rw [← r.length]; exact F.len _ _ _ _ q
  · match r, hq with
    | .ok (.ret u), hq => exact hq
    | .ok .next, hq => exact (hq : False).elim
    | .ok .brk, hq => exact (hq : False).elim
    | .ok .cont, hq => exact (hq : False).elim
    | .error e, hq => exact hq

/-! ### by data -/
def evCallP (f : List D → Option FR) (n : Nat) (g : Ev (List D)) : Ev FV := fun env => bindR (g env) fun ds env1 => if ds.length = n then match f ds with
    | some (.ok v) => some (.ok v env1)
    | some (.er c d) => some (.er c d env1)
    | none => none
  else none
theorem Wid.ext (x : Wid G Ex H Ex' H') (s : LamX.ExtN H H') : Ext Ex σ H env Ex' σ H' env := ⟨fun a o h t _ => s a o h t, x.thr, x.new, fun a h _ => x.sub a h, fun _ h => .inl h, fun _ h => h⟩
theorem Wid.rep (x : Wid G Ex H Ex' H') (s : LamX.ExtN H H') (R : Rep G Ex σ H env) : Rep G Ex' σ H' env :=
  ⟨R.len, fun i o t e1 e2 => SlIs.keep (fun a o e t _ => s a o e t) R.ex x.new (fun a vs _ _ n e => ⟨x.sub a n, s _ _ e (fun _ z => nomatch z)⟩) (R.sl i o t e1 e2), R.dj, x.ex, x.tb⟩
theorem callP_ok {f : List D → Option FR} {n : Nat} {g : Ev (List D)} {Q : VK} (h : tX G W (RF G) (evCallP f n g) σ H Q) : tCallG (spP G f n) W (tX G W (RA G) g) σ H Q := by
  obtain ⟨Ex, env, R, p⟩ := h
  refine ⟨Ex, env, R, Po.step stm_RF R p fun ds env1 Ex1 H1 vs _ xt sb R1 q p1 => ?_⟩
  by_cases hn : ds.length = n
  · rw [if_pos hn] at p1
    cases z : f ds with
    | none => simp [z] at p1; exact p1.elim
    | some r =>
      simp only [z] at p1
      refine ⟨q.length.trans hn, Ex1, ds, r, R1.tb, R1.ex, q, z, fun Ex2 H2 wd sm => ?_⟩
      have x2 : Ext Ex1 σ H1 env1 Ex2 σ H2 env1 := wd.ext sm
      have R2 := wd.rep sm R1
      cases r with
      | ok v =>
        cases v with
        | d d => exact fun v hv => p1 Ex2 H2 v x2 (Sub.refl _) R2 hv
        | fr es => exact fun b us h1 h2 h3 h4 => p1 Ex2 H2 (.ref b) x2 (Sub.refl _) R2 ⟨b, us, rfl, h1, h2, h3, h4⟩
      | er c d => exact fun C dx v h1 h2 h3 => p1 Ex2 H2 C dx v x2 (Sub.refl _) R2 h1 h2 h3
  · rw [if_neg hn] at p1
    exact p1.elim
theorem df_callP {f : List D → Option FR} {n : Nat} {g : Ev (List D)} (D : DefOk gc X.prog X.w X.K X.mg X.base j x ps (spP G f n)) (xg : XG G gf k X) (hj : j ≤ k) (hgc : gc = true → gf = true) (hg : Gl X x) (ha : DA G X (e :: es) g) (hdb : (x == ("__debug__" : Str)) = false := by decide)
    (he : starEach (e :: es) X.env = (false, eval e X.env) :: starEach es X.env := by rfl) (hpl : (backTo pos (starEach es X.env)).any (·.1) = false := by rfl) : DF G X (.Call (.Name x p) (e :: es) [] pos) (evCallP f n g) :=
  ⟨fun W tk => pe_weak (pe_callG D xg hj hgc tk hg (ha.run W tk) hdb he hpl) fun σ H Q h => callP_ok h⟩
/-- arguments by name -/
structure DKs (G : Gx) (X : Cx) (kws : List Keyword) (f : Ev (List D)) : Prop where
  run : ∀ W, Takes X W → PK X kws (tX G W (RA G) f)
theorem pk_weak {X : Cx} {es : List Keyword} {t t' : TA} (h : PK X es t) (w : ∀ σ H Q, t' σ H Q → t σ H Q) : PK X es t' := ⟨fun pos pins s σ H Q I q => h.run pos pins s σ H Q I (w σ H Q q)⟩
theorem dk_nil : DKs G X [] evNil := ⟨fun W tk => pk_weak pk_nil fun σ H Q ⟨Ex, env, R, p⟩ => p.done R Are.nil⟩
theorem dk_cons {f : Ev D} {g : Ev (List D)} {kws : List Keyword} {nm : Option Str} {kpos : Pos} (h1 : DE G X e f) (h2 : DKs G X kws g) : DKs G X (⟨nm, e, kpos⟩ :: kws) (evCons f g) := by
  refine ⟨fun W tk => pk_weak (pk_cons (h1.run W tk) (h2.run W tk)) fun σ H Q ⟨Ex, env, R, p⟩ => ⟨Ex, env, R, Po.step stm_RA R p fun d env1 Ex1 H1 x _ xt sb R1 q p1 => ⟨Ex1, env1, R1, Po.step stm_RA R1 p1 fun ds env2 Ex2 H2 xs _ xt2 sb2 R2 q2 p2 => ?_⟩⟩⟩
  exact p2.done R2 (Are.cons (xt2.is R1 q) q2)
theorem df_callPK {f : List D → Option FR} {n : Nat} {g : Ev (List D)} {kws : List Keyword} (D : DefOk gc X.prog X.w X.K X.mg X.base j x ps (spP G f n)) (xg : XG G gf k X) (hj : j ≤ k) (hgc : gc = true → gf = true) (hg : Gl X x) (ha : DKs G X kws g) (hdb : (x == ("__debug__" : Str)) = false := by decide)
    (hall : (backToKw pos (keywordEach kws X.env)).all (·.1.isSome) = true := by rfl) (hks : (backToKw pos (keywordEach kws X.env)).filterMap (·.1) = ps := by rfl)
    (hpl : ((backTo pos (starEach [] X.env)).any (·.1) || (backToKw pos (keywordEach kws X.env)).any (·.1.isNone)) = false := by rfl) : DF G X (.Call (.Name x p) [] kws pos) (evCallP f n g) :=
  ⟨fun W tk => pe_weak (pe_callGK D xg hj hgc tk hg (ha.run W tk) hdb hall hks hpl) fun σ H Q h => callP_ok h⟩
/-- the first argument is lent -/
def evCallQ (i : Nat) (f : List D → List D → Option (FR × List D)) (n : Nat) (g : Ev (List D)) : Ev FV := fun env => match wrAt env i with
  | none => none
  | some _ => bindR (g env) fun ds env1 => if ds.length + 1 = n then match wrAt env1 i with
      | some (s, pds) => match f pds ds with
        | some (.ok v, qds) => some (.ok v (env1.set i (wrSet s qds)))
        | some (.er c d, qds) => some (.er c d (env1.set i (wrSet s qds)))
        | none => none
      | none => none
    else none
/-- another's writing to the list in slot i -/
theorem lent_ok {i : Nat} {s : Sl} {ds es : List D} {a : Addr} {us : List V} (R : Rep G Ex σ H env) (e : env[i]? = some s) (hw : wrOf s = some ds) (q : σ[i]? = some (some (.ref a))) (x : Wid G Ex H Ex' H') (hk : ∀ b o, H b = some o → NT o → b ≠ a → H' b = some o) (ha' : H' a = some (.lst us)) (r : Are G Ex' H' es us) :
    Rep G Ex' σ H' (env.set i (wrSet s es)) ∧ Ext Ex σ H env Ex' σ H' (env.set i (wrSet s es)) ∧ Sub env (env.set i (wrSet s es)) := by
  obtain ⟨a', vs, e1, ha, ea, hr⟩ := wr_get hw (R.sl i _ s q e)
  cases e1
  obtain ⟨m1, m2, m3⟩ := wrOf_M hw es
  have here : Holds σ env i a := ⟨q, s, e, m1⟩
  have wr : Wr σ env a := by
    cases s with
    | own d => exact .inl ⟨i, d, e, q⟩
    | par d => exact .inr ⟨i, d, e, q⟩
    | _ => cases hw
  have hk' : ∀ b o, H b = some o → NT o → ¬ Ex b → H' b = some o := fun b o h t n => hk b o h t fun z => n (by rw [z]; exact ea)
  have hh : ∀ {j b}, Holds σ (env.set i (wrSet s es)) j b → Holds σ env j b := fun {j b} ⟨h1, t, h2, h3⟩ => by
    rcases set_slot h2 with ⟨hj, e2⟩ | ⟨hj, e2⟩
    · subst hj
      rw [q] at h1
      cases h1
      exact here
    · exact ⟨h1, t, e2, h3⟩
  refine ⟨⟨by simp [R.len], fun j o t h1 h2 => ?_, fun j l b h1 h2 => R.dj j l b (hh h1) (hh h2), x.ex, x.tb⟩, ⟨fun b o h t n => hk b o h t fun z => n (by rw [z]; exact wr), x.thr, x.new, fun b h _ => x.sub b h, fun b ⟨j, d, h1, h2⟩ => .inl ?_, fun b ⟨j, d, h1, h2⟩ => ?_⟩, by simp, fun j t t' h1 h2 => ?_⟩
  · rcases set_slot h2 with ⟨hj, e2⟩ | ⟨hj, e2⟩
    · subst hj
      rw [q] at h1
      cases h1
      rw [e2]
      exact wr_put hw ha' (x.sub a ea) r
    · refine SlIs.keep hk' R.ex x.new (fun b vs2 m eo nb hb => ⟨x.sub b nb, hk b _ hb (fun _ z => nomatch z) fun z => hj ?_⟩) (R.sl j o t h1 e2)
      exact R.dj j i a ⟨by rw [h1, eo, z], t, e2, m⟩ here
  · rcases set_slot h1 with ⟨hj, e2⟩ | ⟨hj, e2⟩
    · subst hj
      cases s with
      | own d' => exact ⟨j, d', e, h2⟩
      | par d' => cases e2
      | _ => cases hw
    · exact ⟨j, d, e2, h2⟩
  · rcases set_slot h1 with ⟨hj, e2⟩ | ⟨hj, e2⟩
    · subst hj
      cases s with
      | own d' => cases e2
      | par d' => exact ⟨j, d', e, h2⟩
      | _ => cases hw
    · exact ⟨j, d, e2, h2⟩
  · rcases set_slot h2 with ⟨hj, e2⟩ | ⟨hj, e2⟩
    · subst hj
      rw [e] at h1
      cases h1
      rw [e2]
      exact m3
    · rw [h1] at e2
      cases e2
      exact SlSub.refl _
theorem callQ_ok {i : Nat} {f : List D → List D → Option (FR × List D)} {n : Nat} {g : Ev (List D)} {Q : VK} (h : tX G W (RF G) (evCallQ i f n g) σ H Q) : tCallG (spQ G f n) W (tCons (tVar i) (tX G W (RA G) g)) σ H Q := by
  obtain ⟨Ex, env, R, p⟩ := h
  unfold evCallQ at p
  cases w0 : wrAt env i with
  | none => simp [w0] at p; exact p.elim
  | some sd0 =>
    obtain ⟨s0, ds0⟩ := sd0
    simp only [w0] at p
    obtain ⟨_, _, a, vs0, q0, ha0, _⟩ := wrAt_ok R w0
    refine ⟨.ref a, q0, Ex, env, R, Po.step stm_RF R p fun ds env1 Ex1 H1 vs _ xt sb R1 q p1 => ?_⟩
    by_cases hn : ds.length + 1 = n
    · rw [if_pos hn] at p1
      cases w : wrAt env1 i with
      | none => simp [w] at p1; exact p1.elim
      | some sd =>
        obtain ⟨s, pds⟩ := sd
        simp only [w] at p1
        obtain ⟨e1, e2, a', ps, q2, h1, h2⟩ := wrAt_ok R1 w
        rw [q0] at q2
        cases q2
        obtain ⟨a2, vs2, e3, ha2, ea2, hr2⟩ := wr_get e2 (R1.sl i _ s q0 e1)
        cases e3
        cases z : f pds ds with
        | none => simp [z] at p1; exact p1.elim
        | some r =>
          obtain ⟨r, qds⟩ := r
          simp only [z] at p1
          refine ⟨by simp [q.length, hn], Ex1, a, ps, pds, vs, ds, (r, qds), rfl, R1.tb, R1.ex, ea2, h1, h2, q, z, fun Ex2 H2 qs wd hk h3 h4 => ?_⟩
          obtain ⟨R2, x2, s2⟩ := lent_ok R1 e1 e2 q0 wd hk h3 h4
          cases r with
          | ok v =>
            cases v with
            | d d => exact fun v hv => p1 Ex2 H2 v x2 s2 R2 hv
            | fr es => exact fun b us h1 h2 h3 h4 => p1 Ex2 H2 (.ref b) x2 s2 R2 ⟨b, us, rfl, h1, h2, h3, h4⟩
          | er c d => exact fun C dx v h1 h2 h3 => p1 Ex2 H2 C dx v x2 s2 R2 h1 h2 h3
    · rw [if_neg hn] at p1
      exact p1.elim
theorem df_callQ {i : Nat} {f : List D → List D → Option (FR × List D)} {n : Nat} {g : Ev (List D)} {y : Str} {py : Pos} (D : DefOk gc X.prog X.w X.K X.mg X.base j x ps (spQ G f n)) (xg : XG G gf k X) (hj : j ≤ k) (hgc : gc = true → gf = true) (hg : Gl X x) (hc : PE X (.Name y py) (tVar i)) (ha : DA G X es g) (hdb : (x == ("__debug__" : Str)) = false := by decide)
    (he : starEach (.Name y py :: es) X.env = (false, eval (.Name y py) X.env) :: starEach es X.env := by rfl) (hpl : (backTo pos (starEach es X.env)).any (·.1) = false := by rfl) : DF G X (.Call (.Name x p) (.Name y py :: es) [] pos) (evCallQ i f n g) :=
  ⟨fun W tk => pe_weak (pe_callG D xg hj hgc tk hg (pa_cons hc (ha.run W tk) he) hdb he hpl) fun σ H Q h => callQ_ok h⟩
end
end Nol

set_option Elab.async false
set_option linter.all false
set_option maxRecDepth 100000
set_option maxHeartbeats 4000000
/-! Nol, part O: the law's end. -/
namespace Nol
open PySem PySem.Spec PyProof.Rows L2 LamX

/-- what is tracked at the law's entry: the tables tb, and the script's list where it is no object of the text's -/
def entryH (tb : List Addr) (a : Addr) (mine : Bool) (o : Obj) (xs : List V) : Hp := fun b => if b ∈ tb then some (.tbl #[]) else if b = a ∧ mine = true then some (.frz o (.lst xs)) else none
section
variable {tb : List Addr} {a b : Addr} {mine : Bool} {o : Obj} {xs : List V}
theorem entry_tb (h : b ∈ tb) : entryH tb a mine o xs b = some (.tbl #[]) := if_pos h
theorem entry_a (h : ¬ a ∈ tb) : entryH tb a true o xs a = some (.frz o (.lst xs)) := by
  unfold entryH
  rw [if_neg h, if_pos ⟨rfl, rfl⟩]
theorem entry_inv {u : HO} (h : entryH tb a mine o xs b = some u) : (b ∈ tb ∧ u = .tbl #[]) ∨ (b = a ∧ mine = true ∧ u = .frz o (.lst xs)) := by
  unfold entryH at h
  by_cases h1 : b ∈ tb
  · rw [if_pos h1] at h
    cases h
    exact .inl ⟨h1, rfl⟩
  · rw [if_neg h1] at h
    by_cases h2 : b = a ∧ mine = true
    · rw [if_pos h2] at h
      cases h
      exact .inr ⟨h2.1, h2.2, rfl⟩
    · rw [if_neg h2] at h
      cases h
end
/-- the call of the law at the end of the top; cs: the code objects of the defs that make lambdas, with their tables -/
theorem law_end {gf : Bool} {P : Program} {w : World} {K : PySem.W.Frag} {mg mb : Str → Option Value} {k : Nat} {fa a : Addr} {cs : List (Addr × Addr)} {fd : FuncData} {x : Str} {sp : Sp} {s1 : Shared} {vs : List Value} {ns : List Int}
    (KX : K.In s1.heap) (hns : s1.heap.Ns mainGlobals mg) (hb : s1.heap.Ns builtinsNs mb) (hbb : ∀ y : Str, y ≠ "__name__" → mb y = bootBuiltins y) (hlim : s1.heap.NoLimit) (hg : s1.gens = #[])
    (hT : ∀ p ∈ cs, s1.heap.get? p.2 = some { cls := .none, data := .fields #[] }) (nT : ∀ p ∈ cs, K.lookup p.2 = none) (C : ∀ p ∈ cs, PySem.W.CodeHd s1.heap p.1 p.2)
    (hbm : ∃ (bm : Addr) (ob : Obj), mg "__builtins__" = some (.ref bm) ∧ bm ≠ builtinsNs ∧ s1.heap.get? bm = some ob ∧ ob.cls = .type "module" ∧ ob.dict = some builtinsNs ∧ ob.data = .plain)
    (ha : s1.heap.get? a = some { cls := .type "list", data := .seq vs.toArray }) (hi : IntsAre vs ns) (hl : ns.length ≤ sizeLine) (hr : Room k callerA)
    (F : ∀ base : Heap, K.In base → base.Ns mainGlobals mg → (∀ p ∈ cs, TabB base mg p.1 p.2) → FnG gf P w K mg base k fa fd [x] sp) (hbind : ∀ (s : Shared) (u : Value), BindsTo s fd ⟨[u], []⟩ [(x, u)])
    (hsp : ∀ H : Hp, (∀ p ∈ cs, H p.2 = some (.tbl #[])) → ((∃ o, H a = some (.frz o (.lst (ns.map V.int)))) ∨ ∃ (o : Obj) (its : Array Value) (n : Nat), K.lookup a = some o ∧ o.cls = .type "list" ∧ o.dict = none ∧ o.data = .seq its n ∧ its.size ≤ sizeLine ∧ Vals (ns.map V.int) its.toList) →
      sp [.ref a] H (fun v _ => v = .bl true) fun _ _ _ => False) :
    codeAny (model P w) callerA (.call (.ref fa) ⟨[.ref a], []⟩) (fun r s' => r = .ok (.ret (.bool true)) ∧ OldK s1.heap s'.heap ∧ s'.os = s1.os ∧ AllBare s'.gens) s1 := by
  have rel : Vals (ns.map V.int) vs := vals_ints hi
  have nlen : vs.length = ns.length := hi.length.symm ▸ rfl
  have tabObj : ∀ b ∈ cs.map (·.2), s1.heap.get? b = some { cls := .none, data := .fields #[] } := by
    intro b hb
    obtain ⟨p, hp, rfl⟩ := List.mem_map.mp hb
    exact hT p hp
  have aOff : ¬ a ∈ cs.map (·.2) := by
    intro z
    have z2 := tabObj a z
    rw [ha] at z2
    have z3 : Data.seq vs.toArray _ = Data.fields #[] := congrArg Obj.data (Option.some.inj z2)
    cases z3
  -- the script's list is the text's own object, or not
  obtain ⟨mine, hm⟩ : ∃ m : Bool, (m = true ↔ K.lookup a = none) := by
    cases q : K.lookup a with
    | none => exact ⟨true, by simp⟩
    | some o => exact ⟨false, by simp⟩
  let H : Hp := entryH (cs.map (·.2)) a mine { cls := .type "list", data := .seq vs.toArray } (ns.map V.int)
  have Hdef : H = entryH (cs.map (·.2)) a mine { cls := .type "list", data := .seq vs.toArray } (ns.map V.int) := rfl
  have inv : ∀ {b u}, H b = some u → (b ∈ cs.map (·.2) ∧ u = .tbl #[]) ∨ (b = a ∧ mine = true ∧ u = .frz { cls := .type "list", data := .seq vs.toArray } (.lst (ns.map V.int))) := fun h => entry_inv h
  have hTab : ∀ p ∈ cs, H p.2 = some (.tbl #[]) := fun p hp => entry_tb (List.mem_map.mpr ⟨p, hp, rfl⟩)
  clear_value H
  have hok : HOk P w H s1.heap := by
    intro b u hu
    rcases inv hu with ⟨h1, rfl⟩ | ⟨rfl, _, rfl⟩
    · exact tabObj b h1
    · exact ⟨ha, by rw [List.length_map]; exact hl, vs, _, rel, ha⟩
  have plain : ∀ {b : Addr} {o : Obj}, s1.heap.get? b = some o → (∀ us n, o.data ≠ .seq us n) → o.data ≠ .fields #[] → H b = none := by
    intro b o e h1 h2
    cases q : H b with
    | none => rfl
    | some u =>
      exfalso
      rcases inv q with ⟨h3, _⟩ | ⟨h3, _, _⟩
      · rw [tabObj b h3] at e
        cases e
        exact h2 rfl
      · rw [h3, ha] at e
        cases e
        exact h1 _ _ rfl
  have sees : ∀ {b : Addr} {o : Obj}, s1.heap.get? b = some o → H b = none → (hidT s1.heap H).get? b = some o := fun e n => hidT_get e n
  have ns2 : ∀ {b : Addr} {m : Str → Option Value}, s1.heap.Ns b m → (hidT s1.heap H).Ns b m := by
    rintro b m ⟨o, es, ep, e, d, r⟩
    exact ⟨o, es, ep, sees e (plain e (fun _ _ z => by rw [d] at z; cases z) (fun z => by rw [d] at z; cases z)), d, r⟩
  have Kbase : K.In (hidT s1.heap H) := by
    intro b o e
    refine sees (KX b o e) ?_
    cases q : H b with
    | none => rfl
    | some u =>
      exfalso
      rcases inv q with ⟨h3, _⟩ | ⟨h3, h4, _⟩
      · obtain ⟨p, hp, rfl⟩ := List.mem_map.mp h3
        rw [nT p hp] at e
        cases e
      · rw [h3, hm.mp h4] at e
        cases e
  have tbase : ∀ p ∈ cs, TabB (hidT s1.heap H) mg p.1 p.2 := by
    intro p hp
    have tp := hT p hp
    refine ⟨?_, ?_, ?_⟩
    · obtain ⟨o, us, file, tf, flags, tg, inF, text, tt, e1, r1, r2, r3, rest⟩ := C p hp
      exact ⟨o, us, file, tf, flags, tg, inF, text, tt, sees e1 (plain e1 (fun _ _ z => by rw [r2] at z; cases z) (fun z => by rw [r2] at z; cases z; simp at r3)), r1, r2, r3, rest⟩
    · obtain ⟨bm, ob, b1, b2, b3, b4, b5, b6⟩ := hbm
      refine ⟨bm, ob, b1, b2, ?_, ?_, sees b3 (plain b3 (fun _ _ z => by rw [b6] at z; cases z) (fun z => by rw [b6] at z; cases z)), b4, b5, b6⟩
      · intro q
        obtain ⟨o, es, ep, e, hd, _⟩ := hns
        rw [q, e] at b3
        cases b3
        rw [hd] at b6
        cases b6
      · intro q
        rw [q, tp] at b3
        cases b3
        cases b6
    · intro z
      obtain ⟨o, es, ep, e, hd, _⟩ := hns
      rw [z, tp] at e
      cases e
      cases hd
  have e0 : Env0 P w K mg (hidT s1.heap H) callerA [] s1 H :=
    ⟨rfl, ⟨Kbase, ns2 hns, ⟨mb, ns2 hb, hbb⟩, let ⟨mc, h1, h2⟩ := hlim; ⟨mc, ns2 h1, h2⟩⟩, fun b o e => of_hidT e, Nat.le_of_eq (hidT_size _ _), trivial, (fun b z => nomatch (show b ∈ ([] : List Addr) from z)), hok, .of_eq hg⟩
  have start : sp [.ref a] H (fun v _ => v = .bl true) fun _ _ _ => False := by
    refine hsp H hTab ?_
    cases q : K.lookup a with
    | none => exact .inl ⟨_, by rw [Hdef, hm.mpr q]; exact entry_a aOff⟩
    | some o =>
      have e := KX a o q
      rw [ha] at e
      cases e
      exact .inr ⟨_, vs.toArray, _, rfl, rfl, rfl, rfl, by rw [List.size_toArray, nlen]; exact hl, by simpa using rel⟩
  refine codeAny_mono ((F _ Kbase (ns2 hns) tbase).run callerA [] s1 H ⟨[.ref a], []⟩ [.ref a] [.ref a] _ _ hr (fun _ => rfl) e0 (hbind s1 (.ref a)) (.cons rfl .nil) start) ?_
  intro r s' h
  match r, h with
  | .error e, ⟨_, _, _, _, _, _, _, _, _, _, _, _, z⟩ => exact z.elim
  | .ok .next, h => exact (h : False).elim
  | .ok .brk, h => exact (h : False).elim
  | .ok .cont, h => exact (h : False).elim
  | .ok (.ret u), ⟨v, H', os, bare, un, hok', rv, q⟩ =>
    have q : v = .bl true := q
    subst q
    obtain rfl : u = Value.bool true := rv
    have left : ∀ b o, ¬ b ∈ cs.map (·.2) → s1.heap.get? b = some o → s'.heap.get? b = some o := by
      intro b o nb e
      cases q : H b with
      | none => exact un.keep b o e q (fun z => by cases z) (by simp)
      | some t =>
        rcases inv q with ⟨h3, _⟩ | ⟨_, _, rfl⟩
        · exact absurd h3 nb
        · obtain ⟨e1, _⟩ := hok b _ q
          obtain ⟨e2, _⟩ := hok' b _ (un.frzs b _ _ q)
          rw [e] at e1
          cases e1
          exact e2
    have grown : ∀ p ∈ cs, ∃ more : Array Value, s'.heap.get? p.2 = some { cls := .none, data := .fields more } := by
      intro p hp
      obtain ⟨more, z⟩ := un.tbls p.2 #[] (hTab p hp)
      exact ⟨_, hok' p.2 _ z⟩
    refine ⟨rfl, ⟨fun b o e => ?_, fun b o e => ?_⟩, os, bare⟩
    · by_cases hb : b ∈ cs.map (·.2)
      · obtain ⟨p, hp, rfl⟩ := List.mem_map.mp hb
        obtain ⟨more, g⟩ := grown p hp
        rw [hT p hp] at e
        cases e
        exact .inr (.inl ⟨((C p hp).tab (hT p hp)).isCodeTable, rfl, #[], more, rfl, by rw [Array.empty_append]; exact g⟩)
      · exact .inl (left b o hb e)
    · by_cases hb : b ∈ cs.map (·.2)
      · obtain ⟨p, hp, rfl⟩ := List.mem_map.mp hb
        obtain ⟨more, g⟩ := grown p hp
        exact ⟨_, g⟩
      · exact ⟨o, left b o hb e⟩
/-- what is asked of a text for its law: xs, the defs that make lambdas -/
def LawAtG (gf : Bool) (l : PySem.W.OpenLaw) (w : World) (K : PySem.W.Frag) (k n : Nat) (x : Str) (mg : Str → Option Value) (fa : Addr) (h : Heap) (cs : List (Addr × Addr)) : Prop :=
  ∃ (fd : FuncData) (sp : Sp), (∀ p ∈ cs, K.lookup p.2 = none) ∧ (∀ (s : Shared) (u : Value), BindsTo s fd ⟨[u], []⟩ [(x, u)]) ∧
    (∀ (H : Hp) (a : Addr) (ns : List Int), ns.length ≤ n → (∀ z ∈ ns, Builtin.Int.intBits z ≤ 1048576) → (∀ p ∈ cs, H p.2 = some (.tbl #[])) → ((∃ o, H a = some (.frz o (.lst (ns.map V.int)))) ∨ ∃ (o : Obj) (its : Array Value) (m : Nat), K.lookup a = some o ∧ o.cls = .type "list" ∧ o.dict = none ∧ o.data = .seq its m ∧ its.size ≤ sizeLine ∧ Vals (ns.map V.int) its.toList) →
      sp [.ref a] H (fun v _ => v = .bl true) fun _ _ _ => False) ∧
    ∀ base : Heap, K.In base → base.Ns mainGlobals mg → (∀ p ∈ cs, TabB base mg p.1 p.2) → FnG gf l.prog w K mg base k fa fd [x] sp
/-- the tables of the defs named xs are empty as the law is called -/
def TabsOf (K : PySem.W.Frag) (xs : List Str) (cs : List (Addr × Addr)) (mg : Str → Option Value) : Prop :=
  xs.length = cs.length ∧ ∀ (i : Nat) (y : Str) (p : Addr × Addr), xs[i]? = some y → cs[i]? = some p → ∃ (f : Addr) (o : Obj) (fd : FuncData) (e : Value) (dd : Option Addr) (us : Array Value) (sl : Array (Option Value)),
    mg y = some (.ref f) ∧ K.lookup f = some o ∧ o.data = .func fd ∧ fd.code = .ref p.1 ∧ K.lookup p.1 = some ⟨e, dd, .fields us, sl⟩ ∧ us[11]? = some (.ref p.2)
theorem walkG {gf : Bool} {l : PySem.W.OpenLaw} {n k : Nat} {q : Program} {loose : List Str} {XP : (Str → Option Value) → Heap → Prop} {YP : World → Heap → Prop} {d : DefRec} {K : Params → PySem.W.Frag} {x : Str} (xs : List Str)
    (hn : l.most = some n) (hn2 : n ≤ sizeLine) (hdf : d.params.defaults = []) (hr : Room k callerA) (hxs : ∀ y ∈ xs, ((recsOf q).any fun e => e.name == y) = true) (hY : ∀ (w : World) (h : Heap), YP w h → (K w.params).In h)
    (F : ∀ (w : World) (mg : Str → Option Value) (fa : Addr) (h : Heap), (K w.params).In h → h.Ns mainGlobals mg → mg d.name = some (.ref fa) → ∃ cs, TabsOf (K w.params) xs cs mg ∧ LawAtG gf l w (K w.params) k n x mg fa h cs) :
    PySem.W.WalkO q loose XP YP l.row.toRowW d [] (fun f vs => PySem.call f vs) := by
  refine Att.attach_callB hn hdf fun w s0 s1 mg mb fa o pm cd doc a vs ns G Y ho hd hcd hmg hobj hints hlen hbits hg => ?_
  have KX := hY w _ Y
  obtain ⟨cs, ⟨hl, T⟩, fd, sp, nT, hb, hsp, hF⟩ := F w mg fa _ KX G.T.g hmg
  have tabs : ∀ p ∈ cs, s1.heap.IsCode p.1 p.2 #[] ∧ s1.heap.TableAt p.1 p.2 #[] := by
    intro p hp
    obtain ⟨i, hi⟩ := List.getElem?_of_mem hp
    have hlt := (List.getElem?_eq_some_iff.mp hi).1
    obtain ⟨f, o1, fd1, e, dd, us, sl, k1, k2, k3, k4, k5, k6⟩ := T i xs[i] p (List.getElem?_eq_getElem (by omega)) hi
    obtain ⟨dL, hm, hn1⟩ := List.any_eq_true.mp (hxs xs[i] (List.getElem_mem _))
    obtain ⟨a', o', fd', c', P', h1, h2, h3, h4, h5, h6⟩ := G.T.tab dL hm
    rw [beq_iff_eq.mp hn1, k1] at h1
    cases h1
    have g1 := KX _ _ k2
    rw [g1] at h2
    cases h2
    rw [k3] at h3
    cases h3
    rw [k4] at h4
    cases h4
    obtain ⟨⟨oc, vc, e1, e2, e3, e4⟩, hP⟩ := id h6
    have g2 := KX _ _ k5
    rw [g2] at e1
    cases e1
    cases e3
    rw [k6] at e4
    cases e4
    exact ⟨h5, h6⟩
  exact law_end KX G.T.g G.T.b G.T.builtins G.T.nolimit hg (fun p hp => (tabs p hp).2.2) nT (fun p hp => PySem.W.CodeHd.of (tabs p hp).1 (tabs p hp).2) G.T.bmain hobj hints (Nat.le_trans hlen hn2) hr hF hb fun H h1 h2 => hsp H a ns hlen hbits h1 h2
end Nol

set_option Elab.async false
set_option linter.all false
set_option maxRecDepth 100000
set_option maxHeartbeats 4000000
/-! Nol, part P: an error with its value: __init__ says super().__init__(value), then self.value = value. -/
namespace Nol
open PySem PySem.Spec PyProof.Rows L2

/-- what stands in the text of an error's __init__; cls: the class in whose body it stands -/
structure InitTx (P : Program) (K : PySem.W.Frag) (mg : Str → Option Value) (D f : Addr) (fd : FuncData) (st : Stmt) (qual : Str) : Prop where
  go : ∃ (oc : Value) (od : Option Addr) (kV doc pm : Value) (an : Option Addr) (ct : Value) (osl : Array (Option Value)) (cc cda : Addr),
    fd = PySem.W.ksFn "__init__" qual (defArgs st) (defBody st) (defScope st) .none kV doc pm an (.ref cda) ct cc ∧ K.lookup f = some ⟨oc, od, .func fd, osl⟩ ∧ PySem.W.codeIn K (.ref cda) qual = true ∧
    (∃ (ccl : Value) (cdd : Option Addr) (vs : Array Value) (ccs : Array (Option Value)) (file : Str) (tf : Tok), K.lookup cda = some ⟨ccl, cdd, .fields vs, ccs⟩ ∧ vs[2]? = some (.str file tf) ∧ ((P.main.file : Str) == file) = true) ∧
    ∃ (cl : Value) (cld : Option Addr) (csl : Array (Option Value)), K.lookup cc = some ⟨cl, cld, .cell (some (.ref D)), csl⟩
  args : (defArgs st).posonlyargs = [] ∧ ∃ a1 a2, (defArgs st).args = [a1, a2] ∧ a1.arg = "self"
  body : ∃ p0 p1 p2 p3 p4 p5 p6 p7 p8 p9, defBody st = [.Expr (.Call (.Attribute (.Call (.Name "super" p0) [] [] p1) "__init__" p2) [.Name "value" p3] [] p4) p5, .Assign [.Attribute (.Name "self" p6) "value" p7] (.Name "value" p8) p9] ∧
    ∀ env : Env, ∃ pl : Sem Bool, eval (.Call (.Attribute (.Call (.Name "super" p0) [] [] p1) "__init__" p2) [.Name "value" p3] [] p4) env = (do
      let ov ← attributeBase (.Call (.Name "super" p0) [] [] p1) "__init__" env (eval (.Call (.Name "super" p0) [] [] p1) env)
      standAt p2.atName
      let (f, first) ← holding [ov] (getMethod ov "__init__" pl)
      callWith p4 f first (backTo p4 (starEach [.Name "value" p3] env)) [])
  scope : (defScope st).kind = .function ∧ (defScope st).isCoroutine = false ∧ (defScope st).isGenerator = false ∧ (∀ x ∈ (defScope st).names, x.2 ≠ .cell) ∧ (∀ z, (defScope st).names.lookup z = some .free → z = ("__class__" : Str)) ∧ (defScope st).names.lookup ("self" : Str) = some .local ∧ (defScope st).names.lookup ("value" : Str) = some .local ∧
    (defScope st).names.lookup ("super" : Str) = some .globalImplicit ∧ (defScope st).names.lookup ("__class__" : Str) = some .free
  bind : ∀ us : List Value, us.length = 2 → bindArgs fd ⟨us, []⟩ = pure ((["self", "value"] : List Str).zip us)
  clsD : ∃ cd, PySem.W.clsIn K D = some cd
  sup : mg "super" = none
  top : (P.main.scope.names.lookup ("super" : Str)).isSome = false
  third : PySem.W.nsIn K cStatics "thirdparty.any" = some none
/-- what is asked of the error's class C -/
structure InitCl (K : PySem.W.Frag) (D C : Addr) : Prop where
  oex : OexC K C
  sub : PySem.W.mroIn K C (.ref D) = some true
  next : PySem.W.ks_superIn K C D "__init__" = some (some (.builtin "ValueError.__init__"))
  ve : PySem.W.subIn K (.ref C) (.type "ValueError") = some true
  noV : PySem.W.findIn K (.ref C) "value" = some none
/-- the context of that body -/
def inCx (P : Program) (w : World) (K : PySem.W.Frag) (mg : Str → Option Value) (base : Heap) (qual : Str) (scope : Scope) (f cc : Addr) (cd : Value) (A : Around) (outer : List Env) (s : Shared) (H : Hp) (E : XK) : Cx where
  prog := P
  w := w
  K := K
  mg := mg
  base := base
  A := A.deeper (PySem.W.ksEnv qual scope s.heap.objs.size f cd cc)
  N := ["self", "value"]
  s_0 := s
  H_0 := H
  env := PySem.W.ksEnv qual scope s.heap.objs.size f cd cc
  outer := outer
  stack := PySem.W.ksEnv qual scope s.heap.objs.size f cd cc :: outer
  ex := []
  fn := fun _ => false
  calm := true
  pn := []
  xe := fun e s' => wpAny (model P w) (A.deeper (PySem.W.ksEnv qual scope s.heap.objs.size f cd cc)) (leaving (PySem.W.ksEnv qual scope s.heap.objs.size f cd cc) e) (fun _ s'' => L2.CX P w outer H s E e s'') (fun e' s'' => L2.CX P w outer H s E e' s'') s'
theorem in_start {P : Program} {w : World} {K : PySem.W.Frag} {mg : Str → Option Value} {base : Heap} {qual : Str} {scope : Scope} {f cc : Addr} {cd : Value} {A : Around} {outer : List Env} {s : Shared} {H : Hp} {E : XK} {x y : V} {u v : Value} {h1 : Heap} {tk : Nat}
    (hk : scope.kind = .function) (hn : ∀ z ∈ scope.names, z.2 ≠ .cell) (k1 : scope.names.lookup ("self" : Str) = some .local) (k2 : scope.names.lookup ("value" : Str) = some .local) (hfree : ∀ z, scope.names.lookup z = some .free → z = ("__class__" : Str)) (hd : A.handled = none) (e0 : Env0 P w K mg base A outer s H)
    (hcc : ∃ o, K.lookup cc = some o ∧ ∃ v, o.data = .cell v) (r1 : RelV x u) (r2 : RelV y v) (hns : h1.Ns s.heap.objs.size fun z => ([("self", u), ("value", v)] : List (Str × Value)).reverse.lookup z) (kp : ∀ b o, s.heap.get? b = some o → h1.get? b = some o) :
    Inv (inCx P w K mg base qual scope f cc cd A outer s H E) [] [some x, some y] H { s with heap := h1, toks := tk } := by
  have noA : ∀ b : Addr, ¬ b ∈ (inCx P w K mg base qual scope f cc cd A outer s H E).ex := fun b z => nomatch (show b ∈ ([] : List Addr) from z)
  have cells : ∀ {z c}, (inCx P w K mg base qual scope f cc cd A outer s H E).env.cells.lookup z = some c → c = cc ∧ z = "__class__" := fun {z c} e => by
    have e : List.lookup z [(("__class__" : Str), cc)] = some c := e
    rw [List.lookup_cons] at e
    cases q : z == ("__class__" : Str) with
    | true =>
      rw [q] at e
      cases e
      exact ⟨rfl, beq_iff_eq.mp q⟩
    | false => rw [q] at e; cases e
  obtain ⟨oc, hoc, vc, hvc⟩ := hcc
  have bcc : base.get? cc = some oc := e0.mod.kin cc oc hoc
  obtain ⟨scc, ncc⟩ := e0.bs cc oc bcc
  refine ⟨⟨e0.mod, hk, rfl, rfl, Nat.le_refl _, fun a b c q1 q2 => (cells q1).2.trans (cells q2).2.symm, fun z hz => ?_, fun z c q _ => ?_, fun _ => hd, Around.frames_deeper e0.frames, .inr ⟨rfl, rfl⟩, fun b q => absurd q (noA b), e0.bs, e0.bsz, fun b _ _ => noA b, fun b q => absurd q (noA b), e0.funs, e0.frf⟩,
    rfl, e0.bare, Un.kept kp, ⟨_, hns, fun i z a q1 q2 _ => ?_⟩, fun z c q => ?_, e0.hok.fresh (Nat.le_refl _), fun z c q => ?_, (fun q hq => nomatch (show q ∈ ([] : List (Addr × Obj)) from hq)), e0.hok.kept kp, rfl⟩
  · have hz : scope.names.lookup z = some .cell ∨ scope.names.lookup z = some .free := hz
    rcases hz with hz | hz
    · exact absurd rfl (hn _ (PySem.mem_of_lookup hz))
    · refine ⟨cc, ?_⟩
      rw [hfree z hz]
      rfl
  · cases (show false = true from q)
  · match i, q1, q2 with
    | 0, q1, q2 =>
      cases q1
      cases q2
      exact ⟨u, r1, .inl ⟨k1, rfl⟩⟩
    | 1, q1, q2 =>
      cases q1
      cases q2
      exact ⟨v, r2, .inl ⟨k2, rfl⟩⟩
    | i + 2, q1, _ => cases q1
  · rw [(cells q).1]
    exact ⟨vc, oc, kp _ _ scc, hvc⟩
  · rw [(cells q).1]
    exact ncc
def spI (K : PySem.W.Frag) (D : Addr) : Sp := fun vs H Q _ => ∃ (a C : Addr) (y : V), vs = [.ref a, y] ∧ InitCl K D C ∧ H a = some (exo a C none) ∧ ∀ dx, H dx = none → dx ≠ a → Q .non (upd (upd H dx (exd dx [("value", y)])) a (exo a C (some dx)))
theorem init_ok {P : Program} {w : World} {K : PySem.W.Frag} {mg : Str → Option Value} {base : Heap} {D f : Addr} {fd : FuncData} {st : Stmt} {qual : Str} (T : InitTx P K mg D f fd st qual) : FnOk P w K mg base (L2.CX P w) 1 f fd ["self", "value"] (spI K D) := by
  obtain ⟨oc, od, kV, doc, pm, an, ct, osl, cc, cda, rfl, lk, hcd, ⟨ccl, cdd, vs0, ccs, file, tf, hcode, hvs, hfile⟩, cl, cld, csl, hcell⟩ := T.go
  obtain ⟨hpo, a1, a2, harg, hself⟩ := T.args
  obtain ⟨p0, p1, p2, p3, p4, p5, p6, p7, p8, p9, hbody, hcall⟩ := T.body
  obtain ⟨sk, sco, sgen, scell, sfree, s1, s2, s3, s4⟩ := T.scope
  have hclsD := T.clsD
  have hsup := T.sup
  have htop := T.top
  have hthird := T.third
  clear T
  generalize defScope st = sc at *
  obtain ⟨kd, nms, ig, ic, mr⟩ := sc
  cases (show kd = .function from sk)
  cases (show ic = false from sco)
  cases (show ig = false from sgen)
  refine ⟨fun vs H Q E h => by obtain ⟨_, _, _, rfl, _⟩ := h; rfl, ?_⟩
  intro A outer s H args us vs Q E hr e0 bd rel prom
  obtain ⟨a, C, y, rfl, TC, ha, q⟩ := prom
  obtain ⟨ua, uy, rfl, ra, ry⟩ := rel.two
  obtain rfl : ua = Value.ref a := ra
  have Kin : K.In s.heap := e0.mod.kin.keeps (fun b o q => (e0.bs b o q).1)
  have lim : s.heap.NoLimit := e0.mod.nolimit.keeps (fun b o q => (e0.bs b o q).1)
  refine PySem.ks_codeAny_call_defAt (fd := PySem.W.ksFn "__init__" qual (defArgs st) (defBody st) { kind := .function, names := nms, isGenerator := false, isCoroutine := false, more := mr } .none kV doc pm an (.ref cda) ct cc) (body := defBody st) (binds := (["self", "value"] : List Str).zip [Value.ref a, uy]) hr.depth (Kin _ _ lk) rfl lim (PySem.W.codeRec_of Kin hcd) rfl bd scell
    (fun z hz => ?_) (fun h1 hns hk1 => ?_) sco sgen sk
  · have hz : z ∈ [(("self" : Str), Value.ref a), ("value", uy)] := hz
    simp only [List.mem_cons, List.not_mem_nil, or_false] at hz
    rcases hz with rfl | rfl
    · exact s1
    · exact s2
  have I0 : Inv (inCx P w K mg base qual { kind := .function, names := nms, isGenerator := false, isCoroutine := false, more := mr } f cc (.ref cda) A outer s H E) [] [some (.ref a), some y] H { s with heap := h1, toks := s.toks + 2 } :=
    in_start sk scell s1 s2 sfree hr.hd e0 ⟨_, hcell, _, rfl⟩ rfl ry hns hk1
  have K1 := I0.kIn
  obtain ⟨cdD, hD⟩ := hclsD
  obtain ⟨oD, hD1, hD2⟩ : ∃ oD, h1.get? D = some oD ∧ oD.data = .cls cdD := by
    unfold PySem.W.clsIn at hD
    split at hD
    · rename_i c d cd' sl ho
      cases hD
      exact ⟨_, K1 _ _ ho, rfl⟩
    · cases hD
  obtain ⟨t1, hoa⟩ := exo_at I0.hok ha
  obtain ⟨nm, qn, N', bs, bm, sn, sub, ab, col, dd, k0, k1, k2, k3, k5, hCl, hbm⟩ := TC.oex.cls
  obtain ⟨cd, hc, hnext⟩ : ∃ cd, PySem.W.clsIn K C = some cd ∧ PySem.W.alongIn K "__init__" ((cd.mro.dropWhile (· != .ref D)).drop 1) = some (some (.builtin "ValueError.__init__")) := by
    have h := TC.next
    unfold PySem.W.ks_superIn at h
    cases z : PySem.W.clsIn K C with
    | none => rw [z] at h; cases h
    | some cd => rw [z] at h; exact ⟨cd, rfl, h⟩
  obtain ⟨mb, hmb1, hmb2⟩ := I0.mod.blt
  have hns' : h1.Ns s.heap.objs.size fun x => ([("self", Value.ref a), ("value", uy)] : List (Str × Value)).reverse.lookup x := hns
  obtain ⟨hh, g, d, tk0, os⟩ := s
  rw [hbody]
  obtain ⟨pl, hcall⟩ := hcall (PySem.W.ksEnv qual { kind := .function, names := nms, isGenerator := false, isCoroutine := false, more := mr } hh.objs.size f (.ref cda) cc)
  refine PySem.ks_wpAt_execs_cons (PySem.ks_wpAt_Expr_any (PySem.ks_wpAt_MethodCall (he := hcall) (PySem.ks_wpAt_super_base (of := _) (oc := _) s3 s4 (by decide) rfl (K1 _ _ lk) rfl (ar := a1) (by show (List.head? ((defArgs st).posonlyargs ++ (defArgs st).args)) = _; rw [hpo, harg]; rfl) rfl (K1 _ _ hcode) rfl hvs hfile htop ?_)))
  have vsup : mb "super" = some (.type "super") := (hmb2 "super" (by decide)).trans rfl
  refine PySem.W.ks_loadName_global rfl s3 (Calls.loadGlobal_builtin (I0.mod.glob.keeps I0.bk) hsup (hmb1.keeps I0.bk) vsup ⟨rfl, ?_⟩)
  refine wpAny_loadName_free rfl s4 (c := cc) rfl ⟨_, K1 _ _ hcell, rfl⟩ ?_
  rw [hself]
  refine wpAny_loadName_local rfl s1 hns' (v := .ref a) rfl ?_
  refine PySem.ks_wpAny_isType_cls hD1 hD2 ⟨rfl, ?_⟩
  refine PySem.ks_wpAny_call_super hD1 hD2 hoa rfl (fun c z => by cases z) (PySem.W.looks_mroIn K1 TC.sub) (fun h2 e2 k2 => ?_)
  have I2 := I0.kept (h' := h2) (t' := tk0 + 2) k2
  have K2 := I2.kIn
  have hoa2 := k2 _ _ hoa
  have IA : PySem.W.InstAt h2 a { cls := .ref C, dict := none, data := .fields #[.ref t1, .none, .none, .none, .bool false, .none] } C none := ⟨hoa2, rfl, rfl, trivial⟩
  refine PySem.W.kxs_getMethod PySem.W.kxs_ValueError e2 (PySem.W.looks_opaque K2 hthird) (l₀ := cd.mro) (fun A Q E s k q => wpAny_bind ((PySem.W.looks_clsIn K2 hc) A _ E s k (wpAny_pure q))) rfl K2 hnext (IA.type.andThen (PySem.W.looks_subIn K2 TC.ve)) (PySem.W.ks_ne K2 IA hc) (by decide) ?_
  -- the built-in __init__ bound to the object, called
  have k3' : ∀ b o, h2.get? b = some o → (h2.push (PySem.W.kxs_mw "ValueError.__init__" a)).get? b = some o := fun b o e => Heap.get?_push_of_some _ e
  have I3 := I2.kept (h' := h2.push (PySem.W.kxs_mw "ValueError.__init__" a)) (t' := tk0 + 2 + 1) k3'
  have K3 := I3.kIn
  have hoa3 := k3' _ _ hoa2
  have hu : (h2.push (PySem.W.kxs_mw "ValueError.__init__" a)).get? h2.objs.size = some (PySem.W.kxs_mw "ValueError.__init__" a) := Heap.get?_push_size _ rfl
  have ns3 : (h2.push (PySem.W.kxs_mw "ValueError.__init__" a)).Ns hh.objs.size fun x => ([("self", Value.ref a), ("value", uy)] : List (Str × Value)).reverse.lookup x := hns'.keeps fun b o e => k3' _ _ (k2 _ _ e)
  refine PySem.W.kxs_callWith (i := "ValueError.__init__") (x := a) rfl (Calls.evalArgs_plain ?_)
  refine Calls.spliced_cons (wpAny_Name (wpAny_loadName_local rfl s2 ns3 (v := uy) rfl ?_) (by decide))
  refine Calls.spliced_nil ⟨hu, ?_⟩
  refine wpAny_call (codeAny_of_tree ?_)
  show wpAny _ _ (callAny (.ref h2.objs.size) ⟨[uy], []⟩) _ _ _
  simp only [callAny]
  refine wpAny_bind (wpAny_load hu ?_)
  simp only [PySem.W.kxs_mw, show (Value.type "method-wrapper" == Value.type "method" || Value.type "method-wrapper" == Value.type "builtin_function_or_method" || Value.type "method-wrapper" == Value.type "method-wrapper") = true by decide, if_true]
  refine PySem.W.KFB.if_so (by decide) ?_
  refine wpAny_bind (PySem.W.check_bound_init F.excBase_ValueError.toExcCallFacts (K3 _ _ hCl) hoa3 rfl ?_)
  refine wpAny_bind (wpAny_pure (wpAny_pure ?_))
  refine ⟨plainId_quiet F.excBase_ValueError.init.plain _, codeAny_builtin F.excBase_ValueError.initEntry ?_⟩
  refine PySem.W.exc_init_tree (cls := .ref C) (t0 := t1) (dv := none) (c2 := .none) (c3 := .none) (b4 := .bool false) hoa3 (by show 1 ≤ sizeLine; decide) fun h4 k4 hoa4 _ => ?_
  have J := I3.write (t' := tk0 + 2 + 1) (x := a) (e := a) (o := exo a C none) (by rw [ha]; exact True.intro) (.inl rfl) k4 ⟨_, hoa4⟩ (exo_ok hoa4)
  have eu : upd H a (exo a C none) = H := by
    funext b
    by_cases hb : b = a
    · rw [hb, upd_same, ha]
    · rw [upd_ne hb]
  rw [eu] at J
  -- self.value = value
  refine PySem.ks_wpAt_execs_cons (PySem.wpAt_of_wpAny ?_)
  have st2 : PS (inCx P w K mg base qual { kind := .function, names := nms, isGenerator := false, isCoroutine := false, more := mr } f cc (.ref cda) A outer ⟨hh, g, d, tk0, os⟩ H E) (.Assign [.Attribute (.Name "self" p6) "value" p7] (.Name "value" p8) p9) (tOst K "value" (tVar 0) (tVar 1)) :=
    ps_ost (pe_var rfl (.inl s1)) (pe_var rfl (.inl s2))
  refine wpAny_mono (st2.run [] _ _ H { nx := fun _ H' => Q .non H', rt := Q } J ?_) ?_ (fun e s' z => z)
  · exact ⟨y, rfl, .ref a, rfl, a, C, rfl, TC.oex, TC.noV, .inl ⟨ha, fun dx n1 n2 => q dx n1 n2⟩⟩
  · intro fl s' z
    match fl, z with
    | .next, ⟨σ', H', J', q'⟩ => exact PySem.wpAt_of_wpAny (wpAny_execs_nil ⟨.non, H', J'.os, J'.bare, J'.base, J'.hok, rfl, q'⟩)
    | .ret u, ⟨v, σ', H', J', rv, q'⟩ => exact ⟨v, H', J'.os, J'.bare, J'.base, J'.hok, rv, q'⟩
    | .brk, ⟨_, _, _, z⟩ => exact z.elim
    | .cont, ⟨_, _, _, z⟩ => exact z.elim
end Nol

set_option Elab.async false
set_option linter.all false
set_option maxRecDepth 100000
set_option maxHeartbeats 4000000
/-! Nol, part Q: an error raised; an error that is caught and kept. -/
namespace Nol
open PySem PySem.Spec PyProof.Rows L2

section
variable {X : Cx} {pins : List (Addr × Obj)} {σ : L2.St} {H : Hp} {s : Shared}
/-- an error that stands in the heap is told of from now on -/
theorem track_ok {a C dx : Addr} {oe : Obj} {vs : Array Value} (I : Inv X pins σ H s) (he : s.heap.get? a = some oe) (hz : Zc (.ref C) (some dx) oe) (hd : oe.data = .fields vs) (na : H a = none) (n0 : X.s_0.heap.get? a = none) (nL : a ≠ X.env.locals)
    (np : ∀ p ∈ X.pn ++ pins, p.1 ≠ a) : Inv X pins σ (upd H a (ExcA C dx a)) s := by
  have up : ∀ {b u}, H b = some u → upd H a (ExcA C dx a) b = some u := fun {b u} e => by rw [upd_ne (ne_of_none e na)]; exact e
  have no0 : ∀ {b o}, X.s_0.heap.get? b = some o → b ≠ a := fun {b o} e z => by rw [z, n0] at e; cases e
  refine ⟨I.ok, I.os, I.bare, ⟨I.base.keep, I.base.slot, fun b o e n hx => ?_, I.base.there, fun b xs e => up (I.base.tups b xs e), fun b o u e => up (I.base.frzs b o u e), fun b ps e => ?_⟩, I.loc, I.cell, ?_, fun x c e => ?_, fun p hp => ?_, fun b u e => ?_, I.len⟩
  · rw [upd_ne (no0 e)]
    exact I.base.free b o e n hx
  · obtain ⟨more, z⟩ := I.base.tbls b ps e
    exact ⟨more, up z⟩
  · rw [upd_ne (Ne.symm nL)]
    exact I.free
  · have nc : c ≠ a := fun z => by
      obtain ⟨v, o, h1, h2⟩ := I.cell x c e
      rw [z, he] at h1
      cases h1
      rw [hd] at h2
      cases h2
    rw [upd_ne nc]
    exact I.freeC x c e
  · obtain ⟨h1, h2, h3⟩ := I.pin p hp
    exact ⟨h1, by rw [upd_ne (np p hp)]; exact h2, h3⟩
  · by_cases hb : b = a
    · rw [hb, upd_same] at e
      cases e
      rw [hb]
      exact ⟨⟨oe, vs, he, hz, hd⟩, ⟨oe, he⟩, fun h1 h2 ⟨o2, v2, z1, z2, z3⟩ k => ⟨o2, v2, k _ z1, z2, z3⟩⟩
    · rw [upd_ne hb] at e
      exact (I.hok b u e).stay (fun _ _ _ q => q) (fun c q => up q) fun c xs q => up q
end
/-- what the clause 'except x as n: y = n' makes of an error of the body: n's slot i, y's slot j -/
def wKeep (K : PySem.W.Frag) (c : Value) (i j : Nat) (D : Ends) : WX := fun cls d σ H => ∃ (C dx : Addr), cls = .ref C ∧ d = some dx ∧ PySem.W.exmOne K cls c = some true ∧ ∀ a, H a = none → D.nx ((σ.set j (some (.ref a))).set i none) (upd H a (ExcA C dx a))
section
variable {X : Cx} {x n y : Str} {c : Value} {i j : Nat} {body : List Stmt} {np yp mp ap pos pos' : Pos} {tb : WX → TS}
theorem ps_tryKeep (hs : X.stack = X.env :: X.outer) (hf : X.env.frame = some X.env.locals) (hex : X.ex = []) (hN : X.N.Nodup) (hi : X.N[i]? = some n) (hln : X.env.scope.names.lookup n = some .local) (hj : X.N[j]? = some y) (hly : X.env.scope.names.lookup y = some .local) (hij : i ≠ j) (hc : Names X x c)
    (hnd : (n == ("__debug__" : Str)) = false) (hncd : (n == ("__classdict__" : Str)) = false) (hsw : swapsWith (.Name n mp) (some (.Name y yp)) ap.line X.env = pure false)
    (hb : ∀ (W : WX) (pn : List (Addr × Obj)) (xe : Value → Shared → Prop), Takes (X.tr pn xe) W → PassesOwn (model X.prog X.w) X.A X.env xe → PSs (X.tr pn xe) body (tb W)) :
    PS X (.Try body [.ExceptHandler (some (.Name x np)) (some n) [.Assign [.Name y yp] (.Name n mp) ap] pos'] [] [] pos) (fun D σ H => tb (wKeep X.K c i j D) D σ H) := by
  constructor
  intro pins s σ H D I h
  have ok := I.ok
  have hfr : X.A.frames = some (X.env :: X.outer) := ok.frames.trans (by rw [hs])
  have took : Takes (X.tr (X.pn ++ pins) fun e s1 => wpAny (model X.prog X.w) X.A (noteFrame e X.env) (fun _ s2 => wpAny (model X.prog X.w) X.A (setFlight e none) (fun _ s3 =>
      wpAny (model X.prog X.w) X.A (handleBy e X.env [.ExceptHandler (some (.Name x np)) (some n) [.Assign [.Name y yp] (.Name n mp) ap] pos']) (SP X pins D) X.xe s3) X.xe s2) X.xe s1) (wKeep X.K c i j D) := by
    rintro u s' ⟨a, B, sI, pins', σ', H', cls, d, rfl, J', nb, up, sky, na, os, ag, C, dx, rfl, rfl, hb1, hyes⟩
    have J : Inv X pins σ' H' sI := J'.ofTry ok
    rw [show (X.tr (X.pn ++ pins) _).stack = X.env :: X.outer from hs] at sky
    refine Sky.land (M := model X.prog X.w) Zc.steady hfr hf sky ?_
    intro h3 fl3 up3
    have J3 : Inv X pins σ' H' { s' with heap := h3 } := J.landed nb fl3.1 (up.trans up3) os ag
    obtain ⟨oe3, vs3, he3, hz3, hd3⟩ := fl3.there
    have offF : a ∉ frs (X.env :: X.outer) := by
      intro hm
      obtain ⟨_, o', e', hnf⟩ := fl3.2.2.1.mem hm
      rw [he3] at e'
      cases e'
      exact hnf _ hd3
    have nL : a ≠ X.env.locals := fun z => offF (List.mem_filterMap.mpr ⟨X.env, List.mem_cons_self, hf.trans (by rw [z])⟩)
    have nF : a ∉ X.fs := by
      intro hm
      obtain ⟨e, he, q⟩ := List.mem_filterMap.mp hm
      exact offF (List.mem_filterMap.mpr ⟨e, List.mem_cons_of_mem _ he, q⟩)
    -- it is younger than the body's state
    have nI : sI.heap.get? a = none := by
      cases q : sI.heap.get? a with
      | none => rfl
      | some o =>
        exfalso
        have := nb a o q (by rw [show (X.tr (X.pn ++ pins) _).stack = X.env :: X.outer from hs]; exact offF)
        rw [fl3.2.1] at this
        cases this
    have n0 : X.s_0.heap.get? a = none := by
      cases q : X.s_0.heap.get? a with
      | none => rfl
      | some o =>
        exfalso
        obtain ⟨o', e'⟩ := J.base.there a o q (by rw [hex]; simp)
        rw [nI] at e'
        cases e'
    have npin : ∀ p ∈ X.pn ++ pins, p.1 ≠ a := by
      intro p hp z
      have := (J.pin p hp).1
      rw [z, nI] at this
      cases this
    have S3 := J3.suite he3 hd3 na nL nF
    refine wpAny_handleBy_cons (codeAny_handlers_test ?_) (by intro q; cases q)
    have LT : PySem.W.Looks (model X.prog X.w) h3 (typeOf (.ref a)) (.ref C) := fun A Q E s k q => wpAny_typeOf_ref (k _ _ he3) (by rw [hz3.1]; exact q)
    have LM := PySem.W.exm_one (M := model X.prog X.w) J3.kIn LT hb1
    have named : ∀ {Q : Value → Shared → Prop} {E : Value → Shared → Prop}, Q c { s' with heap := h3 } → wpAny (model X.prog X.w) (X.A.mark (some (.ref a))) (eval (.Name x np) X.env) Q E { s' with heap := h3 } := by
      intro Q E q
      obtain ⟨hg, hdbg, hm | ⟨hm, hv, hnn⟩⟩ := hc
      · exact ld_glob (X := X.suite a ((a, oe3) :: (X.pn ++ pins))) S3 hg hm q hdbg
      · exact ld_blt (X := X.suite a ((a, oe3) :: (X.pn ++ pins))) S3 hg hm hv q hnn hdbg
    refine named (LM.here (codeAny_handlers_suite_as (HandSPX.lands_againZ fl3 ?_)))
    intro h4 fl4 up4
    have J4 : Inv X pins σ' H' { s' with heap := h4 } := J.landed nb fl4.1 ((up.trans up3).trans up4) os ag
    obtain ⟨oe4, vs4, he4, hz4, hd4⟩ := fl4.there
    have S4 := J4.suite he4 hd4 na nL nF
    refine store_ok (X := X.suite a ((a, oe4) :: (X.pn ++ pins))) (v := .ref a) S4 hN hi (.inl hln) rfl ?_ (.inr hln)
    intro s5 S5
    have keepIt := pss_one (ps_set (pos := ap) (X := X.suite a ((a, oe4) :: (X.pn ++ pins))) hN hj (.inl hly) (pe_var (pos := mp) (i := i) hi (.inl hln) hnd hncd) hsw (.inr hly) (pos' := yp))
    refine wpAny_mono (keepIt.run [] s5 _ H' { nx := fun σ6 H6 => σ6 = (σ'.set i (some (.ref a))).set j (some (.ref a)) ∧ H6 = H', rt := fun _ _ => False } S5 ?_) ?_ (fun _ _ z => z.elim)
    · have hlt : i < σ'.length := by rw [J.len]; exact (List.getElem?_eq_some_iff.mp hi).1
      exact ⟨.ref a, by rw [List.getElem?_set_self hlt], rfl, rfl⟩
    · intro f s6 hsp
      match f, hsp with
      | .ret _, ⟨_, _, _, _, _, z⟩ => exact z.elim
      | .brk, ⟨_, _, _, z⟩ => exact z.elim
      | .cont, ⟨_, _, _, z⟩ => exact z.elim
      | .next, ⟨σ6, H6, S6, e6, eH⟩ =>
        rw [e6, eH] at S6
        have P6 : L2.Inv X (pins ++ [(a, oe4)]) ((σ'.set i (some (.ref a))).set j (some (.ref a))) H' s6 :=
          (S6.unsuite ok).pins_of fun p hp => (List.mem_append.mp hp).elim (fun q => (S6.unsuite ok).pin p (List.mem_append_right _ q)) fun q => by
            have e : p = (a, oe4) := by simpa using q
            rw [e]
            exact S6.pin (a, oe4) (List.mem_append_left _ List.mem_cons_self)
        refine gone_ok P6 hN hi hln ?_
        intro s7 J7
        obtain ⟨h71, h72, h73, _, _⟩ := J7.pin (a, oe4) (List.mem_append_right _ (List.mem_append_right _ List.mem_cons_self))
        refine ⟨_, _, track_ok (J7.unpinned) h71 hz4 hd4 h72 n0 nL npin, ?_⟩
        have q := hyes a na
        have e : (((σ'.set i (some (V.ref a))).set j (some (V.ref a))).set i none) = (σ'.set j (some (V.ref a))).set i none := by
          rw [List.set_comm _ _ hij, List.set_set]
        rw [e]
        exact q
  refine wpAny_Try_except (wpAny_mono ((hb _ (X.pn ++ pins) _ took PassesOwn.looking).run [] s σ H D (I.toTry _) h) ?_ (fun e s1 he => he))
  intro f s1 hsp
  match f, hsp with
  | .next, ⟨σ', H', J', q⟩ => exact wpAny_execs_nil ⟨σ', H', J'.ofTry ok, q⟩
  | .brk, ⟨σ', H', J', q⟩ => exact ⟨σ', H', J'.ofTry ok, q⟩
  | .cont, ⟨σ', H', J', q⟩ => exact ⟨σ', H', J'.ofTry ok, q⟩
  | .ret u, ⟨v, σ', H', J', r, q⟩ => exact ⟨v, σ', H', J'.ofTry ok, r, q⟩
end
end Nol

set_option Elab.async false
set_option linter.all false
set_option maxRecDepth 100000
set_option maxHeartbeats 4000000
/-! Nol, part R: errors as data: raise, isinstance, the field value; the def that hears a lambda. -/
namespace Nol
open PySem PySem.Spec PyProof.Rows L2

/-- the class of an error that bears its value -/
structure ErrOk (G : Gx) (P : Program) (w : World) (K : PySem.W.Frag) (mg : Str → Option Value) (base : Heap) (x : Str) : Prop where
  go : ∃ (C D fI : Addr) (fd : FuncData), G.cls x = some C ∧ mg x = some (.ref C) ∧ InitCl K D C ∧ PySem.W.findIn K (.ref C) "__init__" = some (some (.ref fI)) ∧ PySem.W.typeIn K (.ref fI) = some (.type "function") ∧ FnOk P w K mg base (L2.CX P w) 1 fI fd ["self", "value"] (spI K D) ∧
    Binds K fd ["self", "value"] [] ∧ XfC K C ∧ PySem.W.findIn K (.ref C) "value" = some none
  exc : G.exc x = true
section
variable {G : Gx} {X : Cx} {W : WX} {Ex Ex' Ex1 : Addr → Prop} {σ σ1 : St} {H H' H1 : Hp} {env env' env1 : Fm} {k : Nat} {gf : Bool} {pos pos' p p' : Pos} {x : Str} {e a : Expr}
theorem ExtN.new {a : Addr} {o : HO} (h : H a = none) : LamX.ExtN H (upd H a o) := fun b u e _ => by rw [upd_ne (ne_of_none e h)]; exact e
/-- raise X(e) -/
def svRaise (c : Str) (f : Ev D) : Sv := fun env => bindE (f env) fun d env1 => some (.er c d env1)
theorem ds_raise {f : Ev D} (xg : XG G gf k X) (hk : 2 ≤ k) (T : ErrOk G X.prog X.w X.K X.mg X.base x) (hg : Gl X x) (he : DE G X e f) (hdb : (x == ("__debug__" : Str)) = false := by decide)
    (hs : starEach [e] X.env = (false, eval e X.env) :: starEach [] X.env := by rfl) (hpl : (backTo pos (starEach [] X.env)).any (·.1) = false := by rfl) : DS G X (.Raise (some (.Call (.Name x p) [e] [] pos)) none pos') (svRaise x f) := by
  obtain ⟨C, D, fI, fd, hC, hm, TC, iC, tI, F1, hb, _, _⟩ := T.go
  refine ⟨fun W tk => ps_weak (ps_raise xg.calm tk (pmk_oex (k := 1) TC.oex iC tI F1 (xg.room.mono hk) hb .nil passL hg hm (pa_cons (he.run W tk) pa_nil hs) hdb hs hpl)) fun D0 σ H ⟨Ex, env, R, p⟩ => ⟨Ex, env, R, Po.toS R p fun d env1 Ex1 H1 v z xt sb R1 q p1 => ?_⟩⟩
  refine ⟨by show 1 ≤ 1000; decide, fun a hn => ⟨a, C, v, rfl, TC, upd_same, fun dx h1 h2 => ⟨rfl, dx, [("value", v)], upd_same, ?_, ?_, ?_⟩⟩⟩
  · rw [upd_ne h2, upd_same]
  · rw [upd_ne h2] at h1
    exact h1
  · have nd : H1 dx = none := by rw [upd_ne h2] at h1; exact h1
    have sm : Same H1 (upd (del (upd (upd (upd H1 a (exo a C none)) dx (exd dx [("value", v)])) a (exo a C (some dx))) a) dx (.xd [("value", v)])) := fun b o h => by
      have hb := ne_of_none h hn
      have hb2 := ne_of_none h nd
      rw [upd_ne hb2, del_ne hb, upd_ne hb, upd_ne hb2, upd_ne hb]
      exact h
    exact p1 Ex1 σ _ C dx v (Ext.grow sm) (R1.grow sm) hC upd_same (Is.grow R1.ex sm q)
/-- isinstance(e, X) of an error of that very class -/
def isErr (x : Str) : D → Option FV
  | .obj c _ => if c = x then some (.d (.bl true)) else none
  | _ => none
theorem Is.objE {c : Str} {ds : List D} {v : V} (h : Is G Ex H (.obj c ds) v) : ∃ a vs, v = .ref a ∧ ObjAt G H a c vs ∧ Are G Ex H ds vs := by
  unfold Is at h
  exact h
theorem df_isE (xg : XG G gf k X) (T : ErrOk G X.prog X.w X.K X.mg X.base x) (hg : Gl X "isinstance") (hgx : Gl X x) {f : Ev D} {q1 q2 : Pos} (ha : DE G X a f) (hdb : (x == ("__debug__" : Str)) = false := by decide)
    (hs : starEach [a, .Name x q1] X.env = (false, eval a X.env) :: starEach [.Name x q1] X.env := by rfl) (hs2 : starEach [.Name x q1] X.env = (false, eval (.Name x q1) X.env) :: starEach [] X.env := by rfl) (hpl : (backTo pos (starEach [.Name x q1] X.env)).any (·.1) = false := by rfl) :
    DF G X (.Call (.Name "isinstance" q2) [a, .Name x q1] [] pos) (apE (isErr x) f) := by
  obtain ⟨C, D, fI, fd, hC, hm, _⟩ := T.go
  have hcall : CallR X (.builtin "isinstance") (fun xs H Q => ∃ b dx, xs = [.ref b, .ref C] ∧ H b = some (ExcA C dx b) ∧ Q (.bl true) H) := by
    intro pins s σ H xs us Q I r ⟨b, dx, e1, e2, q⟩
    subst e1
    obtain ⟨u1, u2, rfl, r1, r2⟩ := r.two
    cases r1
    cases r2
    obtain ⟨⟨oe, vs, h1, h2, h3⟩, _, _⟩ := (show ObjOk X.prog X.w H s.heap b (.ext fun h => ∃ (oe : Obj) (vs : Array Value), h.get? b = some oe ∧ Zc (.ref C) (some dx) oe ∧ oe.data = .fields vs) from I.hok b _ e2)
    exact PySem.W.isi_call (t := .ref C) I.kIn (fun M A Q E s k q => wpAny_typeOf_ref (k _ _ h1) (by rw [h2.1]; exact q)) (by unfold PySem.W.isIn; simp) (fun z => nomatch z) ⟨.bl true, H, I, rfl, q⟩
  refine ⟨fun W tk => pe_weak (pe_callB hcall hg (xg.bl _ (by decide)) (by decide) (pa_cons (ha.run W tk) (pa_cons (pe_glob (v := .ref C) hgx hm rfl hdb) pa_nil hs2) hs) (by decide) (by decide) hs hpl) fun σ H Q h => ?_⟩
  refine apE_ok (e := a) (r := fun v H Q => ∃ b dx, [v, V.ref C] = [.ref b, .ref C] ∧ H b = some (ExcA C dx b) ∧ Q (.bl true) H) (fun Ex H d v Q hl h1 hy => ?_) h
  cases d with
  | obj c ds =>
    unfold isErr at hy
    simp only at hy
    by_cases hc : c = x
    · rw [if_pos hc] at hy
      subst hc
      obtain ⟨b, vs, rfl, ⟨C', hC', ⟨h2, _⟩ | ⟨_, dx, w, h3, _⟩⟩, _⟩ := h1.objE
      · rw [T.exc] at h2; cases h2
      · rw [hC] at hC'
        cases hC'
        exact ⟨b, dx, rfl, h3, hy.d (by unfold Is; rfl)⟩
    · rw [if_neg hc] at hy; exact hy.elim
  | _ => exact hy.elim
/-- e.value of an error -/
def valErr (x : Str) : D → Option FV
  | .obj c [d] => if c = x then some (.d d) else none
  | _ => none
theorem df_val (xg : XG G gf k X) (T : ErrOk G X.prog X.w X.K X.mg X.base x) {f : Ev D} (ha : DE G X a f) (hb : attributeBase a "value" X.env (eval a X.env) = eval a X.env := by rfl) : DF G X (.Attribute a "value" pos) (apE (valErr x) f) := by
  obtain ⟨C, D, fI, fd, hC, hm, _, _, _, _, _, TX, hno⟩ := T.go
  have rule : ∀ {te : TE}, PE X a te → PE X (.Attribute a "value" pos) (fun σ H Q => te σ H fun v H1 => ∃ b dx w, v = .ref b ∧ H1 b = some (ExcA C dx b) ∧ H1 dx = some (.xd [("value", w)]) ∧ Q w H1) := fun {te} he => by
    refine ⟨fun pins s σ H Q I h => attr_of hb (thn (he.run pins s σ H _ I h) ?_)⟩
    rintro u s1 ⟨v, H1, I1, rv, b, dx, w, rfl, h1, h2, q⟩
    cases rv
    obtain ⟨⟨oe, vs, e1, e2, e3⟩, _, _⟩ := (show ObjOk X.prog X.w H1 s1.heap b (.ext fun h => ∃ (oe : Obj) (vs : Array Value), h.get? b = some oe ∧ Zc (.ref C) (some dx) oe ∧ oe.data = .fields vs) from I1.hok b _ h1)
    obtain ⟨mA, hns, hr⟩ := (show ObjOk X.prog X.w H1 s1.heap dx (.xd [("value", w)]) from I1.hok dx _ h2)
    obtain ⟨od, ho, hl⟩ := lookIn_ns hns
    obtain ⟨u2, hu, ru⟩ := RelO.some_of (v := w) (o := mA "value") (by
      have := hr "value"
      exact this)
    have J : PySem.W.InstAt s1.heap b oe C (some od) := ⟨e1, e2.1, by unfold PySem.W.notCls; rw [e3] <;> rfl, by rw [e2.2]; exact ho⟩
    exact HandSPX.exc_get I1.kIn J TX.ga TX.gg TX.exC (PySem.W.findObj_own TX.hdC hno rfl (by rw [hl, hu])) (handed_of ru) ⟨w, H1, I1.tok _, ru, q⟩
  refine ⟨fun W tk => pe_weak (rule (ha.run W tk)) fun σ H Q h => ?_⟩
  refine apE_ok (e := a) (r := fun v H1 Q => ∃ b dx w, v = .ref b ∧ H1 b = some (ExcA C dx b) ∧ H1 dx = some (.xd [("value", w)]) ∧ Q w H1) (fun Ex H d v Q hl h1 hy => ?_) h
  cases d with
  | obj c ds =>
    cases ds with
    | nil => exact hy.elim
    | cons d r =>
      cases r with
      | cons _ _ => exact hy.elim
      | nil =>
        have hw : Yl G Ex H (if c = x then some (.d d) else none) Q := hy
        clear hy
        by_cases hc : c = x
        · rw [if_pos hc] at hw
          subst hc
          obtain ⟨b, vs, rfl, ⟨C', hC', ⟨h2, _⟩ | ⟨_, dx, w, h3, h4, rfl⟩⟩, har⟩ := h1.objE
          · rw [T.exc] at h2; cases h2
          · rw [hC] at hC'
            cases hC'
            unfold Are at har
            obtain ⟨w', r, e5, e6, _⟩ := har
            cases e5
            exact ⟨b, dx, w, rfl, h3, h4, hw.d e6⟩
        · rw [if_neg hc] at hw; exact hw.elim
  | _ => exact hy.elim
end
end Nol

set_option Elab.async false
set_option linter.all false
set_option maxRecDepth 100000
set_option maxHeartbeats 4000000
/-! Nol, part S: a lambda handed to a def that calls it and keeps its error. -/
namespace Nol
open PySem PySem.Spec PyProof.Rows L2 LamX

section
variable {X : Cx} {pins : List (Addr × Obj)} {σ : L2.St} {H : Hp} {s : Shared}
/-- a lambda is made: nothing that was told is lost -/
theorem lam_made {T : List (Addr × Str)} {c P : Addr} {params : Arguments} {body : Expr} {scope : Scope} {pos : Pos} {E Q : Value → Shared → Prop} (I : L2.Inv X pins σ H s) (TB : TabB X.base X.mg c P) (hcode : X.env.code = .ref c) (hm : (P, X.env.qual ++ "<lambda>") ∈ T)
    (hu : ∀ p ∈ T, p.1 = P → p.2 = X.env.qual ++ "<lambda>") (hT : Tabs T H) (hdef : defaultsOf params X.env = ([], [])) (hfree : ∀ y ∈ scope.names, y.2 = .free → ∃ c, X.env.cells.lookup y.1 = some c)
    (h : ∀ (f c' : Addr) (pm ctv : Value) (H1 : Hp) (s' : Shared), L2.Inv X pins σ H1 s' → ExtN H H1 → Tabs T H1 → (∀ b, H b ≠ none → H1 b ≠ none) → s'.heap.get? f = some (PySem.W.kla_obj "<lambda>" (X.env.qual ++ "<lambda>") params body scope (cloFrom X.env.cells scope.names []) pm c' ctv) →
      H1 f = none → f ∉ frs X.stack → H1 c' = some (CodeO c' (X.env.qual ++ "<lambda>")) → Q (.ref f) s') : wpAny (model X.prog X.w) X.A (eval (.Lambda params body scope pos) X.env) Q E s := by
  obtain ⟨ps, hP, triples, told⟩ := hT _ hm
  refine PySem.W.kla_eval hdef ?_
  have bmP : s.heap.BuiltinsAt X.mg P := TB.bm.keeps I.bk
  have getP : s.heap.get? P = some { cls := .none, data := .fields ps } := I.hok P _ hP
  have offS : ∀ f, s.heap.objs.size ≤ f → f ∉ frs X.stack := by
    intro f hf z
    rcases List.mem_cons.mp (I.stkSub _ z) with rfl | e
    · exact Nat.lt_irrefl _ (Nat.lt_of_lt_of_le I.lt hf)
    · exact I.nofs hf e
  match hc : codeAmong pos ps.toList with
  | some cv =>
    obtain ⟨c', rfl, hco⟩ := told pos cv hc
    refine PySem.W.kla_makeFunctionHit (mg := X.mg) (c := c) (P := P) (ps := ps) (closure_ok hfree) I.ok.glob (I.mod.glob.keeps I.bk) hcode (TB.code.keeps I.bk) getP triples hc bmP ?_
    intro ctv h' tk hx hsz
    have I1 : L2.Inv X pins σ H { s with heap := h'.push (PySem.W.kla_obj "<lambda>" (X.env.qual ++ "<lambda>") params body scope (cloFrom X.env.cells scope.names []) ((X.mg "__name__").getD .none) c' ctv), toks := tk } :=
      I.kept (fun b o e => Heap.get?_push_of_some _ (hx b o e))
    exact h h'.objs.size c' _ ctv H _ I1 (ExtN.refl H) hT (fun _ q => q) (Heap.get?_push_size _ rfl) (I.hok.fresh hsz) (offS _ hsz) hco
  | none =>
    refine PySem.W.kla_makeFunction (mg := X.mg) (c := c) (P := P) (ps := ps) (closure_ok hfree) I.ok.glob (I.mod.glob.keeps I.bk) hcode (TB.code.keeps I.bk) getP triples hc TB.gP bmP ?_
    intro c' ctv h' tk hx hge hlt hrec htb
    obtain ⟨c2, oc, vs, t, e2, hoc, hdt, hv⟩ := hrec
    cases e2
    have hsz := Nat.le_trans hge (Nat.le_of_lt hlt)
    have newC : H c' = none := I.hok.fresh hge
    have nPc := ne_of_none hP newC
    have I1 := inv_table (t' := tk) (more := #[rawInt pos.line, rawInt pos.col, .ref c']) (h' := h'.push (PySem.W.kla_obj "<lambda>" (X.env.qual ++ "<lambda>") params body scope (cloFrom X.env.cells scope.names []) ((X.mg "__name__").getD .none) c' ctv)) I hP
      (fun b o nb e => Heap.get?_push_of_some _ (hx b o nb e)) (Heap.get?_push_of_some _ htb) hge ⟨oc, vs, t, Heap.get?_push_of_some _ hoc, hdt, hv⟩
    have more : (ps ++ #[rawInt pos.line, rawInt pos.col, .ref c']).toList = ps.toList ++ [rawInt pos.line, rawInt pos.col, .ref c'] := by simp
    have kept : ExtN H (upd (upd H P (.tbl (ps ++ #[rawInt pos.line, rawInt pos.col, .ref c']))) c' (CodeO c' (X.env.qual ++ "<lambda>"))) := by
      intro b o e n
      rw [upd_ne (ne_of_none e newC), upd_ne]
      · exact e
      · intro z
        rw [z, hP] at e
        exact n ps (Option.some.inj e).symm
    refine h h'.objs.size c' _ ctv _ _ I1 kept ?_ ?_ (Heap.get?_push_size _ rfl) ?_ (offS _ hsz) upd_same
    · intro p hp
      by_cases hb : p.1 = P
      · rw [hu p hp hb, hb]
        refine ⟨_, by rw [upd_ne nPc, upd_same], by rw [more]; exact PySem.TriplesOk_snoc _ _ _ _ triples, ?_⟩
        intro p' cv hcv
        rw [more] at hcv
        rcases among_app _ triples hcv with z | z
        · obtain ⟨c0, e1, e3⟩ := told p' cv z
          exact ⟨c0, e1, kept _ _ e3 codeO_ne⟩
        · exact ⟨c', z, upd_same⟩
      · obtain ⟨qs, a1, a2, a3⟩ := hT p hp
        refine ⟨qs, by rw [upd_ne (ne_of_none a1 newC), upd_ne hb]; exact a1, a2, ?_⟩
        intro p' cv hcv
        obtain ⟨c0, e1, e3⟩ := a3 p' cv hcv
        exact ⟨c0, e1, kept _ _ e3 codeO_ne⟩
    · intro b nb
      by_cases h1 : b = c'
      · rw [h1, upd_same]; simp
      · rw [upd_ne h1]
        by_cases h2 : b = P
        · rw [h2, upd_same]; simp
        · rw [upd_ne h2]; exact nb
    · rw [upd_ne (Nat.ne_of_gt hlt), upd_ne (Nat.ne_of_gt (Nat.lt_of_lt_of_le (Heap.lt_size getP) hsz))]
      exact I.hok.fresh hsz
/-- the frame of the def that got the lambda -/
abbrev gotCx (X : Cx) (Ng : List Str) (x : Str) (sg : Scope) (g : Addr) (cdg : Value) (s : Shared) (H : Hp) : Cx := cxOf L2.CX0 X.prog X.w X.K X.mg X.base Ng x sg g cdg X.A X.stack s H L2.E0
/-- a(), a the parameter that holds the lambda; its errors as they are wanted there -/
theorem pe_lamrun {Ng : List Str} {qg : Str} {sg : Scope} {g f c' : Addr} {cdg pm ctv : Value} {params : Arguments} {body : Expr} {scope : Scope} {k i : Nat} {a : Str} {pn : List (Addr × Obj)} {xe : Value → Shared → Prop} {W : WX} {tb : XK → TE} {p1 p2 : Pos}
    (I : L2.Inv X pins σ H s) (L : LamS X.env.scope scope) (hf : s.heap.get? f = some (PySem.W.kla_obj "<lambda>" (X.env.qual ++ "<lambda>") params body scope (cloFrom X.env.cells scope.names []) pm c' ctv)) (hfn : H f = none) (hfr : f ∉ frs X.stack)
    (hbind : bindArgs (PySem.W.kla_fn "<lambda>" (X.env.qual ++ "<lambda>") params body scope (cloFrom X.env.cells scope.names []) pm (.ref c') ctv) ⟨[], []⟩ = pure []) (tk : Takes ((gotCx X Ng qg sg g cdg s H).tr pn xe) W) (hr : Room (k + 1) (X.A.deeper (envOfC qg sg s.heap.objs.size g cdg)))
    (hbody : ∀ (A : Around) (outer : List Env) (s : Shared) (H : Hp) (E : XK), Room k (A.deeper (lamEnv X scope s.heap.objs.size f c')) → A.guards = X.A.guards → PE (lamCx X A outer s H E scope f c') body (tb E))
    (hN : Ng[i]? = some a) (hv : Vis sg a) (hd : (a == ("__debug__" : Str)) = false) (hcd : (a == ("__classdict__" : Str)) = false) :
    PE ((gotCx X Ng qg sg g cdg s H).tr pn xe) (.Call (.Name a p1) [] [] p2) (fun σZ HZ Q => σZ[i]? = some (some (.ref f)) ∧ HZ c' = some (CodeO c' (X.env.qual ++ "<lambda>")) ∧ tb (WE W σZ) σ HZ Q) := by
  constructor
  intro pinsZ sZ σZ HZ Q IZ h
  obtain ⟨hs, hc, ht⟩ := h
  refine wpAny_Call_Name_kw (thn ((pe_var (pos := p1) (i := i) hN hv hd hcd).run pinsZ sZ σZ HZ (fun v H1 => v = .ref f ∧ H1 = HZ) IZ ⟨.ref f, hs, rfl, rfl⟩) ?_)
  rintro u s1 ⟨v, H1, I1, r1, rfl, eH⟩
  rw [eH] at I1
  obtain rfl : u = Value.ref f := r1
  have of1 := I1.base.keep f _ hf hfn hfr (fun z => nomatch (show f ∈ ([] : List Addr) from z))
  refine PySem.W.callWith_F0 ⟨_, _, _, _, of1⟩ ?_
  have un : Un (frs X.stack) [] H HZ s.heap s1.heap := I1.base
  obtain ⟨⟨oc, vs, t, hoc, hdc, hvc⟩, _, _⟩ := I1.hok c' _ hc
  have ran : codeAny (model X.prog X.w) (X.A.deeper (envOfC qg sg s.heap.objs.size g cdg)) (.call (.ref f) ⟨[], []⟩) (CR (L2.CX X.prog X.w) (envOfC qg sg s.heap.objs.size g cdg :: X.stack) X.prog X.w HZ s1 Q (WE W σZ)) s1 := by
    refine PySem.W.kla_callFunE hr.depth of1 rfl L.co L.gen rfl ⟨c', oc, vs, t, rfl, hoc, hdc, hvc⟩ ?_
    rw [hbind]
    refine wpAny_pure (wpAny_newFunctionEnv (fun y hy => (L.own y hy).2) (fun y hy => absurd hy (by simp)) (fun h1 hns hsb => ⟨I1.nolimit.fresh _ hsb, ?_⟩) L.kind)
    have kp : ∀ b o, s1.heap.get? b = some o → h1.get? b = some o := fun b o e => hsb.extBut b o (Nat.ne_of_lt (Heap.lt_size e)) (Heap.get?_push_of_some _ e)
    have J := lam_start2 (A := X.A.deeper (envOfC qg sg s.heap.objs.size g cdg)) (outer := envOfC qg sg s.heap.objs.size g cdg :: X.stack) (E := WE W σZ) (f := f) (c' := c') (tk := s1.toks + ([] : List (Str × Value)).length) I L I1.env0 hr.hd un hns kp
    refine PySem.W.kla_codeExpr (wpAny_mono ((hbody _ _ s1 HZ (WE W σZ) (hr.deeper _) rfl).run [] _ _ HZ Q J ht) ?_ (fun e s' hq => hq))
    rintro v s' ⟨w', H', J', rv, q⟩
    exact ⟨w', H', J'.os, J'.bare, J'.base, J'.hok, rv, q⟩
  refine wpAny_call (codeAny_mono ran ?_)
  intro r s' hq
  match r, hq with
  | .error e, hq => exact passAt tk σZ pinsZ HZ s1 e s' I1 hq
  | .ok (.ret u), hq => exact I1.after hq
  | .ok .next, hq => exact (hq : False).elim
  | .ok .brk, hq => exact (hq : False).elim
  | .ok .cont, hq => exact (hq : False).elim
/-- what the def's body makes of the lambda: TT of the lambda's reading -/
def HearsTo (X : Cx) (Ng : List Str) (x : Str) (sg : Scope) (g : Addr) (cdg : Value) (bg : List Stmt) (a : Str) (q : Str) (TT : (XK → Hp → VK → Prop) → Hp → VK → Prop) : Prop :=
  ∀ (f c' : Addr) (s : Shared) (H : Hp) (Q : VK) (tl : XK → Hp → VK → Prop),
    (∀ (W : WX) (pn : List (Addr × Obj)) (xe : Value → Shared → Prop) (p1 p2 : Pos), Takes ((gotCx X Ng x sg g cdg s H).tr pn xe) W → PE ((gotCx X Ng x sg g cdg s H).tr pn xe) (.Call (.Name a p1) [] [] p2) (fun σZ HZ Q => σZ[0]? = some (some (.ref f)) ∧ HZ c' = some (CodeO c' q) ∧ tl (WE W σZ) HZ Q)) →
    (∀ (E E' : XK) (H : Hp) (Q Q' : VK), (∀ c d H', E c d H' → E' c d H') → (∀ v H', Q v H' → Q' v H') → tl E H Q → tl E' H Q') → H c' = some (CodeO c' q) → TT tl H Q → ∃ t, PSs (gotCx X Ng x sg g cdg s H).nox bg t ∧ t { nx := fun _ H' => Q .non H', rt := Q } (L2.start Ng [.ref f]) H
theorem pe_hears {T : List (Addr × Str)} {TT : (XK → Hp → VK → Prop) → Hp → VK → Prop} {x a : Str} {g c P : Addr} {k : Nat} {pg : Arguments} {bg : List Stmt} {sg : Scope} {dV kV doc pm cdv ct oc : Value} {an od : Option Addr} {osl : Array (Option Value)} {Ng : List Str}
    {params : Arguments} {body : Expr} {scope : Scope} {t : XK → TE} {p lpos pos : Pos} (hg : Gl X x) (hm : X.mg x = some (.ref g)) (hk : PySem.W.keepIn X.K (.ref g) = true) (lk : X.K.lookup g = some ⟨oc, od, .func (PySem.W.fnOf x x pg bg sg dV kV doc pm an cdv ct), osl⟩)
    (hcg : PySem.W.codeIn X.K cdv x = true) (hb : L2.Binds X.K (PySem.W.fnOf x x pg bg sg dV kV doc pm an cdv ct) [a] []) (Sg : FnScope Ng [a] sg) (hNg : Ng[0]? = some a) (hva : Vis sg a) (hG : HearsTo X Ng x sg g cdv bg a (X.env.qual ++ "<lambda>") TT)
    (TB : TabB X.base X.mg c P) (hcode : X.env.code = .ref c) (hmT : (P, X.env.qual ++ "<lambda>") ∈ T) (hu : ∀ p ∈ T, p.1 = P → p.2 = X.env.qual ++ "<lambda>") (hr : Room (k + 2) X.A) (L : LamS X.env.scope scope) (hdef : defaultsOf params X.env = ([], []))
    (hbind : ∀ (q : Str) (cl : List (Str × Addr)) (pm cv ctv : Value), bindArgs (PySem.W.kla_fn "<lambda>" q params body scope cl pm cv ctv) ⟨[], []⟩ = pure [])
    (hbody : ∀ (A : Around) (outer : List Env) (s : Shared) (H : Hp) (E : XK) (f c' : Addr), Room k (A.deeper (lamEnv X scope s.heap.objs.size f c')) → A.guards = X.A.guards → PE (lamCx X A outer s H E scope f c') body (t E))
    (hmono : ∀ (E E' : XK) (σ : L2.St) (H : Hp) (Q Q' : VK), (∀ c d H', E c d H' → E' c d H') → (∀ v H', Q v H' → Q' v H') → t E σ H Q → t E' σ H Q')
    (hdb : (x == ("__debug__" : Str)) = false) (hd : (a == ("__debug__" : Str)) = false) (hcd : (a == ("__classdict__" : Str)) = false) :
    PE X (.Call (.Name x p) [.Lambda params body scope lpos] [] pos) (fun σ H Q => Tabs T H ∧ ∀ H1, ExtN H H1 → Tabs T H1 → (∀ b, H b ≠ none → H1 b ≠ none) → TT (fun E H' Q' => t E σ H' Q') H1 Q) := by
  constructor
  rintro pins s σ H Q I ⟨hT, h⟩
  refine wpAny_Call_Name_kw (ld_glob I hg hm ?_ hdb)
  refine PySem.W.callWith_K (h₀ := X.base) I.ok.mod.kin hk ?_ (by rfl) (by rfl)
  refine Calls.spliced_cons (lam_made I TB hcode hmT hu hT hdef (L.has I.ok) ?_)
  intro f c' pm' ctv H1 s' I1 eN T1 thr hf hfn hfr hco
  refine Calls.spliced_nil ⟨I1.kIn, ?_⟩
  have ran : codeAny (model X.prog X.w) X.A (.call (.ref g) ⟨[.ref f], []⟩) (CR L2.CX0 X.stack X.prog X.w H1 s' Q L2.E0) s' := by
    refine run_ofS (N := Ng) (ps := [a]) (us := [.ref f]) (vs := [.ref f]) lk hcg Sg hr I1.env0 (hb s' [.ref f] I1.kIn rfl) (.cons rfl .nil) rfl ?_
    intro hr'
    obtain ⟨t', ht', hq'⟩ := hG f c' s' H1 Q (fun E H' Q' => t E σ H' Q') (fun W pn xe p1 p2 tk => pe_lamrun (i := 0) (tb := t) I1 L hf hfn hfr (hbind _ _ _ _ _) tk hr' (fun A outer s H E hr2 hgd => hbody A outer s H E f c' hr2 hgd) hNg hva hd hcd) (fun E E' H Q Q' => hmono E E' σ H Q Q') hco (h H1 eN T1 thr)
    exact ⟨t', ht'.nox, hq'⟩
  refine wpAny_call (codeAny_mono ran ?_)
  intro r s2 hq
  match r, hq with
  | .ok (.ret u), hq => exact I1.after hq
  | .ok .next, hq => exact (hq : False).elim
  | .ok .brk, hq => exact (hq : False).elim
  | .ok .cont, hq => exact (hq : False).elim
  | .error e, hq => exact (hq : False).elim
end
end Nol

set_option Elab.async false
set_option linter.all false
set_option maxRecDepth 100000
set_option maxHeartbeats 4000000
/-! Nol, part T: caught, told = (None, None); try: told = call() / except X as error: caught = error; return (caught, told). -/
namespace Nol
open PySem PySem.Spec PyProof.Rows L2 LamX

def hearN : List Str := ["call", "caught", "told", "error"]
def hearS (x : Str) (m : List (Str × Const)) : Scope := { kind := .function, names := [("call", .local), ("caught", .local), ("told", .local), ("error", .local), (x, .globalImplicit)], isGenerator := false, isCoroutine := false, more := m }
theorem hearSc (x : Str) (m : List (Str × Const)) : FnScope hearN ["call"] (hearS x m) := by
  refine ⟨rfl, rfl, rfl, by decide, rfl, fun y hy => ?_, fun y hy => ?_⟩
  · have e : y = "call" := by simpa using hy
    rw [e]
    exact .inl rfl
  · have hy : y ∈ [(("call" : Str), NameKind.local), ("caught", .local), ("told", .local), ("error", .local), (x, .globalImplicit)] := hy
    simp only [List.mem_cons, List.not_mem_nil, or_false] at hy
    rcases hy with rfl | rfl | rfl | rfl | rfl <;> simp
def THear (K : PySem.W.Frag) (CE : Addr) : (XK → Hp → VK → Prop) → Hp → VK → Prop := fun tl H Q => ∀ H1, Same H H1 → tl (fun cls d H' => ∃ (C dx : Addr), cls = .ref C ∧ d = some dx ∧ PySem.W.exmOne K cls (.ref CE) = some true ∧
  ∀ b r, H' b = none → r ≠ b → H' r = none → Q (.ref r) (upd (upd H' b (ExcA C dx b)) r (.tup [.ref b, .non]))) H1 fun v H' => ∀ r, H' r = none → Q (.ref r) (upd H' r (.tup [.non, v]))
section
variable {X : Cx}
theorem hears {x xe : Str} {g CE : Addr} {cdg : Value} {q : Str} {m : List (Str × Const)} {k1 k2 k3 j1 j2 : Nat} {p1 p2 p3 p4 p5 p6 p7 p8 p9 p10 p11 p12 p13 p14 p15 p16 p17 p18 p19 p20 p21 : Pos} (hne : ((hearN.map fun n => (n == xe)).any id) = false) (hme : X.mg xe = some (.ref CE)) (hde : (xe == ("__debug__" : Str)) = false)
    (hsw1 : ∀ env : Env, swapsWithSole [.Tuple [.Name "caught" p1, .Name "told" p2] k1 p3] (.Tuple [.Constant .none j1 p4, .Constant .none j2 p5] k2 p6) p7.line env = pure false)
    (hsw2 : ∀ env : Env, swappedStores [.Tuple [.Name "caught" p1, .Name "told" p2] k1 p3] (.Tuple [.Constant .none j1 p4, .Constant .none j2 p5] k2 p6) env = pure none)
    (hsw3 : ∀ env : Env, swapsWith (.Call (.Name "call" p9) [] [] p10) (some (.Name "told" p8)) p11.line env = pure false) (hsw4 : ∀ env : Env, swapsWith (.Name "error" p14) (some (.Name "caught" p13)) p15.line env = pure false) :
    HearsTo X hearN x (hearS xe m) g cdg [.Assign [.Tuple [.Name "caught" p1, .Name "told" p2] k1 p3] (.Tuple [.Constant .none j1 p4, .Constant .none j2 p5] k2 p6) p7,
      .Try [.Assign [.Name "told" p8] (.Call (.Name "call" p9) [] [] p10) p11] [.ExceptHandler (some (.Name xe p12)) (some "error") [.Assign [.Name "caught" p13] (.Name "error" p14) p15] p16] [] [] p17,
      .Return (some (.Tuple [.Name "caught" p18, .Name "told" p19] k3 p20)) p21] "call" q (THear X.K CE) := by
  intro f c' s H Q tl act mono hc h
  have hgl : Gl (gotCx X hearN x (hearS xe m) g cdg s H).nox xe := by
    show List.lookup xe [(("call" : Str), NameKind.local), ("caught", .local), ("told", .local), ("error", .local), (xe, .globalImplicit)] = some .globalImplicit
    have n : ∀ y ∈ hearN, (xe == y) = false := fun y hy => by
      have := List.any_eq_false.mp hne (y == xe) (List.mem_map.mpr ⟨y, hy, rfl⟩)
      have : (y == xe) = false := by simpa using this
      exact beq_eq_false_iff_ne.mpr fun e => by rw [e] at this; simp at this
    simp only [List.lookup_cons, n "call" (by decide), n "caught" (by decide), n "told" (by decide), n "error" (by decide), beq_self_eq_true]
  have nd : hearN.Nodup := by decide
  refine ⟨_, pss_cons (ps_asg (pe_tup (pa_cons pe_non (pa_cons pe_non pa_nil))) (pg_tup rfl (pgs_cons (pg_name (i := 1) nd rfl (.inl rfl)) (pgs_cons (pg_name (i := 2) nd rfl (.inl rfl)) pgs_nil))) (hsw1 _) (hsw2 _))
    (pss_cons (ps_tryKeep (X := (gotCx X hearN x (hearS xe m) g cdg s H).nox) (c := .ref CE) (i := 3) (j := 1) (tb := fun W => tAsg (fun σZ HZ Q => σZ[0]? = some (some (.ref f)) ∧ HZ c' = some (CodeO c' q) ∧ tl (WE W σZ) HZ Q) (gName 2)) rfl rfl rfl nd rfl rfl rfl rfl (by decide) ⟨hgl, hde, .inl hme⟩ (by decide) (by decide) (hsw4 _)
      (fun W pn xe' tk _ => pss_one (ps_set (i := 2) nd rfl (.inl rfl) (act W pn xe' p9 p10 tk) (hsw3 _))))
    (pss_one (ps_ret (pe_tup (pa_cons (pv 1) (pa_cons (pv 2) pa_nil)))))), ?_⟩
  refine ⟨by show 2 ≤ sizeLine; decide, fun r hr => ⟨r, [.non, .non], rfl, SqT.of upd_same, rfl, .non, [.non], rfl, .non, [], rfl, rfl, ?_⟩⟩
  have h1 := h _ (same_new (o := .tup [.non, .non]) hr)
  refine ⟨rfl, (same_new hr) _ _ hc, ?_⟩
  refine mono _ _ _ _ _ ?_ ?_ h1
  · rintro cls d H' ⟨C, dx, rfl, rfl, he, q⟩
    refine ⟨C, dx, rfl, rfl, he, fun b hb => ⟨.ref b, rfl, .non, rfl, (by show 2 ≤ sizeLine; decide), fun r hr => ?_⟩⟩
    by_cases hrb : r = b
    · rw [hrb, upd_same] at hr
      cases hr
    · rw [upd_ne hrb] at hr
      exact q b r hb hrb hr
  · intro v H' q
    exact ⟨.non, rfl, v, rfl, (by show 2 ≤ sizeLine; decide), fun r hr => q r hr⟩
end
section
variable {G : Gx} {X : Cx} {W : WX} {Ex Ex' Ex1 : Addr → Prop} {σ σ1 : L2.St} {H H' H1 : Hp} {env env' env1 : Fm} {k : Nat} {gf : Bool} {pos p lpos : Pos}
theorem Po.mono {α β : Type} {rl : Rl α β} {W W' : WX} {r : Option (Rs α)} {Q Q' : β → Hp → Prop} (h : Po G W rl Ex σ H env r Q) (hW : ∀ c d H', W c d σ H' → W' c d σ H') (hQ : ∀ v H', Q v H' → Q' v H') : Po G W' rl Ex σ H env r Q' := by
  cases r with
  | none => exact h
  | some r =>
    cases r with
    | ok a e => exact fun Ex' H' b x s R q => hQ _ _ (h Ex' H' b x s R q)
    | er c d e => exact fun Ex' H' C dx v x s R h1 h2 h3 => hW _ _ _ (h Ex' H' C dx v x s R h1 h2 h3)
/-- only the tables of code objects have grown -/
theorem ext_tabs (e : ExtN H H1) (t : ∀ b, H b ≠ none → H1 b ≠ none) : Ext Ex σ H env Ex σ H1 env := ⟨fun a o h n _ => e a o h n, t, fun _ h => .inl h, fun _ h _ => h, fun _ h => .inl h, fun _ h => h⟩
theorem rep_tabs (R : Rep G Ex σ H env) (e : ExtN H H1) (t : Tabs G.T H1) : Rep G Ex σ H1 env :=
  ⟨R.len, fun i o s e1 e2 => SlIs.keep (fun a o h n _ => e a o h n) R.ex (fun _ h => .inl h) (fun a vs _ _ n h => ⟨n, e _ _ h (fun _ z => nomatch z)⟩) (R.sl i o s e1 e2), R.dj, fun a h => let ⟨xs, q⟩ := R.ex a h; ⟨xs, e _ _ q (fun _ z => nomatch z)⟩, t⟩
def evHeard (f : Ev D) : Ev D := fun env => match f env with
  | some (.ok d e) => some (.ok (.tup [.non, d]) e)
  | some (.er c d e) => some (.ok (.tup [.obj c [d], .non]) e)
  | none => none
/-- x(lambda: body), x the def that keeps the error -/
structure HearOk (G : Gx) (P : Program) (w : World) (K : PySem.W.Frag) (mg : Str → Option Value) (base : Heap) (x : Str) : Prop where
  go : ∃ (g CE : Addr) (oc : Value) (od : Option Addr) (pg : Arguments) (bg : List Stmt) (m : List (Str × Const)) (xe : Str) (kV doc pm cdv ct : Value) (an : Option Addr) (osl : Array (Option Value)), mg x = some (.ref g) ∧ PySem.W.keepIn K (.ref g) = true ∧
    K.lookup g = some ⟨oc, od, .func (PySem.W.fnOf x x pg bg (hearS xe m) .none kV doc pm an cdv ct), osl⟩ ∧ PySem.W.codeIn K cdv x = true ∧ (∀ us : List Value, us.length = 1 → bindArgs (PySem.W.fnOf x x pg bg (hearS xe m) .none kV doc pm an cdv ct) ⟨us, []⟩ = pure ((["call"] : List Str).zip us)) ∧
    (∀ (X : Cx) (q : Str), X.K = K → X.mg = mg → HearsTo X hearN x (hearS xe m) g cdv bg "call" q (THear K CE)) ∧ ∀ c C, G.cls c = some C → G.exc c = true → PySem.W.exmOne K (.ref C) (.ref CE) = some true
theorem de_heard {x : Str} {c P : Addr} {params : Arguments} {body : Expr} {scope : Scope} {f : Ev D} (xg : XG G gf k X) (hk : 3 ≤ k) (HO : HearOk G X.prog X.w X.K X.mg X.base x) (exc : ∀ c C, G.cls c = some C → C = C → G.exc c = true) (hg : Gl X x) (TB : TabB X.base X.mg c P) (hcode : X.env.code = .ref c)
    (hmT : (P, X.env.qual ++ "<lambda>") ∈ G.T) (hu : ∀ p ∈ G.T, p.1 = P → p.2 = X.env.qual ++ "<lambda>") (L : LamS X.env.scope scope) (hdef : defaultsOf params X.env = ([], [])) (hbind : ∀ (q : Str) (cl : List (Str × Addr)) (pm cv ctv : Value), bindArgs (PySem.W.kla_fn "<lambda>" q params body scope cl pm cv ctv) ⟨[], []⟩ = pure [])
    (hbody : ∀ (A : Around) (outer : List Env) (s : Shared) (H : Hp) (E : XK) (f' c' : Addr), XG G gf (k - 2) (lamCx X A outer s H E scope f' c') → DE G (lamCx X A outer s H E scope f' c') body f) (hdb : (x == ("__debug__" : Str)) = false := by decide) :
    DE G X (.Call (.Name x p) [.Lambda params body scope lpos] [] pos) (evHeard f) := by
  obtain ⟨g, CE, oc, od, pg, bg, m, xe, kV, doc, pm, cdv, ct, an, osl, h1, h2, h3, h4, h5, h6, h7⟩ := HO.go
  have room : Room (k - 2 + 2) X.A := xg.room.mono (by omega)
  refine ⟨fun W tk => pe_weak (pe_hears (k := k - 2) (T := G.T) (t := fun E => tX G (fun cls d _ H => E cls d H) (RD G) f) hg h1 h2 h3 h4 (.all h5) (hearSc xe m) rfl (.inl rfl) (h6 X _ rfl rfl) TB hcode hmT hu room L hdef hbind
    (fun A outer s H E f' c' hr hgd => (hbody A outer s H E f' c' ⟨xg.K, xg.nd, rfl, hr, fun z => hgd.trans (xg.gd z), xg.bl⟩).run _ (takes_of rfl rfl rfl rfl)) (fun E E' σ H Q Q' hE hQ ⟨Ex, env, R, q⟩ => ⟨Ex, env, R, q.mono (fun c d H' => hE c d H') hQ⟩) hdb (by decide) (by decide)) fun σ H Q ⟨Ex, env, R, p⟩ => ?_⟩
  refine ⟨R.tb, fun H1 eN T1 thr H2 sm => ?_⟩
  have x1 : Ext Ex σ H env Ex σ H1 env := ext_tabs eN thr
  have R1 := rep_tabs R eN T1
  have x2 := x1.trans R (Ext.grow sm)
  have R2 := R1.grow sm
  refine ⟨Ex, env, R2, ?_⟩
  unfold evHeard at p
  cases z : f env with
  | none => rw [z] at p; exact p.elim
  | some r =>
    rw [z] at p
    cases r with
    | ok d e =>
      intro Ex' H' b x' s' R' q r hr
      refine p Ex' _ _ ((x2.trans R x').trans R (Ext.grow (same_new hr))) s' (R'.grow (same_new hr)) ?_
      show Is G Ex' _ _ _
      unfold Is
      exact ⟨r, _, rfl, upd_same, Are.cons (by unfold Is; rfl) (Are.one (Is.grow R'.ex (same_new hr) q))⟩
    | er c d e =>
      intro Ex' H' C dx v x' s' R' hC hdx hv
      refine ⟨C, dx, rfl, rfl, h7 c C hC (exc c C hC rfl), fun b r hb hrb hr => ?_⟩
      have hr2 : upd H' b (ExcA C dx b) r = none := by rw [upd_ne hrb]; exact hr
      have s2 : Same H' (upd (upd H' b (ExcA C dx b)) r (.tup [.ref b, .non])) := (same_new hb).trans (same_new hr2)
      refine p Ex' _ _ ((x2.trans R x').trans R (Ext.grow s2)) s' (R'.grow s2) ?_
      show Is G Ex' _ _ _
      unfold Is
      refine ⟨r, _, rfl, upd_same, Are.cons ?_ (Are.one (by unfold Is; rfl))⟩
      unfold Is
      exact ⟨b, [v], rfl, ⟨C, hC, .inr ⟨exc c C hC rfl, dx, v, by rw [upd_ne (Ne.symm hrb), upd_same], s2 _ _ hdx, rfl⟩⟩, Are.one (Is.grow R'.ex s2 hv)⟩
end
end Nol

set_option Elab.async false
set_option linter.all false
set_option maxRecDepth 100000
set_option maxHeartbeats 4000000
/-! Nol, part U: a tuple turned round; list(range(n)); {}. -/
namespace Nol
open PySem PySem.Spec PyProof.Rows L2

theorem pick_all (l : List Value) : (List.range l.length).filterMap (fun m => l[m]?) = l := by
  induction l with
  | nil => rfl
  | cons x r ih =>
    rw [List.length_cons, List.range_succ_eq_map, List.filterMap_cons, List.filterMap_map]
    show x :: _ = _
    exact congrArg (x :: ·) ih
theorem fm_congr {α β : Type} {f g : α → Option β} : ∀ {l : List α}, (∀ x ∈ l, f x = g x) → l.filterMap f = l.filterMap g
  | [], _ => rfl
  | x :: r, h => by
    rw [List.filterMap_cons, List.filterMap_cons, h x List.mem_cons_self, fm_congr fun y hy => h y (List.mem_cons_of_mem _ hy)]
theorem pick_rev (its : List Value) : ((List.range its.length).filterMap fun (m : Nat) => its.toArray[(((its.length : Int) - 1) + (m : Int) * (-1)).toNat]?) = its.reverse := by
  have e : ∀ m ∈ List.range its.length, its.toArray[(((its.length : Int) - 1) + (m : Int) * (-1)).toNat]? = its.reverse[m]? := by
    intro m hm
    have hm : m < its.length := List.mem_range.mp hm
    have h1 : (((its.length : Int) - 1) + (m : Int) * (-1)).toNat = its.length - 1 - m := by omega
    rw [h1, List.getElem?_reverse hm, List.getElem?_toArray]
  rw [fm_congr e]
  have h2 := pick_all its.reverse
  rw [List.length_reverse] at h2
  exact h2
theorem rev_places (n : Nat) : Builtin.Slice.slicePlaces ((n : Int) - 1) (-1) (-1) = n := by
  unfold Builtin.Slice.slicePlaces
  rw [if_neg (by decide)]
  by_cases h : n = 0
  · subst h; rfl
  · rw [if_pos (by omega)]
    have : ((n : Int) - 1 - (-1) - 1) / (-(-1)) + 1 = n := by
      rw [show (-(-1) : Int) = 1 by decide, Int.ediv_one]
      omega
    rw [this]
    omega
section
variable {prog : Program} {w : World} {A : Around} {E : Value → Shared → Prop} {s : Shared}
theorem getItem_turned {t sl : Addr} {its : List Value} {vl vu vs : Value} {Q : Value → Shared → Prop} (ht : IsTup s.heap t its.toArray) (hs : s.heap.IsSliceOf sl vl vu vs) (pl : IsPart vl none) (pu : IsPart vu none) (ps : IsPart vs (some (-1)))
    (h : Q (.ref s.heap.objs.size) { s with heap := s.heap.push { cls := .type "tuple", data := .seq its.reverse.toArray } }) (hsz : its.length ≤ sizeLine) : wpAny (model prog w) A (getItem (.ref t) (.ref sl)) Q E s := by
  have big : sizeOk (.seq its.reverse.toArray) := by
    show its.reverse.toArray.size ≤ sizeLine
    rw [List.size_toArray, List.length_reverse]
    exact hsz
  obtain ⟨os, hos, hcs, hds⟩ := id hs
  have ty : s.TypeIs (.ref sl) "slice" := ⟨os, hos, hcs⟩
  unfold getItem
  try with_reducible refine wpAny_holding ?_
  first | refine wpAny_bind (wpAny_pure ?_) | skip
  refine wpAny_bind (wpAny_sequenceKey ht.typeIs (by decide) (wpAny_bind (wpAny_callSpecial?_slot (name := Str.ofString "__getitem__") ht.typeIs PyProof.Rows.slot_tuple_getitem
    (wpAny_call_entry PyProof.Rows.slot_tuple_getitem ht.typeIs entry_tuple_getitem ?_ (args_tuple_getitem _ _)))))
  show wpAny _ _ (Builtin.Tuple.tupleItemsOf (.ref t) >>= _) _ _ s
  refine wpAny_bind (tupleItemsOf_ ht (wpAny_bind (wpAny_typeOf ty ?_)))
  rw [if_pos (by decide)]
  have applied : ∀ {Q : Int × Int × Nat → Shared → Prop}, Q (((its.length : Nat) : Int) - 1, -1, its.length) s → wpAny (model prog w) A.in1 (Builtin.Slice.sliceApplied (.ref sl) (pure ((its.toArray.size : Nat) : Int))) Q E s := by
    intro Q q
    unfold Builtin.Slice.sliceApplied Builtin.Slice.sliceFields
    refine wpAny_bind (wpAny_bind (wpAny_field hos hds (x := vl) rfl (wpAny_bind (wpAny_field hos hds (x := vu) rfl (wpAny_bind (wpAny_field hos hds (x := vs) rfl (wpAny_pure ?_)))))))
    refine wpAny_bind (HT.slicePart_ ps ?_)
    show wpAny _ _ (if ((-1 : Int) == 0) = true then _ else _) _ _ s
    rw [if_neg (by decide)]
    refine wpAny_bind (HT.slicePart_ pl (wpAny_bind (HT.slicePart_ pu (wpAny_bind (wpAny_pure ?_)))))
    show wpAny _ _ (pure ((((its.toArray.size : Nat) : Int) - 1), (-1 : Int), Builtin.Slice.slicePlaces (((its.toArray.size : Nat) : Int) - 1) (-1) (-1))) _ _ s
    rw [rev_places, List.size_toArray]
    exact wpAny_pure q
  refine wpAny_bind (applied ?_)
  have no : ¬ (((((its.length : Nat) : Int) - 1) == 0 && (-1 : Int) == 1 && its.length == its.toArray.size) = true) := by simp
  show wpAny _ _ (if ((((its.length : Nat) : Int) - 1) == 0 && (-1 : Int) == 1 && its.length == its.toArray.size) = true then _ else _) _ _ s
  rw [if_neg no, pick_rev]
  first
    | exact wpAny_bind (m := Builtin.Tuple.tupleExact _) (wpAny_newObj_type (wpAny_pure ⟨_, rfl, wpAny_pure h⟩) big)
    | exact wpAny_bind (m := Builtin.Tuple.tupleExact _) (wpAny_newObj_type (wpAny_bind (wpAny_pure (wpAny_pure ⟨_, rfl, wpAny_pure h⟩))) big)
    | exact wpAny_bind (wpAny_bind (m := Builtin.Tuple.tupleExact _) (wpAny_newObj_type (wpAny_pure (wpAny_pure ⟨_, rfl, wpAny_pure h⟩)) big))
    | exact wpAny_bind (wpAny_bind (m := Builtin.Tuple.tupleExact _) (wpAny_newObj_type (wpAny_pure ⟨_, rfl, wpAny_pure h⟩) big))
end
section
variable {G : Gx} {X : Cx} {W : WX} {Ex Ex' Ex1 : Addr → Prop} {σ σ1 : L2.St} {H H' H1 : Hp} {env env' env1 : Fm} {k : Nat} {gf : Bool} {pos p p1 p2 p3 : Pos} {a e : Expr}
theorem pe_turned {te : TE} {j : Nat} (he : PE X e te) : PE X (.Subscript e (.Slice none none (some (.UnaryOp .USub (.Constant (.int 1) j p1) p2)) p3) pos) (fun σ H Q => te σ H fun x H1 => ∃ b xs, x = .ref b ∧ SqT X.K H1 b xs ∧ ∀ r, H1 r = none → Q (.ref r) (upd H1 r (.tup xs.reverse))) := by
  constructor
  intro pins s σ H Q I h
  refine Subscript_ (thn (he.run pins s σ H _ I h) ?_)
  rintro v s1 ⟨x, H1, I1, r1, b, xs, rfl, hx, q⟩
  cases r1
  have hst : PO X (some (.UnaryOp .USub (.Constant (.int 1) j p1) p2)) (tPart (tUn (rU fun i => .int (-i)) (tC (.int 1)))) := po_some (pe_un un_neg pe_int)
  refine wpAny_Slice (thn (po_none.run pins s1 σ H1 (fun o H2 => o = none ∧ H2 = H1) I1 ⟨rfl, rfl⟩) ?_)
  rintro vl s2 ⟨l, H2, I2, pl, rfl, e2⟩
  rw [e2] at I2
  refine thn (po_none.run pins s2 σ H1 (fun o H3 => o = none ∧ H3 = H1) I2 ⟨rfl, rfl⟩) ?_
  rintro vu s3 ⟨u, H3, I3, pu, rfl, e3⟩
  rw [e3] at I3
  refine thn (hst.run pins s3 σ H1 (fun o H4 => o = some (-1) ∧ H4 = H1) I3 ⟨1, rfl, -1, rfl, rfl, rfl⟩) ?_
  rintro vs s4 ⟨o, H4, I4, ps, rfl, e4⟩
  rw [e4] at I4
  have I5 : L2.Inv X pins σ H1 { s4 with heap := s4.heap.push { cls := .type "slice", data := .fields #[vl, vu, vs] } } := I4.kept (t' := s4.toks) (fun b ob q => Heap.get?_push_of_some _ q)
  obtain ⟨its, r, ht, hz⟩ := I5.tuple hx
  have hlen := r.length
  show wpAny (model X.prog X.w) X.A (subscriptTail e (.Slice none none (some (.UnaryOp .USub (.Constant (.int 1) j p1) p2)) p3) (.ref b) (.ref s4.heap.objs.size)) (EP X pins σ Q) X.xe { s4 with heap := s4.heap.push { cls := .type "slice", data := .fields #[vl, vu, vs] } }
  refine tail_any (ops := [.ref b, .ref s4.heap.objs.size]) ht.typeIs (PyProof.Rows.slot_tuple_getitem.lookup) ?_ (by with_unfolding_all rfl)
  refine getItem_turned ht (Heap.IsSliceOf.new _ vl vu vs) pl pu ps ?_ (by omega)
  refine ⟨.ref _, _, I5.laid (t' := s4.toks) (o := .tup xs.reverse) (fun b ob q => Heap.get?_push_of_some _ q) (Nat.le_refl _) ?_, rfl, q _ (I5.hok.fresh (Nat.le_refl _))⟩
  exact ⟨by rw [List.length_reverse]; exact hz, _, r.reverse, IsTup.new _ _⟩
def revD : D → Option FV
  | .tup ds => some (.d (.tup ds.reverse))
  | _ => none
theorem df_turned {f : Ev PV} {j : Nat} (hK : X.K = G.K) (ha : DP G X e f) : DF G X (.Subscript e (.Slice none none (some (.UnaryOp .USub (.Constant (.int 1) j p1) p2)) p3) pos) (ap1 revD f) := by
  refine ⟨fun W tk => pe_weak (pe_turned (ha.run W tk)) fun σ H Q h => ap1_ok (e := e) (r := fun x H1 Q => ∃ b xs, x = .ref b ∧ SqT X.K H1 b xs ∧ ∀ r, H1 r = none → Q (.ref r) (upd H1 r (.tup xs.reverse))) (fun Ex H d x Q hl h1 hy => ?_) h⟩
  cases d with
  | tup ds =>
    obtain ⟨b, vs, rfl, t, hr⟩ := h1.tup
    exact ⟨b, vs, rfl, by rw [hK]; exact t, fun r hn => Yl.tup hl hy hr.reverse hn⟩
  | _ => exact hy.elim
/-- list(range(n)) -/
def evLRng (f : Ev D) : Ev FV := fun env => bindR (f env) fun d env1 => match d with
  | .int j => if (0 ≤ j ∧ j ≤ 1000) then some (.ok (.fr (rngs 0 j.toNat)) env1) else none
  | _ => none
theorem are_rngs {j : Int} : Are G Ex H (rngs 0 j.toNat) (rgV 0 j) := by
  have e : rgV 0 j = ((List.range j.toNat).map fun (i : Nat) => (0 + (i : Int))).map V.int := by
    unfold rgV
    rw [List.map_map, Int.sub_zero]
    rfl
  have e2 : rngs 0 j.toNat = ((List.range j.toNat).map fun (i : Nat) => (0 + (i : Int))).map D.int := by
    unfold rngs
    rw [List.map_map]
    rfl
  rw [e, e2]
  exact are_ints _
theorem df_listRng {f : Ev D} (xg : XG G gf k X) (hgl : Gl X "list") (hgr : Gl X "range") (ha : DE G X a f) (na : starEach [a] X.env = (false, eval a X.env) :: starEach [] X.env := by rfl)
    (nb : starEach [.Call (.Name "range" p1) [a] [] p2] X.env = (false, eval (.Call (.Name "range" p1) [a] [] p2) X.env) :: starEach [] X.env := by rfl) : DF G X (.Call (.Name "list" p) [.Call (.Name "range" p1) [a] [] p2] [] pos) (evLRng f) := by
  refine ⟨fun W tk => pe_weak (pe_listRg xg.calm hgl (xg.bl _ (by decide)) (prg_1 hgr (xg.bl _ (by decide)) (ha.run W tk) na) nb) fun σ H Q ⟨Ex, env, R, p⟩ => ⟨Ex, env, R, Po.step stm_RF R p fun d env1 Ex1 H1 x _ xt sb R1 q p1 => ?_⟩⟩
  cases d with
  | int j =>
    have hx : x = .int j := by
      have q : Is G Ex1 H1 (.int j) x := q
      unfold Is at q
      exact q
    by_cases hj : 0 ≤ j ∧ j ≤ 1000
    · simp only [hj, if_true] at p1
      refine ⟨j, hx, ⟨by omega, by omega, by omega, by omega, by omega⟩, fun r hr => ?_⟩
      exact p1 (exAdd Ex1 r) _ _ (Ext.add (same_new hr) hr) (Sub.refl _) (R1.add (same_new hr) hr upd_same) ⟨r, _, rfl, hr, .inr rfl, upd_same, are_rngs⟩
    · simp only [hj, if_false] at p1
      exact p1.elim
  | _ => exact p1.elim
/-- {} -/
theorem de_dict0 : DE G X (.Dict [] [] pos) (fun env => some (.ok (.dct [] []) env)) := by
  refine ⟨fun W tk => pe_weak pe_dnewK fun σ H Q ⟨Ex, env, R, p⟩ r hr => ?_⟩
  refine p Ex _ _ (Ext.grow (same_new hr)) (Sub.refl _) (R.grow (same_new hr)) ?_
  show Is G Ex _ _ _
  unfold Is
  exact ⟨r, [], rfl, upd_same, rfl, Are.nil⟩
end
end Nol

set_option Elab.async false
set_option linter.all false
set_option maxRecDepth 100000
set_option maxHeartbeats 4000000
/-! Nol, part V: the join: facts of the top, put together. -/
namespace Nol
open PySem PySem.Spec PyProof.Rows L2
theorem sw_none {p1 p2 p3 p4 p5 p6 : Pos} {k1 k2 j1 j2 : Nat} {x y : Str} (env : Env) : swappedStores [.Tuple [.Name x p1, .Name y p2] k1 p3] (.Tuple [.Constant .none j1 p4, .Constant .none j2 p5] k2 p6) env = pure none := by
  have hf : ([.Constant .none j1 p4, .Constant .none j2 p5] : List Expr).all (foldedForSure 8) = true := rfl
  unfold swappedStores
  simp only [hf, if_true]
  split
  · rfl
  · split
    · rfl
    · split
      · rfl
      · rfl
section
variable {G : Gx} {P : Program} {w : World} {K : PySem.W.Frag} {mg : Str → Option Value} {base h : Heap} {k : Nat} {gf : Bool} {x : Str} {st : Stmt} {N ps : List Str} {fb : Sv}
/-- a def of the top, with its code object -/
structure DefAt (K : PySem.W.Frag) (mg : Str → Option Value) (x : Str) (st : Stmt) (cd : Value) : Prop where
  ex : ∃ (f : Addr) (oc : Value) (od : Option Addr) (kV doc pm : Value) (an : Option Addr) (ct : Value) (osl : Array (Option Value)),
    K.lookup f = some ⟨oc, od, .func (PySem.W.fnOf x x (defArgs st) (defBody st) (defScope st) .none kV doc pm an cd ct), osl⟩ ∧ PySem.W.codeIn K cd x = true ∧ PySem.W.keepIn K (.ref f) = true ∧ mg x = some (.ref f)
theorem defAt_mk {f : Addr} {oc : Value} {od an : Option Addr} {osl : Array (Option Value)} {kV doc pm cd ct : Value} (X : K.In h) (Gm : h.Ns mainGlobals mg) (a : PySem.W.nsIn K mainGlobals x = some (some (.ref f)))
    (l : K.lookup f = some ⟨oc, od, .func (PySem.W.fnOf x x (defArgs st) (defBody st) (defScope st) .none kV doc pm an cd ct), osl⟩) (c : PySem.W.codeIn K cd x = true) (k : PySem.W.keepIn K (.ref f) = true) : DefAt K mg x st cd :=
  ⟨f, oc, od, kV, doc, pm, an, ct, osl, l, c, k, PySem.W.mg_of X Gm a⟩
/-- the names of the builtins that the rules use are nobody's -/
def noneOf (K : PySem.W.Frag) : Bool := bnames.all fun y => decide (PySem.W.nsIn K mainGlobals y = some none)
theorem noneOf_ok (X : K.In h) (Gm : h.Ns mainGlobals mg) (e : noneOf K = true) : ∀ y : Str, y ∈ bnames → mg y = none := fun y hy =>
  PySem.W.mg_none_of X Gm (of_decide_eq_true (List.all_eq_true.mp e y hy))
/-- how a def of no defaults takes its arguments -/
structure Args0 (x : Str) (st : Stmt) (ps : List Str) : Prop where
  b : ∀ (kV doc pm : Value) (an : Option Addr) (cd ct : Value) (us : List Value), us.length = ps.length → bindArgs (PySem.W.fnOf x x (defArgs st) (defBody st) (defScope st) .none kV doc pm an cd ct) ⟨us, []⟩ = pure (ps.zip us)
  k : ∀ (kV doc pm : Value) (an : Option Addr) (cd ct : Value) (us : List Value), us.length = ps.length → bindArgs (PySem.W.fnOf x x (defArgs st) (defBody st) (defScope st) .none kV doc pm an cd ct) ⟨[], ps.zip us⟩ = pure (ps.zip us)
theorem DefAt.fun {cd : Value} (D : DefAt K mg x st cd) : ∃ f fd, Fun K x x st f fd ∧ fd.code = cd ∧ mg x = some (.ref f) ∧ ∃ (kV doc pm : Value) (an : Option Addr) (ct : Value), fd = PySem.W.fnOf x x (defArgs st) (defBody st) (defScope st) .none kV doc pm an cd ct := by
  obtain ⟨f, oc, od, kV, doc, pm, an, ct, osl, l, c, k, m⟩ := D.ex
  exact ⟨f, _, fun_mk l c k, rfl, m, kV, doc, pm, an, ct, rfl⟩
theorem DefAt.okP {cd : Value} (D : DefAt K mg x st cd) (A : Args0 x st ps) (S : FnScope N ps (defScope st)) (hK : K = G.K) (hbl : ∀ y : Str, y ∈ bnames → mg y = none) (hb : ∀ f fd, fd.code = cd → BodyIs G gf P w K mg base k f fd x st N fb) :
    DefOk gf P w K mg base (k + 1) x ps (spP G (runP N fb) ps.length) := by
  obtain ⟨f, fd, F, hc, m, kV, doc, pm, an, ct, rfl⟩ := D.fun
  exact ⟨f, _, fnP_ok F S hK hbl (hb f _ hc), m, F.kp, A.b kV doc pm an cd ct, A.k kV doc pm an cd ct⟩
theorem DefAt.okQ {cd : Value} (D : DefAt K mg x st cd) (A : Args0 x st ps) (S : FnScope N ps (defScope st)) (hK : K = G.K) (hbl : ∀ y : Str, y ∈ bnames → mg y = none) (hb : ∀ f fd, fd.code = cd → BodyIs G gf P w K mg base k f fd x st N fb) :
    DefOk gf P w K mg base (k + 1) x ps (spQ G (runQ N fb) ps.length) := by
  obtain ⟨f, fd, F, hc, m, kV, doc, pm, an, ct, rfl⟩ := D.fun
  exact ⟨f, _, fnQ_ok F S hK hbl (hb f _ hc), m, F.kp, A.b kV doc pm an cd ct, A.k kV doc pm an cd ct⟩
theorem DefOk.is {sp sp' : Sp} (D : DefOk gf P w K mg base k x ps sp) (e : sp = sp') : DefOk gf P w K mg base k x ps sp' := e ▸ D
/-- a def that is never called here -/
theorem sp_none {n : Nat} : ∀ vs H Q E, ¬ spQ G (fun _ _ => none) n vs H Q E := fun vs H Q E h => by
  obtain ⟨_, Ex, a, ps, pds, us, ds, r, _, _, _, _, _, _, _, hf, _⟩ := h
  cases hf
theorem DefAt.ok0 {cd : Value} (D : DefAt K mg x st cd) (A : Args0 x st ps) : DefOk gf P w K mg base 0 x ps (spQ G (fun _ _ => Option.none) ps.length) := by
  obtain ⟨f, fd, F, hc, m, kV, doc, pm, an, ct, rfl⟩ := D.fun
  exact ⟨f, _, ⟨fun vs H Q E h => h.1, fun A outer s H args us vs Q E _ _ _ _ _ h => (sp_none _ _ _ _ h).elim⟩, m, F.kp, A.b kV doc pm an cd ct, A.k kV doc pm an cd ct⟩
/-- an error's class of the top; D: the class whose __init__ it has -/
structure ErrAt (K : PySem.W.Frag) (mg : Str → Option Value) (x : Str) (C D fI : Addr) : Prop where
  m : mg x = some (.ref C)
  i : InitCl K D C
  f : PySem.W.findIn K (.ref C) "__init__" = some (some (.ref fI))
  t : PySem.W.typeIn K (.ref fI) = some (.type "function")
  xf : XfC K C
  v : PySem.W.findIn K (.ref C) "value" = some none
theorem errAt_mk {C D fI N' : Addr} {nm q : Str} {bs bm sub : List Value} {sn : List Str} {ab : Bool} {col : Option Bool} {dd : Option Addr} {k0 k1 k2 k3 k5 : Option Value} (X : K.In h) (Gm : h.Ns mainGlobals mg) (a : PySem.W.nsIn K mainGlobals x = some (some (.ref C)))
    (i : PySem.W.findIn K (.ref C) "__init__" = some (some (.ref fI))) (t : PySem.W.typeIn K (.ref fI) = some (.type "function")) (l : K.lookup C = some (excClassObj nm q C N' bs bm true sn sub ab col dd k0 k1 k2 k3 k5 "ValueError.__new__")) (rv : PySem.HandSPX.refsVE bm = true)
    (sa : PySem.W.findIn K (.ref C) "__setattr__" = some (some (.builtin "object.__setattr__"))) (exC : PySem.W.subIn K (.ref C) (.type "BaseException") = some true) (tyC : PySem.W.typeIn K (.ref C) = some (.type "type")) (kC : PySem.W.keepIn K (.ref C) = true)
    (su : PySem.W.mroIn K C (.ref D) = some true) (nx : PySem.W.ks_superIn K C D "__init__" = some (some (.builtin "ValueError.__init__"))) (ve : PySem.W.subIn K (.ref C) (.type "ValueError") = some true) (nv : PySem.W.findIn K (.ref C) "value" = some none)
    (ga : PySem.W.findIn K (.ref C) "__getattribute__" = some (some (.builtin "BaseException.__getattribute__"))) (gg : PySem.W.findIn K (.ref C) "__getattr__" = some none) (hd : PySem.W.hasDictIn K C = true) : ErrAt K mg x C D fI :=
  ⟨PySem.W.mg_of X Gm a, ⟨⟨⟨nm, q, N', bs, bm, sn, sub, ab, col, dd, k0, k1, k2, k3, k5, l, rv⟩, sa, exC, tyC, kC⟩, su, nx, ve, nv⟩, i, t, ⟨ga, gg, exC, hd⟩, nv⟩
/-- the text of that __init__, as far as it is the same for every world -/
structure InitAt (P : Program) (st : Stmt) (qual : Str) : Prop where
  args : (defArgs st).posonlyargs = [] ∧ ∃ a1 a2, (defArgs st).args = [a1, a2] ∧ a1.arg = "self"
  body : ∃ p0 p1 p2 p3 p4 p5 p6 p7 p8 p9, defBody st = [.Expr (.Call (.Attribute (.Call (.Name "super" p0) [] [] p1) "__init__" p2) [.Name "value" p3] [] p4) p5, .Assign [.Attribute (.Name "self" p6) "value" p7] (.Name "value" p8) p9] ∧
    ∀ env : Env, ∃ pl : Sem Bool, eval (.Call (.Attribute (.Call (.Name "super" p0) [] [] p1) "__init__" p2) [.Name "value" p3] [] p4) env = (do
      let ov ← attributeBase (.Call (.Name "super" p0) [] [] p1) "__init__" env (eval (.Call (.Name "super" p0) [] [] p1) env)
      standAt p2.atName
      let (f, first) ← holding [ov] (getMethod ov "__init__" pl)
      callWith p4 f first (backTo p4 (starEach [.Name "value" p3] env)) [])
  scope : (defScope st).kind = .function ∧ (defScope st).isCoroutine = false ∧ (defScope st).isGenerator = false ∧ (∀ x ∈ (defScope st).names, x.2 ≠ .cell) ∧ (∀ z, (defScope st).names.lookup z = some .free → z = ("__class__" : Str)) ∧ (defScope st).names.lookup ("self" : Str) = some .local ∧ (defScope st).names.lookup ("value" : Str) = some .local ∧
    (defScope st).names.lookup ("super" : Str) = some .globalImplicit ∧ (defScope st).names.lookup ("__class__" : Str) = some .free
  bind : ∀ (kV doc pm : Value) (an : Option Addr) (cdv ct : Value) (cc : Addr) (us : List Value), us.length = 2 → bindArgs (PySem.W.ksFn "__init__" qual (defArgs st) (defBody st) (defScope st) .none kV doc pm an cdv ct cc) ⟨us, []⟩ = pure ((["self", "value"] : List Str).zip us)
  top : (P.main.scope.names.lookup ("super" : Str)).isSome = false
theorem initTx_mk {D f cc cda : Addr} {oc kV doc pm ct ccl cl : Value} {od an cdd cld : Option Addr} {osl ccs csl : Array (Option Value)} {vs : Array Value} {file : Str} {tf : Tok} {qual : Str} {cd : ClassData} (X : K.In h) (Gm : h.Ns mainGlobals mg) (IT : InitAt P st qual)
    (l : K.lookup f = some ⟨oc, od, .func (PySem.W.ksFn "__init__" qual (defArgs st) (defBody st) (defScope st) .none kV doc pm an (.ref cda) ct cc), osl⟩) (c : PySem.W.codeIn K (.ref cda) qual = true) (lc : K.lookup cda = some ⟨ccl, cdd, .fields vs, ccs⟩) (v2 : vs[2]? = some (.str file tf)) (fl : ((P.main.file : Str) == file) = true)
    (lcc : K.lookup cc = some ⟨cl, cld, .cell (some (.ref D)), csl⟩) (cD : PySem.W.clsIn K D = some cd) (su : PySem.W.nsIn K mainGlobals "super" = some none) (th : PySem.W.nsIn K cStatics "thirdparty.any" = some none) :
    ∃ fd, InitTx P K mg D f fd st qual ∧ Binds K fd ["self", "value"] [] :=
  ⟨_, ⟨⟨oc, od, kV, doc, pm, an, ct, osl, cc, cda, rfl, l, c, ⟨ccl, cdd, vs, ccs, file, tf, lc, v2, fl⟩, cl, cld, csl, lcc⟩, IT.args, IT.body, IT.scope, IT.bind _ _ _ _ _ _ _, ⟨cd, cD⟩, PySem.W.mg_none_of X Gm su, IT.top, th⟩, Binds.all (IT.bind _ _ _ _ _ _ _)⟩
theorem ErrAt.ok {C D fI : Addr} {fd : FuncData} {qual : Str} (E : ErrAt K mg x C D fI) (T : InitTx P K mg D fI fd st qual) (B : Binds K fd ["self", "value"] []) (hC : G.cls x = some C) (hx : G.exc x = true) : ErrOk G P w K mg base x :=
  ⟨⟨C, D, fI, fd, hC, E.m, E.i, E.f, E.t, init_ok T, B, E.xf, E.v⟩, hx⟩
/-- the def that hears an error of the class at CE -/
theorem hearOk_of {xe : Str} {CE : Addr} {cd : Value} {m : List (Str × Const)} (D : DefAt K mg x st cd) (hs : defScope st = hearS xe m) (A : Args0 x st ["call"]) (hx : ∀ c C, G.cls c = some C → G.exc c = true → PySem.W.exmOne K (.ref C) (.ref CE) = some true)
    (hh : ∀ (X : Cx) (g : Addr) (q : Str), X.K = K → X.mg = mg → HearsTo X hearN x (hearS xe m) g cd (defBody st) "call" q (THear K CE)) : HearOk G P w K mg base x := by
  obtain ⟨f, oc, od, kV, doc, pm, an, ct, osl, l, c, k, mx⟩ := D.ex
  rw [hs] at l
  refine ⟨f, CE, oc, od, defArgs st, defBody st, m, xe, kV, doc, pm, cd, ct, an, osl, mx, k, l, c, fun us hu => ?_, fun X q h1 h2 => hh X f q h1 h2, hx⟩
  have := A.b kV doc pm an cd ct us hu
  rw [hs] at this
  exact this
/-- the law's own promise, where it answers True -/
theorem spP_law {f : List D → Option FR} {H : Hp} {a : Addr} {ns : List Int} (hf : f [.scr ns] = some (.ok (.d (.bl true)))) (hT : ∀ p ∈ G.T, H p.1 = some (.tbl #[])) (hK : K = G.K)
    (hS : (∃ o, H a = some (.frz o (.lst (ns.map V.int)))) ∨ ∃ (o : Obj) (its : Array Value) (m : Nat), K.lookup a = some o ∧ o.cls = .type "list" ∧ o.dict = none ∧ o.data = .seq its m ∧ its.size ≤ sizeLine ∧ Vals (ns.map V.int) its.toList) :
    spP G f 1 [.ref a] H (fun v _ => v = .bl true) fun _ _ _ => False := by
  subst hK
  refine ⟨rfl, fun _ => False, [.scr ns], _, fun p hp => ?_, fun _ z => z.elim, Are.one (by unfold Is; exact ⟨a, rfl, hS⟩), hf, fun Ex' H' _ _ v hv => ?_⟩
  · exact ⟨#[], hT p hp, trivial, fun pos cv h => by cases h⟩
  · unfold Is at hv
    exact hv
end
end Nol

set_option Elab.async false
set_option linter.all false
set_option maxRecDepth 100000
set_option maxHeartbeats 4000000
/-! k44: what each def performs, printed by gen44.py. -/
namespace Nol.K44
open PySem PySem.Spec PyProof.Rows L2 Nol
abbrev k_WIDTHS : Ev PV := fun env => some (.ok (.k [.int 2, .int 4, .int 8, .int 16]) env)
abbrev n_is_integer : List Str := ["value"]
def b_is_integer : Sv :=
 (svRet (fun env => asF ((evAnd (fun env => settle ((apE (isiD "int") (varE 0)) env)) (evNot (fun env => settle ((apE (isiD "bool") (varE 0)) env)))) env)))
def r_is_integer := runP n_is_integer b_is_integer
abbrev n_is_between : List Str := ["value", "least", "most"]
def b_is_between : Sv :=
 (svRet (fun env => asF ((evAnd (fun env => settle ((evCallP r_is_integer 1 (evCons (varE 0) evNil)) env)) (apC leD leD (varP 1) (varP 0) (varP 2))) env)))
def r_is_between := runP n_is_between b_is_between
abbrev n_are_numbers : List Str := ["value", "many", "number"]
def e_are_numbers_1 : Ev D :=
 (fun env => settle ((evCallP r_is_between 3 (evCons (varE 2) (evCons (evC (.int 0)) (evCons (evC (.int 999)) evNil)))) env))
def b_are_numbers : Sv :=
 (svSeq
  (svIf (evOrB (evNotB (evTest (fun env => asP ((fun env => settle ((apE (isiD "tuple") (varE 0)) env)) env)))) (evB fun env => settle ((ap2 neD (fun env => asP ((fun env => settle ((ap1 lenD (varP 0)) env)) env)) (varP 1)) env))) (svRet (fun env => asF ((evC (.bl false)) env))) svNil) (svRet (ap1 allD (fun env => asP ((fun env => settle ((evComp (evSeq true (varE 0)) (putN 2) (fun env => some (.ok true env)) e_are_numbers_1 [2]) env)) env)))))
def r_are_numbers := runP n_are_numbers b_are_numbers
abbrev n_check_four : List Str := ["a", "b", "c", "d", "some"]
def l_check_four_1 : Sv :=
 (svIf (evNotB (evTest (fun env => asP ((fun env => settle ((evCallP r_are_numbers 2 (evCons (varE 4) (evCons (fun env => settle ((ap1 lenD (varP 0)) env)) evNil))) env)) env)))) (svRaise "BadNumbers" (varE 4)) svNil)
def b_check_four : Sv :=
 (svSeq
  (svIf (evOrB (evNotB (evTest (fun env => asP ((fun env => settle ((apE (isiD "tuple") (varE 0)) env)) env)))) (evOrB (evB fun env => settle ((ap2 (inD true) (fun env => asP ((fun env => settle ((ap1 lenD (varP 0)) env)) env)) k_WIDTHS) env)) (evNotB (evTest (fun env => asP ((fun env => settle ((evCallP r_are_numbers 2 (evCons (varE 0) (evCons (fun env => settle ((ap1 lenD (varP 0)) env)) evNil))) env)) env)))))) (svRaise "BadNumbers" (varE 0)) svNil) (svFor (evSeq true (evTup (evCons (varE 1) (evCons (varE 2) (evCons (varE 3) evNil))))) (putN 4) l_check_four_1))
def r_check_four := runP n_check_four b_check_four
abbrev n_is_more : List Str := ["a", "b", "c", "d", "pair", "one", "other"]
def b_is_more : Sv :=
 (svSeq
  (svPut (putTup 2 (putCons (putN 5) (putCons (putN 6) putNil))) (varE 4)) (svRet (ap2 gtD (fun env => asP ((fun env => settle ((ap2E mulD (fun env => settle ((ap2 subsD (varP 0) (varP 5)) env)) (fun env => settle ((ap2 subsD (varP 1) (varP 6)) env))) env)) env)) (fun env => asP ((fun env => settle ((ap2E mulD (fun env => settle ((ap2 subsD (varP 2) (fun env => asP ((fun env => settle ((ap2 orD (varP 5) (varP 6)) env)) env))) env)) (fun env => settle ((ap2 subsD (varP 3) (fun env => asP ((fun env => settle ((ap2 andD (varP 5) (varP 6)) env)) env))) env))) env)) env)))))
def r_is_more := runP n_is_more b_is_more
abbrev n_fourfold : List Str := ["a", "b", "c", "d", "one", "other"]
def l_fourfold_1 : Sv :=
 (svIf (evTest (fun env => asP ((fun env => settle ((evCallP r_is_more 5 (evCons (varE 0) (evCons (varE 1) (evCons (varE 2) (evCons (varE 3) (evCons (evTup (evCons (varE 4) (evCons (varE 5) evNil))) evNil)))))) env)) env))) (svRet (fun env => asF ((evTup (evCons (evC (.str "fails")) (evCons (varE 4) (evCons (varE 5) evNil)))) env))) svNil)
def l_fourfold_2 : Sv :=
 (svFor (evRng1 (fun env => settle ((ap1 lenD (varP 0)) env))) (putN 5) l_fourfold_1)
def b_fourfold : Sv :=
 (svSeq
  (svDrop (evCallP r_check_four 4 (evCons (varE 0) (evCons (varE 1) (evCons (varE 2) (evCons (varE 3) evNil)))))) (svSeq
  (svFor (evRng1 (fun env => settle ((ap1 lenD (varP 0)) env))) (putN 4) l_fourfold_2) (svRet (fun env => asF ((evTup (evCons (evC (.str "holds")) evNil)) env)))))
def r_fourfold := runP n_fourfold b_fourfold
abbrev n_shows_fourfold : List Str := ["a", "b", "c", "d", "value", "bits"]
def e_shows_fourfold_1 : Ev D :=
 (fun env => settle ((evCallP r_is_between 3 (evCons (varE 5) (evCons (evC (.int 0)) (evCons (fun env => settle ((ap2 subD (fun env => asP ((fun env => settle ((ap1 lenD (varP 0)) env)) env)) (fun env => asP ((evC (.int 1)) env))) env)) evNil)))) env))
def b_shows_fourfold : Sv :=
 (svSeq
  (svDrop (evCallP r_check_four 4 (evCons (varE 0) (evCons (varE 1) (evCons (varE 2) (evCons (varE 3) evNil)))))) (svSeq
  (svIf (evOrB (evNotB (evTest (fun env => asP ((fun env => settle ((apE (isiD "tuple") (varE 4)) env)) env)))) (evOrB (evB fun env => settle ((ap2 (inD true) (fun env => asP ((fun env => settle ((ap1 lenD (varP 4)) env)) env)) (fun env => asP ((evTup (evCons (evC (.int 1)) (evCons (evC (.int 3)) evNil))) env))) env)) (evNotB (evTest (fun env => asP ((fun env => settle ((apE (isiD "str") (fun env => settle ((ap2 subsD (varP 4) (fun env => asP ((evC (.int 0)) env))) env))) env)) env)))))) (svRet (fun env => asF ((evC (.bl false)) env))) svNil) (svSeq
  (svIf (evB fun env => settle ((ap2 eqD (fun env => asP ((fun env => settle ((ap1 lenD (varP 4)) env)) env)) (fun env => asP ((evC (.int 1)) env))) env)) (svRet (fun env => asF ((evAnd (fun env => settle ((ap2 eqD (fun env => asP ((fun env => settle ((ap2 subsD (varP 4) (fun env => asP ((evC (.int 0)) env))) env)) env)) (fun env => asP ((evC (.str "holds")) env))) env)) (fun env => settle ((ap2 eqD (fun env => asP ((fun env => settle ((ap1 lenD (fun env => asP ((fun env => settle ((evCallP r_fourfold 4 (evCons (varE 0) (evCons (varE 1) (evCons (varE 2) (evCons (varE 3) evNil))))) env)) env))) env)) env)) (fun env => asP ((evC (.int 1)) env))) env))) env))) svNil) (svSeq
  (svIf (evOrB (evB fun env => settle ((ap2 neD (fun env => asP ((fun env => settle ((ap2 subsD (varP 4) (fun env => asP ((evC (.int 0)) env))) env)) env)) (fun env => asP ((evC (.str "fails")) env))) env)) (evNotB (evTest (fun env => asP ((fun env => settle ((ap1 allD (fun env => asP ((fun env => settle ((evComp (evSeq true (fun env => settle ((evSlice (varE 4) (evPart (evC (.int 1))) (fun env => some (.ok none env))) env))) (putN 5) (fun env => some (.ok true env)) e_shows_fourfold_1 [5]) env)) env))) env)) env))))) (svRet (fun env => asF ((evC (.bl false)) env))) svNil) (svRet (evCallP r_is_more 5 (evCons (varE 0) (evCons (varE 1) (evCons (varE 2) (evCons (varE 3) (evCons (fun env => settle ((evSlice (varE 4) (evPart (evC (.int 1))) (fun env => some (.ok none env))) env)) evNil)))))))))))
def r_shows_fourfold := runP n_shows_fourfold b_shows_fourfold
abbrev n__law_pot : List Str := ["script", "place", "cell", "own", "small"]
def b__law_pot : Sv :=
 (svSeq
  (svAsg 2 (evIf (evB fun env => settle ((ap2 ltD (varP 1) (fun env => asP ((fun env => settle ((ap1 lenD (varP 0)) env)) env))) env)) (ap2 subsD (varP 0) (varP 1)) (ap2E addD (fun env => settle ((ap2E addD (fun env => settle ((ap2 modD (fun env => asP ((fun env => settle ((ap1 sumD (fun env => asP ((fun env => settle ((evSlice (varE 0) (fun env => some (.ok none env)) (evPart (evC (.int 1)))) env)) env))) env)) env)) (fun env => asP ((evC (.int 1000003)) env))) env)) (fun env => settle ((ap2E mulD (evC (.int 24489)) (varE 1)) env))) env)) (evC (.int 7487))))) (svSeq
  (svAsg 3 (ap2E mulD (fun env => settle ((ap2 modD (fun env => asP ((fun env => settle ((ap1 intD (fun env => asP ((fun env => settle ((ap1 absD (varP 2)) env)) env))) env)) env)) (fun env => asP ((fun env => settle ((ap2 powD (fun env => asP ((fun env => settle ((ap2 powD (fun env => asP ((evC (.int 10)) env)) (fun env => asP ((evC (.int 60)) env))) env)) env)) (fun env => asP ((evC (.int 5)) env))) env)) env))) env)) (fun env => settle ((ap1 intD (fun env => asP ((fun env => settle ((ap2 geD (fun env => asP ((fun env => settle ((ap1 absD (varP 2)) env)) env)) (fun env => asP ((fun env => settle ((ap2 powD (fun env => asP ((evC (.int 10)) env)) (fun env => asP ((evC (.int 18)) env))) env)) env))) env)) env))) env)))) (svSeq
  (svAsg 4 (ap2 modD (fun env => asP ((fun env => settle ((ap1 intD (varP 2)) env)) env)) (fun env => asP ((evC (.int 2305843009213693951)) env)))) (svRet (evLst (evCons (varE 3) (evCons (fun env => settle ((ap2 modD (fun env => asP ((fun env => settle ((ap1 intD (fun env => asP ((fun env => settle ((ap2E addD (fun env => settle ((ap2E addD (fun env => settle ((ap2E mulD (varE 4) (evC (.int 107451))) env)) (fun env => settle ((ap2E mulD (fun env => settle ((ap2E mulD (evC (.int 20975)) (varE 1)) env)) (varE 1)) env))) env)) (evC (.int 9011))) env)) env))) env)) env)) (fun env => asP ((evC (.int 2305843009213693921)) env))) env)) (evCons (evC (.int 0)) evNil))))))))
def r__law_pot := runP n__law_pot b__law_pot
abbrev n__law_take : List Str := ["pot", "upto", "digit", "prime", "blend"]
def b__law_take : Sv :=
 (svSeq
  (svIf (evB fun env => settle ((ap2 gtD (fun env => asP ((fun env => settle ((ap2 subsD (varP 0) (fun env => asP ((evC (.int 0)) env))) env)) env)) (fun env => asP ((evC (.int 0)) env))) env)) (svSeq
  (svAsg 2 (ap2 modD (fun env => asP ((fun env => settle ((ap1 intD (fun env => asP ((fun env => settle ((ap2 subsD (varP 0) (fun env => asP ((evC (.int 0)) env))) env)) env))) env)) env)) (varP 1))) (svSeq
  (svSto 0 (evC (.int 0)) (fun env => settle ((ap2 fdivD (fun env => asP ((fun env => settle ((ap2 subsD (varP 0) (fun env => asP ((evC (.int 0)) env))) env)) env)) (varP 1)) env))) (svRetV 2))) svNil) (svSeq
  (svSto 0 (evC (.int 2)) (fun env => settle ((ap2E addD (fun env => settle ((ap2 subsD (varP 0) (fun env => asP ((evC (.int 2)) env))) env)) (evC (.int 1))) env))) (svSeq
  (svAsg 3 (ap2 subsD (fun env => asP ((fun env => settle ((evLst (evCons (evC (.int 2147483647)) (evCons (evC (.int 2147483629)) (evCons (evC (.int 2147483587)) (evCons (evC (.int 2147483579)) (evCons (evC (.int 2147483563)) evNil)))))) env)) env)) (fun env => asP ((fun env => settle ((ap2 modD (fun env => asP ((fun env => settle ((ap1 intD (fun env => asP ((fun env => settle ((ap2 subsD (varP 0) (fun env => asP ((evC (.int 2)) env))) env)) env))) env)) env)) (fun env => asP ((evC (.int 5)) env))) env)) env)))) (svSeq
  (svAsg 4 (ap2 modD (fun env => asP ((fun env => settle ((ap1 intD (fun env => asP ((fun env => settle ((ap2 powD (fun env => asP ((fun env => settle ((ap1 intD (fun env => asP ((fun env => settle ((ap2E addD (fun env => settle ((ap2E addD (fun env => settle ((ap2 subsD (varP 0) (fun env => asP ((evC (.int 1)) env))) env)) (fun env => settle ((ap2E mulD (fun env => settle ((ap2E mulD (evC (.int 115235)) (fun env => settle ((ap2 subsD (varP 0) (fun env => asP ((evC (.int 2)) env))) env))) env)) (fun env => settle ((ap2 subsD (varP 0) (fun env => asP ((evC (.int 2)) env))) env))) env))) env)) (evC (.int 4753))) env)) env))) env)) env)) (fun env => asP ((evC (.int 3)) env))) env)) env))) env)) env)) (varP 3))) (svSeq
  (svAsg 4 (ap2 modD (fun env => asP ((fun env => settle ((ap1 intD (fun env => asP ((fun env => settle ((ap2E mulD (varE 4) (fun env => settle ((ap2E addD (fun env => settle ((ap2 modD (fun env => asP ((fun env => settle ((ap1 intD (varP 4)) env)) env)) (fun env => asP ((evC (.int 25185)) env))) env)) (fun env => settle ((ap2E mulD (evC (.int 2837)) (fun env => settle ((ap2 subsD (varP 0) (fun env => asP ((evC (.int 2)) env))) env))) env))) env))) env)) env))) env)) env)) (fun env => asP ((evC (.int 2305843009213693907)) env)))) (svRet (ap2 modD (fun env => asP ((fun env => settle ((ap1 intD (fun env => asP ((fun env => settle ((ap2 fdivD (varP 4) (fun env => asP ((evC (.int 7087)) env))) env)) env))) env)) env)) (varP 1))))))))
def r__law_take := runQ n__law_take b__law_take
abbrev n__law_of : List Str := ["pot", "some"]
def b__law_of : Sv :=
 (svRet (ap2 subsD (varP 1) (fun env => asP ((fun env => settle ((evCallQ 0 r__law_take 2 (evCons (fun env => settle ((ap1 lenD (varP 1)) env)) evNil)) env)) env))))
def r__law_of := runQ n__law_of b__law_of
abbrev n__law_cells : List Str := ["script", "most"]
def b__law_cells : Sv :=
 (svRet (evLRng (fun env => settle ((ap2E max2D (evC (.int 1)) (fun env => settle ((ap2E min2D (varE 1) (fun env => settle ((ap1 lenD (varP 0)) env))) env))) env))))
def r__law_cells := runP n__law_cells b__law_cells
abbrev n__law_bent : List Str := ["pot", "value", "at", "some"]
def b__law_bent (rec : List D → List D → Option (FR × List D)) : Sv :=
 (svSeq
  (svIf (evAndB (evTest (fun env => asP ((fun env => settle ((apE (isiD "tuple") (varE 1)) env)) env))) (evAndB (evB fun env => settle ((ap2 neD (varP 1) (fun env => asP ((evTup evNil) env))) env)) (evB fun env => settle ((ap2 gtD (fun env => asP ((fun env => settle ((evCallQ 0 r__law_take 2 (evCons (evC (.int 5)) evNil)) env)) env)) (fun env => asP ((evC (.int 0)) env))) env)))) (svSeq
  (svAsg 2 (evCallQ 0 r__law_take 2 (evCons (fun env => settle ((ap1 lenD (varP 1)) env)) evNil))) (svRet (ap2E addD (fun env => settle ((ap2E addD (fun env => settle ((evSlice (varE 1) (fun env => some (.ok none env)) (evPart (varE 2))) env)) (evTup (evCons (fun env => settle ((evCallQ 0 rec 2 (evCons (fun env => settle ((ap2 subsD (varP 1) (varP 2)) env)) evNil)) env)) evNil))) env)) (fun env => settle ((evSlice (varE 1) (evPart (fun env => settle ((ap2E addD (varE 2) (evC (.int 1))) env))) (fun env => some (.ok none env))) env))))) svNil) (svSeq
  (svIf (evTest (fun env => asP ((fun env => settle ((apE (isiD "tuple") (varE 1)) env)) env))) (svRet (evCallQ 0 r__law_of 2 (evCons (fun env => settle ((evLst (evCons (fun env => settle ((ap1 listD (varP 1)) env)) (evCons (fun env => settle ((evSlice (varE 1) (evPart (evC (.int 1))) (fun env => some (.ok none env))) env)) (evCons (fun env => settle ((ap2E addD (varE 1) (fun env => settle ((evSlice (varE 1) (evPart (fun env => settle ((ap1 negD (fun env => asP ((evC (.int 1)) env))) env))) (fun env => some (.ok none env))) env))) env)) (evCons (fun env => settle ((ap1 revD (varP 1)) env)) (evCons (evTup evNil) (evCons (evC .non) (evCons (fun env => settle ((ap2E addD (varE 1) (evTup (evCons (evC (.str "a")) evNil))) env)) evNil)))))))) env)) evNil))) svNil) (svSeq
  (svIf (evTest (fun env => asP ((fun env => settle ((apE (isiD "int") (varE 1)) env)) env))) (svRet (evCallQ 0 r__law_of 2 (evCons (fun env => settle ((evLst (evCons (fun env => settle ((ap1 intD (fun env => asP ((fun env => settle ((ap2E addD (varE 1) (evC (.int 1))) env)) env))) env)) (evCons (fun env => settle ((ap1 intD (fun env => asP ((fun env => settle ((ap2 subD (varP 1) (fun env => asP ((evC (.int 1)) env))) env)) env))) env)) (evCons (fun env => settle ((ap2 eqD (varP 1) (fun env => asP ((evC (.int 1)) env))) env)) (evCons (fun env => settle ((ap1 strD (varP 1)) env)) (evCons (evC .non) (evCons (evC (.int 0)) (evCons (fun env => settle ((evLst (evCons (varE 1) evNil)) env)) evNil)))))))) env)) evNil))) svNil) (svSeq
  (svAsg 3 (evLst (evCons (evC .non) (evCons (evC (.int 0)) (evCons (evC (.str "a")) (evCons (evC (.str "b")) (evCons (evC (.str "c1")) (evCons (evC (.str "club")) (evCons (evC (.str "a")) (evCons (evC (.str "b")) (evCons (evC (.str "member")) (evCons (evC (.str "a")) (evCons (evC (.str "b")) (evCons (evC (.str "club")) (evCons (evC (.str "")) evNil))))))))))))))) (svRet (evCallQ 0 r__law_of 2 (evCons (fun env => settle ((ap2E addD (varE 3) (fun env => settle ((evLst (evCons (fun env => settle ((evLst (evCons (varE 1) evNil)) env)) (evCons (fun env => some (.ok (.dct [] []) env)) (evCons (evTup (evCons (varE 1) evNil)) (evCons (evTup (evCons (fun env => settle ((evLst (evCons (varE 1) evNil)) env)) evNil)) evNil))))) env))) env)) evNil)))))))
def r__law_bent : Nat → List D → List D → Option (FR × List D)
  | 0 => fun _ _ => none
  | m + 1 => runQ n__law_bent (b__law_bent (r__law_bent m))
abbrev n__law_bad : List Str := ["a", "b", "c", "d", "found", "one", "other"]
def l__law_bad_1 : Sv :=
 (svDrop (evWr 4 (fun env => settle ((evIf (evB fun env => settle ((ap2 gtD (fun env => asP ((fun env => settle ((ap2E mulD (fun env => settle ((ap2 subsD (varP 0) (varP 5)) env)) (fun env => settle ((ap2 subsD (varP 1) (varP 6)) env))) env)) env)) (fun env => asP ((fun env => settle ((ap2E mulD (fun env => settle ((ap2 subsD (varP 2) (fun env => asP ((fun env => settle ((ap2 orD (varP 5) (varP 6)) env)) env))) env)) (fun env => settle ((ap2 subsD (varP 3) (fun env => asP ((fun env => settle ((ap2 andD (varP 5) (varP 6)) env)) env))) env))) env)) env))) env)) (evLst (evCons (evTup (evCons (varE 5) (evCons (varE 6) evNil))) evNil)) (evLst evNil)) env)) extendG))
def l__law_bad_2 : Sv :=
 (svFor (evRng1 (fun env => settle ((ap1 lenD (varP 0)) env))) (putN 6) l__law_bad_1)
def b__law_bad : Sv :=
 (svSeq
  (svAsg 4 (evLst evNil)) (svSeq
  (svFor (evRng1 (fun env => settle ((ap1 lenD (varP 0)) env))) (putN 5) l__law_bad_2) (svRetV 4)))
def r__law_bad := runP n__law_bad b__law_bad
abbrev n__law_numbers : List Str := ["pot", "many", "most", "lap"]
def e__law_numbers_1 : Ev D :=
 (fun env => settle ((ap1 intD (fun env => asP ((fun env => settle ((evCallQ 0 r__law_take 2 (evCons (varE 2) evNil)) env)) env))) env))
def b__law_numbers : Sv :=
 (svRet (apE tupleD (fun env => settle ((evComp (evRng1 (varE 1)) (putN 3) (fun env => some (.ok true env)) e__law_numbers_1 [3]) env))))
def r__law_numbers := runQ n__law_numbers b__law_numbers
abbrev n__law_drawn : List Str := ["pot", "many", "way", "a", "b", "one", "c", "d", "other", "worth"]
def e__law_drawn_1 : Ev D :=
 (fun env => settle ((ap1 intD (fun env => asP ((fun env => settle ((ap2 gtD (varP 5) (fun env => asP ((evC (.int 1)) env))) env)) env))) env))
def e__law_drawn_2 : Ev D :=
 (fun env => settle ((ap1 intD (fun env => asP ((fun env => settle ((ap2 gtD (varP 5) (fun env => asP ((evC (.int 1)) env))) env)) env))) env))
def l__law_drawn_3 : Sv :=
 (svSeq
  (svAsg 9 (ap2E mulD (fun env => settle ((ap2 subsD (varP 3) (varP 5)) env)) (fun env => settle ((ap2 subsD (varP 4) (varP 8)) env)))) (svIf (evB fun env => settle ((ap2 gtD (varP 9) (fun env => asP ((evC (.int 0)) env))) env)) (svSeq
  (svSto 6 (fun env => settle ((ap2 orD (varP 5) (varP 8)) env)) (fun env => settle ((ap2E max2D (fun env => settle ((ap2 subsD (varP 6) (fun env => asP ((fun env => settle ((ap2 orD (varP 5) (varP 8)) env)) env))) env)) (fun env => settle ((evIf (evB fun env => settle ((ap2 gtD (varP 2) (fun env => asP ((evC (.int 1)) env))) env)) (fun env => asF ((varE 9) env)) (fun env => asF ((evC (.int 1)) env))) env))) env))) (svSto 7 (fun env => settle ((ap2 andD (varP 5) (varP 8)) env)) (fun env => settle ((ap2E max2D (fun env => settle ((ap2 subsD (varP 7) (fun env => asP ((fun env => settle ((ap2 andD (varP 5) (varP 8)) env)) env))) env)) (fun env => settle ((evIf (evB fun env => settle ((ap2 ltD (varP 2) (fun env => asP ((evC (.int 3)) env))) env)) (fun env => asF ((evC (.int 1)) env)) (fun env => asF ((varE 9) env))) env))) env)))) svNil))
def l__law_drawn_4 : Sv :=
 (svFor (evRng1 (varE 1)) (putN 8) l__law_drawn_3)
def e__law_drawn_5 : Ev D :=
 (fun env => settle ((ap2E min2D (evC (.int 999)) (fun env => settle ((ap2E addD (fun env => settle ((ap1 maxD (varP 7)) env)) (varE 5)) env))) env))
def e__law_drawn_6 : Ev D :=
 (fun env => settle ((ap1 intD (varP 5)) env))
def e__law_drawn_7 : Ev D :=
 (fun env => settle ((ap1 intD (varP 5)) env))
def b__law_drawn : Sv :=
 (svSeq
  (svPar 1 2 (evCallQ 0 r__law_of 2 (evCons (fun env => settle ((evLst (evCons (evC (.int 2)) (evCons (evC (.int 4)) (evCons (evC (.int 8)) (evCons (evC (.int 16)) evNil))))) env)) evNil)) (evCallQ 0 r__law_take 2 (evCons (evC (.int 4)) evNil))) (svSeq
  (svPar 3 4 (evCallQ 0 r__law_numbers 3 (evCons (varE 1) (evCons (evC (.int 4)) evNil))) (evCallQ 0 r__law_numbers 3 (evCons (varE 1) (evCons (evC (.int 4)) evNil)))) (svSeq
  (svIf (evB fun env => settle ((ap2 eqD (varP 2) (fun env => asP ((evC (.int 0)) env))) env)) (svRet (fun env => asF ((evTup (evCons (varE 3) (evCons (varE 4) (evCons (fun env => settle ((evCallQ 0 r__law_numbers 3 (evCons (varE 1) (evCons (evC (.int 9)) evNil))) env)) (evCons (fun env => settle ((evCallQ 0 r__law_numbers 3 (evCons (varE 1) (evCons (evC (.int 9)) evNil))) env)) evNil))))) env))) svNil) (svSeq
  (svIf (evB fun env => settle ((ap2 eqD (varP 2) (fun env => asP ((evC (.int 1)) env))) env)) (svPar 3 4 (apE tupleD (fun env => settle ((evComp (evSeq true (varE 3)) (putN 5) (fun env => some (.ok true env)) e__law_drawn_1 [5]) env))) (apE tupleD (fun env => settle ((evComp (evSeq true (varE 4)) (putN 5) (fun env => some (.ok true env)) e__law_drawn_2 [5]) env)))) svNil) (svSeq
  (svPar 6 7 (ap2E mulD (fun env => settle ((evLst (evCons (evC (.int 0)) evNil)) env)) (varE 1)) (ap2E mulD (fun env => settle ((evLst (evCons (evC (.int 0)) evNil)) env)) (varE 1))) (svSeq
  (svFor (evRng1 (varE 1)) (putN 5) l__law_drawn_4) (svSeq
  (svIf (evB fun env => settle ((ap2 gtD (varP 2) (fun env => asP ((evC (.int 1)) env))) env)) (svAsg 7 (evComp (evSeq false (varE 7)) (putN 5) (fun env => some (.ok true env)) e__law_drawn_5 [5])) svNil) (svRet (fun env => asF ((evTup (evCons (varE 3) (evCons (varE 4) (evCons (fun env => settle ((apE tupleD (fun env => settle ((evComp (evSeq false (varE 6)) (putN 5) (fun env => some (.ok true env)) e__law_drawn_7 [5]) env))) env)) (evCons (fun env => settle ((apE tupleD (fun env => settle ((evComp (evSeq false (varE 7)) (putN 5) (fun env => some (.ok true env)) e__law_drawn_6 [5]) env))) env)) evNil))))) env))))))))))
def r__law_drawn := runQ n__law_drawn b__law_drawn
abbrev n__law_right : List Str := ["pot", "a", "b", "c", "d", "bad", "told", "values", "lap", "value", "due", "one", "other", "odd", "some", "first", "part", "caught"]
def l__law_right_1 : Sv :=
 (svDrop (evWr 7 (evTup (evCons (evC (.str "fails")) (evCons (fun env => settle ((ap1 intD (fun env => asP ((fun env => settle ((evCallQ 0 r__law_take 2 (evCons (fun env => settle ((ap1 lenD (varP 1)) env)) evNil)) env)) env))) env)) (evCons (fun env => settle ((ap1 intD (fun env => asP ((fun env => settle ((evCallQ 0 r__law_take 2 (evCons (fun env => settle ((ap1 lenD (varP 1)) env)) evNil)) env)) env))) env)) evNil)))) appendG))
def e__law_right_2 : Ev D :=
 (fun env => settle ((evCallQ 0 (r__law_bent 2) 2 (evCons (varE 6) evNil)) env))
def e__law_right_3 : Ev D :=
 (fun env => settle ((apE reprD (evTup (evCons (evC (.str "fails")) (evCons (varE 11) (evCons (varE 12) evNil))))) env))
def l__law_right_4 : Sv :=
 (svSeq
  (svAsg 10 (fun env => asF ((evAnd (fun env => settle ((ap2 eqD (fun env => asP ((fun env => settle ((apE reprD (varE 9)) env)) env)) (fun env => asP ((fun env => settle ((apE reprD (evTup (evCons (evC (.str "holds")) evNil))) env)) env))) env)) (fun env => settle ((ap2 eqD (varP 5) (fun env => asP ((fun env => settle ((evLst evNil) env)) env))) env))) env))) (svSeq
  (svAsg 10 (fun env => asF ((evOr (varE 10) (fun env => settle ((ap2 (inD false) (fun env => asP ((fun env => settle ((apE reprD (varE 9)) env)) env)) (fun env => asP ((fun env => settle ((evComp (evSeq false (varE 5)) (putTup 2 (putCons (putN 11) (putCons (putN 12) putNil))) (fun env => some (.ok true env)) e__law_right_3 [11, 12]) env)) env))) env))) env))) (svIf (evB fun env => settle ((ap2 neD (fun env => asP ((fun env => settle ((apE reprD (fun env => settle ((evCallP r_shows_fourfold 5 (evCons (varE 1) (evCons (varE 2) (evCons (varE 3) (evCons (varE 4) (evCons (varE 9) evNil)))))) env))) env)) env)) (fun env => asP ((fun env => settle ((apE reprD (varE 10)) env)) env))) env)) (svRet (fun env => asF ((evC (.bl false)) env))) svNil)))
def e__law_right_5 : Ev D :=
 (varE 16)
def t__law_right_6 : Ev Bool :=
 (evB fun env => settle ((ap2 eqD (fun env => asP ((fun env => settle ((apE reprD (varE 16)) env)) env)) (fun env => asP ((fun env => settle ((apE reprD (varE 13)) env)) env))) env))
def h__law_right_7 : Ev D :=
 (fun env => settle ((evCallP r_fourfold 4 (evCons (fun env => settle ((ap2 subsD (varP 11) (fun env => asP ((evC (.int 0)) env))) env)) (evCons (fun env => settle ((ap2 subsD (varP 11) (fun env => asP ((evC (.int 1)) env))) env)) (evCons (fun env => settle ((ap2 subsD (varP 11) (fun env => asP ((evC (.int 2)) env))) env)) (evCons (fun env => settle ((ap2 subsD (varP 11) (fun env => asP ((evC (.int 3)) env))) env)) evNil))))) env))
def h__law_right_8 : Ev D :=
 (fun env => settle ((evCallP r_shows_fourfold 5 (evCons (fun env => settle ((ap2 subsD (varP 11) (fun env => asP ((evC (.int 0)) env))) env)) (evCons (fun env => settle ((ap2 subsD (varP 11) (fun env => asP ((evC (.int 1)) env))) env)) (evCons (fun env => settle ((ap2 subsD (varP 11) (fun env => asP ((evC (.int 2)) env))) env)) (evCons (fun env => settle ((ap2 subsD (varP 11) (fun env => asP ((evC (.int 3)) env))) env)) (evCons (evC .non) evNil)))))) env))
def l__law_right_9 : Sv :=
 (svSeq
  (svAsg 15 (ap2 subsD (fun env => asP ((fun env => settle ((evComp (evSeq true (varE 11)) (putN 16) t__law_right_6 e__law_right_5 [16]) env)) env)) (fun env => asP ((evC (.int 0)) env)))) (svSeq
  (svAsg 17 (ap2 subsD (fun env => asP ((evHeard h__law_right_7) env)) (fun env => asP ((evC (.int 0)) env)))) (svSeq
  (svIf (evOrB (evNotB (evTest (fun env => asP ((fun env => settle ((apE (isErr "BadNumbers") (varE 17)) env)) env)))) (evB fun env => settle ((ap2 neD (fun env => asP ((fun env => settle ((apE reprD (fun env => settle ((apE (valErr "BadNumbers") (varE 17)) env))) env)) env)) (fun env => asP ((fun env => settle ((apE reprD (varE 15)) env)) env))) env))) (svRet (fun env => asF ((evC (.bl false)) env))) svNil) (svSeq
  (svAsg 17 (ap2 subsD (fun env => asP ((evHeard h__law_right_8) env)) (fun env => asP ((evC (.int 0)) env)))) (svIf (evOrB (evNotB (evTest (fun env => asP ((fun env => settle ((apE (isErr "BadNumbers") (varE 17)) env)) env)))) (evB fun env => settle ((ap2 neD (fun env => asP ((fun env => settle ((apE reprD (fun env => settle ((apE (valErr "BadNumbers") (varE 17)) env))) env)) env)) (fun env => asP ((fun env => settle ((apE reprD (varE 15)) env)) env))) env))) (svRet (fun env => asF ((evC (.bl false)) env))) svNil)))))
def b__law_right : Sv :=
 (svSeq
  (svPut (putTup 4 (putCons (putN 1) (putCons (putN 2) (putCons (putN 3) (putCons (putN 4) putNil))))) (fun env => settle ((evCallQ 0 r__law_drawn 1 evNil) env))) (svSeq
  (svPar 5 6 (evCallP r__law_bad 4 (evCons (varE 1) (evCons (varE 2) (evCons (varE 3) (evCons (varE 4) evNil))))) (evCallP r_fourfold 4 (evCons (varE 1) (evCons (varE 2) (evCons (varE 3) (evCons (varE 4) evNil)))))) (svSeq
  (svIf (evB fun env => settle ((ap2 eqD (varP 5) (fun env => asP ((fun env => settle ((evLst evNil) env)) env))) env)) (svIf (evOrB (evB fun env => settle ((ap2 neD (fun env => asP ((fun env => settle ((apE reprD (varE 6)) env)) env)) (fun env => asP ((fun env => settle ((apE reprD (evTup (evCons (evC (.str "holds")) evNil))) env)) env))) env)) (evB fun env => settle ((ap2 gtD (fun env => asP ((fun env => settle ((ap2E mulD (fun env => settle ((ap1 sumD (varP 1)) env)) (fun env => settle ((ap1 sumD (varP 2)) env))) env)) env)) (fun env => asP ((fun env => settle ((ap2E mulD (fun env => settle ((ap1 sumD (varP 3)) env)) (fun env => settle ((ap1 sumD (varP 4)) env))) env)) env))) env))) (svRet (fun env => asF ((evC (.bl false)) env))) svNil) (svIf (evOrB (evB fun env => settle ((ap2 neD (fun env => asP ((fun env => settle ((ap2 subsD (varP 6) (fun env => asP ((evC (.int 0)) env))) env)) env)) (fun env => asP ((evC (.str "fails")) env))) env)) (evB fun env => settle ((ap2 (inD true) (fun env => asP ((evTup (evCons (fun env => settle ((ap2 subsD (varP 6) (fun env => asP ((evC (.int 1)) env))) env)) (evCons (fun env => settle ((ap2 subsD (varP 6) (fun env => asP ((evC (.int 2)) env))) env)) evNil))) env)) (varP 5)) env))) (svRet (fun env => asF ((evC (.bl false)) env))) svNil)) (svSeq
  (svAsg 7 (evLst (evCons (varE 6) (evCons (fun env => settle ((ap1 revD (varP 6)) env)) (evCons (fun env => settle ((ap1 listD (varP 6)) env)) (evCons (evTup (evCons (evC (.str "holds")) evNil)) (evCons (evTup (evCons (evC (.str "fails")) (evCons (evC (.int 0)) (evCons (evC (.int 0)) evNil)))) (evCons (evTup (evCons (evC (.str "fails")) (evCons (fun env => settle ((ap1 lenD (varP 1)) env)) (evCons (evC (.int 0)) evNil)))) (evCons (fun env => settle ((evSlice (varE 6) (fun env => some (.ok none env)) (evPart (evC (.int 1)))) env)) (evCons (evC .non) (evCons (evTup evNil) evNil))))))))))) (svSeq
  (svFor (evRng1 (evC (.int 8))) (putN 8) l__law_right_1) (svSeq
  (svFor (evSeq false (fun env => settle ((ap2E addD (varE 7) (fun env => settle ((evComp (evRng1 (evC (.int 6))) (putN 8) (fun env => some (.ok true env)) e__law_right_2 [8]) env))) env))) (putN 9) l__law_right_4) (svSeq
  (svAsg 13 (evLst (evCons (evC .non) (evCons (evTup evNil) (evCons (fun env => settle ((ap1 listD (varP 1)) env)) (evCons (fun env => settle ((ap2E addD (fun env => settle ((evSlice (varE 1) (fun env => some (.ok none env)) (evPart (fun env => settle ((ap1 negD (fun env => asP ((evC (.int 1)) env))) env)))) env)) (evTup (evCons (fun env => settle ((ap1 negD (fun env => asP ((evC (.int 1)) env))) env)) evNil))) env)) (evCons (fun env => settle ((ap2E addD (fun env => settle ((evSlice (varE 1) (fun env => some (.ok none env)) (evPart (fun env => settle ((ap1 negD (fun env => asP ((evC (.int 1)) env))) env)))) env)) (evTup (evCons (evC (.int 1000)) evNil))) env)) (evCons (fun env => settle ((ap2E addD (fun env => settle ((evSlice (varE 1) (fun env => some (.ok none env)) (evPart (fun env => settle ((ap1 negD (fun env => asP ((evC (.int 1)) env))) env)))) env)) (evTup (evCons (evC (.bl true)) evNil))) env)) (evCons (fun env => settle ((ap2E addD (varE 1) (evTup (evCons (evC (.int 1)) evNil))) env)) (evCons (fun env => settle ((ap2E mulD (evTup (evCons (evC (.str "1")) evNil)) (fun env => settle ((ap1 lenD (varP 1)) env))) env)) evNil)))))))))) (svSeq
  (svAsg 13 (evCallQ 0 r__law_of 2 (evCons (varE 13) evNil))) (svSeq
  (svAsg 14 (evLst (evCons (evTup (evCons (varE 13) (evCons (varE 2) (evCons (varE 3) (evCons (varE 4) evNil))))) (evCons (evTup (evCons (varE 1) (evCons (varE 13) (evCons (varE 13) (evCons (varE 4) evNil))))) (evCons (evTup (evCons (varE 1) (evCons (varE 2) (evCons (varE 13) (evCons (varE 13) evNil))))) (evCons (evTup (evCons (varE 1) (evCons (varE 2) (evCons (varE 3) (evCons (varE 13) evNil))))) evNil)))))) (svSeq
  (svFor (evSeq false (varE 14)) (putN 11) l__law_right_9) (svRet (fun env => asF ((evC (.bl true)) env)))))))))))))
def r__law_right := runQ n__law_right b__law_right
abbrev n_law : List Str := ["script", "place", "pot", "lap"]
def e_law_1 : Ev D :=
 (fun env => settle ((evCallQ 2 r__law_right 1 evNil) env))
def l_law_2 : Sv :=
 (svSeq
  (svAsg 2 (evCallP r__law_pot 2 (evCons (varE 0) (evCons (varE 1) evNil)))) (svIf (evNotB (evTest (fun env => asP ((fun env => settle ((ap1 allD (fun env => asP ((fun env => settle ((evComp (evRng1 (evC (.int 6))) (putN 3) (fun env => some (.ok true env)) e_law_1 [3]) env)) env))) env)) env)))) (svRet (fun env => asF ((evC (.bl false)) env))) svNil))
def b_law : Sv :=
 (svSeq
  (svFor (evSeq false (fun env => settle ((evCallP r__law_cells 2 (evCons (varE 0) (evCons (evC (.int 2)) evNil))) env))) (putN 1) l_law_2) (svRet (fun env => asF ((evC (.bl true)) env))))
def r_law := runP n_law b_law
end Nol.K44

set_option Elab.async false
set_option linter.all false
set_option maxRecDepth 100000
set_option maxHeartbeats 4000000
/-! k44: the walk, printed by gen44.py. -/
namespace Nol.K44
open PySem PySem.Spec PyProof.Rows L2 Nol
def topS (i : Nat) : Stmt := PySem.Challenge.pw_nolotmore_k44_whole_four_numbers.main.body.getD i (.Pass ⟨0, 0, 0, 0⟩)
abbrev s_is_integer : Stmt := topS 4
abbrev s_is_between : Stmt := topS 5
abbrev s_are_numbers : Stmt := topS 11
abbrev s_check_four : Stmt := topS 12
abbrev s_is_more : Stmt := topS 13
abbrev s_fourfold : Stmt := topS 14
abbrev s_shows_fourfold : Stmt := topS 15
abbrev s__law_pot : Stmt := topS 17
abbrev s__law_take : Stmt := topS 18
abbrev s__law_of : Stmt := topS 19
abbrev s__law_cells : Stmt := topS 20
abbrev s__law_bent : Stmt := topS 21
abbrev s__law_bad : Stmt := topS 22
abbrev s__law_numbers : Stmt := topS 23
abbrev s__law_drawn : Stmt := topS 24
abbrev s__law_right : Stmt := topS 26
abbrev s_law : Stmt := topS 27
section
variable {G : Gx} {P : Program} {w : World} {K : PySem.W.Frag} {mg : Str → Option Value} {base : Heap}
theorem w_is_integer {f : Addr} {fd : FuncData}  (hK : K = G.K) : BodyIs G false P w K mg base 0 f fd "is_integer" s_is_integer n_is_integer b_is_integer :=
  fun cdv A outer s H E hcd xg =>
    (dss_one (ds_ret (df_of (de_and (de_of (df_isi (T := "int") xg rfl rfl rfl (xg.bl _ (by decide)) (de_var (pv 0)))) (de_one (de_not (de_of (df_isi (T := "bool") xg rfl rfl rfl (xg.bl _ (by decide)) (de_var (pv 0))))))))))
theorem w_is_between {f : Addr} {fd : FuncData} (d_is_integer : DefOk false P w K mg base 1 "is_integer" ["value"] (spP G r_is_integer 1)) (hK : K = G.K) : BodyIs G false P w K mg base 1 f fd "is_between" s_is_between n_is_between b_is_between :=
  fun cdv A outer s H E hcd xg =>
    (dss_one (ds_ret (df_of (de_and (de_of (df_callP d_is_integer xg (by omega) (fun h => nomatch h) rfl (da_cons (de_var (pv 0)) da_nil))) (de_one (de_ck2 ck_le ck_le (dp_var (pv 1)) (dp_var (pv 0)) (dp_var (pv 2))))))))
theorem w_are_numbers {f : Addr} {fd : FuncData} (d_is_between : DefOk false P w K mg base 2 "is_between" ["value", "least", "most"] (spP G r_is_between 3)) {t_M : Tok} (c_MOST_NUMBER : mg "MOST_NUMBER" = some (.int 999 t_M)) (hK : K = G.K) : BodyIs G false P w K mg base 2 f fd "are_numbers" s_are_numbers n_are_numbers b_are_numbers :=
  fun cdv A outer s H E hcd xg =>
    (dss_cons
      (ds_if (dt_of (dw_or (dt_not (dt_val xg (dp_of (de_of (df_isi (T := "tuple") xg rfl rfl rfl (xg.bl _ (by decide)) (de_var (pv 0))))))) (dw_or1 (dt_ck (ck_ne xg) (dp_of (de_of (df_callB (ck_len xg.K) rfl (xg.bl _ (by decide)) rfl (dp_var (pv 0))))) (dp_var (pv 1)) (by with_unfolding_all rfl))))) (dss_one (ds_ret (df_of de_bl))) dss_nil) (dss_one (ds_ret (df_callB (ck_all xg) rfl (xg.bl _ (by decide)) rfl (dp_of (de_of (df_comp_tup xg (de_var (pv 0)) (blkOk_by (own := [(("number" : Str), 2)]) (show blkC n_are_numbers (defScope s_are_numbers) _ _ = true from by decide +kernel)) (by decide) (fun _ _ _ _ _ => (dg_name (xg.blk _ _ _ _ _) rfl (.inl rfl))) (fun _ _ _ _ _ => dts_nil) (fun _ _ _ _ _ => (de_of (df_callP d_is_between (xg.blk _ _ _ _ _) (by omega) (fun h => nomatch h) rfl (da_cons (de_var (pv 2)) (da_cons de_int (da_cons (de_globI rfl c_MOST_NUMBER) da_nil)))))))))))))
theorem w_check_four {f : Addr} {fd : FuncData} (d_are_numbers : DefOk false P w K mg base 3 "are_numbers" ["value", "many"] (spP G r_are_numbers 2)) (c_WIDTHS : ∀ {X : Cx} {pos : Pos}, X.K = K → X.mg = mg → Gl X "WIDTHS" → DP G X (.Name "WIDTHS" pos) k_WIDTHS) (e_BadNumbers : ErrOk G P w K mg base "BadNumbers") (hK : K = G.K) : BodyIs G false P w K mg base 3 f fd "check_four" s_check_four n_check_four b_check_four :=
  fun cdv A outer s H E hcd xg =>
    (dss_cons
      (ds_if (dt_of (dw_or (dt_not (dt_val xg (dp_of (de_of (df_isi (T := "tuple") xg rfl rfl rfl (xg.bl _ (by decide)) (de_var (pv 0))))))) (dw_or (dt_ck (ck_notIn xg) (dp_of (de_of (df_callB (ck_len xg.K) rfl (xg.bl _ (by decide)) rfl (dp_var (pv 0))))) (c_WIDTHS rfl rfl rfl) (by with_unfolding_all rfl)) (dw_or1 (dt_not (dt_val xg (dp_of (de_of (df_callP d_are_numbers xg (by omega) (fun h => nomatch h) rfl (da_cons (de_var (pv 0)) (da_cons (de_of (df_callB (ck_len xg.K) rfl (xg.bl _ (by decide)) rfl (dp_var (pv 0)))) da_nil))))))))))) (dss_one (ds_raise xg (by omega) e_BadNumbers rfl (de_var (pv 0)))) dss_nil) (dss_one (ds_for_tup xg (passes_of rfl) (de_tup (da_cons (de_var (pv 1)) (da_cons (de_var (pv 2)) (da_cons (de_var (pv 3)) da_nil)))) (dg_name xg rfl (.inl rfl)) (dss_one (ds_if (dt_not (dt_val xg (dp_of (de_of (df_callP d_are_numbers xg (by omega) (fun h => nomatch h) rfl (da_cons (de_var (pv 4)) (da_cons (de_of (df_callB (ck_len xg.K) rfl (xg.bl _ (by decide)) rfl (dp_var (pv 0)))) da_nil))))))) (dss_one (ds_raise xg (by omega) e_BadNumbers rfl (de_var (pv 4)))) dss_nil)))))
theorem w_is_more {f : Addr} {fd : FuncData}  (hK : K = G.K) : BodyIs G false P w K mg base 0 f fd "is_more" s_is_more n_is_more b_is_more :=
  fun cdv A outer s H E hcd xg =>
    (dss_cons
      (ds_put (dg_tup xg (dgs_cons (dg_name xg rfl (.inl rfl)) (dgs_cons (dg_name xg rfl (.inl rfl)) dgs_nil))) (de_var (pv 4))) (dss_one (ds_ret (df_ck ck_gt (dp_of (de_of (df_mul xg (de_of (df_sub_ix xg (dp_var (pv 0)) (dp_var (pv 5)))) (de_of (df_sub_ix xg (dp_var (pv 1)) (dp_var (pv 6))))))) (dp_of (de_of (df_mul xg (de_of (df_sub_ix xg (dp_var (pv 2)) (dp_of (de_of (df_or (dp_var (pv 5)) (dp_var (pv 6))))))) (de_of (df_sub_ix xg (dp_var (pv 3)) (dp_of (de_of (df_and (dp_var (pv 5)) (dp_var (pv 6)))))))))) (by with_unfolding_all rfl)))))
theorem w_fourfold {f : Addr} {fd : FuncData} (d_check_four : DefOk false P w K mg base 4 "check_four" ["a", "b", "c", "d"] (spP G r_check_four 4)) (d_is_more : DefOk false P w K mg base 1 "is_more" ["a", "b", "c", "d", "pair"] (spP G r_is_more 5)) {t_HOLDS : Tok} (c_HOLDS : mg "HOLDS" = some (.str "holds" t_HOLDS)) {t_FAILS : Tok} (c_FAILS : mg "FAILS" = some (.str "fails" t_FAILS)) (hK : K = G.K) : BodyIs G false P w K mg base 4 f fd "fourfold" s_fourfold n_fourfold b_fourfold :=
  fun cdv A outer s H E hcd xg =>
    (dss_cons
      (ds_expr (df_callP d_check_four xg (by omega) (fun h => nomatch h) rfl (da_cons (de_var (pv 0)) (da_cons (de_var (pv 1)) (da_cons (de_var (pv 2)) (da_cons (de_var (pv 3)) da_nil)))))) (dss_cons
      (ds_for_rng1 xg (passes_of rfl) rfl (de_of (df_callB (ck_len xg.K) rfl (xg.bl _ (by decide)) rfl (dp_var (pv 0)))) (dg_name xg rfl (.inl rfl)) (dss_one (ds_for_rng1 xg (passes_of rfl) rfl (de_of (df_callB (ck_len xg.K) rfl (xg.bl _ (by decide)) rfl (dp_var (pv 0)))) (dg_name xg rfl (.inl rfl)) (dss_one (ds_if (dt_val xg (dp_of (de_of (df_callP d_is_more xg (by omega) (fun h => nomatch h) rfl (da_cons (de_var (pv 0)) (da_cons (de_var (pv 1)) (da_cons (de_var (pv 2)) (da_cons (de_var (pv 3)) (da_cons (de_tup (da_cons (de_var (pv 4)) (da_cons (de_var (pv 5)) da_nil))) da_nil))))))))) (dss_one (ds_ret (df_of (de_tup (da_cons (de_globS rfl c_FAILS) (da_cons (de_var (pv 4)) (da_cons (de_var (pv 5)) da_nil))))))) dss_nil))))) (dss_one (ds_ret (df_of (de_tup (da_cons (de_globS rfl c_HOLDS) da_nil)))))))
theorem w_shows_fourfold {f : Addr} {fd : FuncData} (d_is_between : DefOk false P w K mg base 2 "is_between" ["value", "least", "most"] (spP G r_is_between 3)) (d_check_four : DefOk false P w K mg base 4 "check_four" ["a", "b", "c", "d"] (spP G r_check_four 4)) (d_is_more : DefOk false P w K mg base 1 "is_more" ["a", "b", "c", "d", "pair"] (spP G r_is_more 5)) (d_fourfold : DefOk false P w K mg base 5 "fourfold" ["a", "b", "c", "d"] (spP G r_fourfold 4)) {t_HOLDS : Tok} (c_HOLDS : mg "HOLDS" = some (.str "holds" t_HOLDS)) {t_FAILS : Tok} (c_FAILS : mg "FAILS" = some (.str "fails" t_FAILS)) (hK : K = G.K) : BodyIs G false P w K mg base 5 f fd "shows_fourfold" s_shows_fourfold n_shows_fourfold b_shows_fourfold :=
  fun cdv A outer s H E hcd xg =>
    (dss_cons
      (ds_expr (df_callP d_check_four xg (by omega) (fun h => nomatch h) rfl (da_cons (de_var (pv 0)) (da_cons (de_var (pv 1)) (da_cons (de_var (pv 2)) (da_cons (de_var (pv 3)) da_nil)))))) (dss_cons
      (ds_if (dt_of (dw_or (dt_not (dt_val xg (dp_of (de_of (df_isi (T := "tuple") xg rfl rfl rfl (xg.bl _ (by decide)) (de_var (pv 4))))))) (dw_or (dt_ck (ck_notIn xg) (dp_of (de_of (df_callB (ck_len xg.K) rfl (xg.bl _ (by decide)) rfl (dp_var (pv 4))))) (dp_of (de_tup (da_cons de_int (da_cons de_int da_nil)))) (by with_unfolding_all rfl)) (dw_or1 (dt_not (dt_val xg (dp_of (de_of (df_isi (T := "str") xg rfl rfl rfl (xg.bl _ (by decide)) (de_of (df_sub_ix xg (dp_var (pv 4)) (dp_of de_int)))))))))))) (dss_one (ds_ret (df_of de_bl))) dss_nil) (dss_cons
      (ds_if (dt_ck (ck_eq xg) (dp_of (de_of (df_callB (ck_len xg.K) rfl (xg.bl _ (by decide)) rfl (dp_var (pv 4))))) (dp_of de_int) (by with_unfolding_all rfl)) (dss_one (ds_ret (df_of (de_and (de_of (df_ck (ck_eq xg) (dp_of (de_of (df_sub_ix xg (dp_var (pv 4)) (dp_of de_int)))) (dp_of (de_globS rfl c_HOLDS)) (by with_unfolding_all rfl))) (de_one (de_of (df_ck (ck_eq xg) (dp_of (de_of (df_callB (ck_len xg.K) rfl (xg.bl _ (by decide)) rfl (dp_of (de_of (df_callP d_fourfold xg (by omega) (fun h => nomatch h) rfl (da_cons (de_var (pv 0)) (da_cons (de_var (pv 1)) (da_cons (de_var (pv 2)) (da_cons (de_var (pv 3)) da_nil)))))))))) (dp_of de_int) (by with_unfolding_all rfl)))))))) dss_nil) (dss_cons
      (ds_if (dt_of (dw_or (dt_ck (ck_ne xg) (dp_of (de_of (df_sub_ix xg (dp_var (pv 4)) (dp_of de_int)))) (dp_of (de_globS rfl c_FAILS)) (by with_unfolding_all rfl)) (dw_or1 (dt_not (dt_val xg (dp_of (de_of (df_callB (ck_all xg) rfl (xg.bl _ (by decide)) rfl (dp_of (de_of (df_comp_tup xg (de_of (df_slice xg (de_var (pv 4)) (do_some de_int) do_none)) (blkOk_by (own := [(("bits" : Str), 5)]) (show blkC n_shows_fourfold (defScope s_shows_fourfold) _ _ = true from by decide +kernel)) (by decide) (fun _ _ _ _ _ => (dg_name (xg.blk _ _ _ _ _) rfl (.inl rfl))) (fun _ _ _ _ _ => dts_nil) (fun _ _ _ _ _ => (de_of (df_callP d_is_between (xg.blk _ _ _ _ _) (by omega) (fun h => nomatch h) rfl (da_cons (de_var (pv 5)) (da_cons de_int (da_cons (de_of (df_sub (dp_of (de_of (df_callB (ck_len (xg.blk _ _ _ _ _).K) rfl ((xg.blk _ _ _ _ _).bl _ (by decide)) rfl (dp_var (pv 0))))) (dp_of de_int))) da_nil))))))))))))))))) (dss_one (ds_ret (df_of de_bl))) dss_nil) (dss_one (ds_ret (df_callP d_is_more xg (by omega) (fun h => nomatch h) rfl (da_cons (de_var (pv 0)) (da_cons (de_var (pv 1)) (da_cons (de_var (pv 2)) (da_cons (de_var (pv 3)) (da_cons (de_of (df_slice xg (de_var (pv 4)) (do_some de_int) do_none)) da_nil))))))))))))
theorem w__law_pot {f : Addr} {fd : FuncData}  (hK : K = G.K) : BodyIs G false P w K mg base 0 f fd "_law_pot" s__law_pot n__law_pot b__law_pot :=
  fun cdv A outer s H E hcd xg =>
    (dss_cons
      (ds_asg xg rfl (.inl rfl) (df_if (dt_ck ck_lt (dp_var (pv 1)) (dp_of (de_of (df_callB (ck_len xg.K) rfl (xg.bl _ (by decide)) rfl (dp_var (pv 0))))) (by with_unfolding_all rfl)) (df_sub_ix xg (dp_var (pv 0)) (dp_var (pv 1))) (df_add xg (de_of (df_add xg (de_of (df_mod (dp_of (de_of (df_callB (ck_sum xg) rfl (xg.bl _ (by decide)) rfl (dp_of (de_of (df_slice xg (de_var (pv 0)) do_none (do_some de_int))))))) (dp_of de_int))) (de_of (df_mul xg de_int (de_var (pv 1)))))) de_int))) (dss_cons
      (ds_asg xg rfl (.inl rfl) (df_mul xg (de_of (df_mod (dp_of (de_of (df_callT ck_int rfl (xg.bl _ (by decide)) rfl (dp_of (de_of (df_callB ck_abs rfl (xg.bl _ (by decide)) rfl (dp_var (pv 2)))))))) (dp_of (de_of (df_pow (dp_of (de_of (df_pow (dp_of de_int) (dp_of de_int)))) (dp_of de_int)))))) (de_of (df_callT ck_int rfl (xg.bl _ (by decide)) rfl (dp_of (de_of (df_ck ck_ge (dp_of (de_of (df_callB ck_abs rfl (xg.bl _ (by decide)) rfl (dp_var (pv 2))))) (dp_of (de_of (df_pow (dp_of de_int) (dp_of de_int)))) (by with_unfolding_all rfl)))))))) (dss_cons
      (ds_asg xg rfl (.inl rfl) (df_mod (dp_of (de_of (df_callT ck_int rfl (xg.bl _ (by decide)) rfl (dp_var (pv 2))))) (dp_of de_int))) (dss_one (ds_ret (df_lst (da_cons (de_var (pv 3)) (da_cons (de_of (df_mod (dp_of (de_of (df_callT ck_int rfl (xg.bl _ (by decide)) rfl (dp_of (de_of (df_add xg (de_of (df_add xg (de_of (df_mul xg (de_var (pv 4)) de_int)) (de_of (df_mul xg (de_of (df_mul xg de_int (de_var (pv 1)))) (de_var (pv 1)))))) de_int)))))) (dp_of de_int))) (da_cons de_int da_nil)))))))))
theorem w__law_take {f : Addr} {fd : FuncData}  (hK : K = G.K) : BodyIs G false P w K mg base 0 f fd "_law_take" s__law_take n__law_take b__law_take :=
  fun cdv A outer s H E hcd xg =>
    (dss_cons
      (ds_if (dt_ck ck_gt (dp_of (de_of (df_sub_ix xg (dp_var (pv 0)) (dp_of de_int)))) (dp_of de_int) (by with_unfolding_all rfl)) (dss_cons
      (ds_asg xg rfl (.inl rfl) (df_mod (dp_of (de_of (df_callT ck_int rfl (xg.bl _ (by decide)) rfl (dp_of (de_of (df_sub_ix xg (dp_var (pv 0)) (dp_of de_int))))))) (dp_var (pv 1)))) (dss_cons
      (ds_sto (pv 0) de_int (de_of (df_fdiv (dp_of (de_of (df_sub_ix xg (dp_var (pv 0)) (dp_of de_int)))) (dp_var (pv 1))))) (dss_one (ds_retV (pv 2))))) dss_nil) (dss_cons
      (ds_sto (pv 0) de_int (de_of (df_add xg (de_of (df_sub_ix xg (dp_var (pv 0)) (dp_of de_int))) de_int))) (dss_cons
      (ds_asg xg rfl (.inl rfl) (df_sub_ix xg (dp_of (de_of (df_lst (da_cons de_int (da_cons de_int (da_cons de_int (da_cons de_int (da_cons de_int da_nil)))))))) (dp_of (de_of (df_mod (dp_of (de_of (df_callT ck_int rfl (xg.bl _ (by decide)) rfl (dp_of (de_of (df_sub_ix xg (dp_var (pv 0)) (dp_of de_int))))))) (dp_of de_int)))))) (dss_cons
      (ds_asg xg rfl (.inl rfl) (df_mod (dp_of (de_of (df_callT ck_int rfl (xg.bl _ (by decide)) rfl (dp_of (de_of (df_pow (dp_of (de_of (df_callT ck_int rfl (xg.bl _ (by decide)) rfl (dp_of (de_of (df_add xg (de_of (df_add xg (de_of (df_sub_ix xg (dp_var (pv 0)) (dp_of de_int))) (de_of (df_mul xg (de_of (df_mul xg de_int (de_of (df_sub_ix xg (dp_var (pv 0)) (dp_of de_int))))) (de_of (df_sub_ix xg (dp_var (pv 0)) (dp_of de_int))))))) de_int)))))) (dp_of de_int))))))) (dp_var (pv 3)))) (dss_cons
      (ds_asg xg rfl (.inl rfl) (df_mod (dp_of (de_of (df_callT ck_int rfl (xg.bl _ (by decide)) rfl (dp_of (de_of (df_mul xg (de_var (pv 4)) (de_of (df_add xg (de_of (df_mod (dp_of (de_of (df_callT ck_int rfl (xg.bl _ (by decide)) rfl (dp_var (pv 4))))) (dp_of de_int))) (de_of (df_mul xg de_int (de_of (df_sub_ix xg (dp_var (pv 0)) (dp_of de_int))))))))))))) (dp_of de_int))) (dss_one (ds_ret (df_mod (dp_of (de_of (df_callT ck_int rfl (xg.bl _ (by decide)) rfl (dp_of (de_of (df_fdiv (dp_var (pv 4)) (dp_of de_int))))))) (dp_var (pv 1))))))))))
theorem w__law_of {f : Addr} {fd : FuncData} (d__law_take : DefOk false P w K mg base 1 "_law_take" ["pot", "upto"] (spQ G r__law_take 2)) (hK : K = G.K) : BodyIs G false P w K mg base 1 f fd "_law_of" s__law_of n__law_of b__law_of :=
  fun cdv A outer s H E hcd xg =>
    (dss_one (ds_ret (df_sub_ix xg (dp_var (pv 1)) (dp_of (de_of (df_callQ d__law_take xg (by omega) (fun h => nomatch h) rfl (pv 0) (da_cons (de_of (df_callB (ck_len xg.K) rfl (xg.bl _ (by decide)) rfl (dp_var (pv 1)))) da_nil)))))))
theorem w__law_cells {f : Addr} {fd : FuncData}  (hK : K = G.K) : BodyIs G false P w K mg base 0 f fd "_law_cells" s__law_cells n__law_cells b__law_cells :=
  fun cdv A outer s H E hcd xg =>
    (dss_one (ds_ret (df_listRng xg rfl rfl (de_of (df_callB2 (ck_max2 xg.calm) rfl (xg.bl _ (by decide)) rfl de_int (de_of (df_callB2 (ck_min2 xg.calm) rfl (xg.bl _ (by decide)) rfl (de_var (pv 1)) (de_of (df_callB (ck_len xg.K) rfl (xg.bl _ (by decide)) rfl (dp_var (pv 0)))))))))))
theorem w__law_bent {f : Addr} {fd : FuncData} {lv : Nat} {rec : List D → List D → Option (FR × List D)} (d__law_take : DefOk false P w K mg base 1 "_law_take" ["pot", "upto"] (spQ G r__law_take 2)) (d__law_of : DefOk false P w K mg base 2 "_law_of" ["pot", "some"] (spQ G r__law_of 2)) (d__law_bent : DefOk false P w K mg base lv "_law_bent" ["pot", "value"] (spQ G rec 2)) (hK : K = G.K) : BodyIs G false P w K mg base (lv + 2) f fd "_law_bent" s__law_bent n__law_bent (b__law_bent rec) :=
  fun cdv A outer s H E hcd xg =>
    (dss_cons
      (ds_if (dt_of (dw_and (dt_val xg (dp_of (de_of (df_isi (T := "tuple") xg rfl rfl rfl (xg.bl _ (by decide)) (de_var (pv 1)))))) (dw_and (dt_ck (ck_ne xg) (dp_var (pv 1)) (dp_of (de_tup da_nil)) (by with_unfolding_all rfl)) (dw_and1 (dt_ck ck_gt (dp_of (de_of (df_callQ d__law_take xg (by omega) (fun h => nomatch h) rfl (pv 0) (da_cons de_int da_nil)))) (dp_of de_int) (by with_unfolding_all rfl)))))) (dss_cons
      (ds_asg xg rfl (.inl rfl) (df_callQ d__law_take xg (by omega) (fun h => nomatch h) rfl (pv 0) (da_cons (de_of (df_callB (ck_len xg.K) rfl (xg.bl _ (by decide)) rfl (dp_var (pv 1)))) da_nil))) (dss_one (ds_ret (df_add xg (de_of (df_add xg (de_of (df_slice xg (de_var (pv 1)) do_none (do_some (de_var (pv 2))))) (de_tup (da_cons (de_of (df_callQ d__law_bent xg (by omega) (fun h => nomatch h) rfl (pv 0) (da_cons (de_of (df_sub_ix xg (dp_var (pv 1)) (dp_var (pv 2)))) da_nil))) da_nil)))) (de_of (df_slice xg (de_var (pv 1)) (do_some (de_of (df_add xg (de_var (pv 2)) de_int))) do_none)))))) dss_nil) (dss_cons
      (ds_if (dt_val xg (dp_of (de_of (df_isi (T := "tuple") xg rfl rfl rfl (xg.bl _ (by decide)) (de_var (pv 1)))))) (dss_one (ds_ret (df_callQ d__law_of xg (by omega) (fun h => nomatch h) rfl (pv 0) (da_cons (de_of (df_lst (da_cons (de_of (df_callT (ck_list xg.K) rfl (xg.bl _ (by decide)) rfl (dp_var (pv 1)))) (da_cons (de_of (df_slice xg (de_var (pv 1)) (do_some de_int) do_none)) (da_cons (de_of (df_add xg (de_var (pv 1)) (de_of (df_slice xg (de_var (pv 1)) (do_some (de_of (df_neg (dp_of de_int)))) do_none)))) (da_cons (de_of (df_turned xg.K (dp_var (pv 1)))) (da_cons (de_tup da_nil) (da_cons de_non (da_cons (de_of (df_add xg (de_var (pv 1)) (de_tup (da_cons de_str da_nil)))) da_nil))))))))) da_nil)))) dss_nil) (dss_cons
      (ds_if (dt_val xg (dp_of (de_of (df_isi (T := "int") xg rfl rfl rfl (xg.bl _ (by decide)) (de_var (pv 1)))))) (dss_one (ds_ret (df_callQ d__law_of xg (by omega) (fun h => nomatch h) rfl (pv 0) (da_cons (de_of (df_lst (da_cons (de_of (df_callT ck_int rfl (xg.bl _ (by decide)) rfl (dp_of (de_of (df_add xg (de_var (pv 1)) de_int))))) (da_cons (de_of (df_callT ck_int rfl (xg.bl _ (by decide)) rfl (dp_of (de_of (df_sub (dp_var (pv 1)) (dp_of de_int)))))) (da_cons (de_of (df_ck (ck_eq xg) (dp_var (pv 1)) (dp_of de_int) (by with_unfolding_all rfl))) (da_cons (de_of (df_callT ck_str rfl (xg.bl _ (by decide)) rfl (dp_var (pv 1)))) (da_cons de_non (da_cons de_int (da_cons (de_of (df_lst (da_cons (de_var (pv 1)) da_nil))) da_nil))))))))) da_nil)))) dss_nil) (dss_cons
      (ds_asg xg rfl (.inl rfl) (df_lst (da_cons de_non (da_cons de_int (da_cons de_str (da_cons de_str (da_cons de_str (da_cons de_str (da_cons de_str (da_cons de_str (da_cons de_str (da_cons de_str (da_cons de_str (da_cons de_str (da_cons de_str da_nil))))))))))))))) (dss_one (ds_ret (df_callQ d__law_of xg (by omega) (fun h => nomatch h) rfl (pv 0) (da_cons (de_of (df_add xg (de_var (pv 3)) (de_of (df_lst (da_cons (de_of (df_lst (da_cons (de_var (pv 1)) da_nil))) (da_cons de_dict0 (da_cons (de_tup (da_cons (de_var (pv 1)) da_nil)) (da_cons (de_tup (da_cons (de_of (df_lst (da_cons (de_var (pv 1)) da_nil))) da_nil)) da_nil)))))))) da_nil))))))))
theorem w__law_bad {f : Addr} {fd : FuncData}  (hK : K = G.K) : BodyIs G false P w K mg base 0 f fd "_law_bad" s__law_bad n__law_bad b__law_bad :=
  fun cdv A outer s H E hcd xg =>
    (dss_cons
      (ds_asg xg rfl (.inl rfl) (df_lst da_nil)) (dss_cons
      (ds_for_rng1 xg (passes_of rfl) rfl (de_of (df_callB (ck_len xg.K) rfl (xg.bl _ (by decide)) rfl (dp_var (pv 0)))) (dg_name xg rfl (.inl rfl)) (dss_one (ds_for_rng1 xg (passes_of rfl) rfl (de_of (df_callB (ck_len xg.K) rfl (xg.bl _ (by decide)) rfl (dp_var (pv 0)))) (dg_name xg rfl (.inl rfl)) (dss_one (ds_expr (df_meth PySem.F.slot_list_extend PySem.F.type_list_extend mk_extend (pv 4) (de_of (df_if (dt_ck ck_gt (dp_of (de_of (df_mul xg (de_of (df_sub_ix xg (dp_var (pv 0)) (dp_var (pv 5)))) (de_of (df_sub_ix xg (dp_var (pv 1)) (dp_var (pv 6))))))) (dp_of (de_of (df_mul xg (de_of (df_sub_ix xg (dp_var (pv 2)) (dp_of (de_of (df_or (dp_var (pv 5)) (dp_var (pv 6))))))) (de_of (df_sub_ix xg (dp_var (pv 3)) (dp_of (de_of (df_and (dp_var (pv 5)) (dp_var (pv 6)))))))))) (by with_unfolding_all rfl)) (df_lst (da_cons (de_tup (da_cons (de_var (pv 5)) (da_cons (de_var (pv 6)) da_nil))) da_nil)) (df_lst da_nil))))))))) (dss_one (ds_retV (pv 4)))))
theorem w__law_numbers {f : Addr} {fd : FuncData} (d__law_take : DefOk false P w K mg base 1 "_law_take" ["pot", "upto"] (spQ G r__law_take 2)) (hK : K = G.K) : BodyIs G false P w K mg base 1 f fd "_law_numbers" s__law_numbers n__law_numbers b__law_numbers :=
  fun cdv A outer s H E hcd xg =>
    (dss_one (ds_ret (df_callTE (ck_tuple xg.K) rfl (xg.bl _ (by decide)) rfl (de_of (df_comp_rng xg rfl (de_var (pv 1)) (blkOk_by (own := [(("lap" : Str), 3)]) (show blkC n__law_numbers (defScope s__law_numbers) _ _ = true from by decide +kernel)) (by decide) (fun _ _ _ _ _ => (dg_name (xg.blk _ _ _ _ _) rfl (.inl rfl))) (fun _ _ _ _ _ => dts_nil) (fun _ _ _ _ _ => (de_of (df_callT ck_int rfl ((xg.blk _ _ _ _ _).bl _ (by decide)) rfl (dp_of (de_of (df_callQ d__law_take (xg.blk _ _ _ _ _) (by omega) (fun h => nomatch h) rfl (pv 0) (da_cons (de_var (pv 2)) da_nil))))))))))))
theorem w__law_drawn {f : Addr} {fd : FuncData} (d__law_take : DefOk false P w K mg base 1 "_law_take" ["pot", "upto"] (spQ G r__law_take 2)) (d__law_of : DefOk false P w K mg base 2 "_law_of" ["pot", "some"] (spQ G r__law_of 2)) (d__law_numbers : DefOk false P w K mg base 2 "_law_numbers" ["pot", "many", "most"] (spQ G r__law_numbers 3)) (hK : K = G.K) : BodyIs G false P w K mg base 2 f fd "_law_drawn" s__law_drawn n__law_drawn b__law_drawn :=
  fun cdv A outer s H E hcd xg =>
    (dss_cons
      (ds_par xg rfl rfl (by decide) rfl rfl (df_callQ d__law_of xg (by omega) (fun h => nomatch h) rfl (pv 0) (da_cons (de_of (df_lst (da_cons de_int (da_cons de_int (da_cons de_int (da_cons de_int da_nil)))))) da_nil)) (df_callQ d__law_take xg (by omega) (fun h => nomatch h) rfl (pv 0) (da_cons de_int da_nil)) rfl) (dss_cons
      (ds_par xg rfl rfl (by decide) rfl rfl (df_callQ d__law_numbers xg (by omega) (fun h => nomatch h) rfl (pv 0) (da_cons (de_var (pv 1)) (da_cons de_int da_nil))) (df_callQ d__law_numbers xg (by omega) (fun h => nomatch h) rfl (pv 0) (da_cons (de_var (pv 1)) (da_cons de_int da_nil))) rfl) (dss_cons
      (ds_if (dt_ck (ck_eq xg) (dp_var (pv 2)) (dp_of de_int) (by with_unfolding_all rfl)) (dss_one (ds_ret (df_of (de_tup (da_cons (de_var (pv 3)) (da_cons (de_var (pv 4)) (da_cons (de_of (df_callQ d__law_numbers xg (by omega) (fun h => nomatch h) rfl (pv 0) (da_cons (de_var (pv 1)) (da_cons de_int da_nil)))) (da_cons (de_of (df_callQ d__law_numbers xg (by omega) (fun h => nomatch h) rfl (pv 0) (da_cons (de_var (pv 1)) (da_cons de_int da_nil)))) da_nil)))))))) dss_nil) (dss_cons
      (ds_if (dt_ck (ck_eq xg) (dp_var (pv 2)) (dp_of de_int) (by with_unfolding_all rfl)) (dss_one (ds_par xg rfl rfl (by decide) rfl rfl (df_callTE (ck_tuple xg.K) rfl (xg.bl _ (by decide)) rfl (de_of (df_comp_tup xg (de_var (pv 3)) (blkOk_by (own := [(("one" : Str), 5)]) (show blkC n__law_drawn (defScope s__law_drawn) _ _ = true from by decide +kernel)) (by decide) (fun _ _ _ _ _ => (dg_name (xg.blk _ _ _ _ _) rfl (.inl rfl))) (fun _ _ _ _ _ => dts_nil) (fun _ _ _ _ _ => (de_of (df_callT ck_int rfl ((xg.blk _ _ _ _ _).bl _ (by decide)) rfl (dp_of (de_of (df_ck ck_gt (dp_var (pv 5)) (dp_of de_int) (by with_unfolding_all rfl)))))))))) (df_callTE (ck_tuple xg.K) rfl (xg.bl _ (by decide)) rfl (de_of (df_comp_tup xg (de_var (pv 4)) (blkOk_by (own := [(("one" : Str), 5)]) (show blkC n__law_drawn (defScope s__law_drawn) _ _ = true from by decide +kernel)) (by decide) (fun _ _ _ _ _ => (dg_name (xg.blk _ _ _ _ _) rfl (.inl rfl))) (fun _ _ _ _ _ => dts_nil) (fun _ _ _ _ _ => (de_of (df_callT ck_int rfl ((xg.blk _ _ _ _ _).bl _ (by decide)) rfl (dp_of (de_of (df_ck ck_gt (dp_var (pv 5)) (dp_of de_int) (by with_unfolding_all rfl)))))))))) rfl)) dss_nil) (dss_cons
      (ds_parC xg rfl rfl (.inl rfl) (.inr rfl) (df_mul xg (de_of (df_lst (da_cons de_int da_nil))) (de_var (pv 1))) (df_mul xg (de_of (df_lst (da_cons de_int da_nil))) (de_var (pv 1)))) (dss_cons
      (ds_for_rng1 xg (passes_of rfl) rfl (de_var (pv 1)) (dg_name xg rfl (.inl rfl)) (dss_one (ds_for_rng1 xg (passes_of rfl) rfl (de_var (pv 1)) (dg_name xg rfl (.inl rfl)) (dss_cons
      (ds_asg xg rfl (.inl rfl) (df_mul xg (de_of (df_sub_ix xg (dp_var (pv 3)) (dp_var (pv 5)))) (de_of (df_sub_ix xg (dp_var (pv 4)) (dp_var (pv 8)))))) (dss_one (ds_if (dt_ck ck_gt (dp_var (pv 9)) (dp_of de_int) (by with_unfolding_all rfl)) (dss_cons
      (ds_sto (pv 6) (de_of (df_or (dp_var (pv 5)) (dp_var (pv 8)))) (de_of (df_callB2 (ck_max2 xg.calm) rfl (xg.bl _ (by decide)) rfl (de_of (df_sub_ix xg (dp_var (pv 6)) (dp_of (de_of (df_or (dp_var (pv 5)) (dp_var (pv 8))))))) (de_of (df_if (dt_ck ck_gt (dp_var (pv 2)) (dp_of de_int) (by with_unfolding_all rfl)) (df_of (de_var (pv 9))) (df_of de_int)))))) (dss_one (ds_sto (pv 7) (de_of (df_and (dp_var (pv 5)) (dp_var (pv 8)))) (de_of (df_callB2 (ck_max2 xg.calm) rfl (xg.bl _ (by decide)) rfl (de_of (df_sub_ix xg (dp_var (pv 7)) (dp_of (de_of (df_and (dp_var (pv 5)) (dp_var (pv 8))))))) (de_of (df_if (dt_ck ck_lt (dp_var (pv 2)) (dp_of de_int) (by with_unfolding_all rfl)) (df_of de_int) (df_of (de_var (pv 9)))))))))) dss_nil)))))) (dss_cons
      (ds_if (dt_ck ck_gt (dp_var (pv 2)) (dp_of de_int) (by with_unfolding_all rfl)) (dss_one (ds_asg xg rfl (.inr rfl) (df_comp_lst xg (de_var (pv 7)) (blkOk_by (own := [(("one" : Str), 5)]) (show blkC n__law_drawn (defScope s__law_drawn) _ _ = true from by decide +kernel)) (by decide) (fun _ _ _ _ _ => (dg_name (xg.blk _ _ _ _ _) rfl (.inl rfl))) (fun _ _ _ _ _ => dts_nil) (fun _ _ _ _ _ => (de_of (df_callB2 (ck_min2 (xg.blk _ _ _ _ _).calm) rfl ((xg.blk _ _ _ _ _).bl _ (by decide)) rfl de_int (de_of (df_add (xg.blk _ _ _ _ _) (de_of (df_callB (ck_max (xg.blk _ _ _ _ _)) rfl ((xg.blk _ _ _ _ _).bl _ (by decide)) rfl (dp_var (pv 7)))) (de_var (pv 5)))))))))) dss_nil) (dss_one (ds_ret (df_of (de_tup (da_cons (de_var (pv 3)) (da_cons (de_var (pv 4)) (da_cons (de_of (df_callTE (ck_tuple xg.K) rfl (xg.bl _ (by decide)) rfl (de_of (df_comp_lst xg (de_var (pv 6)) (blkOk_by (own := [(("one" : Str), 5)]) (show blkC n__law_drawn (defScope s__law_drawn) _ _ = true from by decide +kernel)) (by decide) (fun _ _ _ _ _ => (dg_name (xg.blk _ _ _ _ _) rfl (.inl rfl))) (fun _ _ _ _ _ => dts_nil) (fun _ _ _ _ _ => (de_of (df_callT ck_int rfl ((xg.blk _ _ _ _ _).bl _ (by decide)) rfl (dp_var (pv 5))))))))) (da_cons (de_of (df_callTE (ck_tuple xg.K) rfl (xg.bl _ (by decide)) rfl (de_of (df_comp_lst xg (de_var (pv 7)) (blkOk_by (own := [(("one" : Str), 5)]) (show blkC n__law_drawn (defScope s__law_drawn) _ _ = true from by decide +kernel)) (by decide) (fun _ _ _ _ _ => (dg_name (xg.blk _ _ _ _ _) rfl (.inl rfl))) (fun _ _ _ _ _ => dts_nil) (fun _ _ _ _ _ => (de_of (df_callT ck_int rfl ((xg.blk _ _ _ _ _).bl _ (by decide)) rfl (dp_var (pv 5))))))))) da_nil)))))))))))))))
theorem w__law_right {f : Addr} {fd : FuncData} (d_fourfold : DefOk false P w K mg base 5 "fourfold" ["a", "b", "c", "d"] (spP G r_fourfold 4)) (d_shows_fourfold : DefOk false P w K mg base 6 "shows_fourfold" ["a", "b", "c", "d", "value"] (spP G r_shows_fourfold 5)) (d__law_take : DefOk false P w K mg base 1 "_law_take" ["pot", "upto"] (spQ G r__law_take 2)) (d__law_of : DefOk false P w K mg base 2 "_law_of" ["pot", "some"] (spQ G r__law_of 2)) (d__law_bent : DefOk false P w K mg base 6 "_law_bent" ["pot", "value"] (spQ G (r__law_bent 2) 2)) (d__law_bad : DefOk false P w K mg base 1 "_law_bad" ["a", "b", "c", "d"] (spP G r__law_bad 4)) (d__law_drawn : DefOk false P w K mg base 3 "_law_drawn" ["pot"] (spQ G r__law_drawn 1)) (e_BadNumbers : ErrOk G P w K mg base "BadNumbers") (h__law_heard : HearOk G P w K mg base "_law_heard") (hexc : ∀ c C, G.cls c = some C → C = C → G.exc c = true) {cc PP : Addr} (TB : LamX.TabB base mg cc PP) (fdc : fd.code = .ref cc) (inT : (PP, ("_law_right.<locals>.<lambda>" : Str)) ∈ G.T) (uniq : ∀ p ∈ G.T, p.1 = PP → p.2 = ("_law_right.<locals>.<lambda>" : Str)) (hK : K = G.K) : BodyIs G true P w K mg base 8 f fd "_law_right" s__law_right n__law_right b__law_right := by
  intro cdv A outer s H E hcd xg
  have hcode : (cxOf (L2.CX P w) P w K mg base n__law_right "_law_right" (defScope s__law_right) f cdv A outer s H E).env.code = .ref cc := hcd.symm.trans fdc
  exact (dss_cons
      (ds_put (dg_tup xg (dgs_cons (dg_name xg rfl (.inl rfl)) (dgs_cons (dg_name xg rfl (.inl rfl)) (dgs_cons (dg_name xg rfl (.inl rfl)) (dgs_cons (dg_name xg rfl (.inl rfl)) dgs_nil))))) (de_of (df_callQ d__law_drawn xg (by omega) (fun h => nomatch h) rfl (pv 0) da_nil))) (dss_cons
      (ds_parC xg rfl rfl (.inl rfl) (.inr rfl) (df_callP d__law_bad xg (by omega) (fun h => nomatch h) rfl (da_cons (de_var (pv 1)) (da_cons (de_var (pv 2)) (da_cons (de_var (pv 3)) (da_cons (de_var (pv 4)) da_nil))))) (df_callPK d_fourfold xg (by omega) (fun h => nomatch h) rfl (dk_cons (de_var (pv 1)) (dk_cons (de_var (pv 2)) (dk_cons (de_var (pv 3)) (dk_cons (de_var (pv 4)) dk_nil)))))) (dss_cons
      (ds_if (dt_ck (ck_eq xg) (dp_var (pv 5)) (dp_of (de_of (df_lst da_nil))) (by with_unfolding_all rfl)) (dss_one (ds_if (dt_of (dw_or (dt_ck (ck_ne xg) (dp_of (de_of (df_callBE (ck_repr xg) rfl (xg.bl _ (by decide)) rfl (de_var (pv 6))))) (dp_of (de_of (df_callBE (ck_repr xg) rfl (xg.bl _ (by decide)) rfl (de_tup (da_cons de_str da_nil))))) (by with_unfolding_all rfl)) (dw_or1 (dt_ck ck_gt (dp_of (de_of (df_mul xg (de_of (df_callB (ck_sum xg) rfl (xg.bl _ (by decide)) rfl (dp_var (pv 1)))) (de_of (df_callB (ck_sum xg) rfl (xg.bl _ (by decide)) rfl (dp_var (pv 2))))))) (dp_of (de_of (df_mul xg (de_of (df_callB (ck_sum xg) rfl (xg.bl _ (by decide)) rfl (dp_var (pv 3)))) (de_of (df_callB (ck_sum xg) rfl (xg.bl _ (by decide)) rfl (dp_var (pv 4))))))) (by with_unfolding_all rfl))))) (dss_one (ds_ret (df_of de_bl))) dss_nil)) (dss_one (ds_if (dt_of (dw_or (dt_ck (ck_ne xg) (dp_of (de_of (df_sub_ix xg (dp_var (pv 6)) (dp_of de_int)))) (dp_of de_str) (by with_unfolding_all rfl)) (dw_or1 (dt_ck (ck_notIn xg) (dp_of (de_tup (da_cons (de_of (df_sub_ix xg (dp_var (pv 6)) (dp_of de_int))) (da_cons (de_of (df_sub_ix xg (dp_var (pv 6)) (dp_of de_int))) da_nil)))) (dp_var (pv 5)) (by with_unfolding_all rfl))))) (dss_one (ds_ret (df_of de_bl))) dss_nil))) (dss_cons
      (ds_asg xg rfl (.inl rfl) (df_lst (da_cons (de_var (pv 6)) (da_cons (de_of (df_turned xg.K (dp_var (pv 6)))) (da_cons (de_of (df_callT (ck_list xg.K) rfl (xg.bl _ (by decide)) rfl (dp_var (pv 6)))) (da_cons (de_tup (da_cons de_str da_nil)) (da_cons (de_tup (da_cons de_str (da_cons de_int (da_cons de_int da_nil)))) (da_cons (de_tup (da_cons de_str (da_cons (de_of (df_callB (ck_len xg.K) rfl (xg.bl _ (by decide)) rfl (dp_var (pv 1)))) (da_cons de_int da_nil)))) (da_cons (de_of (df_slice xg (de_var (pv 6)) do_none (do_some de_int))) (da_cons de_non (da_cons (de_tup da_nil) da_nil))))))))))) (dss_cons
      (ds_for_rng1 xg (passes_of rfl) rfl de_int (dg_name xg rfl (.inl rfl)) (dss_one (ds_expr (df_meth PySem.F.slot_list_append PySem.F.type_list_append mk_append (pv 7) (de_tup (da_cons de_str (da_cons (de_of (df_callT ck_int rfl (xg.bl _ (by decide)) rfl (dp_of (de_of (df_callQ d__law_take xg (by omega) (fun h => nomatch h) rfl (pv 0) (da_cons (de_of (df_callB (ck_len xg.K) rfl (xg.bl _ (by decide)) rfl (dp_var (pv 1)))) da_nil)))))) (da_cons (de_of (df_callT ck_int rfl (xg.bl _ (by decide)) rfl (dp_of (de_of (df_callQ d__law_take xg (by omega) (fun h => nomatch h) rfl (pv 0) (da_cons (de_of (df_callB (ck_len xg.K) rfl (xg.bl _ (by decide)) rfl (dp_var (pv 1)))) da_nil)))))) da_nil)))))))) (dss_cons
      (ds_for_lst xg (passes_of rfl) (de_of (df_add xg (de_var (pv 7)) (de_of (df_comp_rng xg rfl de_int (blkOk_by (own := [(("lap" : Str), 8)]) (show blkC n__law_right (defScope s__law_right) _ _ = true from by decide +kernel)) (by decide) (fun _ _ _ _ _ => (dg_name (xg.blk _ _ _ _ _) rfl (.inl rfl))) (fun _ _ _ _ _ => dts_nil) (fun _ _ _ _ _ => (de_of (df_callQ d__law_bent (xg.blk _ _ _ _ _) (by omega) (fun h => nomatch h) rfl (pv 0) (da_cons (de_var (pv 6)) da_nil)))))))) (dg_name xg rfl (.inl rfl)) (dss_cons
      (ds_asg xg rfl (.inl rfl) (df_of (de_and (de_of (df_ck (ck_eq xg) (dp_of (de_of (df_callBE (ck_repr xg) rfl (xg.bl _ (by decide)) rfl (de_var (pv 9))))) (dp_of (de_of (df_callBE (ck_repr xg) rfl (xg.bl _ (by decide)) rfl (de_tup (da_cons de_str da_nil))))) (by with_unfolding_all rfl))) (de_one (de_of (df_ck (ck_eq xg) (dp_var (pv 5)) (dp_of (de_of (df_lst da_nil))) (by with_unfolding_all rfl))))))) (dss_cons
      (ds_asg xg rfl (.inl rfl) (df_of (de_or (de_var (pv 10)) (de_one (de_of (df_ck (ck_in xg) (dp_of (de_of (df_callBE (ck_repr xg) rfl (xg.bl _ (by decide)) rfl (de_var (pv 9))))) (dp_of (de_of (df_comp_lst xg (de_var (pv 5)) (blkOk_by (own := [(("one" : Str), 11), (("other" : Str), 12)]) (show blkC n__law_right (defScope s__law_right) _ _ = true from by decide +kernel)) (by decide) (fun _ _ _ _ _ => (dg_tup (xg.blk _ _ _ _ _) (dgs_cons (dg_name (xg.blk _ _ _ _ _) rfl (.inl rfl)) (dgs_cons (dg_name (xg.blk _ _ _ _ _) rfl (.inl rfl)) dgs_nil)))) (fun _ _ _ _ _ => dts_nil) (fun _ _ _ _ _ => (de_of (df_callBE (ck_repr (xg.blk _ _ _ _ _)) rfl ((xg.blk _ _ _ _ _).bl _ (by decide)) rfl (de_tup (da_cons de_str (da_cons (de_var (pv 11)) (da_cons (de_var (pv 12)) da_nil)))))))))) (by with_unfolding_all rfl))))))) (dss_one (ds_if (dt_ck (ck_ne xg) (dp_of (de_of (df_callBE (ck_repr xg) rfl (xg.bl _ (by decide)) rfl (de_of (df_callPK d_shows_fourfold xg (by omega) (fun h => nomatch h) rfl (dk_cons (de_var (pv 1)) (dk_cons (de_var (pv 2)) (dk_cons (de_var (pv 3)) (dk_cons (de_var (pv 4)) (dk_cons (de_var (pv 9)) dk_nil)))))))))) (dp_of (de_of (df_callBE (ck_repr xg) rfl (xg.bl _ (by decide)) rfl (de_var (pv 10))))) (by with_unfolding_all rfl)) (dss_one (ds_ret (df_of de_bl))) dss_nil))))) (dss_cons
      (ds_asg xg rfl (.inr rfl) (df_lst (da_cons de_non (da_cons (de_tup da_nil) (da_cons (de_of (df_callT (ck_list xg.K) rfl (xg.bl _ (by decide)) rfl (dp_var (pv 1)))) (da_cons (de_of (df_add xg (de_of (df_slice xg (de_var (pv 1)) do_none (do_some (de_of (df_neg (dp_of de_int)))))) (de_tup (da_cons (de_of (df_neg (dp_of de_int))) da_nil)))) (da_cons (de_of (df_add xg (de_of (df_slice xg (de_var (pv 1)) do_none (do_some (de_of (df_neg (dp_of de_int)))))) (de_tup (da_cons de_int da_nil)))) (da_cons (de_of (df_add xg (de_of (df_slice xg (de_var (pv 1)) do_none (do_some (de_of (df_neg (dp_of de_int)))))) (de_tup (da_cons de_bl da_nil)))) (da_cons (de_of (df_add xg (de_var (pv 1)) (de_tup (da_cons de_int da_nil)))) (da_cons (de_of (df_mul xg (de_tup (da_cons de_str da_nil)) (de_of (df_callB (ck_len xg.K) rfl (xg.bl _ (by decide)) rfl (dp_var (pv 1)))))) da_nil)))))))))) (dss_cons
      (ds_asg xg rfl (.inr rfl) (df_callQ d__law_of xg (by omega) (fun h => nomatch h) rfl (pv 0) (da_cons (de_var (pv 13)) da_nil))) (dss_cons
      (ds_asg xg rfl (.inl rfl) (df_lst (da_cons (de_tup (da_cons (de_var (pv 13)) (da_cons (de_var (pv 2)) (da_cons (de_var (pv 3)) (da_cons (de_var (pv 4)) da_nil))))) (da_cons (de_tup (da_cons (de_var (pv 1)) (da_cons (de_var (pv 13)) (da_cons (de_var (pv 13)) (da_cons (de_var (pv 4)) da_nil))))) (da_cons (de_tup (da_cons (de_var (pv 1)) (da_cons (de_var (pv 2)) (da_cons (de_var (pv 13)) (da_cons (de_var (pv 13)) da_nil))))) (da_cons (de_tup (da_cons (de_var (pv 1)) (da_cons (de_var (pv 2)) (da_cons (de_var (pv 3)) (da_cons (de_var (pv 13)) da_nil))))) da_nil)))))) (dss_cons
      (ds_for_lst xg (passes_of rfl) (de_var (pv 14)) (dg_name xg rfl (.inr rfl)) (dss_cons
      (ds_asg xg rfl (.inl rfl) (df_sub_ix xg (dp_of (de_of (df_comp_tup xg (de_var (pv 11)) (blkOk_by (own := [(("part" : Str), 16)]) (show blkC n__law_right (defScope s__law_right) _ _ = true from by decide +kernel)) (by decide) (fun _ _ _ _ _ => (dg_name (xg.blk _ _ _ _ _) rfl (.inl rfl))) (fun _ _ _ _ _ => (dts_one (dt_ck (ck_eq (xg.blk _ _ _ _ _)) (dp_of (de_of (df_callBE (ck_repr (xg.blk _ _ _ _ _)) rfl ((xg.blk _ _ _ _ _).bl _ (by decide)) rfl (de_var (pv 16))))) (dp_of (de_of (df_callBE (ck_repr (xg.blk _ _ _ _ _)) rfl ((xg.blk _ _ _ _ _).bl _ (by decide)) rfl (de_var (pv 13))))) (by with_unfolding_all rfl)))) (fun _ _ _ _ _ => (de_var (pv 16)))))) (dp_of de_int))) (dss_cons
      (ds_asg xg rfl (.inl rfl) (df_sub_ix xg (dp_of (de_heard xg (by omega) h__law_heard hexc rfl TB hcode inT uniq (LamX.lamS_by (show LamX.lamSB (defScope s__law_right) _ = true from by decide +kernel)) rfl (fun _ _ _ _ _ => rfl) (fun _ _ _ _ _ _ _ xg2 => (de_of (df_callP d_fourfold xg2 (by omega) (fun h => nomatch h) rfl (da_cons (de_of (df_sub_ix xg2 (dp_var (pv 11)) (dp_of de_int))) (da_cons (de_of (df_sub_ix xg2 (dp_var (pv 11)) (dp_of de_int))) (da_cons (de_of (df_sub_ix xg2 (dp_var (pv 11)) (dp_of de_int))) (da_cons (de_of (df_sub_ix xg2 (dp_var (pv 11)) (dp_of de_int))) da_nil))))))))) (dp_of de_int))) (dss_cons
      (ds_if (dt_of (dw_or (dt_not (dt_val xg (dp_of (de_of (df_isE xg e_BadNumbers rfl rfl (de_var (pv 17))))))) (dw_or1 (dt_ck (ck_ne xg) (dp_of (de_of (df_callBE (ck_repr xg) rfl (xg.bl _ (by decide)) rfl (de_of (df_val xg e_BadNumbers (de_var (pv 17))))))) (dp_of (de_of (df_callBE (ck_repr xg) rfl (xg.bl _ (by decide)) rfl (de_var (pv 15))))) (by with_unfolding_all rfl))))) (dss_one (ds_ret (df_of de_bl))) dss_nil) (dss_cons
      (ds_asg xg rfl (.inl rfl) (df_sub_ix xg (dp_of (de_heard xg (by omega) h__law_heard hexc rfl TB hcode inT uniq (LamX.lamS_by (show LamX.lamSB (defScope s__law_right) _ = true from by decide +kernel)) rfl (fun _ _ _ _ _ => rfl) (fun _ _ _ _ _ _ _ xg2 => (de_of (df_callP d_shows_fourfold xg2 (by omega) (fun h => nomatch h) rfl (da_cons (de_of (df_sub_ix xg2 (dp_var (pv 11)) (dp_of de_int))) (da_cons (de_of (df_sub_ix xg2 (dp_var (pv 11)) (dp_of de_int))) (da_cons (de_of (df_sub_ix xg2 (dp_var (pv 11)) (dp_of de_int))) (da_cons (de_of (df_sub_ix xg2 (dp_var (pv 11)) (dp_of de_int))) (da_cons de_non da_nil)))))))))) (dp_of de_int))) (dss_one (ds_if (dt_of (dw_or (dt_not (dt_val xg (dp_of (de_of (df_isE xg e_BadNumbers rfl rfl (de_var (pv 17))))))) (dw_or1 (dt_ck (ck_ne xg) (dp_of (de_of (df_callBE (ck_repr xg) rfl (xg.bl _ (by decide)) rfl (de_of (df_val xg e_BadNumbers (de_var (pv 17))))))) (dp_of (de_of (df_callBE (ck_repr xg) rfl (xg.bl _ (by decide)) rfl (de_var (pv 15))))) (by with_unfolding_all rfl))))) (dss_one (ds_ret (df_of de_bl))) dss_nil))))))) (dss_one (ds_ret (df_of de_bl)))))))))))))
theorem w_law {f : Addr} {fd : FuncData} (d__law_pot : DefOk false P w K mg base 1 "_law_pot" ["script", "place"] (spP G r__law_pot 2)) (d__law_cells : DefOk false P w K mg base 1 "_law_cells" ["script", "most"] (spP G r__law_cells 2)) (d__law_right : DefOk true P w K mg base 9 "_law_right" ["pot"] (spQ G r__law_right 1)) (hK : K = G.K) : BodyIs G true P w K mg base 9 f fd "law" s_law n_law b_law :=
  fun cdv A outer s H E hcd xg =>
    (dss_cons
      (ds_for_lst xg (passes_of rfl) (de_of (df_callP d__law_cells xg (by omega) (fun h => nomatch h) rfl (da_cons (de_var (pv 0)) (da_cons de_int da_nil)))) (dg_name xg rfl (.inl rfl)) (dss_cons
      (ds_asg xg rfl (.inr rfl) (df_callP d__law_pot xg (by omega) (fun h => nomatch h) rfl (da_cons (de_var (pv 0)) (da_cons (de_var (pv 1)) da_nil)))) (dss_one (ds_if (dt_not (dt_val xg (dp_of (de_of (df_callB (ck_all xg) rfl (xg.bl _ (by decide)) rfl (dp_of (de_of (df_comp_rng xg rfl de_int (blkOk_by (own := [(("lap" : Str), 3)]) (show blkC n_law (defScope s_law) _ _ = true from by decide +kernel)) (by decide) (fun _ _ _ _ _ => (dg_name (xg.blk _ _ _ _ _) rfl (.inl rfl))) (fun _ _ _ _ _ => dts_nil) (fun _ _ _ _ _ => (de_of (df_callQ d__law_right (xg.blk _ _ _ _ _) (by omega) (fun _ => rfl) rfl (pv 2) da_nil))))))))))) (dss_one (ds_ret (df_of de_bl))) dss_nil)))) (dss_one (ds_ret (df_of de_bl))))
end
end Nol.K44

set_option Elab.async false
set_option linter.all false
set_option maxRecDepth 100000
set_option maxHeartbeats 1000000
/-! k44, plain: what the small defs answer. -/
namespace Nol.K44
open Nol PySem PySem.Spec PyProof.Rows
@[simp] theorem asP_ok (d : D) (e : Fm) : asP (some (.ok d e)) = some (.ok (.d d) e) := rfl
@[simp] theorem asF_ok (d : D) (e : Fm) : asF (some (.ok d e)) = some (.ok (.d d) e) := rfl
@[simp] theorem settle_d (d : D) (e : Fm) : settle (some (.ok (.d d) e)) = some (.ok d e) := rfl
@[simp] theorem settle_fr (d : List D) (e : Fm) : settle (some (.ok (.fr d) e)) = some (.ok (.lst d) e) := rfl
@[simp] theorem settle_er (c : PySem.Str) (d : D) (e : Fm) : settle (some (.er c d e)) = some (.er c d e) := rfl
@[simp] theorem asF_er (c : PySem.Str) (d : D) (e : Fm) : asF (some (.er c d e)) = some (.er c d e) := rfl
@[simp] theorem asP_er (c : PySem.Str) (d : D) (e : Fm) : asP (some (.er c d e)) = some (.er c d e) := rfl
@[simp] theorem liftO_some (v : FV) (e : Fm) : liftO (some v) e = some (.ok v e) := rfl
@[simp] theorem evC_ap (d : D) (e : Fm) : evC d e = some (.ok d e) := rfl
@[simp] theorem ap2_ap (g : D → D → Option FV) (fa fb : Ev PV) (env : Fm) : ap2 g fa fb env = bindR (fa env) fun p env1 => bindR (fb env1) fun q env2 => match deref env2 p, deref env2 q with
  | some d, some e => liftO (g d e) env2
  | _, _ => none := rfl
@[simp] theorem ap1_ap (g : D → Option FV) (f : Ev PV) (env : Fm) : ap1 g f env = bindR (f env) fun p env1 => match deref env1 p with
  | some d => liftO (g d) env1
  | none => none := rfl
@[simp] theorem apE_ap (g : D → Option FV) (f : Ev D) (env : Fm) : apE g f env = bindR (f env) fun d env1 => liftO (g d) env1 := rfl
/-- the types that isinstance tells -/
def Kn (d : D) : Bool := (tyN d).isSome
def btw (d : D) (lo hi : Int) : Bool := match d with
  | .int i => decide (lo ≤ i) && decide (i ≤ hi)
  | _ => false
def isI : D → Bool
  | .int _ => true
  | _ => false
theorem is_integer_eq (d : D) (h : Kn d = true) : r_is_integer [d] = some (.ok (.d (.bl (isI d)))) := by
  cases d <;> first | rfl | cases h
theorem is_between_eq (d : D) (lo hi : Int) (h : Kn d = true) : r_is_between [d, .int lo, .int hi] = some (.ok (.d (.bl (btw d lo hi)))) := by
  unfold r_is_between runP b_is_between
  have e := is_integer_eq d h
  cases d with
  | int i =>
    cases h1 : decide (lo ≤ i) <;> simp [startF, svRet, evAnd, evCallP, evCons, evNil, varE, e, isI, apC, varP, leD, h1, btw, endR]
  | _ => first | (simp [Kn, tyN] at h; done) | simp [startF, svRet, evAnd, evCallP, evCons, evNil, varE, e, isI, btw, endR]
/-- a comprehension whose items change nothing -/
theorem loopC_map {i : Nat} {elt : Ev D} {env : Fm} {h : D → D} (hw : ∀ d, wipeF (env.set i (.v d)) [i] = env) : ∀ (ds acc : List D), (∀ d ∈ ds, elt (env.set i (.v d)) = some (.ok (h d) (env.set i (.v d)))) → acc.length + ds.length ≤ 1000 →
    loopC (putN i) (fun env => some (.ok true env)) elt [i] ds env acc = some (.ok (acc ++ ds.map h) env)
  | [], acc, _, _ => by simp [loopC]
  | d :: ds, acc, he, hl => by
    have e1 := he d List.mem_cons_self
    have hl' : acc.length + (ds.length + 1) ≤ 1000 := by simpa using hl
    have ck : ckLen (acc.length + 1) = true := decide_eq_true (by omega)
    have ih := loopC_map hw ds (acc ++ [h d]) (fun x hx => he x (List.mem_cons_of_mem _ hx)) (by simp; omega)
    unfold loopC
    simp only [putN, bindR_ok, if_true, e1, ck, hw]
    rw [ih]
    simp
theorem boolsOf_mapf (f : D → Bool) : ∀ ds : List D, boolsOf (ds.map fun d => D.bl (f d)) = some (ds.map f)
  | [] => rfl
  | d :: ds => by
    show boolsOf (D.bl (f d) :: ds.map fun d => D.bl (f d)) = _
    unfold boolsOf
    rw [boolsOf_mapf f ds]
    rfl
theorem all_map (f : D → Bool) (ds : List D) : allD (.lst (ds.map fun d => D.bl (f d))) = some (.d (.bl (ds.all f))) := by
  show (boolsOf (ds.map fun d => D.bl (f d))).map (fun bs => FV.d (.bl (bs.all id))) = _
  rw [boolsOf_mapf]
  simp
theorem isi_tt (ds : List D) : isiD "tuple" (.tup ds) = some (.d (.bl true)) := rfl
theorem isi_tl (ds : List D) : isiD "tuple" (.lst ds) = some (.d (.bl false)) := rfl
theorem isi_tn : isiD "tuple" .non = some (.d (.bl false)) := rfl
theorem eqB_ii (i j : Int) : eqB (.int i) (.int j) = decide (i = j) := by
  show (i == j) = decide (i = j)
  rfl
theorem eq_ii (i j : Int) : eqD (.int i) (.int j) = some (.d (.bl (decide (i = j)))) := by
  show some (FV.d (.bl (eqB (.int i) (.int j)))) = _
  rw [eqB_ii]
theorem ne_ii (i j : Int) : neD (.int i) (.int j) = some (.d (.bl (!decide (i = j)))) := by
  show some (FV.d (.bl (!eqB (.int i) (.int j)))) = _
  rw [eqB_ii]
def numsT (ds : List D) (m : Int) : Bool := decide ((ds.length : Int) = m) && ds.all fun x => btw x 0 999
theorem are_numbers_tup (ds : List D) (m : Int) (hk : ds.all Kn = true) (hl : ds.length ≤ 1000) : r_are_numbers [.tup ds, .int m] = some (.ok (.d (.bl (numsT ds m)))) := by
  have cm := loopC_map (i := 2) (elt := e_are_numbers_1) (env := [.v (.tup ds), .v (.int m), .un]) (h := fun x => .bl (btw x 0 999)) (fun d => rfl) ds [] (fun d hd => by
    have := is_between_eq d 0 999 (List.all_eq_true.mp hk d hd)
    unfold e_are_numbers_1
    simp [startF, List.replicate, endR, svSeq, svIf, svRet, svRetV, svAsg, svPut, svPar, svFor, svSto, svDrop, svRaise, svNil, evRng1, evSeq, evOrB, evAndB, evNotB, evTest, evB, evAnd, evOr, evNot, evIf, evTup, evLst, evNil, evCons, evCallP, evCallQ, varE, varP, ap2E, apC, evSlice, evPart, evComp, wrAt, wrOf, wrSet, evWr, evWr1, setG, truthD, noEr, this]) (by simpa using hl)
  unfold r_are_numbers runP b_are_numbers numsT
  by_cases h : (ds.length : Int) = m
  · simp [startF, List.replicate, endR, svSeq, svIf, svRet, svRetV, svAsg, svPut, svPar, svFor, svSto, svDrop, svRaise, svNil, evRng1, evSeq, evOrB, evAndB, evNotB, evTest, evB, evAnd, evOr, evNot, evIf, evTup, evLst, evNil, evCons, evCallP, evCallQ, varE, varP, ap2E, apC, evSlice, evPart, evComp, wrAt, wrOf, wrSet, evWr, evWr1, setG, truthD, noEr, isi_tt, lenD, ne_ii, h, wipeF, cm, all_map]
  · simp [startF, List.replicate, endR, svSeq, svIf, svRet, svRetV, svAsg, svPut, svPar, svFor, svSto, svDrop, svRaise, svNil, evRng1, evSeq, evOrB, evAndB, evNotB, evTest, evB, evAnd, evOr, evNot, evIf, evTup, evLst, evNil, evCons, evCallP, evCallQ, varE, varP, ap2E, apC, evSlice, evPart, evComp, wrAt, wrOf, wrSet, evWr, evWr1, setG, truthD, noEr, isi_tt, lenD, ne_ii, h]
theorem are_numbers_lst (ds : List D) (m : Int) : r_are_numbers [.lst ds, .int m] = some (.ok (.d (.bl false))) := by
  unfold r_are_numbers runP b_are_numbers
  simp [startF, List.replicate, endR, svSeq, svIf, svRet, svRetV, svAsg, svPut, svPar, svFor, svSto, svDrop, svRaise, svNil, evRng1, evSeq, evOrB, evAndB, evNotB, evTest, evB, evAnd, evOr, evNot, evIf, evTup, evLst, evNil, evCons, evCallP, evCallQ, varE, varP, ap2E, apC, evSlice, evPart, evComp, wrAt, wrOf, wrSet, evWr, evWr1, setG, truthD, noEr, isi_tl]
theorem are_numbers_non (m : Int) : r_are_numbers [.non, .int m] = some (.ok (.d (.bl false))) := by
  unfold r_are_numbers runP b_are_numbers
  simp [startF, List.replicate, endR, svSeq, svIf, svRet, svRetV, svAsg, svPut, svPar, svFor, svSto, svDrop, svRaise, svNil, evRng1, evSeq, evOrB, evAndB, evNotB, evTest, evB, evAnd, evOr, evNot, evIf, evTup, evLst, evNil, evCons, evCallP, evCallQ, varE, varP, ap2E, apC, evSlice, evPart, evComp, wrAt, wrOf, wrSet, evWr, evWr1, setG, truthD, noEr, isi_tn]
/-- what is handed in as numbers: a tuple or a list of what isinstance tells, or None -/
def Arg : D → Bool
  | .tup ds => ds.all Kn && decide (ds.length ≤ 1000)
  | .lst _ => true
  | .non => true
  | _ => false
def numsOk (d : D) (m : Int) : Bool := match d with
  | .tup ds => numsT ds m
  | _ => false
theorem are_numbers_eq (d : D) (m : Int) (h : Arg d = true) : r_are_numbers [d, .int m] = some (.ok (.d (.bl (numsOk d m)))) := by
  cases d with
  | tup ds =>
    have h : (ds.all Kn && decide (ds.length ≤ 1000)) = true := h
    simp only [Bool.and_eq_true, decide_eq_true_eq] at h
    exact are_numbers_tup ds m h.1 h.2
  | lst ds => exact are_numbers_lst ds m
  | non => exact are_numbers_non m
  | _ => cases h
/-- the first argument's own test -/
def firstOk (d : D) : Bool := match d with
  | .tup ds => decide (ds.length = 2 ∨ ds.length = 4 ∨ ds.length = 8 ∨ ds.length = 16) && numsT ds ds.length
  | _ => false
def lenOf : D → Int
  | .tup ds => ds.length
  | _ => 0
theorem notIn_w (n : Nat) : inD true (.int n) (.tup [.int 2, .int 4, .int 8, .int 16]) = some (.d (.bl (!decide (n = 2 ∨ n = 4 ∨ n = 8 ∨ n = 16)))) := by
  show some (FV.d (.bl (!isIn (.int n) [.int 2, .int 4, .int 8, .int 16]))) = _
  have : isIn (.int n) [.int 2, .int 4, .int 8, .int 16] = decide (n = 2 ∨ n = 4 ∨ n = 8 ∨ n = 16) := by
    simp only [isIn, List.any_cons, List.any_nil, eqB_ii, Bool.or_false]
    rw [← Bool.decide_or, ← Bool.decide_or, ← Bool.decide_or]
    congr 1
    simp only [eq_iff_iff]
    omega
  rw [this]
/-- what check_four says: the first of the four that is no good -/
def four (a b c d : D) : Option D := if firstOk a = false then some a else if numsOk b (lenOf a) = false then some b else if numsOk c (lenOf a) = false then some c else if numsOk d (lenOf a) = false then some d else none
theorem body_four (ds : List D) (b c d x : D) (hx : Arg x = true) : l_check_four_1 [.v (.tup ds), .v b, .v c, .v d, .v x] = if numsOk x (ds.length : Int) = false then some (.er "BadNumbers" x [.v (.tup ds), .v b, .v c, .v d, .v x]) else some (.nx [.v (.tup ds), .v b, .v c, .v d, .v x]) := by
  have nx := are_numbers_eq x (ds.length : Int) hx
  unfold l_check_four_1
  cases h : numsOk x (ds.length : Int) <;> rw [h] at nx <;> simp [startF, List.replicate, endR, svSeq, svIf, svRet, svRetV, svAsg, svPut, svPar, svFor, svSto, svDrop, svRaise, svNil, evRng1, evSeq, evOrB, evAndB, evNotB, evTest, evB, evAnd, evOr, evNot, evIf, evTup, evLst, evNil, evCons, evCallP, evCallQ, varE, varP, ap2E, apC, evSlice, evPart, evComp, wrAt, wrOf, wrSet, evWr, evWr1, setG, truthD, noEr, lenD, nx]
theorem loop_four (ds : List D) (b c d : D) (hb : Arg b = true) (hc : Arg c = true) (hd : Arg d = true) (y : Sl) : ∃ e, loopS (putN 4) l_check_four_1 [b, c, d] [.v (.tup ds), .v b, .v c, .v d, y] =
    if numsOk b (ds.length : Int) = false then some (.er "BadNumbers" b e) else if numsOk c (ds.length : Int) = false then some (.er "BadNumbers" c e) else if numsOk d (ds.length : Int) = false then some (.er "BadNumbers" d e) else some (.nx e) := by
  cases h1 : numsOk b (ds.length : Int)
  · exact ⟨[.v (.tup ds), .v b, .v c, .v d, .v b], by simp [loopS, putN, body_four, hb, h1]⟩
  · cases h2 : numsOk c (ds.length : Int)
    · exact ⟨[.v (.tup ds), .v b, .v c, .v d, .v c], by simp [loopS, putN, body_four, hb, hc, h1, h2]⟩
    · cases h3 : numsOk d (ds.length : Int) <;> exact ⟨[.v (.tup ds), .v b, .v c, .v d, .v d], by simp [loopS, putN, body_four, hb, hc, hd, h1, h2, h3]⟩
theorem check_four_eq (a b c d : D) (ha : Arg a = true) (hb : Arg b = true) (hc : Arg c = true) (hd : Arg d = true) : r_check_four [a, b, c, d] = match four a b c d with
    | some x => some (.er "BadNumbers" x)
    | none => some (.ok (.d .non)) := by
  unfold r_check_four runP b_check_four
  have nb := are_numbers_eq b (lenOf a) hb
  have nc := are_numbers_eq c (lenOf a) hc
  have nd := are_numbers_eq d (lenOf a) hd
  cases a with
  | tup ds =>
    have na := are_numbers_eq (.tup ds) (ds.length : Int) ha
    have h : (ds.all Kn && decide (ds.length ≤ 1000)) = true := ha
    unfold four firstOk
    by_cases h1 : ds.length = 2 ∨ ds.length = 4 ∨ ds.length = 8 ∨ ds.length = 16
    · by_cases h2 : numsT ds ds.length = true
      · have na : r_are_numbers [.tup ds, .int (ds.length : Int)] = some (.ok (.d (.bl true))) := by rw [na]; show some (FR.ok (.d (.bl (numsT ds ds.length)))) = _; rw [h2]
        obtain ⟨e, he⟩ := loop_four ds b c d hb hc hd .un
        have c3 : ckLen 3 = true := rfl
        simp only [lenOf]
        simp [startF, List.replicate, endR, svSeq, svIf, svRet, svRetV, svAsg, svPut, svPar, svFor, svSto, svDrop, svRaise, svNil, evRng1, evSeq, evOrB, evAndB, evNotB, evTest, evB, evAnd, evOr, evNot, evIf, evTup, evLst, evNil, evCons, evCallP, evCallQ, varE, varP, ap2E, apC, evSlice, evPart, evComp, wrAt, wrOf, wrSet, evWr, evWr1, setG, truthD, noEr, isi_tt, lenD, notIn_w, h1, na, h2, k_WIDTHS, deref, c3, he]
        by_cases h3 : numsOk b (ds.length : Int) = false
        · simp [h3]
        · by_cases h4 : numsOk c (ds.length : Int) = false
          · simp [h3, h4]
          · by_cases h5 : numsOk d (ds.length : Int) = false <;> simp [h3, h4, h5]
      · have h2 : numsT ds ds.length = false := by simpa using h2
        have na : r_are_numbers [.tup ds, .int (ds.length : Int)] = some (.ok (.d (.bl false))) := by rw [na]; show some (FR.ok (.d (.bl (numsT ds ds.length)))) = _; rw [h2]
        simp [startF, List.replicate, endR, svSeq, svIf, svRet, svRetV, svAsg, svPut, svPar, svFor, svSto, svDrop, svRaise, svNil, evRng1, evSeq, evOrB, evAndB, evNotB, evTest, evB, evAnd, evOr, evNot, evIf, evTup, evLst, evNil, evCons, evCallP, evCallQ, varE, varP, ap2E, apC, evSlice, evPart, evComp, wrAt, wrOf, wrSet, evWr, evWr1, setG, truthD, noEr, isi_tt, lenD, notIn_w, h1, na, h2, k_WIDTHS, deref]
    · simp [startF, List.replicate, endR, svSeq, svIf, svRet, svRetV, svAsg, svPut, svPar, svFor, svSto, svDrop, svRaise, svNil, evRng1, evSeq, evOrB, evAndB, evNotB, evTest, evB, evAnd, evOr, evNot, evIf, evTup, evLst, evNil, evCons, evCallP, evCallQ, varE, varP, ap2E, apC, evSlice, evPart, evComp, wrAt, wrOf, wrSet, evWr, evWr1, setG, truthD, noEr, isi_tt, lenD, notIn_w, h1, k_WIDTHS, deref]
  | lst ds => simp [startF, List.replicate, endR, svSeq, svIf, svRet, svRetV, svAsg, svPut, svPar, svFor, svSto, svDrop, svRaise, svNil, evRng1, evSeq, evOrB, evAndB, evNotB, evTest, evB, evAnd, evOr, evNot, evIf, evTup, evLst, evNil, evCons, evCallP, evCallQ, varE, varP, ap2E, apC, evSlice, evPart, evComp, wrAt, wrOf, wrSet, evWr, evWr1, setG, truthD, noEr, isi_tl, four, firstOk]
  | non => simp [startF, List.replicate, endR, svSeq, svIf, svRet, svRetV, svAsg, svPut, svPar, svFor, svSto, svDrop, svRaise, svNil, evRng1, evSeq, evOrB, evAndB, evNotB, evTest, evB, evAnd, evOr, evNot, evIf, evTup, evLst, evNil, evCons, evCallP, evCallQ, varE, varP, ap2E, apC, evSlice, evPart, evComp, wrAt, wrOf, wrSet, evWr, evWr1, setG, truthD, noEr, isi_tn, four, firstOk]
  | _ => cases ha
end Nol.K44

set_option Elab.async false
set_option linter.all false
set_option maxRecDepth 100000
set_option maxHeartbeats 1000000
/-! k44, plain: the pairs. -/
namespace Nol.K44
open Nol PySem PySem.Spec PyProof.Rows
/-! ### tuples of numbers -/
abbrev tupI (xs : List Int) : D := .tup (xs.map .int)
def at' (xs : List Int) (i : Nat) : Int := xs.getD i 0
theorem or_nn (i j : Nat) : Builtin.bitOr (i : Int) (j : Int) = ((i ||| j : Nat) : Int) := by
  rw [Bits.bitOr_pp (Int.natCast_nonneg i) (Int.natCast_nonneg j)]
  rfl
theorem and_nn (i j : Nat) : Builtin.bitAnd (i : Int) (j : Int) = ((i &&& j : Nat) : Int) := rfl
theorem sub_tupI (xs : List Int) (i : Nat) (h : i < xs.length) : subsD (tupI xs) (.int (i : Int)) = some (.d (.int (at' xs i))) := by
  show (L2.atI (xs.map D.int) (i : Int)).map FV.d = _
  have e : L2.ixN (xs.map D.int).length (i : Int) = some i := by
    unfold L2.ixN
    rw [if_pos (Int.natCast_nonneg i), if_pos (by simpa using h)]
    simp
  unfold L2.atI
  rw [e]
  simp only [Option.bind_some, List.getElem?_map, List.getElem?_eq_getElem h, Option.map_some, at', List.getD_eq_getElem?_getD, Option.getD_some]
def badAt (a b c d : List Int) (i j : Nat) : Bool := decide (at' c (i ||| j) * at' d (i &&& j) < at' a i * at' b j)
/-- the four functions: as long as each other, numbers of 0 to 999 -/
structure Four (a b c d : List Int) : Prop where
  n : a.length = 2 ∨ a.length = 4 ∨ a.length = 8 ∨ a.length = 16
  lb : b.length = a.length
  lc : c.length = a.length
  ld : d.length = a.length
  ra : ∀ x ∈ a, 0 ≤ x ∧ x ≤ 999
  rb : ∀ x ∈ b, 0 ≤ x ∧ x ≤ 999
  rc : ∀ x ∈ c, 0 ≤ x ∧ x ≤ 999
  rd : ∀ x ∈ d, 0 ≤ x ∧ x ≤ 999
theorem at_mem {xs : List Int} {i : Nat} (h : ∀ x ∈ xs, 0 ≤ x ∧ x ≤ 999) : 0 ≤ at' xs i ∧ at' xs i ≤ 999 := by
  unfold at'
  rw [List.getD_eq_getElem?_getD]
  cases e : xs[i]? with
  | none => simp
  | some x => exact h x (List.mem_of_getElem? e)
theorem mul_999 {x y : Int} (hx : 0 ≤ x ∧ x ≤ 999) (hy : 0 ≤ y ∧ y ≤ 999) : mulD (.int x) (.int y) = some (.d (.int (x * y))) := by
  have h1 : x.natAbs.log2 < 10 := by
    by_cases h : x.natAbs = 0
    · rw [h]; decide
    · exact (Nat.log2_lt h).mpr (by omega)
  have h2 : y.natAbs.log2 < 10 := by
    by_cases h : y.natAbs = 0
    · rw [h]; decide
    · exact (Nat.log2_lt h).mpr (by omega)
  show (if decide (x.natAbs.log2 + y.natAbs.log2 < 1000000) = true then some (FV.d (.int (x * y))) else none) = _
  rw [if_pos (decide_eq_true (by omega))]
theorem lt_or {k i j : Nat} (hi : i < 2 ^ k) (hj : j < 2 ^ k) : i ||| j < 2 ^ k := Nat.or_lt_two_pow hi hj
theorem lt_and {k i j : Nat} (hi : i < 2 ^ k) : i &&& j < 2 ^ k := Nat.lt_of_le_of_lt Nat.and_le_left hi
theorem Four.or {a b c d : List Int} (F : Four a b c d) {i j : Nat} (hi : i < a.length) (hj : j < a.length) : i ||| j < a.length ∧ i &&& j < a.length := by
  rcases F.n with h | h | h | h <;> rw [h] at hi hj ⊢
  · exact ⟨lt_or (k := 1) hi hj, lt_and (k := 1) hi⟩
  · exact ⟨lt_or (k := 2) hi hj, lt_and (k := 2) hi⟩
  · exact ⟨lt_or (k := 3) hi hj, lt_and (k := 3) hi⟩
  · exact ⟨lt_or (k := 4) hi hj, lt_and (k := 4) hi⟩
theorem or_ii (i j : Nat) : orD (.int (i : Int)) (.int (j : Int)) = some (.d (.int ((i ||| j : Nat) : Int))) := by
  show some (FV.d (.int (Builtin.bitOr (i : Int) (j : Int)))) = _
  rw [or_nn]
theorem and_ii (i j : Nat) : andD (.int (i : Int)) (.int (j : Int)) = some (.d (.int ((i &&& j : Nat) : Int))) := by
  show some (FV.d (.int (Builtin.bitAnd (i : Int) (j : Int)))) = _
  rw [and_nn]
theorem is_more_eq {a b c d : List Int} (F : Four a b c d) {i j : Nat} (hi : i < a.length) (hj : j < a.length) :
    r_is_more [tupI a, tupI b, tupI c, tupI d, .tup [.int (i : Int), .int (j : Int)]] = some (.ok (.d (.bl (badAt a b c d i j)))) := by
  obtain ⟨h1, h2⟩ := F.or hi hj
  have e1 := sub_tupI a i hi
  have e2 := sub_tupI b j (by rw [F.lb]; exact hj)
  have e3 := sub_tupI c (i ||| j) (by rw [F.lc]; exact h1)
  have e4 := sub_tupI d (i &&& j) (by rw [F.ld]; exact h2)
  have m1 := mul_999 (at_mem (i := i) F.ra) (at_mem (i := j) F.rb)
  have m2 := mul_999 (at_mem (i := i ||| j) F.rc) (at_mem (i := i &&& j) F.rd)
  unfold r_is_more runP b_is_more
  unfold tupI at *
  simp [startF, List.replicate, endR, svSeq, svIf, svRet, svRetV, svAsg, svPut, svPar, svFor, svSto, svDrop, svRaise, svNil, evRng1, evSeq, evOrB, evAndB, evNotB, evTest, evB, evAnd, evOr, evNot, evIf, evTup, evLst, evNil, evCons, evCallP, evCallQ, varE, varP, ap2E, apC, evSlice, evPart, evComp, wrAt, wrOf, wrSet, evWr, evWr1, setG, truthD, noEr, putTup, putCons, putN, putNil, or_ii, and_ii, e1, e2, e3, e4, m1, m2, gtD, badAt]
end Nol.K44

set_option Elab.async false
set_option linter.all false
set_option maxRecDepth 100000
set_option maxHeartbeats 1000000
/-! k44, plain: fourfold, the list of bad pairs. -/
namespace Nol.K44
open Nol PySem PySem.Spec PyProof.Rows
theorem arg_tupI {xs : List Int} (h : xs.length ≤ 1000) : Arg (tupI xs) = true := by
  show (((xs.map D.int).all Kn) && decide ((xs.map D.int).length ≤ 1000)) = true
  rw [Bool.and_eq_true]
  refine ⟨List.all_eq_true.mpr fun x hx => ?_, by simpa using h⟩
  obtain ⟨i, _, rfl⟩ := List.mem_map.mp hx
  rfl
theorem numsOk_tupI {xs : List Int} (h : ∀ x ∈ xs, 0 ≤ x ∧ x ≤ 999) {m : Int} (hm : (xs.length : Int) = m) : numsOk (tupI xs) m = true := by
  show (decide (((xs.map D.int).length : Int) = m) && (xs.map D.int).all fun x => btw x 0 999) = true
  rw [Bool.and_eq_true]
  refine ⟨by simpa using hm, List.all_eq_true.mpr fun x hx => ?_⟩
  obtain ⟨i, hi, rfl⟩ := List.mem_map.mp hx
  have := h i hi
  simp [btw, this]
theorem Four.small {a b c d : List Int} (F : Four a b c d) : a.length ≤ 16 := by
  rcases F.n with h | h | h | h <;> omega
theorem Four.args {a b c d : List Int} (F : Four a b c d) : Arg (tupI a) = true ∧ Arg (tupI b) = true ∧ Arg (tupI c) = true ∧ Arg (tupI d) = true := by
  have h := F.small
  have h1 := F.lb
  have h2 := F.lc
  have h3 := F.ld
  exact ⟨arg_tupI (by omega), arg_tupI (by omega), arg_tupI (by omega), arg_tupI (by omega)⟩
theorem firstOk_tupI {a b c d : List Int} (F : Four a b c d) : firstOk (tupI a) = true := by
  show (decide ((a.map D.int).length = 2 ∨ (a.map D.int).length = 4 ∨ (a.map D.int).length = 8 ∨ (a.map D.int).length = 16) && numsT (a.map D.int) ((a.map D.int).length : Int)) = true
  rw [Bool.and_eq_true]
  exact ⟨by simpa using F.n, numsOk_tupI F.ra (by simp)⟩
theorem check_four_ok {a b c d : List Int} (F : Four a b c d) : r_check_four [tupI a, tupI b, tupI c, tupI d] = some (.ok (.d .non)) := by
  obtain ⟨h1, h2, h3, h4⟩ := F.args
  rw [check_four_eq _ _ _ _ h1 h2 h3 h4]
  have e : lenOf (tupI a) = (a.length : Int) := by show ((a.map D.int).length : Int) = _; simp
  have : four (tupI a) (tupI b) (tupI c) (tupI d) = none := by
    unfold four
    rw [firstOk_tupI F, e, numsOk_tupI F.rb (by rw [F.lb]), numsOk_tupI F.rc (by rw [F.lc]), numsOk_tupI F.rd (by rw [F.ld])]
    rfl
  rw [this]
theorem rngs0 (n : Nat) : rngs 0 n = (List.range n).map fun (i : Nat) => D.int (i : Int) := by
  unfold rngs
  refine List.map_congr_left fun i _ => ?_
  rw [Int.zero_add]
/-- the pairs that are too much -/
def rowL (a b c d : List Int) (i : Nat) : List (Nat × Nat) := ((List.range a.length).filter (badAt a b c d i)).map fun j => (i, j)
def badL (a b c d : List Int) : List (Nat × Nat) := (List.range a.length).flatMap (rowL a b c d)
abbrev pairD (p : Nat × Nat) : D := .tup [.int (p.1 : Int), .int (p.2 : Int)]
abbrev failD (p : Nat × Nat) : D := .tup [.str "fails", .int (p.1 : Int), .int (p.2 : Int)]
abbrev holdD : D := .tup [.str "holds"]
def toldD (l : List (Nat × Nat)) : D := match l with
  | [] => holdD
  | p :: _ => failD p
section
variable {a b c d : List Int}
abbrev fF (a b c d : List Int) (x y : Sl) : Fm := [.v (tupI a), .v (tupI b), .v (tupI c), .v (tupI d), x, y]
theorem ck2 : ckLen 2 = true := rfl
theorem ck3 : ckLen 3 = true := rfl
theorem ck1 : ckLen 1 = true := rfl
theorem ck0 : ckLen 0 = true := rfl
theorem ff1 (F : Four a b c d) {i j : Nat} (hi : i < a.length) (hj : j < a.length) : l_fourfold_1 (fF a b c d (.v (.int (i : Int))) (.v (.int (j : Int)))) =
    if badAt a b c d i j = true then some (.rt (failD (i, j)) (fF a b c d (.v (.int (i : Int))) (.v (.int (j : Int))))) else some (.nx (fF a b c d (.v (.int (i : Int))) (.v (.int (j : Int))))) := by
  have m := is_more_eq F hi hj
  unfold l_fourfold_1
  unfold tupI at *
  cases h : badAt a b c d i j <;> rw [h] at m <;> simp [startF, List.replicate, endR, svSeq, svIf, svRet, svRetV, svAsg, svPut, svPar, svFor, svSto, svDrop, svRaise, svNil, evRng1, evSeq, evOrB, evAndB, evNotB, evTest, evB, evAnd, evOr, evNot, evIf, evTup, evLst, evNil, evCons, evCallP, evCallQ, varE, varP, ap2E, apC, evSlice, evPart, evComp, wrAt, wrOf, wrSet, evWr, evWr1, setG, truthD, noEr, fF, m, ck2, ck3]
theorem ff_in (F : Four a b c d) {i : Nat} (hi : i < a.length) : ∀ (js : List Nat), (∀ j ∈ js, j < a.length) → ∀ y, ∃ y', loopS (putN 5) l_fourfold_1 (js.map fun (j : Nat) => D.int (j : Int)) (fF a b c d (.v (.int (i : Int))) y) =
    match js.filter (badAt a b c d i) with
    | [] => some (.nx (fF a b c d (.v (.int (i : Int))) y'))
    | j :: _ => some (.rt (failD (i, j)) (fF a b c d (.v (.int (i : Int))) y'))
  | [], _, y => ⟨y, rfl⟩
  | j :: js, h, y => by
    have e := ff1 F hi (h j List.mem_cons_self)
    obtain ⟨y', ih⟩ := ff_in F hi js (fun x hx => h x (List.mem_cons_of_mem _ hx)) (.v (.int (j : Int)))
    rw [List.map_cons]
    unfold loopS
    have p : putN 5 (D.int (j : Int)) (fF a b c d (.v (.int (i : Int))) y) = some (fF a b c d (.v (.int (i : Int))) (.v (.int (j : Int)))) := rfl
    simp only [p, e]
    cases hb : badAt a b c d i j with
    | true =>
      refine ⟨.v (.int (j : Int)), ?_⟩
      rw [List.filter_cons, if_pos hb]
      rfl
    | false =>
      refine ⟨y', ?_⟩
      rw [List.filter_cons, hb]
      simp only [Bool.false_eq_true, if_false]
      exact ih
theorem len_at {n : Nat} {xs : List Int} {env : Fm} (h : env[n]? = some (.v (tupI xs))) : (fun env => settle ((ap1 lenD (varP n)) env)) env = some (.ok (.int (xs.length : Int)) env) := by
  have e1 : varP n env = some (.ok (.d (tupI xs)) env) := by
    unfold varP
    rw [h]
  have e2 : lenD (tupI xs) = some (.d (.int (xs.length : Int))) := by
    show some (FV.d (.int ((xs.map D.int).length : Int))) = _
    rw [List.length_map]
  show settle (bindR (varP n env) _) = _
  rw [e1]
  show settle (liftO (lenD (tupI xs)) env) = _
  rw [e2]
  rfl
theorem rngC_small {n : Nat} (hn : n ≤ 1000) : rngC (n : Int) = true := by
  have h : (-(2 ^ 62) : Int) ≤ (n : Int) ∧ (n : Int) < 2 ^ 62 := by
    constructor <;> omega
  unfold rngC
  rw [decide_eq_true h.1, decide_eq_true h.2]
  decide
theorem evRng1_int {f : Ev D} {env e : Fm} {j : Int} (h : f env = some (.ok (.int j) e)) : evRng1 f env = if rngC j = true then some (.ok (rngs 0 j.toNat) e) else none := by
  unfold evRng1
  rw [h]
  rfl
theorem rng_at {f : Ev D} {env e : Fm} {j : Int} {n : Nat} (h : f env = some (.ok (.int j) e)) (hj : j.toNat = n) (c : rngC j = true) : evRng1 f env = some (.ok (rngs 0 n) e) := by
  rw [evRng1_int h, if_pos c, hj]
theorem rng_of {f : Ev D} {env e : Fm} {n : Nat} (h : f env = some (.ok (.int (n : Int)) e)) (hn : n ≤ 1000) : evRng1 f env = some (.ok (rngs 0 n) e) :=
  rng_at h (Int.toNat_natCast n) (rngC_small hn)
theorem rng_len (F : Four a b c d) {env : Fm} (h : env[0]? = some (.v (tupI a))) : evRng1 (fun env => settle ((ap1 lenD (varP 0)) env)) env = some (.ok ((List.range a.length).map fun (i : Nat) => D.int (i : Int)) env) := by
  rw [← rngs0]
  exact rng_of (len_at h) (Nat.le_trans F.small (by decide))
end
end Nol.K44

set_option Elab.async false
set_option linter.all false
set_option maxRecDepth 100000
set_option maxHeartbeats 1000000
/-! k44, plain: fourfold. -/
namespace Nol.K44
open Nol PySem PySem.Spec PyProof.Rows
section
variable {a b c d : List Int}
theorem loopS_nx {g : D → Fm → Option Fm} {body : Sv} {x : D} {xs : List D} {env e1 e2 : Fm} (h1 : g x env = some e1) (h2 : body e1 = some (.nx e2)) : loopS g body (x :: xs) env = loopS g body xs e2 := by
  rw [loopS]
  simp only [h1, h2]
theorem loopS_rt {g : D → Fm → Option Fm} {body : Sv} {x : D} {xs : List D} {env e1 e2 : Fm} {d : D} (h1 : g x env = some e1) (h2 : body e1 = some (.rt d e2)) : loopS g body (x :: xs) env = some (.rt d e2) := by
  rw [loopS]
  simp only [h1, h2]
theorem svFor_eq {it : Ev (List D)} {g : D → Fm → Option Fm} {body : Sv} {env e : Fm} {ds : List D} (h : it env = some (.ok ds e)) : svFor it g body env = loopS g body ds e := by
  unfold svFor
  rw [h]
  rfl
theorem svSeq_nx {f g : Sv} {env e : Fm} (h : f env = some (.nx e)) : svSeq f g env = g e := by
  unfold svSeq
  rw [h]
  rfl
theorem svSeq_rt {f g : Sv} {env e : Fm} {d : D} (h : f env = some (.rt d e)) : svSeq f g env = some (.rt d e) := by
  unfold svSeq
  rw [h]
  rfl
def resS (l : List (Nat × Nat)) (e : Fm) : Option RS := match l with
  | [] => some (.nx e)
  | p :: _ => some (.rt (failD p) e)
theorem ff2 (F : Four a b c d) {i : Nat} (hi : i < a.length) (y : Sl) : ∃ y', l_fourfold_2 (fF a b c d (.v (.int (i : Int))) y) = resS (rowL a b c d i) (fF a b c d (.v (.int (i : Int))) y') := by
  obtain ⟨y', e⟩ := ff_in F hi (List.range a.length) (fun j hj => List.mem_range.mp hj) y
  refine ⟨y', ?_⟩
  unfold l_fourfold_2
  rw [svFor_eq (rng_len F rfl), e]
  unfold rowL resS
  cases (List.range a.length).filter (badAt a b c d i) <;> simp only [List.map_nil, List.map_cons]
theorem ff_out (F : Four a b c d) : ∀ (is : List Nat), (∀ i ∈ is, i < a.length) → ∀ x y, ∃ x' y', loopS (putN 4) l_fourfold_2 (is.map fun (i : Nat) => D.int (i : Int)) (fF a b c d x y) = resS (is.flatMap (rowL a b c d)) (fF a b c d x' y') := by
  intro is
  induction is with
  | nil =>
    intro _ x y
    refine ⟨x, y, ?_⟩
    rw [List.map_nil, List.flatMap_nil, loopS, resS]
  | cons i is ih =>
    intro h x y
    obtain ⟨y1, e⟩ := ff2 F (h i List.mem_cons_self) y
    obtain ⟨x', y', ih⟩ := ih (fun x hx => h x (List.mem_cons_of_mem _ hx)) (.v (.int (i : Int))) y1
    have p : putN 4 (D.int (i : Int)) (fF a b c d x y) = some (fF a b c d (.v (.int (i : Int))) y) := rfl
    rw [List.map_cons, List.flatMap_cons]
    cases hr : rowL a b c d i with
    | nil =>
      rw [hr, resS] at e
      refine ⟨x', y', ?_⟩
      rw [loopS_nx p e, ih, List.nil_append]
    | cons q r =>
      rw [hr, resS] at e
      refine ⟨.v (.int (i : Int)), y1, ?_⟩
      rw [loopS_rt p e, List.cons_append, resS]
theorem fourfold_eq (F : Four a b c d) : r_fourfold [tupI a, tupI b, tupI c, tupI d] = some (.ok (.d (toldD (badL a b c d)))) := by
  have ck := check_four_ok F
  obtain ⟨x', y', e⟩ := ff_out F (List.range a.length) (fun j hj => List.mem_range.mp hj) .un .un
  have s1 : svDrop (evCallP r_check_four 4 (evCons (varE 0) (evCons (varE 1) (evCons (varE 2) (evCons (varE 3) evNil))))) (fF a b c d .un .un) = some (.nx (fF a b c d .un .un)) := by
    unfold tupI at *
    simp [startF, List.replicate, endR, svSeq, svIf, svRet, svRetV, svAsg, svPut, svPar, svFor, svSto, svDrop, svRaise, svNil, evRng1, evSeq, evOrB, evAndB, evNotB, evTest, evB, evAnd, evOr, evNot, evIf, evTup, evLst, evNil, evCons, evCallP, evCallQ, varE, varP, ap2E, apC, evSlice, evPart, evComp, wrAt, wrOf, wrSet, evWr, evWr1, setG, truthD, noEr, fF, ck]
  have s2 := svFor_eq (g := putN 4) (body := l_fourfold_2) (rng_len F (env := fF a b c d .un .un) rfl)
  rw [e] at s2
  unfold r_fourfold runP b_fourfold
  have st : startF n_fourfold (List.map Sl.v [tupI a, tupI b, tupI c, tupI d]) = fF a b c d .un .un := rfl
  rw [st, svSeq_nx s1]
  unfold badL
  cases hb : (List.range a.length).flatMap (rowL a b c d) with
  | nil =>
    rw [hb, resS] at s2
    rw [svSeq_nx s2]
    simp [svRet, evTup, evCons, evNil, endR, toldD, ck1]
  | cons p r =>
    rw [hb, resS] at s2
    rw [svSeq_rt s2, endR, toldD]
    rfl
end
end Nol.K44

set_option Elab.async false
set_option linter.all false
set_option maxRecDepth 100000
set_option maxHeartbeats 1000000
/-! k44, plain: the list of the bad pairs. -/
namespace Nol.K44
open Nol PySem PySem.Spec PyProof.Rows
section
variable {a b c d : List Int}
/-! ### the list of the bad pairs -/
abbrev fB (a b c d : List Int) (l : List (Nat × Nat)) (x y : Sl) : Fm := [.v (tupI a), .v (tupI b), .v (tupI c), .v (tupI d), .own (l.map pairD), x, y]
theorem fb1 (F : Four a b c d) {i j : Nat} (hi : i < a.length) (hj : j < a.length) (l : List (Nat × Nat)) (hl : l.length < 900) : l__law_bad_1 (fB a b c d l (.v (.int (i : Int))) (.v (.int (j : Int)))) =
    some (.nx (fB a b c d (l ++ if badAt a b c d i j = true then [(i, j)] else []) (.v (.int (i : Int))) (.v (.int (j : Int))))) := by
  obtain ⟨h1, h2⟩ := F.or hi hj
  have e1 := sub_tupI a i hi
  have e2 := sub_tupI b j (by rw [F.lb]; exact hj)
  have e3 := sub_tupI c (i ||| j) (by rw [F.lc]; exact h1)
  have e4 := sub_tupI d (i &&& j) (by rw [F.ld]; exact h2)
  have m1 := mul_999 (at_mem (i := i) F.ra) (at_mem (i := j) F.rb)
  have m2 := mul_999 (at_mem (i := i ||| j) F.rc) (at_mem (i := i &&& j) F.rd)
  have c1 : ckLen (l.length + 1) = true := decide_eq_true (by omega)
  have c0 : ckLen l.length = true := decide_eq_true (by omega)
  unfold l__law_bad_1
  unfold tupI at *
  by_cases hb : at' c (i ||| j) * at' d (i &&& j) < at' a i * at' b j <;>
    simp [startF, List.replicate, endR, svSeq, svIf, svRet, svRetV, svAsg, svPut, svPar, svFor, svSto, svDrop, svRaise, svNil, evRng1, evSeq, evOrB, evAndB, evNotB, evTest, evB, evAnd, evOr, evNot, evIf, evTup, evLst, evNil, evCons, evCallP, evCallQ, varE, varP, ap2E, apC, evSlice, evPart, evComp, wrAt, wrOf, wrSet, evWr, evWr1, setG, truthD, noEr, fB, or_ii, and_ii, e1, e2, e3, e4, m1, m2, gtD, badAt, hb, ck2, ck1, ck0, extendG, c1, c0]
theorem fb_in (F : Four a b c d) {i : Nat} (hi : i < a.length) : ∀ (js : List Nat), (∀ j ∈ js, j < a.length) → ∀ l y, l.length + js.length < 900 → ∃ y', loopS (putN 6) l__law_bad_1 (js.map fun (j : Nat) => D.int (j : Int)) (fB a b c d l (.v (.int (i : Int))) y) =
    some (.nx (fB a b c d (l ++ (js.filter (badAt a b c d i)).map fun j => (i, j)) (.v (.int (i : Int))) y')) := by
  intro js
  induction js with
  | nil =>
    intro _ l y _
    refine ⟨y, ?_⟩
    rw [List.map_nil, List.filter_nil, List.map_nil, List.append_nil, loopS]
  | cons j js ih =>
    intro h l y hl
    have hl : l.length + (js.length + 1) < 900 := by simpa using hl
    have e := fb1 F hi (h j List.mem_cons_self) l (by omega)
    have p : putN 6 (D.int (j : Int)) (fB a b c d l (.v (.int (i : Int))) y) = some (fB a b c d l (.v (.int (i : Int))) (.v (.int (j : Int)))) := rfl
    rw [List.map_cons, loopS_nx p e, List.filter_cons]
    by_cases hb : badAt a b c d i j = true
    · rw [if_pos hb, if_pos hb]
      obtain ⟨y', ih⟩ := ih (fun x hx => h x (List.mem_cons_of_mem _ hx)) (l ++ [(i, j)]) (.v (.int (j : Int))) (by rw [List.length_append, List.length_singleton]; omega)
      refine ⟨y', ?_⟩
      rw [ih, List.map_cons, List.append_assoc, List.singleton_append]
    · rw [if_neg hb, if_neg hb, List.append_nil]
      exact ih (fun x hx => h x (List.mem_cons_of_mem _ hx)) l (.v (.int (j : Int))) (by omega)
theorem row_len (i : Nat) : (rowL a b c d i).length ≤ a.length := by
  unfold rowL
  rw [List.length_map]
  exact Nat.le_trans (List.length_filter_le _ _) (by rw [List.length_range]; exact Nat.le_refl _)
theorem fb2 (F : Four a b c d) {i : Nat} (hi : i < a.length) (l : List (Nat × Nat)) (hl : l.length < 800) (y : Sl) : ∃ y', l__law_bad_2 (fB a b c d l (.v (.int (i : Int))) y) = some (.nx (fB a b c d (l ++ rowL a b c d i) (.v (.int (i : Int))) y')) := by
  have := F.small
  obtain ⟨y', e⟩ := fb_in F hi (List.range a.length) (fun j hj => List.mem_range.mp hj) l y (by rw [List.length_range]; omega)
  refine ⟨y', ?_⟩
  unfold l__law_bad_2
  rw [svFor_eq (rng_len F rfl), e, rowL]
theorem fb_out (F : Four a b c d) : ∀ (is : List Nat), (∀ i ∈ is, i < a.length) → ∀ l x y, l.length + 16 * is.length < 800 → ∃ x' y', loopS (putN 5) l__law_bad_2 (is.map fun (i : Nat) => D.int (i : Int)) (fB a b c d l x y) = some (.nx (fB a b c d (l ++ is.flatMap (rowL a b c d)) x' y')) := by
  intro is
  induction is with
  | nil =>
    intro _ l x y _
    refine ⟨x, y, ?_⟩
    rw [List.map_nil, List.flatMap_nil, List.append_nil, loopS]
  | cons i is ih =>
    intro h l x y hl
    have hl : l.length + 16 * (is.length + 1) < 800 := by simpa using hl
    obtain ⟨y1, e⟩ := fb2 F (h i List.mem_cons_self) l (by omega) y
    have hr := row_len (a := a) (b := b) (c := c) (d := d) i
    have := F.small
    obtain ⟨x', y', ih⟩ := ih (fun x hx => h x (List.mem_cons_of_mem _ hx)) (l ++ rowL a b c d i) (.v (.int (i : Int))) y1 (by rw [List.length_append]; omega)
    have p : putN 5 (D.int (i : Int)) (fB a b c d l x y) = some (fB a b c d l (.v (.int (i : Int))) y) := rfl
    refine ⟨x', y', ?_⟩
    rw [List.map_cons, loopS_nx p e, ih, List.flatMap_cons, List.append_assoc]
theorem law_bad_eq (F : Four a b c d) : r__law_bad [tupI a, tupI b, tupI c, tupI d] = some (.ok (.fr ((badL a b c d).map pairD))) := by
  have := F.small
  obtain ⟨x', y', e⟩ := fb_out F (List.range a.length) (fun j hj => List.mem_range.mp hj) [] .un .un (by rw [List.length_range]; simp; omega)
  have s2 := svFor_eq (g := putN 5) (body := l__law_bad_2) (rng_len F (env := fB a b c d [] .un .un) rfl)
  rw [e, List.nil_append] at s2
  have s1 : svAsg 4 (evLst evNil) (startF n__law_bad (List.map Sl.v [tupI a, tupI b, tupI c, tupI d])) = some (.nx (fB a b c d [] .un .un)) := rfl
  unfold r__law_bad runP b__law_bad
  rw [svSeq_nx s1, svSeq_nx s2]
  unfold badL
  rfl
end
end Nol.K44

set_option Elab.async false
set_option linter.all false
set_option maxRecDepth 100000
set_option maxHeartbeats 1000000
/-! k44, plain: the inequality of four functions, up to four bits. -/
namespace Nol.K44
open Nol PySem PySem.Spec PyProof.Rows
/-- one bit -/
theorem one_bit {a0 a1 b0 b1 c0 c1 d0 d1 : Int} (ha0 : 0 ≤ a0) (ha1 : 0 ≤ a1) (hb0 : 0 ≤ b0) (hb1 : 0 ≤ b1) (hc0 : 0 ≤ c0) (hc1 : 0 ≤ c1) (hd0 : 0 ≤ d0) (hd1 : 0 ≤ d1)
    (h00 : a0 * b0 ≤ c0 * d0) (h01 : a0 * b1 ≤ c1 * d0) (h10 : a1 * b0 ≤ c1 * d0) (h11 : a1 * b1 ≤ c1 * d1) : (a0 + a1) * (b0 + b1) ≤ (c0 + c1) * (d0 + d1) := by
  have e1 : (a0 + a1) * (b0 + b1) = a0 * b0 + a1 * b1 + (a0 * b1 + a1 * b0) := by
    rw [Int.add_mul, Int.mul_add, Int.mul_add]; omega
  have e2 : (c0 + c1) * (d0 + d1) = c0 * d0 + c1 * d1 + (c1 * d0 + c0 * d1) := by
    rw [Int.add_mul, Int.mul_add, Int.mul_add]; omega
  have key : a0 * b1 + a1 * b0 ≤ c1 * d0 + c0 * d1 := by
    have u0 : 0 ≤ a0 * b1 := Int.mul_nonneg ha0 hb1
    have v0 : 0 ≤ a1 * b0 := Int.mul_nonneg ha1 hb0
    have w0 : 0 ≤ c0 * d1 := Int.mul_nonneg hc0 hd1
    have t0 : 0 ≤ c1 * d0 := Int.mul_nonneg hc1 hd0
    -- t * w ≥ u * v
    have tw : (a0 * b1) * (a1 * b0) ≤ (c1 * d0) * (c0 * d1) := by
      have q : (a0 * b0) * (a1 * b1) ≤ (c0 * d0) * (c1 * d1) := Int.mul_le_mul h00 h11 (Int.mul_nonneg ha1 hb1) (Int.mul_nonneg hc0 hd0)
      have q1 : (a0 * b1) * (a1 * b0) = (a0 * b0) * (a1 * b1) := by ac_rfl
      have q2 : (c1 * d0) * (c0 * d1) = (c0 * d0) * (c1 * d1) := by ac_rfl
      rw [q1, q2]
      exact q
    generalize hu : a0 * b1 = u at *
    generalize hv : a1 * b0 = v at *
    generalize ht : c1 * d0 = t at *
    generalize hw : c0 * d1 = w at *
    by_cases hz : t = 0
    · omega
    · have tp : 0 < t := by omega
      -- (t - u) (t - v) ≥ 0
      have p : 0 ≤ (t - u) * (t - v) := Int.mul_nonneg (by omega) (by omega)
      have e3 : (t - u) * (t - v) = t * t - t * v - (u * t - u * v) := by
        rw [Int.sub_mul, Int.mul_sub, Int.mul_sub]
      have e4 : t * (u + v) ≤ t * (t + w) := by
        rw [Int.mul_add, Int.mul_add]
        have : u * t = t * u := Int.mul_comm u t
        omega
      exact Int.le_of_mul_le_mul_left e4 tp
  rw [e1, e2]
  omega
/-- the sum of the first n -/
def S : Nat → (Nat → Int) → Int
  | 0, _ => 0
  | n + 1, f => S n f + f n
theorem S_add (m : Nat) (f : Nat → Int) : ∀ n, S (m + n) f = S m f + S n (fun i => f (m + i))
  | 0 => by show S m f = S m f + 0; omega
  | n + 1 => by
    show S (m + n) f + f (m + n) = S m f + (S n (fun i => f (m + i)) + f (m + n))
    rw [S_add m f n]
    omega
theorem S_two (f g : Nat → Int) : ∀ n, S n f + S n g = S n (fun i => f i + g i)
  | 0 => rfl
  | n + 1 => by
    show S n f + f n + (S n g + g n) = S n (fun i => f i + g i) + (f n + g n)
    rw [← S_two f g n]
    omega
def Ad (n : Nat) : Prop := ∀ f g p q : Nat → Int, (∀ i, 0 ≤ f i) → (∀ i, 0 ≤ g i) → (∀ i, 0 ≤ p i) → (∀ i, 0 ≤ q i) → (∀ i j, i < n → j < n → f i * g j ≤ p (i ||| j) * q (i &&& j)) → S n f * S n g ≤ S n p * S n q
/-- the highest bit split off -/
theorem ad_step {m : Nat} (bits : ∀ i < m, ∀ j < m, i ||| j < m + m ∧ (i ||| (m + j)) = m + (i ||| j) ∧ (i &&& (m + j)) = (i &&& j) ∧ ((m + i) ||| j) = m + (i ||| j) ∧ ((m + i) &&& j) = (i &&& j) ∧ ((m + i) ||| (m + j)) = m + (i ||| j) ∧ ((m + i) &&& (m + j)) = m + (i &&& j)) (h : Ad m) : Ad (m + m) := by
  intro f g p q hf hg hp hq hh
  have half : ∀ f : Nat → Int, S (m + m) f = S m (fun i => f i + f (m + i)) := fun f => by rw [S_add, S_two]
  rw [half f, half g, half p, half q]
  refine h _ _ _ _ (fun i => Int.add_nonneg (hf _) (hf _)) (fun i => Int.add_nonneg (hg _) (hg _)) (fun i => Int.add_nonneg (hp _) (hp _)) (fun i => Int.add_nonneg (hq _) (hq _)) fun i j hi hj => ?_
  obtain ⟨_, b1, b2, b3, b4, b5, b6⟩ := bits i hi j hj
  have h00 := hh i j (by omega) (by omega)
  have h01 := hh i (m + j) (by omega) (by omega)
  have h10 := hh (m + i) j (by omega) (by omega)
  have h11 := hh (m + i) (m + j) (by omega) (by omega)
  rw [b1, b2] at h01
  rw [b3, b4] at h10
  rw [b5, b6] at h11
  exact one_bit (hf _) (hf _) (hg _) (hg _) (hp _) (hp _) (hq _) (hq _) h00 h01 h10 h11
theorem ad1 : Ad 1 := fun f g p q _ _ _ _ h => by
  have := h 0 0 (by decide) (by decide)
  show (0 + f 0) * (0 + g 0) ≤ (0 + p 0) * (0 + q 0)
  simpa using this
theorem ad2 : Ad 2 := ad_step (m := 1) (by decide) ad1
theorem ad4 : Ad 4 := ad_step (m := 2) (by decide) ad2
theorem ad8 : Ad 8 := ad_step (m := 4) (by decide) ad4
theorem ad16 : Ad 16 := ad_step (m := 8) (by decide +kernel) ad8
theorem S_congr {f g : Nat → Int} : ∀ {n}, (∀ i, i < n → f i = g i) → S n f = S n g
  | 0, _ => rfl
  | n + 1, h => by
    show S n f + f n = S n g + g n
    rw [S_congr fun i hi => h i (by omega), h n (by omega)]
theorem sum_S (xs : List Int) : xs.sum = S xs.length (at' xs) := by
  have gen : ∀ (r : List Int) (acc : List Int), S (acc.length + r.length) (at' (acc ++ r)) = S acc.length (at' (acc ++ r)) + r.sum := by
    intro r
    induction r with
    | nil => intro acc; simp
    | cons x r ih =>
      intro acc
      have := ih (acc ++ [x])
      rw [List.append_assoc, List.singleton_append, List.length_append, List.length_singleton] at this
      rw [List.length_cons, show acc.length + (r.length + 1) = acc.length + 1 + r.length by omega, this]
      show S acc.length _ + at' (acc ++ x :: r) acc.length + r.sum = _
      have e : at' (acc ++ x :: r) acc.length = x := by
        unfold at'
        rw [List.getD_eq_getElem?_getD, List.getElem?_append_right (Nat.le_refl _)]
        simp
      rw [e, List.sum_cons]
      omega
  have := gen xs []
  simp only [List.nil_append, List.length_nil, Nat.zero_add] at this
  rw [this]
  show xs.sum = 0 + xs.sum
  omega
theorem badL_nil {a b c d : List Int} (h : badL a b c d = []) {i j : Nat} (hi : i < a.length) (hj : j < a.length) : at' a i * at' b j ≤ at' c (i ||| j) * at' d (i &&& j) := by
  unfold badL at h
  have h1 := List.flatMap_eq_nil_iff.mp h i (List.mem_range.mpr hi)
  unfold rowL at h1
  have h2 := List.filter_eq_nil_iff.mp (List.map_eq_nil_iff.mp h1) j (List.mem_range.mpr hj)
  unfold badAt at h2
  simpa using h2
theorem four_fun {a b c d : List Int} (F : Four a b c d) (h : badL a b c d = []) : a.sum * b.sum ≤ c.sum * d.sum := by
  rw [sum_S a, sum_S b, sum_S c, sum_S d, F.lb, F.lc, F.ld]
  have go : Ad a.length := by
    rcases F.n with h | h | h | h <;> rw [h]
    · exact ad2
    · exact ad4
    · exact ad8
    · exact ad16
  exact go _ _ _ _ (fun i => (at_mem F.ra).1) (fun i => (at_mem F.rb).1) (fun i => (at_mem F.rc).1) (fun i => (at_mem F.rd).1) fun i j hi hj => badL_nil h hi hj
end Nol.K44

set_option Elab.async false
set_option linter.all false
/-! k44, plain: a run by steps, each a lemma, so that nothing is compared by unfolding. -/
namespace Nol.K44
open Nol PySem PySem.Spec PyProof.Rows
variable {env e e1 e2 e3 : Fm} {d a b v : D} {p q : PV} {g : D → D → Option FV} {g1 : D → Option FV} {r : FV} {ds xs : List D} {i : Nat}
theorem ev_settle {x : Option (Rs FV)} (h : x = some (.ok (.d v) e)) : settle x = some (.ok v e) := by rw [h]; rfl
theorem ev_settleF {x : Option (Rs FV)} (h : x = some (.ok (.fr ds) e)) : settle x = some (.ok (.lst ds) e) := by rw [h]; rfl
theorem ev_asP {x : Option (Rs D)} (h : x = some (.ok v e)) : asP x = some (.ok (.d v) e) := by rw [h]; rfl
theorem ev_C : evC d env = some (.ok d env) := rfl
theorem ev_ap2 {fa fb : Ev PV} (ha : fa env = some (.ok p e1)) (hb : fb e1 = some (.ok q e2)) (hp : deref e2 p = some a) (hq : deref e2 q = some b) (h : g a b = some r) : ap2 g fa fb env = some (.ok r e2) := by
  unfold ap2
  rw [ha]; show bindR (fb e1) _ = _
  rw [hb]; show (match deref e2 p, deref e2 q with
    | some d, some e => liftO (g d e) e2
    | _, _ => none) = _
  rw [hp, hq]; show liftO (g a b) e2 = _
  rw [h]; rfl
theorem ev_ap1 {fa : Ev PV} (ha : fa env = some (.ok p e1)) (hp : deref e1 p = some a) (h : g1 a = some r) : ap1 g1 fa env = some (.ok r e1) := by
  unfold ap1
  rw [ha]; show (match deref e1 p with
    | some d => liftO (g1 d) e1
    | none => none) = _
  rw [hp]; show liftO (g1 a) e1 = _
  rw [h]; rfl
theorem ev_apE {fa : Ev D} (ha : fa env = some (.ok a e1)) (h : g1 a = some r) : apE g1 fa env = some (.ok r e1) := by
  unfold apE
  rw [ha]; show liftO (g1 a) e1 = _
  rw [h]; rfl
theorem ev_ap2E {fa fb : Ev D} (ha : fa env = some (.ok a e1)) (hb : fb e1 = some (.ok b e2)) (h : g a b = some r) : ap2E g fa fb env = some (.ok r e2) := by
  unfold ap2E
  rw [ha]; show bindR (fb e1) _ = _
  rw [hb]; show liftO (g a b) e2 = _
  rw [h]; rfl
theorem ev_nil : evNil env = some (.ok [] env) := rfl
theorem ev_cons {f : Ev D} {g : Ev (List D)} (h : f env = some (.ok a e1)) (h2 : g e1 = some (.ok ds e2)) : evCons f g env = some (.ok (a :: ds) e2) := by
  unfold evCons
  rw [h]; show bindR (g e1) _ = _
  rw [h2]; rfl
theorem ev_tup {g : Ev (List D)} (h : g env = some (.ok ds e)) (hc : ckLen ds.length = true) : evTup g env = some (.ok (.tup ds) e) := by
  unfold evTup
  rw [h]; show (if ckLen ds.length = true then _ else _) = _
  rw [if_pos hc]
theorem ev_lst {g : Ev (List D)} (h : g env = some (.ok ds e)) (hc : ckLen ds.length = true) : evLst g env = some (.ok (.fr ds) e) := by
  unfold evLst
  rw [h]; show (if ckLen ds.length = true then _ else _) = _
  rw [if_pos hc]
theorem ev_varE (h : env[i]? = some (.v d)) : varE i env = some (.ok d env) := by unfold varE; rw [h]
theorem ev_varEo (h : env[i]? = some (.own ds)) : varE i env = some (.ok (.lst ds) (env.set i (.v (.lst ds)))) := by unfold varE; rw [h]
theorem ev_varPv (h : env[i]? = some (.v d)) : varP i env = some (.ok (.d d) env) := by unfold varP; rw [h]
theorem ev_varPp (h : env[i]? = some (.par ds)) : varP i env = some (.ok (.sl i) env) := by unfold varP; rw [h]
theorem ev_varPo (h : env[i]? = some (.own ds)) : varP i env = some (.ok (.sl i) env) := by unfold varP; rw [h]
theorem de_d : deref env (.d d) = some d := rfl
theorem de_par (h : env[i]? = some (.par ds)) : deref env (.sl i) = some (.lst ds) := by simp [deref, h]
theorem de_own (h : env[i]? = some (.own ds)) : deref env (.sl i) = some (.lst ds) := by simp [deref, h]
theorem st_asg {f : Ev FV} (h : f env = some (.ok r e)) : svAsg i f env = some (.nx (e.set i (slOf r))) := by unfold svAsg; rw [h]; rfl
theorem st_ret {f : Ev FV} (h : f env = some (.ok (.d d) e)) : svRet f env = some (.rt d e) := by unfold svRet; rw [h]; rfl
theorem st_retF {f : Ev FV} (h : f env = some (.ok (.fr ds) e)) : svRet f env = some (.rf ds e) := by unfold svRet; rw [h]; rfl
theorem st_if {t : Ev Bool} {f g : Sv} {c : Bool} {s : RS} (h : t env = some (.ok c e)) (hs : (if c = true then f e else g e) = some s) : svIf t f g env = some s := by unfold svIf; rw [h]; exact hs
theorem st_ift {t : Ev Bool} {f g : Sv} {s : Option RS} (h : t env = some (.ok true e)) (hs : f e = s) : svIf t f g env = s := by unfold svIf; rw [h]; exact hs
theorem st_iff {t : Ev Bool} {f g : Sv} {s : Option RS} (h : t env = some (.ok false e)) (hs : g e = s) : svIf t f g env = s := by unfold svIf; rw [h]; exact hs
theorem st_nil : svNil env = some (.nx env) := rfl
theorem st_seq {f g : Sv} {s : Option RS} (h : f env = some (.nx e)) (hs : g e = s) : svSeq f g env = s := (svSeq_nx h).trans hs
theorem ev_B {f : Ev D} {c : Bool} (h : f env = some (.ok (.bl c) e)) : evB f env = some (.ok c e) := by unfold evB; rw [h]; rfl
theorem ev_Test {f : Ev PV} {c : Bool} (h : f env = some (.ok p e)) (hp : deref e p = some d) (hd : truthD d = some c) : evTest f env = some (.ok c e) := by
  unfold evTest; rw [h]
  show (match (deref e p).bind truthD with
    | some b => some (Rs.ok b e)
    | none => none) = _
  rw [hp]; show (match truthD d with
    | some b => some (Rs.ok b e)
    | none => none) = _
  rw [hd]
theorem ev_and0 {f g : Ev Bool} (h : f env = some (.ok false e)) : evAndB f g env = some (.ok false e) := by unfold evAndB; rw [h]; rfl
theorem ev_and1 {f g : Ev Bool} {s : Option (Rs Bool)} (h : f env = some (.ok true e)) (hs : g e = s) : evAndB f g env = s := by unfold evAndB; rw [h]; exact hs
end Nol.K44

set_option Elab.async false
set_option linter.all false
set_option maxRecDepth 100000
set_option maxHeartbeats 1000000
/-! k44, plain: the pot. -/
namespace Nol.K44
open Nol PySem PySem.Spec PyProof.Rows
/-- the pot after at most n turns of its own -/
def Pot (n : Nat) (p : List D) : Prop := ∃ x y z : Int, p = [.int x, .int y, .int z] ∧ 0 ≤ x ∧ 0 ≤ y ∧ y < 2305843009213693921 ∧ 0 ≤ z ∧ z ≤ n
theorem Pot.mono {m n : Nat} {p : List D} (h : Pot m p) (hn : m ≤ n) : Pot n p := by
  obtain ⟨x, y, z, e, h1, h2, h3, h4, h5⟩ := h
  exact ⟨x, y, z, e, h1, h2, h3, h4, by omega⟩
theorem sub30 (a b c : D) : subsD (.lst [a, b, c]) (.int 0) = some (.d a) := rfl
theorem sub31 (a b c : D) : subsD (.lst [a, b, c]) (.int 1) = some (.d b) := rfl
theorem sub32 (a b c : D) : subsD (.lst [a, b, c]) (.int 2) = some (.d c) := rfl
theorem set30 (a b c d : D) : setG (.int 0) d [a, b, c] = some ([d, b, c], .non) := rfl
theorem set32 (a b c d : D) : setG (.int 2) d [a, b, c] = some ([a, b, d], .non) := rfl
theorem int_i (i : Int) : intD (.int i) = some (.d (.int i)) := rfl
theorem add_ii (i j : Int) : addD (.int i) (.int j) = some (.d (.int (i + j))) := rfl
theorem gt_ii (i j : Int) : gtD (.int i) (.int j) = some (.d (.bl (decide (j < i)))) := rfl
theorem mod_ii {i j : Int} (h : 0 < j) : modD (.int i) (.int j) = some (.d (.int (i % j))) := by
  have c : modC i j = true := decide_eq_true h
  show (if modC i j = true then some (FV.d (.int (i % j))) else none) = _
  rw [if_pos c]
theorem log_lt {i : Int} {k : Nat} (h : i.natAbs < 2 ^ k) (hk : 0 < k) : i.natAbs.log2 < k := by
  by_cases z : i.natAbs = 0
  · rw [z]; exact hk
  · exact (Nat.log2_lt z).mpr h
theorem mul_ii {i j : Int} (hi : i.natAbs < 2 ^ 100) (hj : j.natAbs < 2 ^ 100) : mulD (.int i) (.int j) = some (.d (.int (i * j))) := by
  have h1 := log_lt hi (by decide)
  have h2 := log_lt hj (by decide)
  have c : decide (i.natAbs.log2 + j.natAbs.log2 < 1000000) = true := decide_eq_true (by omega)
  show (if decide (i.natAbs.log2 + j.natAbs.log2 < 1000000) = true then some (FV.d (.int (i * j))) else none) = _
  rw [if_pos c]
theorem fdiv_ii {i j : Int} (h : 0 < j) (h2 : j < 1073741824) : fdivD (.int i) (.int j) = some (.d (.int (i / j))) := by
  have h1 : j.natAbs.log2 < 30 := log_lt (by omega) (by decide)
  have c : fdivC i j = true := by
    unfold fdivC
    rw [Bool.and_eq_true]
    exact ⟨decide_eq_true h, decide_eq_true (by omega)⟩
  show (if fdivC i j = true then some (FV.d (.int (i / j))) else none) = _
  rw [if_pos c]
theorem pow3 {i : Int} (h : i.natAbs < 2 ^ 100) : powD (.int i) (.int 3) = some (.d (.int (i ^ 3))) := by
  have h1 := log_lt h (by decide)
  have c : powC i 3 = true := by
    unfold powC
    rw [Bool.and_eq_true]
    exact ⟨decide_eq_true (by decide), decide_eq_true (by omega)⟩
  have e : powD (.int i) (.int 3) = if powC i 3 = true then some (FV.d (.int (i ^ (3 : Int).toNat))) else none := rfl
  have t : (3 : Int).toNat = 3 := rfl
  rw [e, if_pos c, t]
theorem primes {i : Int} (h0 : 0 ≤ i) (h5 : i < 5) : ∃ p : Int, subsD (.lst [.int 2147483647, .int 2147483629, .int 2147483587, .int 2147483579, .int 2147483563]) (.int i) = some (.d (.int p)) ∧ 0 < p ∧ p < 2147483648 := by
  obtain h | h | h | h | h : i = 0 ∨ i = 1 ∨ i = 2 ∨ i = 3 ∨ i = 4 := by omega
  all_goals rw [h]
  · exact ⟨2147483647, rfl, by decide, by decide⟩
  · exact ⟨2147483629, rfl, by decide, by decide⟩
  · exact ⟨2147483587, rfl, by decide, by decide⟩
  · exact ⟨2147483579, rfl, by decide, by decide⟩
  · exact ⟨2147483563, rfl, by decide, by decide⟩
theorem ck5 : ckLen 5 = true := rfl
theorem runQ_rt {N : List Str} {fb : Sv} {pds ds q : List D} {d : D} {e : Fm} (h : fb (startF N (.par pds :: ds.map .v)) = some (.rt d e)) (hq : e[0]? = some (.par q)) : runQ N fb pds ds = some (.ok (.d d), q) := by
  unfold runQ
  rw [h]
  simp [endR, hq]
theorem take_own {x y z u : Int} (hx : 0 < x) (hu : 0 < u) (hu2 : u < 1073741824) : r__law_take [.int x, .int y, .int z] [.int u] = some (.ok (.d (.int (x % u))), [.int (x / u), .int y, .int z]) := by
  have m := mod_ii (i := x) hu
  have f := fdiv_ii (i := x) hu hu2
  have g : gtD (.int x) (.int 0) = some (.d (.bl true)) := by rw [gt_ii, decide_eq_true hx]
  unfold r__law_take b__law_take
  refine runQ_rt (d := .int (x % u)) (e := [.par [.int (x / u), .int y, .int z], .v (.int u), .v (.int (x % u)), .un, .un]) (svSeq_rt ?_) rfl
  simp [startF, List.replicate, endR, svSeq, svIf, svRet, svRetV, svAsg, svPut, svPar, svFor, svSto, svDrop, svRaise, svNil, evRng1, evSeq, evOrB, evAndB, evNotB, evTest, evB, evAnd, evOr, evNot, evIf, evTup, evLst, evNil, evCons, evCallP, evCallQ, varE, varP, ap2E, apC, evSlice, evPart, evComp, wrAt, wrOf, wrSet, evWr, evWr1, truthD, noEr, sub30, int_i, m, f, g, set30, deref]
theorem take_run {x y z u w p v q c b s o r m : Int} {M : Int} (hx : ¬ 0 < x) (a1 : addD (.int z) (.int 1) = some (.d (.int w)))
    (m5 : modD (.int w) (.int 5) = some (.d (.int (w % 5)))) (hp : subsD (.lst [.int 2147483647, .int 2147483629, .int 2147483587, .int 2147483579, .int 2147483563]) (.int (w % 5)) = some (.d (.int p)))
    (k1 : mulD (.int 115235) (.int w) = some (.d (.int v))) (k2 : mulD (.int v) (.int w) = some (.d (.int q))) (e3 : powD (.int (y + q + 4753)) (.int 3) = some (.d (.int c)))
    (mp : modD (.int c) (.int p) = some (.d (.int b))) (m2 : modD (.int b) (.int 25185) = some (.d (.int s))) (k3 : mulD (.int 2837) (.int w) = some (.d (.int o)))
    (k4 : mulD (.int b) (.int (s + o)) = some (.d (.int r))) (m3 : modD (.int r) (.int 2305843009213693907) = some (.d (.int M)))
    (f : fdivD (.int M) (.int 7087) = some (.d (.int m))) (m4 : modD (.int m) (.int u) = some (.d (.int (m % u)))) : r__law_take [.int x, .int y, .int z] [.int u] = some (.ok (.d (.int (m % u))), [.int x, .int y, .int w]) := by
  have g : gtD (.int x) (.int 0) = some (.d (.bl false)) := by rw [gt_ii, decide_eq_false hx]
  have a2 := add_ii y q
  have a3 := add_ii (y + q) 4753
  have a4 := add_ii s o
  have i1 := int_i (y + q + 4753)
  have i2 := int_i c
  unfold r__law_take b__law_take
  refine runQ_rt (e := [.par [.int x, .int y, .int w], .v (.int u), .un, .v (.int p), .v (.int M)]) ?_ rfl
  refine (svSeq_nx (e := [.par [.int x, .int y, .int z], .v (.int u), .un, .un, .un]) ?_).trans ?_
  · simp [startF, List.replicate, endR, svSeq, svIf, svRet, svRetV, svAsg, svPut, svPar, svFor, svSto, svDrop, svRaise, svNil, evRng1, evSeq, evOrB, evAndB, evNotB, evTest, evB, evAnd, evOr, evNot, evIf, evTup, evLst, evNil, evCons, evCallP, evCallQ, varE, varP, ap2E, apC, evSlice, evPart, evComp, wrAt, wrOf, wrSet, evWr, evWr1, truthD, noEr, sub30, g, deref]
  refine (svSeq_nx (e := [.par [.int x, .int y, .int w], .v (.int u), .un, .un, .un]) ?_).trans ?_
  · simp [startF, List.replicate, endR, svSeq, svIf, svRet, svRetV, svAsg, svPut, svPar, svFor, svSto, svDrop, svRaise, svNil, evRng1, evSeq, evOrB, evAndB, evNotB, evTest, evB, evAnd, evOr, evNot, evIf, evTup, evLst, evNil, evCons, evCallP, evCallQ, varE, varP, ap2E, apC, evSlice, evPart, evComp, wrAt, wrOf, wrSet, evWr, evWr1, truthD, noEr, sub32, set32, a1, deref]
  refine (svSeq_nx (e := [.par [.int x, .int y, .int w], .v (.int u), .un, .v (.int p), .un]) ?_).trans ?_
  · simp [startF, List.replicate, endR, svSeq, svIf, svRet, svRetV, svAsg, svPut, svPar, svFor, svSto, svDrop, svRaise, svNil, evRng1, evSeq, evOrB, evAndB, evNotB, evTest, evB, evAnd, evOr, evNot, evIf, evTup, evLst, evNil, evCons, evCallP, evCallQ, varE, varP, ap2E, apC, evSlice, evPart, evComp, wrAt, wrOf, wrSet, evWr, evWr1, truthD, noEr, sub32, int_i, m5, hp, ck5, deref]
  refine (svSeq_nx (e := [.par [.int x, .int y, .int w], .v (.int u), .un, .v (.int p), .v (.int b)]) ?_).trans ?_
  · have j1 := sub31 (.int x) (.int y) (.int w)
    have j2 := sub32 (.int x) (.int y) (.int w)
    refine Eq.trans (st_asg (ev_ap2 (ev_asP (ev_settle (ev_ap1 (ev_asP (ev_settle (ev_ap2 (ev_asP (ev_settle (ev_ap1 (ev_asP (ev_settle (ev_ap2E (ev_settle (ev_ap2E (ev_settle (ev_ap2 (ev_varPp rfl) (ev_asP ev_C) (de_par rfl) de_d j1)) (ev_settle (ev_ap2E (ev_settle (ev_ap2E ev_C (ev_settle (ev_ap2 (ev_varPp rfl) (ev_asP ev_C) (de_par rfl) de_d j2)) k1)) (ev_settle (ev_ap2 (ev_varPp rfl) (ev_asP ev_C) (de_par rfl) de_d j2)) k2)) a2)) ev_C a3))) de_d i1))) (ev_asP ev_C) de_d de_d e3))) de_d i2))) (ev_varPv rfl) de_d de_d mp)) rfl
  refine (svSeq_nx (e := [.par [.int x, .int y, .int w], .v (.int u), .un, .v (.int p), .v (.int M)]) ?_).trans ?_
  · simp [startF, List.replicate, endR, svSeq, svIf, svRet, svRetV, svAsg, svPut, svPar, svFor, svSto, svDrop, svRaise, svNil, evRng1, evSeq, evOrB, evAndB, evNotB, evTest, evB, evAnd, evOr, evNot, evIf, evTup, evLst, evNil, evCons, evCallP, evCallQ, varE, varP, ap2E, apC, evSlice, evPart, evComp, wrAt, wrOf, wrSet, evWr, evWr1, truthD, noEr, sub32, int_i, m2, k3, a4, k4, m3, deref]
  simp [startF, List.replicate, endR, svSeq, svIf, svRet, svRetV, svAsg, svPut, svPar, svFor, svSto, svDrop, svRaise, svNil, evRng1, evSeq, evOrB, evAndB, evNotB, evTest, evB, evAnd, evOr, evNot, evIf, evTup, evLst, evNil, evCons, evCallP, evCallQ, varE, varP, ap2E, apC, evSlice, evPart, evComp, wrAt, wrOf, wrSet, evWr, evWr1, truthD, noEr, int_i, f, m4, deref]
theorem take_new {x y z u : Int} (hx : ¬ 0 < x) (hy : 0 ≤ y) (hy2 : y < 2305843009213693921) (hz : 0 ≤ z) (hz2 : z ≤ 1000000) (hu : 0 < u) (hu2 : u < 1073741824) :
    ∃ t : Int, r__law_take [.int x, .int y, .int z] [.int u] = some (.ok (.d (.int (t % u))), [.int x, .int y, .int (z + 1)]) := by
  obtain ⟨w, hw⟩ : ∃ w, w = z + 1 := ⟨_, rfl⟩
  have hw0 : 0 ≤ w ∧ w ≤ 1000001 := by omega
  obtain ⟨p, hp, hp0, hp1⟩ := primes (i := w % 5) (by omega) (by omega)
  have m5 := mod_ii (i := w) (j := 5) (by decide)
  have k1 := mul_ii (i := 115235) (j := w) (by decide) (by omega)
  obtain ⟨v, hv⟩ : ∃ v, v = 115235 * w := ⟨_, rfl⟩
  rw [← hv] at k1
  have hv0 : 0 ≤ v ∧ v ≤ 200000000000 := by omega
  have k2 := mul_ii (i := v) (j := w) (by omega) (by omega)
  obtain ⟨q, hq⟩ : ∃ q, q = v * w := ⟨_, rfl⟩
  rw [← hq] at k2
  have hq0 : 0 ≤ q := by rw [hq]; exact Int.mul_nonneg hv0.1 hw0.1
  have hq1 : q ≤ 200000000000 * 1000001 := by rw [hq]; exact Int.mul_le_mul hv0.2 hw0.2 hw0.1 (by decide)
  have e3 := pow3 (i := y + q + 4753) (by omega)
  have mp := mod_ii (i := (y + q + 4753) ^ 3) hp0
  obtain ⟨b, hb⟩ : ∃ b, b = (y + q + 4753) ^ 3 % p := ⟨_, rfl⟩
  rw [← hb] at mp
  have hb0 : 0 ≤ b := by rw [hb]; exact Int.emod_nonneg _ (by omega)
  have hb1 : b < p := by rw [hb]; exact Int.emod_lt_of_pos _ hp0
  have m2 := mod_ii (i := b) (j := 25185) (by decide)
  have k3 := mul_ii (i := 2837) (j := w) (by decide) (by omega)
  have k4 := mul_ii (i := b) (j := b % 25185 + 2837 * w) (by omega) (by omega)
  obtain ⟨r, hr⟩ : ∃ r, r = b * (b % 25185 + 2837 * w) := ⟨_, rfl⟩
  rw [← hr] at k4
  have m3 := mod_ii (i := r) (j := 2305843009213693907) (by decide)
  have f := fdiv_ii (i := r % 2305843009213693907) (j := 7087) (by decide) (by decide)
  have m4 := mod_ii (i := r % 2305843009213693907 / 7087) hu
  refine ⟨r % 2305843009213693907 / 7087, ?_⟩
  rw [← hw]
  have a1 : addD (.int z) (.int 1) = some (.d (.int w)) := by rw [add_ii, hw]
  exact take_run hx a1 m5 hp k1 k2 e3 mp m2 k3 k4 m3 f m4
end Nol.K44

set_option Elab.async false
set_option linter.all false
set_option maxRecDepth 100000
set_option maxHeartbeats 1000000
/-! k44, plain: what is drawn from the pot. -/
namespace Nol.K44
open Nol PySem PySem.Spec PyProof.Rows
theorem ev_callQ {i n : Nat} {f : List D → List D → Option (FR × List D)} {g : Ev (List D)} {env e1 : Fm} {ps pds ds qds : List D} {v : FV} (h0 : env[i]? = some (.par ps)) (hg : g env = some (.ok ds e1)) (hn : ds.length + 1 = n) (h1 : e1[i]? = some (.par pds)) (hf : f pds ds = some (.ok v, qds)) :
    evCallQ i f n g env = some (.ok v (e1.set i (.par qds))) := by
  have w0 : wrAt env i = some (.par ps, ps) := by unfold wrAt; rw [h0]; rfl
  have w1 : wrAt e1 i = some (.par pds, pds) := by unfold wrAt; rw [h1]; rfl
  unfold evCallQ
  rw [w0, hg]
  simp only [bindR_ok]
  rw [if_pos hn, w1]
  simp only [hf, wrSet]
theorem st_par {i j : Nat} {f g : Ev FV} {env e1 e2 : Fm} {v w : FV} (hf : f env = some (.ok v e1)) (hg : g e1 = some (.ok w e2)) : svPar i j f g env = some (.nx ((e2.set i (slOf v)).set j (slOf w))) := by
  unfold svPar
  rw [hf]
  simp only [bindE_ok]
  rw [hg]
  rfl
theorem loopC_inv {Inv : Nat → Fm → Prop} {P : D → Prop} {i : Nat} {elt : Ev D} {ds : List D} (step : ∀ k, ∀ d ∈ ds, ∀ e, Inv k e → ∃ y e1, elt (e.set i (.v d)) = some (.ok y e1) ∧ P y ∧ Inv (k + 1) (wipeF e1 [i])) :
    ∀ (acc : List D) (k : Nat) (env : Fm), Inv k env → acc.length + ds.length ≤ 1000 → ∃ ys e, loopC (putN i) (fun env => some (.ok true env)) elt [i] ds env acc = some (.ok (acc ++ ys) e) ∧ ys.length = ds.length ∧ (∀ y ∈ ys, P y) ∧ Inv (k + ds.length) e := by
  induction ds with
  | nil =>
    intro acc k env h _
    refine ⟨[], env, ?_, rfl, by simp, h⟩
    rw [loopC, List.append_nil]
  | cons d ds ih =>
    intro acc k env h hl
    have hl' : acc.length + (ds.length + 1) ≤ 1000 := by simpa using hl
    have ck : ckLen (acc.length + 1) = true := decide_eq_true (by omega)
    obtain ⟨y, e1, h1, py, i1⟩ := step k d List.mem_cons_self env h
    obtain ⟨ys, e, h2, l2, p2, i2⟩ := ih (fun k x hx => step k x (List.mem_cons_of_mem _ hx)) (acc ++ [y]) (k + 1) _ i1 (by simp; omega)
    refine ⟨y :: ys, e, ?_, by simp [l2], ?_, ?_⟩
    · rw [loopC]
      simp only [putN, bindR_ok, if_true, h1, ck]
      rw [h2]
      simp
    · intro x hx
      rcases List.mem_cons.mp hx with rfl | hx
      · exact py
      · exact p2 x hx
    · have : k + 1 + ds.length = k + (d :: ds).length := by simp; omega
      rw [← this]
      exact i2
theorem loopS_inv {Inv : Nat → Fm → Prop} {g : D → Fm → Option Fm} {body : Sv} {ds : List D} (step : ∀ k, ∀ d ∈ ds, ∀ e, Inv k e → ∃ e1 e2, g d e = some e1 ∧ body e1 = some (.nx e2) ∧ Inv (k + 1) e2) :
    ∀ (k : Nat) (env : Fm), Inv k env → ∃ e, loopS g body ds env = some (.nx e) ∧ Inv (k + ds.length) e := by
  induction ds with
  | nil =>
    intro k env h
    exact ⟨env, by rw [loopS], h⟩
  | cons d ds ih =>
    intro k env h
    obtain ⟨e1, e2, h1, h2, i2⟩ := step k d List.mem_cons_self env h
    obtain ⟨e, h3, i3⟩ := ih (fun k x hx => step k x (List.mem_cons_of_mem _ hx)) (k + 1) e2 i2
    refine ⟨e, by rw [loopS_nx h1 h2, h3], ?_⟩
    have : k + 1 + ds.length = k + (d :: ds).length := by simp; omega
    rw [← this]
    exact i3
theorem take_ok {n : Nat} {p : List D} (h : Pot n p) (hn : n ≤ 1000000) {u : Int} (hu : 0 < u) (hu2 : u < 1073741824) : ∃ (t : Nat) (q : List D), r__law_take p [.int u] = some (.ok (.d (.int (t : Int))), q) ∧ (t : Int) < u ∧ Pot (n + 1) q := by
  obtain ⟨x, y, z, rfl, hx, hy, hy2, hz, hzn⟩ := h
  by_cases c : 0 < x
  · have m0 := Int.emod_nonneg x (b := u) (by omega)
    have m1 := Int.emod_lt_of_pos x hu
    obtain ⟨t, ht⟩ := Int.eq_ofNat_of_zero_le m0
    refine ⟨t, _, ?_, ?_, x / u, y, z, rfl, Int.ediv_nonneg hx (by omega), hy, hy2, hz, by omega⟩
    · rw [← ht]; exact take_own c hu hu2
    · omega
  · obtain ⟨t, e⟩ := take_new (y := y) c hy hy2 hz (by omega) hu hu2
    have m0 := Int.emod_nonneg t (b := u) (by omega)
    have m1 := Int.emod_lt_of_pos t hu
    obtain ⟨s, hs⟩ := Int.eq_ofNat_of_zero_le m0
    refine ⟨s, _, ?_, ?_, x, y, z + 1, rfl, hx, hy, hy2, by omega, by omega⟩
    · rw [← hs]; exact e
    · omega
theorem sub_lst (ds : List D) (i : Nat) (h : i < ds.length) : subsD (.lst ds) (.int (i : Int)) = some (.d ds[i]) := by
  show (L2.atI ds (i : Int)).map FV.d = _
  have e : L2.ixN ds.length (i : Int) = some i := by
    unfold L2.ixN
    rw [if_pos (Int.natCast_nonneg i), if_pos (by simpa using h)]
    simp
  unfold L2.atI
  rw [e]
  simp only [Option.bind_some, List.getElem?_eq_getElem h, Option.map_some]
theorem of_ok {n : Nat} {p : List D} (h : Pot n p) (hn : n ≤ 1000000) {ds : List D} (h0 : 0 < ds.length) (h1 : ds.length < 1073741824) : ∃ d q, r__law_of p [.lst ds] = some (.ok (.d d), q) ∧ d ∈ ds ∧ Pot (n + 1) q := by
  obtain ⟨t, q, e, ht, hq⟩ := take_ok h hn (u := (ds.length : Int)) (by omega) (by omega)
  have ht : t < ds.length := by omega
  refine ⟨ds[t], q, ?_, List.getElem_mem ht, hq⟩
  have ln : lenD (.lst ds) = some (.d (.int (ds.length : Int))) := rfl
  unfold r__law_of b__law_of
  refine runQ_rt (e := [.par q, .v (.lst ds)]) ?_ rfl
  exact Eq.trans (st_ret (ev_ap2 (ev_varPv rfl) (ev_asP (ev_settle (ev_callQ rfl (ev_cons (ev_settle (ev_ap1 (ev_varPv rfl) de_d ln)) ev_nil) rfl rfl e))) de_d de_d (sub_lst ds t ht))) rfl
end Nol.K44

set_option Elab.async false
set_option linter.all false
set_option maxRecDepth 100000
set_option maxHeartbeats 1000000
/-! k44, plain: numbers drawn. -/
namespace Nol.K44
open Nol PySem PySem.Spec PyProof.Rows
theorem ev_comp {it : Ev (List D)} {g : D → Fm → Option Fm} {tst : Ev Bool} {elt : Ev D} {vs : List Nat} {env e1 e : Fm} {ds acc : List D} (h : it env = some (.ok ds e1)) (hl : loopC g tst elt vs ds (wipeF e1 vs) [] = some (.ok acc e)) :
    evComp it g tst elt vs env = some (.ok (.fr acc) (mend e1 e vs)) := by
  unfold evComp
  rw [h]
  simp only [bindR_ok]
  rw [hl]
  rfl
theorem ints_P {Q : Int → Prop} : ∀ {ys : List D}, (∀ y ∈ ys, ∃ x : Int, y = .int x ∧ Q x) → ∃ xs : List Int, ys = xs.map .int ∧ (∀ x ∈ xs, Q x) ∧ xs.length = ys.length
  | [], _ => ⟨[], rfl, by simp, rfl⟩
  | y :: ys, h => by
    obtain ⟨x, rfl, hx⟩ := h y List.mem_cons_self
    obtain ⟨xs, rfl, h2, h3⟩ := ints_P fun y hy => h y (List.mem_cons_of_mem _ hy)
    refine ⟨x :: xs, rfl, ?_, by simp⟩
    intro z hz
    rcases List.mem_cons.mp hz with rfl | hz
    · exact hx
    · exact h2 z hz
theorem numbers_ok {n : Nat} {p : List D} (h : Pot n p) {m : Nat} (hm : m ≤ 16) (hn : n + m ≤ 1000000) {u : Int} (hu : 0 < u) (hu2 : u < 1000) : ∃ (xs : List Int) (q : List D), r__law_numbers p [.int (m : Int), .int u] = some (.ok (.d (tupI xs)), q) ∧ xs.length = m ∧ (∀ x ∈ xs, 0 ≤ x ∧ x < u) ∧ Pot (n + m) q := by
  have hr : (rngs 0 m).length = m := by rw [rngs0]; simp
  have key : ∀ (ds : List D) (acc : List D) (k : Nat) (q : List D), Pot k q → k + ds.length ≤ 1000000 → acc.length + ds.length ≤ 1000 → ∃ ys q', loopC (putN 3) (fun env => some (.ok true env)) e__law_numbers_1 [3] ds [.par q, .v (.int (m : Int)), .v (.int u), .un] acc = some (.ok (acc ++ ys) [.par q', .v (.int (m : Int)), .v (.int u), .un]) ∧ ys.length = ds.length ∧ (∀ y ∈ ys, ∃ x : Int, y = .int x ∧ (0 ≤ x ∧ x < u)) ∧ Pot (k + ds.length) q' := by
    intro ds
    induction ds with
    | nil =>
      intro acc k q hq _ _
      exact ⟨[], q, by rw [loopC, List.append_nil], rfl, by simp, hq⟩
    | cons d ds ih =>
      intro acc k q hq hk hl
      have hk' : k + (ds.length + 1) ≤ 1000000 := by simpa using hk
      have hl' : acc.length + (ds.length + 1) ≤ 1000 := by simpa using hl
      have ck : ckLen (acc.length + 1) = true := decide_eq_true (by omega)
      obtain ⟨t, q1, e, ht, hq1⟩ := take_ok hq (by omega) hu (by omega)
      obtain ⟨ys, q', h2, l2, p2, i2⟩ := ih (acc ++ [.int (t : Int)]) (k + 1) q1 hq1 (by omega) (by simp; omega)
      refine ⟨.int (t : Int) :: ys, q', ?_, by simp [l2], ?_, ?_⟩
      · have e1 : e__law_numbers_1 [.par q, .v (.int (m : Int)), .v (.int u), .v d] = some (.ok (.int (t : Int)) [.par q1, .v (.int (m : Int)), .v (.int u), .v d]) :=
          ev_settle (ev_ap1 (ev_asP (ev_settle (ev_callQ rfl (ev_cons (ev_varE rfl) ev_nil) rfl rfl e))) de_d (int_i _))
        have e0 : ([.par q, .v (.int (m : Int)), .v (.int u), .un] : Fm).set 3 (.v d) = [.par q, .v (.int (m : Int)), .v (.int u), .v d] := rfl
        have e2 : wipeF [.par q1, .v (.int (m : Int)), .v (.int u), .v d] [3] = [.par q1, .v (.int (m : Int)), .v (.int u), .un] := rfl
        rw [loopC]
        simp only [putN, e0, bindR_ok, if_true, e1, ck, e2]
        rw [h2]
        simp
      · intro x hx
        rcases List.mem_cons.mp hx with rfl | hx
        · exact ⟨(t : Int), rfl, by omega, ht⟩
        · exact p2 x hx
      · have : k + 1 + ds.length = k + (d :: ds).length := by simp; omega
        rw [← this]
        exact i2

  obtain ⟨ys, q', h2, l2, p2, i2⟩ := key (rngs 0 m) [] n p h (by omega) (by simp; omega)
  obtain ⟨xs, rfl, hx, lx⟩ := ints_P p2
  rw [List.length_map, hr] at l2
  rw [hr] at i2
  refine ⟨xs, q', ?_, l2, hx, i2⟩
  unfold r__law_numbers b__law_numbers
  refine runQ_rt (e := [.par q', .v (.int (m : Int)), .v (.int u), .un]) ?_ rfl
  have it : evRng1 (varE 1) [.par p, .v (.int (m : Int)), .v (.int u), .un] = some (.ok (rngs 0 m) [.par p, .v (.int (m : Int)), .v (.int u), .un]) := rng_of (ev_varE rfl) (by omega)
  rw [List.nil_append] at h2
  have cp := ev_comp (vs := [3]) it h2
  have tp : tupleD (.lst (xs.map .int)) = some (.d (tupI xs)) := rfl
  exact Eq.trans (st_ret (ev_apE (ev_settleF cp) tp)) rfl
end Nol.K44

set_option Elab.async false
set_option linter.all false
set_option maxRecDepth 100000
set_option maxHeartbeats 1000000
/-! k44, plain: the four functions drawn, the turns. -/
namespace Nol.K44
open Nol PySem PySem.Spec PyProof.Rows
abbrev lstI (xs : List Int) : D := .lst (xs.map .int)
abbrev ownI (xs : List Int) : Sl := .own (xs.map .int)
theorem sub_lstI (xs : List Int) (i : Nat) (h : i < xs.length) : subsD (lstI xs) (.int (i : Int)) = some (.d (.int (at' xs i))) := by
  have h' : i < (xs.map D.int).length := by simpa using h
  rw [sub_lst _ i h', List.getElem_map]
  have : at' xs i = xs[i] := by unfold at'; rw [List.getD_eq_getElem?_getD, List.getElem?_eq_getElem h]; rfl
  rw [this]
theorem set_ownI (xs : List Int) (i : Nat) (h : i < xs.length) (v : Int) : setG (.int (i : Int)) (.int v) (xs.map .int) = some ((xs.set i v).map .int, .non) := by
  have e : L2.ixN (xs.map D.int).length (i : Int) = some i := by
    unfold L2.ixN
    rw [if_pos (Int.natCast_nonneg i), if_pos (by simpa using h)]
    simp
  show (L2.ixN (xs.map D.int).length (i : Int)).map _ = _
  rw [e, List.map_set]
  rfl
theorem max_ii (i j : Int) : max2D (.int i) (.int j) = some (.d (.int (if j > i then j else i))) := rfl
theorem lt_ii (i j : Int) : ltD (.int i) (.int j) = some (.d (.bl (decide (i < j)))) := rfl
theorem ev_asF {r : Option (Rs D)} {v : D} {e : Fm} (h : r = some (.ok v e)) : asF r = some (.ok (.d v) e) := by rw [h]; rfl
theorem ev_ifi {t : Ev Bool} {f g : Ev FV} {env e e2 : Fm} {c : Bool} {x y : Int} (h : t env = some (.ok c e)) (hf : f e = some (.ok (.d (.int x)) e2)) (hg : g e = some (.ok (.d (.int y)) e2)) : evIf t f g env = some (.ok (.d (.int (if c = true then x else y))) e2) := by
  unfold evIf
  rw [h]
  show (if c = true then f e else g e) = _
  cases c
  · rw [if_neg Bool.false_ne_true, if_neg Bool.false_ne_true]; exact hg
  · rw [if_pos rfl, if_pos rfl]; exact hf
theorem st_sto {i : Nat} {f fi : Ev D} {env e1 e2 : Fm} {d ix r : D} {ds0 ds es : List D} (hf : f env = some (.ok d e1)) (h0 : e1[i]? = some (.own ds0)) (hi : fi e1 = some (.ok ix e2)) (h1 : e2[i]? = some (.own ds)) (hs : setG ix d ds = some (es, r)) :
    svSto i fi f env = some (.nx (e2.set i (.own es))) := by
  have w0 : wrAt e1 i = some (.own ds0, ds0) := by unfold wrAt; rw [h0]; rfl
  have w1 : wrAt e2 i = some (.own ds, ds) := by unfold wrAt; rw [h1]; rfl
  unfold svSto
  rw [hf]
  simp only [bindE_ok]
  rw [w0]
  simp only []
  rw [hi]
  simp only [bindE_ok]
  unfold evWr1
  rw [w1]
  simp only [hs, bindE_ok, wrSet]
abbrev fD (q : List D) (m w : Int) (A B : D) (s5 s6 s7 s8 s9 : Sl) : Fm := [.par q, .v (.int m), .v (.int w), .v A, .v B, s5, s6, s7, s8, s9]
def R0 (m : Nat) (xs : List Int) : Prop := xs.length = m ∧ ∀ x ∈ xs, 0 ≤ x ∧ x ≤ 999
theorem R0.set {m : Nat} {xs : List Int} (h : R0 m xs) {i : Nat} {v : Int} (hv : 0 ≤ v ∧ v ≤ 999) : R0 m (xs.set i v) := by
  refine ⟨by rw [List.length_set]; exact h.1, fun x hx => ?_⟩
  rcases List.mem_or_eq_of_mem_set hx with h1 | rfl
  · exact h.2 x h1
  · exact hv
def Pow4 (m : Nat) : Prop := m = 2 ∨ m = 4 ∨ m = 8 ∨ m = 16
theorem Pow4.or {m : Nat} (F : Pow4 m) {i j : Nat} (hi : i < m) (hj : j < m) : i ||| j < m ∧ i &&& j < m := by
  rcases F with h | h | h | h <;> rw [h] at hi hj ⊢
  · exact ⟨lt_or (k := 1) hi hj, lt_and (k := 1) hi⟩
  · exact ⟨lt_or (k := 2) hi hj, lt_and (k := 2) hi⟩
  · exact ⟨lt_or (k := 3) hi hj, lt_and (k := 3) hi⟩
  · exact ⟨lt_or (k := 4) hi hj, lt_and (k := 4) hi⟩
def S4 (m : Nat) (xs : List Int) : Prop := xs.length = m ∧ ∀ x ∈ xs, 0 ≤ x ∧ x < 4
theorem S4.at {m : Nat} {xs : List Int} (h : S4 m xs) (i : Nat) : 0 ≤ at' xs i ∧ at' xs i ≤ 3 := by
  unfold at'
  rw [List.getD_eq_getElem?_getD]
  cases e : xs[i]? with
  | none => simp
  | some x => have := h.2 x (List.mem_of_getElem? e); simp only [Option.getD_some]; omega
theorem drawn_3 {m : Nat} (F : Pow4 m) {q : List D} {w : Int} {a b C E : List Int} (ha : S4 m a) (hb : S4 m b) (hC : R0 m C) (hE : R0 m E) {i j : Nat} (hi : i < m) (hj : j < m) (M : Int) (s9 : Sl) :
    ∃ C' E' t9, l__law_drawn_3 (fD q M w (tupI a) (tupI b) (.v (.int (i : Int))) (ownI C) (ownI E) (.v (.int (j : Int))) s9) = some (.nx (fD q M w (tupI a) (tupI b) (.v (.int (i : Int))) (ownI C') (ownI E') (.v (.int (j : Int))) t9)) ∧ R0 m C' ∧ R0 m E' := by
  obtain ⟨ho, hn⟩ := F.or hi hj
  have a1 := ha.at i
  have b1 := hb.at j
  obtain ⟨v, hv⟩ : ∃ v, v = at' a i * at' b j := ⟨_, rfl⟩
  have v0 : 0 ≤ v := by rw [hv]; exact Int.mul_nonneg a1.1 b1.1
  have v9 : v ≤ 3 * 3 := by rw [hv]; exact Int.mul_le_mul a1.2 b1.2 b1.1 (by decide)
  have mu := mul_999 (x := at' a i) (y := at' b j) (by omega) (by omega)
  rw [← hv] at mu
  have si := sub_tupI a i (by rw [ha.1]; exact hi)
  have sj := sub_tupI b j (by rw [hb.1]; exact hj)
  have s1 : svAsg 9 (ap2E mulD (fun env => settle ((ap2 subsD (varP 3) (varP 5)) env)) (fun env => settle ((ap2 subsD (varP 4) (varP 8)) env))) (fD q M w (tupI a) (tupI b) (.v (.int (i : Int))) (ownI C) (ownI E) (.v (.int (j : Int))) s9) =
      some (.nx (fD q M w (tupI a) (tupI b) (.v (.int (i : Int))) (ownI C) (ownI E) (.v (.int (j : Int))) (.v (.int v)))) :=
    Eq.trans (st_asg (ev_ap2E (ev_settle (ev_ap2 (ev_varPv rfl) (ev_varPv rfl) de_d de_d si)) (ev_settle (ev_ap2 (ev_varPv rfl) (ev_varPv rfl) de_d de_d sj)) mu)) rfl
  have g := gt_ii v 0
  unfold l__law_drawn_3
  by_cases c : 0 < v
  · have c' : gtD (.int v) (.int 0) = some (.d (.bl true)) := by rw [gt_ii, decide_eq_true c]
    obtain ⟨v6, h6⟩ : ∃ v6, v6 = if decide (1 < w) = true then v else 1 := ⟨_, rfl⟩
    have r6 : 0 ≤ v6 ∧ v6 ≤ 999 := by rw [h6]; split <;> omega
    obtain ⟨v7, h7⟩ : ∃ v7, v7 = if decide (w < 3) = true then 1 else v := ⟨_, rfl⟩
    have r7 : 0 ≤ v7 ∧ v7 ≤ 999 := by rw [h7]; split <;> omega
    have m6 := max_ii (at' C (i ||| j)) v6
    obtain ⟨u6, k6⟩ : ∃ u6, u6 = if v6 > at' C (i ||| j) then v6 else at' C (i ||| j) := ⟨_, rfl⟩
    have cC := at_mem (i := i ||| j) hC.2
    have cE := at_mem (i := i &&& j) hE.2
    have q6 : 0 ≤ u6 ∧ u6 ≤ 999 := by rw [k6]; split <;> omega
    have m7 := max_ii (at' E (i &&& j)) v7
    obtain ⟨u7, k7⟩ : ∃ u7, u7 = if v7 > at' E (i &&& j) then v7 else at' E (i &&& j) := ⟨_, rfl⟩
    have q7 : 0 ≤ u7 ∧ u7 ≤ 999 := by rw [k7]; split <;> omega
    rw [← k6, h6] at m6
    rw [← k7, h7] at m7
    have o := or_ii i j
    have n := and_ii i j
    have sc := sub_lstI C (i ||| j) (by rw [hC.1]; exact ho)
    have se := sub_lstI E (i &&& j) (by rw [hE.1]; exact hn)
    have tc := set_ownI C (i ||| j) (by rw [hC.1]; exact ho) u6
    have te := set_ownI E (i &&& j) (by rw [hE.1]; exact hn) u7
    have gw := gt_ii w 1
    have lw := lt_ii w 3
    refine ⟨C.set (i ||| j) u6, E.set (i &&& j) u7, .v (.int v), ?_, hC.set q6, hE.set q7⟩
    refine st_seq s1 (st_ift (ev_B (ev_settle (ev_ap2 (ev_varPv rfl) (ev_asP ev_C) de_d de_d c'))) ?_)
    have p6 : (fun env => settle ((evIf (evB fun env => settle ((ap2 gtD (varP 2) (fun env => asP ((evC (.int 1)) env))) env)) (fun env => asF ((varE 9) env)) (fun env => asF ((evC (.int 1)) env))) env)) (fD q M w (tupI a) (tupI b) (.v (.int (i : Int))) (ownI C) (ownI E) (.v (.int (j : Int))) (.v (.int v))) =
        some (.ok (.int (if decide (1 < w) = true then v else 1)) (fD q M w (tupI a) (tupI b) (.v (.int (i : Int))) (ownI C) (ownI E) (.v (.int (j : Int))) (.v (.int v)))) :=
      ev_settle (ev_ifi (ev_B (ev_settle (ev_ap2 (ev_varPv rfl) (ev_asP ev_C) de_d de_d gw))) (ev_asF (ev_varE rfl)) (ev_asF ev_C))
    refine st_seq (e := fD q M w (tupI a) (tupI b) (.v (.int (i : Int))) (ownI (C.set (i ||| j) u6)) (ownI E) (.v (.int (j : Int))) (.v (.int v))) ?_ ?_
    · exact Eq.trans (st_sto (ev_settle (ev_ap2E (ev_settle (ev_ap2 (ev_varPo rfl) (ev_asP (ev_settle (ev_ap2 (ev_varPv rfl) (ev_varPv rfl) de_d de_d o))) (de_own rfl) de_d sc)) p6 m6)) rfl (ev_settle (ev_ap2 (ev_varPv rfl) (ev_varPv rfl) de_d de_d o)) rfl tc) rfl
    · exact Eq.trans (st_sto (ev_settle (ev_ap2E (ev_settle (ev_ap2 (ev_varPo rfl) (ev_asP (ev_settle (ev_ap2 (ev_varPv rfl) (ev_varPv rfl) de_d de_d n))) (de_own rfl) de_d se)) (ev_settle (ev_ifi (ev_B (ev_settle (ev_ap2 (ev_varPv rfl) (ev_asP ev_C) de_d de_d lw))) (ev_asF ev_C) (ev_asF (ev_varE rfl)))) m7)) rfl (ev_settle (ev_ap2 (ev_varPv rfl) (ev_varPv rfl) de_d de_d n)) rfl te) rfl
  · have c' : gtD (.int v) (.int 0) = some (.d (.bl false)) := by rw [gt_ii, decide_eq_false c]
    refine ⟨C, E, .v (.int v), ?_, hC, hE⟩
    exact st_seq s1 (st_iff (ev_B (ev_settle (ev_ap2 (ev_varPv rfl) (ev_asP ev_C) de_d de_d c'))) st_nil)
end Nol.K44

set_option Elab.async false
set_option linter.all false
set_option maxRecDepth 100000
set_option maxHeartbeats 1000000
/-! k44, plain: the four functions drawn. -/
namespace Nol.K44
open Nol PySem PySem.Spec PyProof.Rows
theorem mem_rngs {m : Nat} {d : D} (h : d ∈ rngs 0 m) : ∃ j : Nat, j < m ∧ d = .int (j : Int) := by
  rw [rngs0] at h
  obtain ⟨j, hj, rfl⟩ := List.mem_map.mp h
  exact ⟨j, List.mem_range.mp hj, rfl⟩
theorem drawn_4 {m : Nat} (F : Pow4 m) {q : List D} {w : Int} {a b C E : List Int} (ha : S4 m a) (hb : S4 m b) (hC : R0 m C) (hE : R0 m E) {i : Nat} (hi : i < m) (s8 s9 : Sl) :
    ∃ C' E' t8 t9, l__law_drawn_4 (fD q (m : Int) w (tupI a) (tupI b) (.v (.int (i : Int))) (ownI C) (ownI E) s8 s9) = some (.nx (fD q (m : Int) w (tupI a) (tupI b) (.v (.int (i : Int))) (ownI C') (ownI E') t8 t9)) ∧ R0 m C' ∧ R0 m E' := by
  have hm : m ≤ 1000 := by rcases F with h | h | h | h <;> omega
  have it := rng_of (f := varE 1) (n := m) (env := fD q (m : Int) w (tupI a) (tupI b) (.v (.int (i : Int))) (ownI C) (ownI E) s8 s9) (ev_varE rfl) hm
  obtain ⟨e, h, C', E', t8, t9, rfl, r1, r2⟩ := loopS_inv (Inv := fun _ e => ∃ C' E' t8 t9, e = fD q (m : Int) w (tupI a) (tupI b) (.v (.int (i : Int))) (ownI C') (ownI E') t8 t9 ∧ R0 m C' ∧ R0 m E') (g := putN 8) (body := l__law_drawn_3) (ds := rngs 0 m)
    (fun k d hd e ⟨C, E, t8, t9, he, hC, hE⟩ => by
      obtain ⟨j, hj, rfl⟩ := mem_rngs hd
      obtain ⟨C', E', t9', h3, r1, r2⟩ := drawn_3 F (q := q) (w := w) ha hb hC hE hi hj (m : Int) t9
      exact ⟨_, _, by rw [he]; rfl, h3, C', E', _, _, rfl, r1, r2⟩) 0 _ ⟨C, E, s8, s9, rfl, hC, hE⟩
  refine ⟨C', E', t8, t9, ?_, r1, r2⟩
  unfold l__law_drawn_4
  rw [svFor_eq it]
  exact h
theorem drawn_for {m : Nat} (F : Pow4 m) {q : List D} {w : Int} {a b C E : List Int} (ha : S4 m a) (hb : S4 m b) (hC : R0 m C) (hE : R0 m E) (s5 s8 s9 : Sl) :
    ∃ C' E' t5 t8 t9, svFor (evRng1 (varE 1)) (putN 5) l__law_drawn_4 (fD q (m : Int) w (tupI a) (tupI b) s5 (ownI C) (ownI E) s8 s9) = some (.nx (fD q (m : Int) w (tupI a) (tupI b) t5 (ownI C') (ownI E') t8 t9)) ∧ R0 m C' ∧ R0 m E' := by
  have hm : m ≤ 1000 := by rcases F with h | h | h | h <;> omega
  have it := rng_of (f := varE 1) (n := m) (env := fD q (m : Int) w (tupI a) (tupI b) s5 (ownI C) (ownI E) s8 s9) (ev_varE rfl) hm
  obtain ⟨e, h, C', E', t5, t8, t9, rfl, r1, r2⟩ := loopS_inv (Inv := fun _ e => ∃ C' E' t5 t8 t9, e = fD q (m : Int) w (tupI a) (tupI b) t5 (ownI C') (ownI E') t8 t9 ∧ R0 m C' ∧ R0 m E') (g := putN 5) (body := l__law_drawn_4) (ds := rngs 0 m)
    (fun k d hd e ⟨C, E, t5, t8, t9, he, hC, hE⟩ => by
      obtain ⟨j, hj, rfl⟩ := mem_rngs hd
      obtain ⟨C', E', t8', t9', h3, r1, r2⟩ := drawn_4 F (q := q) (w := w) ha hb hC hE hj t8 t9
      exact ⟨_, _, by rw [he]; rfl, h3, C', E', _, _, _, rfl, r1, r2⟩) 0 _ ⟨C, E, s5, s8, s9, rfl, hC, hE⟩
  refine ⟨C', E', t5, t8, t9, ?_, r1, r2⟩
  rw [svFor_eq it]
  exact h
/-- a comprehension over ints that changes nothing -/
theorem comp_int {it : Ev (List D)} {elt : Ev D} {i : Nat} {env e1 e2 : Fm} {xs : List Int} {f : Int → Int} (h : it env = some (.ok (xs.map .int) e1)) (hx : xs.length ≤ 1000) (hw : ∀ d, wipeF ((wipeF e1 [i]).set i (.v d)) [i] = wipeF e1 [i])
    (he : ∀ x ∈ xs, elt ((wipeF e1 [i]).set i (.v (.int x))) = some (.ok (.int (f x)) ((wipeF e1 [i]).set i (.v (.int x))))) (hm : mend e1 (wipeF e1 [i]) [i] = e2) :
    evComp it (putN i) (fun env => some (.ok true env)) elt [i] env = some (.ok (.fr ((xs.map f).map .int)) e2) := by
  have hl := loopC_map (i := i) (elt := elt) (env := wipeF e1 [i]) (h := fun d => match d with | .int x => .int (f x) | d => d) hw (xs.map .int) [] (fun d hd => by
    obtain ⟨x, hx, rfl⟩ := List.mem_map.mp hd
    exact he x hx) (by simpa using hx)
  rw [ev_comp h hl, hm, List.nil_append, List.map_map, List.map_map]
  rfl
theorem b2i (b : Bool) : intD (.bl b) = some (.d (.int (if b then 1 else 0))) := by cases b <;> rfl
theorem maxL_pos {xs : List Int} (h : ∀ x ∈ xs, 0 ≤ x ∧ x ≤ 999) : 0 ≤ maxL xs ∧ maxL xs ≤ 999 := by
  cases xs with
  | nil => exact ⟨by decide, by decide⟩
  | cons x xs =>
    show 0 ≤ xs.foldl max x ∧ xs.foldl max x ≤ 999
    obtain ⟨h1, h2, h3⟩ := foldl_max_ge xs x
    have hx := h x List.mem_cons_self
    rcases h3 with h3 | h3
    · rw [h3]; exact hx
    · exact h _ (List.mem_cons_of_mem _ h3)
theorem maxD_lstI {xs : List Int} (h : 0 < xs.length) : maxD (lstI xs) = some (.d (.int (maxL xs))) := by
  show (intsOf (xs.map D.int)).bind _ = _
  rw [intsOf_map]
  show (if decide (0 < xs.length) = true then _ else _) = _
  rw [if_pos (decide_eq_true h)]
theorem min_ii (i j : Int) : min2D (.int i) (.int j) = some (.d (.int (if j < i then j else i))) := rfl
theorem zeros {m : Nat} (hm : m ≤ 16) : mulD (.lst [.int 0]) (.int (m : Int)) = some (.fr ((List.replicate m (0 : Int)).map .int)) := by
  have c : (okRep ([.int 0] : List D).length (m : Int) && decide (-1000000 ≤ (m : Int))) = true := by
    rw [Bool.and_eq_true]
    refine ⟨?_, decide_eq_true (by omega)⟩
    have : m = 0 ∨ m = 1 ∨ m = 2 ∨ m = 3 ∨ m = 4 ∨ m = 5 ∨ m = 6 ∨ m = 7 ∨ m = 8 ∨ m = 9 ∨ m = 10 ∨ m = 11 ∨ m = 12 ∨ m = 13 ∨ m = 14 ∨ m = 15 ∨ m = 16 := by omega
    rcases this with h | h | h | h | h | h | h | h | h | h | h | h | h | h | h | h | h <;> rw [h] <;> decide
  show (if (okRep ([.int 0] : List D).length (m : Int) && decide (-1000000 ≤ (m : Int))) = true then some (FV.fr (List.replicate (m : Int).toNat [.int 0]).flatten) else none) = _
  rw [if_pos c, Int.toNat_natCast]
  congr 2
  clear c hm
  induction m with
  | zero => rfl
  | succ m ih => rw [List.replicate_succ, List.flatten_cons, ih, List.replicate_succ, List.map_cons]; rfl
end Nol.K44

set_option Elab.async false
set_option linter.all false
set_option maxRecDepth 100000
set_option maxHeartbeats 1000000
/-! k44, plain: the four functions drawn, whole. -/
namespace Nol.K44
open Nol PySem PySem.Spec PyProof.Rows
theorem ev_seqT {f : Ev D} {env e : Fm} {ds : List D} (h : f env = some (.ok (.tup ds) e)) : evSeq true f env = some (.ok ds e) := by unfold evSeq; rw [h]; rfl
theorem ev_seqL {f : Ev D} {env e : Fm} {ds : List D} (h : f env = some (.ok (.lst ds) e)) : evSeq false f env = some (.ok ds e) := by unfold evSeq; rw [h]; rfl
theorem S4.bits {m : Nat} {xs : List Int} (h : S4 m xs) (f : Int → Int) (hf : ∀ x, 0 ≤ f x ∧ f x < 4) : S4 m (xs.map f) := by
  refine ⟨by rw [List.length_map]; exact h.1, fun x hx => ?_⟩
  obtain ⟨y, _, rfl⟩ := List.mem_map.mp hx
  exact hf y
theorem R0.mapf {m : Nat} {xs : List Int} (h : R0 m xs) (f : Int → Int) (hf : ∀ x, 0 ≤ x → 0 ≤ f x ∧ f x ≤ 999) : R0 m (xs.map f) := by
  refine ⟨by rw [List.length_map]; exact h.1, fun x hx => ?_⟩
  obtain ⟨y, hy, rfl⟩ := List.mem_map.mp hx
  exact hf y (h.2 y hy).1
theorem S4.r0 {m : Nat} {xs : List Int} (h : S4 m xs) : R0 m xs := ⟨h.1, fun x hx => by have := h.2 x hx; omega⟩
theorem four_of {m : Nat} (F : Pow4 m) {a b c d : List Int} (ha : R0 m a) (hb : R0 m b) (hc : R0 m c) (hd : R0 m d) : Four a b c d :=
  ⟨by rw [ha.1]; exact F, by rw [hb.1, ha.1], by rw [hc.1, ha.1], by rw [hd.1, ha.1], ha.2, hb.2, hc.2, hd.2⟩
theorem drawn_ok {n : Nat} {p : List D} (h : Pot n p) (hn : n + 70 ≤ 1000000) : ∃ (a b c d : List Int) (q : List D), r__law_drawn p [] = some (.ok (.d (.tup [tupI a, tupI b, tupI c, tupI d])), q) ∧ Four a b c d ∧ Pot (n + 70) q := by
  obtain ⟨dm, q1, e1, hdm, P1⟩ := of_ok h (by omega) (ds := [.int 2, .int 4, .int 8, .int 16]) (by decide) (by decide)
  obtain ⟨m, F, rfl⟩ : ∃ m : Nat, Pow4 m ∧ dm = .int (m : Int) := by
    simp only [List.mem_cons, List.not_mem_nil, or_false] at hdm
    rcases hdm with rfl | rfl | rfl | rfl
    · exact ⟨2, .inl rfl, rfl⟩
    · exact ⟨4, .inr (.inl rfl), rfl⟩
    · exact ⟨8, .inr (.inr (.inl rfl)), rfl⟩
    · exact ⟨16, .inr (.inr (.inr rfl)), rfl⟩
  have hm : m ≤ 16 := by rcases F with h | h | h | h <;> omega
  obtain ⟨w, q2, e2, hw, P2⟩ := take_ok P1 (by omega) (u := 4) (by decide) (by decide)
  obtain ⟨a, q3, e3, la, ra, P3⟩ := numbers_ok P2 hm (by omega) (u := 4) (by decide) (by decide)
  obtain ⟨b, q4, e4, lb, rb, P4⟩ := numbers_ok P3 hm (by omega) (u := 4) (by decide) (by decide)
  have ha : S4 m a := ⟨la, ra⟩
  have hb : S4 m b := ⟨lb, rb⟩
  have s1 : svPar 1 2 (evCallQ 0 r__law_of 2 (evCons (fun env => settle ((evLst (evCons (evC (.int 2)) (evCons (evC (.int 4)) (evCons (evC (.int 8)) (evCons (evC (.int 16)) evNil))))) env)) evNil)) (evCallQ 0 r__law_take 2 (evCons (evC (.int 4)) evNil))
      [.par p, .un, .un, .un, .un, .un, .un, .un, .un, .un] = some (.nx [.par q2, .v (.int (m : Int)), .v (.int (w : Int)), .un, .un, .un, .un, .un, .un, .un]) :=
    Eq.trans (st_par (ev_callQ rfl (ev_cons (ev_settleF (ev_lst (ev_cons ev_C (ev_cons ev_C (ev_cons ev_C (ev_cons ev_C ev_nil)))) rfl)) ev_nil) rfl rfl e1) (ev_callQ rfl (ev_cons ev_C ev_nil) rfl rfl e2)) rfl
  have s2 : svPar 3 4 (evCallQ 0 r__law_numbers 3 (evCons (varE 1) (evCons (evC (.int 4)) evNil))) (evCallQ 0 r__law_numbers 3 (evCons (varE 1) (evCons (evC (.int 4)) evNil)))
      [.par q2, .v (.int (m : Int)), .v (.int (w : Int)), .un, .un, .un, .un, .un, .un, .un] = some (.nx (fD q4 (m : Int) (w : Int) (tupI a) (tupI b) .un .un .un .un .un)) :=
    Eq.trans (st_par (ev_callQ rfl (ev_cons (ev_varE rfl) (ev_cons ev_C ev_nil)) rfl rfl e3) (ev_callQ rfl (ev_cons (ev_varE rfl) (ev_cons ev_C ev_nil)) rfl rfl e4)) rfl
  by_cases w0 : (w : Int) = 0
  · obtain ⟨c, q5, e5, lc, rc, P5⟩ := numbers_ok P4 hm (by omega) (u := 9) (by decide) (by decide)
    obtain ⟨d, q6, e6, ld, rd, P6⟩ := numbers_ok P5 hm (by omega) (u := 9) (by decide) (by decide)
    have t : eqD (.int (w : Int)) (.int 0) = some (.d (.bl true)) := by rw [eq_ii, decide_eq_true w0]
    refine ⟨a, b, c, d, q6, ?_, four_of F ha.r0 hb.r0 ⟨lc, fun x hx => by have := rc x hx; omega⟩ ⟨ld, fun x hx => by have := rd x hx; omega⟩, P6.mono (by omega)⟩
    unfold r__law_drawn b__law_drawn
    refine runQ_rt (e := fD q6 (m : Int) (w : Int) (tupI a) (tupI b) .un .un .un .un .un) ?_ rfl
    refine st_seq s1 (st_seq s2 (svSeq_rt (st_ift (ev_B (ev_settle (ev_ap2 (ev_varPv rfl) (ev_asP ev_C) de_d de_d t))) ?_)))
    exact st_ret (ev_asF (ev_tup (ev_cons (ev_varE rfl) (ev_cons (ev_varE rfl) (ev_cons (ev_settle (ev_callQ rfl (ev_cons (ev_varE rfl) (ev_cons ev_C ev_nil)) rfl rfl e5)) (ev_cons (ev_settle (ev_callQ rfl (ev_cons (ev_varE rfl) (ev_cons ev_C ev_nil)) rfl rfl e6)) ev_nil)))) rfl))
  have t0 : eqD (.int (w : Int)) (.int 0) = some (.d (.bl false)) := by rw [eq_ii, decide_eq_false w0]
  have s4 : ∃ a' b', svIf (evB fun env => settle ((ap2 eqD (varP 2) (fun env => asP ((evC (.int 1)) env))) env)) (svPar 3 4 (apE tupleD (fun env => settle ((evComp (evSeq true (varE 3)) (putN 5) (fun env => some (.ok true env)) e__law_drawn_1 [5]) env))) (apE tupleD (fun env => settle ((evComp (evSeq true (varE 4)) (putN 5) (fun env => some (.ok true env)) e__law_drawn_2 [5]) env)))) svNil
      (fD q4 (m : Int) (w : Int) (tupI a) (tupI b) .un .un .un .un .un) = some (.nx (fD q4 (m : Int) (w : Int) (tupI a') (tupI b') .un .un .un .un .un)) ∧ S4 m a' ∧ S4 m b' := by
    by_cases w1 : (w : Int) = 1
    · have t : eqD (.int (w : Int)) (.int 1) = some (.d (.bl true)) := by rw [eq_ii, decide_eq_true w1]
      have ff : ∀ x : Int, 0 ≤ (if decide (1 < x) = true then (1 : Int) else 0) ∧ (if decide (1 < x) = true then (1 : Int) else 0) < 4 := fun x => by split <;> omega
      refine ⟨a.map fun x => if decide (1 < x) = true then 1 else 0, b.map fun x => if decide (1 < x) = true then 1 else 0, ?_, ha.bits _ ff, hb.bits _ ff⟩
      have c1 := comp_int (it := evSeq true (varE 3)) (i := 5) (elt := e__law_drawn_1) (env := fD q4 (m : Int) (w : Int) (tupI a) (tupI b) .un .un .un .un .un) (xs := a) (f := fun x => if decide (1 < x) = true then 1 else 0) (ev_seqT (ev_varE rfl)) (by rw [la]; omega) (fun _ => rfl)
        (fun x _ => ev_settle (ev_ap1 (ev_asP (ev_settle (ev_ap2 (ev_varPv rfl) (ev_asP ev_C) de_d de_d (gt_ii x 1)))) de_d (b2i _))) rfl
      have c2 := comp_int (it := evSeq true (varE 4)) (i := 5) (elt := e__law_drawn_2) (env := fD q4 (m : Int) (w : Int) (tupI a) (tupI b) .un .un .un .un .un) (xs := b) (f := fun x => if decide (1 < x) = true then 1 else 0) (ev_seqT (ev_varE rfl)) (by rw [lb]; omega) (fun _ => rfl)
        (fun x _ => ev_settle (ev_ap1 (ev_asP (ev_settle (ev_ap2 (ev_varPv rfl) (ev_asP ev_C) de_d de_d (gt_ii x 1)))) de_d (b2i _))) rfl
      have tp : ∀ ds : List D, tupleD (.lst ds) = some (.d (.tup ds)) := fun _ => rfl
      refine st_ift (ev_B (ev_settle (ev_ap2 (ev_varPv rfl) (ev_asP ev_C) de_d de_d t))) ?_
      exact Eq.trans (st_par (ev_apE (ev_settleF c1) (tp _)) (ev_apE (ev_settleF c2) (tp _))) rfl
    · have t : eqD (.int (w : Int)) (.int 1) = some (.d (.bl false)) := by rw [eq_ii, decide_eq_false w1]
      exact ⟨a, b, st_iff (ev_B (ev_settle (ev_ap2 (ev_varPv rfl) (ev_asP ev_C) de_d de_d t))) st_nil, ha, hb⟩
  obtain ⟨a', b', s4, ha', hb'⟩ := s4
  have z := zeros hm
  have s5 : svPar 6 7 (ap2E mulD (fun env => settle ((evLst (evCons (evC (.int 0)) evNil)) env)) (varE 1)) (ap2E mulD (fun env => settle ((evLst (evCons (evC (.int 0)) evNil)) env)) (varE 1)) (fD q4 (m : Int) (w : Int) (tupI a') (tupI b') .un .un .un .un .un) =
      some (.nx (fD q4 (m : Int) (w : Int) (tupI a') (tupI b') .un (ownI (List.replicate m 0)) (ownI (List.replicate m 0)) .un .un)) :=
    Eq.trans (st_par (ev_ap2E (ev_settleF (ev_lst (ev_cons ev_C ev_nil) rfl)) (ev_varE rfl) z) (ev_ap2E (ev_settleF (ev_lst (ev_cons ev_C ev_nil) rfl)) (ev_varE rfl) z)) rfl
  have rz : R0 m (List.replicate m 0) := ⟨List.length_replicate, fun x hx => by have := (List.mem_replicate.mp hx).2; omega⟩
  obtain ⟨C, E, t5, t8, t9, s6, hC, hE⟩ := drawn_for F (q := q4) (w := (w : Int)) ha' hb' rz rz .un .un .un
  have s7 : ∃ E', svIf (evB fun env => settle ((ap2 gtD (varP 2) (fun env => asP ((evC (.int 1)) env))) env)) (svAsg 7 (evComp (evSeq false (varE 7)) (putN 5) (fun env => some (.ok true env)) e__law_drawn_5 [5])) svNil
      (fD q4 (m : Int) (w : Int) (tupI a') (tupI b') t5 (ownI C) (ownI E) t8 t9) = some (.nx (fD q4 (m : Int) (w : Int) (tupI a') (tupI b') t5 (ownI C) (ownI E') t8 t9)) ∧ R0 m E' := by
    by_cases w1 : 1 < (w : Int)
    · have t : gtD (.int (w : Int)) (.int 1) = some (.d (.bl true)) := by rw [gt_ii, decide_eq_true w1]
      have mp := maxL_pos hE.2
      have m0 : 0 < m := by rcases F with h | h | h | h <;> omega
      have mx := maxD_lstI (xs := E) (by rw [hE.1]; exact m0)
      refine ⟨E.map fun x => if maxL E + x < 999 then maxL E + x else 999, ?_, hE.mapf _ fun x hx => by split <;> omega⟩
      have c1 := comp_int (it := evSeq false (varE 7)) (i := 5) (elt := e__law_drawn_5) (env := fD q4 (m : Int) (w : Int) (tupI a') (tupI b') t5 (ownI C) (ownI E) t8 t9) (xs := E) (f := fun x => if maxL E + x < 999 then maxL E + x else 999) (ev_seqL (ev_varEo rfl)) (by rw [hE.1]; omega) (fun _ => rfl)
        (fun x _ => ev_settle (ev_ap2E ev_C (ev_settle (ev_ap2E (ev_settle (ev_ap1 (ev_varPv rfl) de_d mx)) (ev_varE rfl) (add_ii _ _))) (min_ii _ _))) rfl
      refine st_ift (ev_B (ev_settle (ev_ap2 (ev_varPv rfl) (ev_asP ev_C) de_d de_d t))) ?_
      exact Eq.trans (st_asg c1) rfl
    · have t : gtD (.int (w : Int)) (.int 1) = some (.d (.bl false)) := by rw [gt_ii, decide_eq_false w1]
      exact ⟨E, st_iff (ev_B (ev_settle (ev_ap2 (ev_varPv rfl) (ev_asP ev_C) de_d de_d t))) st_nil, hE⟩
  obtain ⟨E', s7, hE'⟩ := s7
  refine ⟨a', b', C, E', q4, ?_, four_of F ha'.r0 hb'.r0 hC hE', P4.mono (by omega)⟩
  have c1 := comp_int (it := evSeq false (varE 6)) (i := 5) (elt := e__law_drawn_7) (env := fD q4 (m : Int) (w : Int) (tupI a') (tupI b') t5 (ownI C) (ownI E') t8 t9) (xs := C) (f := fun x => x) (ev_seqL (ev_varEo rfl)) (by rw [hC.1]; omega) (fun _ => rfl)
    (fun x _ => ev_settle (ev_ap1 (ev_varPv rfl) de_d (int_i x))) rfl
  have c2 := comp_int (it := evSeq false (varE 7)) (i := 5) (elt := e__law_drawn_6) (env := fD q4 (m : Int) (w : Int) (tupI a') (tupI b') t5 (.v (lstI C)) (ownI E') t8 t9) (xs := E') (f := fun x => x) (ev_seqL (ev_varEo rfl)) (by rw [hE'.1]; omega) (fun _ => rfl)
    (fun x _ => ev_settle (ev_ap1 (ev_varPv rfl) de_d (int_i x))) rfl
  rw [List.map_id'] at c1 c2
  have tp : ∀ ds : List D, tupleD (.lst ds) = some (.d (.tup ds)) := fun _ => rfl
  unfold r__law_drawn b__law_drawn
  refine runQ_rt (e := fD q4 (m : Int) (w : Int) (tupI a') (tupI b') t5 (.v (lstI C)) (.v (lstI E')) t8 t9) ?_ rfl
  refine st_seq s1 (st_seq s2 (st_seq (st_iff (ev_B (ev_settle (ev_ap2 (ev_varPv rfl) (ev_asP ev_C) de_d de_d t0))) st_nil) (st_seq s4 (st_seq s5 (st_seq s6 (st_seq s7 ?_))))))
  exact st_ret (ev_asF (ev_tup (ev_cons (ev_varE rfl) (ev_cons (ev_varE rfl) (ev_cons (ev_settle (ev_apE (ev_settleF c1) (tp _))) (ev_cons (ev_settle (ev_apE (ev_settleF c2) (tp _))) ev_nil)))) rfl))
end Nol.K44

set_option Elab.async false
set_option linter.all false
set_option maxRecDepth 100000
set_option maxHeartbeats 1000000
/-! k44, plain: the items that a told value may hold, and their texts. -/
namespace Nol.K44
open Nol PySem PySem.Spec PyProof.Rows
def its : List D := (List.range 18).map (fun (i : Nat) => D.int ((i : Int) - 1)) ++ [.bl true, .bl false, .non, .dct [] []] ++ (["holds", "fails", "a", "b", "c1", "club", "member", ""] : List Str).map D.str
  ++ (List.range 16).map (fun (i : Nat) => D.str (Str.ofString (toString i))) ++ (List.range 16).map (fun (i : Nat) => D.lst [.int (i : Int)])
  ++ [.lst [.str "holds"], .lst [.str "fails"], .tup [.str "holds"], .tup [.str "fails"], .tup [.lst [.str "holds"]], .tup [.lst [.str "fails"]]]
def tgt : List D := [.str "holds", .str "fails"] ++ (List.range 16).map (fun (i : Nat) => D.int (i : Int))
def eqS : D → D → Bool
  | .int i, .int j => decide (i = j)
  | .str s, .str t => decide (s = t)
  | _, _ => false
theorem eqS_eq {x y : D} (h : eqS x y = true) : x = y := by
  cases x <;> cases y <;> first | (cases h; done) | (have h := of_decide_eq_true h; rw [h])
def txt (d : D) : List Nat := (shown d).cps.toList
def okPair (x y : D) : Bool := eqS x y || (txt x != txt y && !(txt x ++ [44]).isPrefixOf (txt y) && !(txt x ++ [41]).isPrefixOf (txt y) && !(txt y ++ [44]).isPrefixOf (txt x) && !(txt y ++ [41]).isPrefixOf (txt x))
theorem okPairs : (its.all fun x => tgt.all fun y => okPair x y) = true := by decide +kernel
theorem peel {x y : D} (h : okPair x y = true) {c c' : Nat} {r s : List Nat} (hc : c = 44 ∨ c = 41) (hc' : c' = 44 ∨ c' = 41) (e : txt x ++ c :: r = txt y ++ c' :: s) : x = y ∧ c = c' ∧ r = s := by
  unfold okPair at h
  rw [Bool.or_eq_true] at h
  rcases h with h | h
  · have := eqS_eq h
    subst this
    have e := List.append_cancel_left e
    simp only [List.cons.injEq] at e
    exact ⟨rfl, e.1, e.2⟩
  · exfalso
    simp only [Bool.and_eq_true, bne_iff_ne, ne_eq, Bool.not_eq_true'] at h
    obtain ⟨⟨⟨⟨h0, h1⟩, h2⟩, h3⟩, h4⟩ := h
    have no : ∀ {a b : List Nat} {k : Nat} {r s : List Nat} {k' : Nat}, (k = 44 ∨ k = 41) → (a ++ [44]).isPrefixOf b = false → (a ++ [41]).isPrefixOf b = false → ∀ z, k :: r = z ++ k' :: s → b = a ++ z → b = a := by
      intro a b k r s k' hk n1 n2 z e1 e2
      cases z with
      | nil => rw [e2, List.append_nil]
      | cons w z =>
        exfalso
        rw [List.cons_append, List.cons.injEq] at e1
        have p : (a ++ [k]) <+: b := ⟨z, by rw [e2, e1.1, List.append_assoc]; rfl⟩
        have p := List.isPrefixOf_iff_prefix.mpr p
        rcases hk with rfl | rfl
        · rw [n1] at p; cases p
        · rw [n2] at p; cases p
    rcases List.append_eq_append_iff.mp e with ⟨z, e1, e2⟩ | ⟨z, e1, e2⟩
    · exact h0 (no hc h1 h2 z e2 e1).symm
    · exact h0 (no hc' h3 h4 z e2 e1)
def tx : List D → List Nat
  | [] => []
  | [x] => txt x
  | x :: y :: r => txt x ++ 44 :: 32 :: tx (y :: r)
theorem join_tx : ∀ ds : List D, (Str.join ", " (PyData.shownAll (pys ds))).cps.toList = tx ds
  | [] => rfl
  | [x] => rfl
  | x :: y :: r => by
    have ih := join_tx (y :: r)
    show ((py x).shown ++ (", " : Str) ++ Str.join ", " (PyData.shownAll (pys (y :: r)))).cps.toList = txt x ++ 44 :: 32 :: tx (y :: r)
    rw [← ih]
    show ((((py x).shown.cps ++ (", " : Str).cps) ++ (Str.join ", " (PyData.shownAll (pys (y :: r)))).cps).toList) = _
    rw [Array.toList_append, Array.toList_append, List.append_assoc]
    rfl
theorem txt_tup0 : txt (.tup []) = [40, 41] := by decide +kernel
theorem txt_tup1 (x : D) : txt (.tup [x]) = 40 :: (txt x ++ [44, 41]) := by
  show ((("(" : Str) ++ Str.join ", " (PyData.shownAll (pys [x])) ++ (",)" : Str)) : Str).cps.toList = _
  show ((("(" : Str).cps ++ (Str.join ", " (PyData.shownAll (pys [x]))).cps) ++ (",)" : Str).cps).toList = _
  rw [Array.toList_append, Array.toList_append, join_tx]
  rfl
theorem txt_tup2 (x y : D) (r : List D) : txt (.tup (x :: y :: r)) = 40 :: (tx (x :: y :: r) ++ [41]) := by
  show ((("(" : Str) ++ Str.join ", " (PyData.shownAll (pys (x :: y :: r))) ++ (")" : Str)) : Str).cps.toList = _
  show ((("(" : Str).cps ++ (Str.join ", " (PyData.shownAll (pys (x :: y :: r)))).cps) ++ (")" : Str).cps).toList = _
  rw [Array.toList_append, Array.toList_append, join_tx]
  rfl
end Nol.K44

set_option Elab.async false
set_option linter.all false
set_option maxRecDepth 100000
set_option maxHeartbeats 1000000
/-! k44, plain: repr tells a told value from the others. -/
namespace Nol.K44
open Nol PySem PySem.Spec PyProof.Rows
def Its (ds : List D) : Prop := ∀ d ∈ ds, d ∈ its
inductive VK0 : D → Prop
  | non : VK0 .non
  | lst (ds : List D) : VK0 (.lst ds)
  | tup {ds : List D} : Its ds → VK0 (.tup ds)
theorem pair_ok {x y : D} (hx : x ∈ its) (hy : y ∈ tgt) : okPair x y = true := List.all_eq_true.mp (List.all_eq_true.mp okPairs x hx) y hy
theorem from_pre : ∀ (ts : List Str) (k : Nat) (acc : Str), ∃ z, (textFrom k acc ts).cps.toList = acc.cps.toList ++ z
  | [], _, acc => ⟨[], by rw [List.append_nil]; rfl⟩
  | t :: ts, k, acc => by
    obtain ⟨z, e⟩ := from_pre ts (k + 1) (acc ++ (if k > 0 then ", " else "" : String) ++ t)
    refine ⟨((if k > 0 then ", " else "" : String) : Str).cps.toList ++ (t.cps.toList ++ z), ?_⟩
    show (textFrom (k + 1) (acc ++ (if k > 0 then ", " else "" : String) ++ t) ts).cps.toList = _
    rw [e]
    show (((acc.cps ++ ((if k > 0 then ", " else "" : String) : Str).cps) ++ t.cps).toList) ++ z = _
    rw [Array.toList_append, Array.toList_append, List.append_assoc, List.append_assoc]
theorem txt_lst (ds : List D) : ∃ z, txt (.lst ds) = 91 :: z := by
  obtain ⟨z, e⟩ := from_pre (PyData.shownAll (pys ds)) 0 "["
  refine ⟨z ++ [93], ?_⟩
  show (((textFrom 0 "[" (PyData.shownAll (pys ds))) ++ ("]" : Str)) : Str).cps.toList = _
  show ((textFrom 0 "[" (PyData.shownAll (pys ds))).cps ++ ("]" : Str).cps).toList = _
  rw [Array.toList_append, e]
  rfl
theorem txt_non : txt .non = [78, 111, 110, 101] := by decide +kernel
theorem txt_h : txt (.str "holds") = [39, 104, 111, 108, 100, 115, 39] := by decide +kernel
theorem txt_f : txt (.str "fails") = [39, 102, 97, 105, 108, 115, 39] := by decide +kernel
theorem h_tgt : (.str "holds" : D) ∈ tgt := by unfold tgt; simp
theorem f_tgt : (.str "fails" : D) ∈ tgt := by unfold tgt; simp
theorem i_tgt {i : Nat} (h : i < 16) : (.int (i : Int) : D) ∈ tgt := List.mem_append_right _ (List.mem_map.mpr ⟨i, List.mem_range.mpr h, rfl⟩)
theorem is_holds {v : D} (h : VK0 v) (e : txt v = txt holdD) : v = holdD := by
  have th : txt holdD = 40 :: (txt (.str "holds") ++ [44, 41]) := txt_tup1 _
  rw [th] at e
  cases h with
  | non => rw [txt_non] at e; cases e
  | lst ds => obtain ⟨z, q⟩ := txt_lst ds; rw [q] at e; cases e
  | @tup ds hd =>
    match ds, hd, e with
    | [], _, e => rw [txt_tup0, txt_h] at e; cases e
    | [x], hd, e =>
      rw [txt_tup1] at e
      obtain ⟨q, -, -⟩ := peel (pair_ok (hd x (by simp)) h_tgt) (.inl rfl) (.inl rfl) (List.cons.inj e).2
      rw [q]
    | x :: y :: r, hd, e =>
      rw [txt_tup2] at e
      have e := (List.cons.inj e).2
      rw [tx, List.append_assoc] at e
      obtain ⟨-, -, q⟩ := peel (pair_ok (hd x (by simp)) h_tgt) (.inl rfl) (.inl rfl) e
      cases q
theorem is_fails {v : D} (h : VK0 v) {i j : Nat} (hi : i < 16) (hj : j < 16) (e : txt v = txt (failD (i, j))) : v = failD (i, j) := by
  have th : txt (failD (i, j)) = 40 :: (tx [.str "fails", .int (i : Int), .int (j : Int)] ++ [41]) := txt_tup2 _ _ _
  have t2 : tx [.str "fails", .int (i : Int), .int (j : Int)] ++ [41] = txt (.str "fails") ++ 44 :: 32 :: (txt (.int (i : Int)) ++ 44 :: 32 :: (txt (.int (j : Int)) ++ 41 :: [])) := by
    simp only [tx, List.append_assoc, List.cons_append]
  rw [th, t2] at e
  cases h with
  | non => rw [txt_non] at e; cases e
  | lst ds => obtain ⟨z, q⟩ := txt_lst ds; rw [q] at e; cases e
  | @tup ds hd =>
    match ds, hd, e with
    | [], _, e => rw [txt_tup0, txt_f] at e; cases e
    | [x], hd, e =>
      rw [txt_tup1] at e
      obtain ⟨-, -, q⟩ := peel (pair_ok (hd x (by simp)) f_tgt) (.inl rfl) (.inl rfl) (List.cons.inj e).2
      cases q
    | [x, y], hd, e =>
      rw [txt_tup2] at e
      have e := (List.cons.inj e).2
      simp only [tx, List.append_assoc, List.cons_append] at e
      obtain ⟨-, -, q⟩ := peel (pair_ok (hd x (by simp)) f_tgt) (.inl rfl) (.inl rfl) e
      obtain ⟨-, q, -⟩ := peel (pair_ok (hd y (by simp)) (i_tgt hi)) (.inr rfl) (.inl rfl) (List.cons.inj q).2
      cases q
    | [x, y, z], hd, e =>
      rw [txt_tup2] at e
      have e := (List.cons.inj e).2
      simp only [tx, List.append_assoc, List.cons_append] at e
      obtain ⟨q1, -, q⟩ := peel (pair_ok (hd x (by simp)) f_tgt) (.inl rfl) (.inl rfl) e
      obtain ⟨q2, -, q⟩ := peel (pair_ok (hd y (by simp)) (i_tgt hi)) (.inl rfl) (.inl rfl) (List.cons.inj q).2
      obtain ⟨q3, -, -⟩ := peel (pair_ok (hd z (by simp)) (i_tgt hj)) (.inr rfl) (.inr rfl) (List.cons.inj q).2
      rw [q1, q2, q3]
    | x :: y :: z :: w :: r, hd, e =>
      rw [txt_tup2] at e
      have e := (List.cons.inj e).2
      simp only [tx, List.append_assoc, List.cons_append] at e
      obtain ⟨q1, -, q⟩ := peel (pair_ok (hd x (by simp)) f_tgt) (.inl rfl) (.inl rfl) e
      obtain ⟨q2, -, q⟩ := peel (pair_ok (hd y (by simp)) (i_tgt hi)) (.inl rfl) (.inl rfl) (List.cons.inj q).2
      obtain ⟨-, q, -⟩ := peel (pair_ok (hd z (by simp)) (i_tgt hj)) (.inl rfl) (.inr rfl) (List.cons.inj q).2
      cases q
end Nol.K44

set_option Elab.async false
set_option linter.all false
set_option maxRecDepth 100000
set_option maxHeartbeats 1000000
/-! k44, plain: shows_fourfold. -/
namespace Nol.K44
open Nol PySem PySem.Spec PyProof.Rows
theorem ev_or1 {f g : Ev Bool} {env e : Fm} (h : f env = some (.ok true e)) : evOrB f g env = some (.ok true e) := by unfold evOrB; rw [h]; rfl
theorem ev_or0 {f g : Ev Bool} {env e : Fm} {s : Option (Rs Bool)} (h : f env = some (.ok false e)) (hs : g e = s) : evOrB f g env = s := by unfold evOrB; rw [h]; exact hs
theorem ev_not {f : Ev Bool} {env e : Fm} {c : Bool} (h : f env = some (.ok c e)) : evNotB f env = some (.ok (!c) e) := by unfold evNotB; rw [h]; rfl
theorem ev_notT {f : Ev Bool} {env e : Fm} (h : f env = some (.ok false e)) : evNotB f env = some (.ok true e) := ev_not h
theorem ev_notF {f : Ev Bool} {env e : Fm} (h : f env = some (.ok true e)) : evNotB f env = some (.ok false e) := ev_not h
theorem runP_rt {N : List Str} {fb : Sv} {ds : List D} {d : D} {e : Fm} (h : fb (startF N (ds.map .v)) = some (.rt d e)) : runP N fb ds = some (.ok (.d d)) := by
  unfold runP
  rw [h]
  simp [endR]
theorem ev_callP {f : List D → Option FR} {n : Nat} {g : Ev (List D)} {env e : Fm} {ds : List D} {v : FV} (hg : g env = some (.ok ds e)) (hn : ds.length = n) (hf : f ds = some (.ok v)) : evCallP f n g env = some (.ok v e) := by
  unfold evCallP
  rw [hg]
  simp only [bindR_ok, hn, if_true, hf]
theorem st_drop {f : Ev FV} {env e : Fm} {v : FV} (h : f env = some (.ok v e)) : svDrop f env = some (.nx e) := by unfold svDrop; rw [h]; rfl
theorem notIn13 (n : Nat) : inD true (.int n) (.tup [.int 1, .int 3]) = some (.d (.bl (!decide (n = 1 ∨ n = 3)))) := by
  show some (FV.d (.bl (!isIn (.int n) [.int 1, .int 3]))) = _
  have : isIn (.int n) [.int 1, .int 3] = decide (n = 1 ∨ n = 3) := by
    simp only [isIn, List.any_cons, List.any_nil, eqB_ii, Bool.or_false]
    rw [← Bool.decide_or]
    congr 1
    simp only [eq_iff_iff]
    omega
  rw [this]
abbrev sF (a b c d : List Int) (v : D) (y : Sl) : Fm := [.v (tupI a), .v (tupI b), .v (tupI c), .v (tupI d), .v v, y]
section
variable {a b c d : List Int}
theorem len_tupI (xs : List Int) : lenD (tupI xs) = some (.d (.int (xs.length : Int))) := by
  show some (FV.d (.int ((xs.map D.int).length : Int))) = _
  rw [List.length_map]
theorem shows_pre (F : Four a b c d) {v x : D} {s : Sv} {e : Fm} (h : s (sF a b c d v .un) = some (.rt x e)) :
    svSeq (svDrop (evCallP r_check_four 4 (evCons (varE 0) (evCons (varE 1) (evCons (varE 2) (evCons (varE 3) evNil)))))) s (sF a b c d v .un) = some (.rt x e) :=
  st_seq (st_drop (ev_callP (ev_cons (ev_varE rfl) (ev_cons (ev_varE rfl) (ev_cons (ev_varE rfl) (ev_cons (ev_varE rfl) ev_nil)))) rfl (check_four_ok F))) h
theorem shows_nt (F : Four a b c d) {v : D} (hv : isiD "tuple" v = some (.d (.bl false))) : r_shows_fourfold [tupI a, tupI b, tupI c, tupI d, v] = some (.ok (.d (.bl false))) := by
  unfold r_shows_fourfold b_shows_fourfold
  refine runP_rt (e := sF a b c d v .un) (shows_pre F ?_)
  exact svSeq_rt (st_ift (ev_or1 (ev_notT (ev_Test (ev_asP (ev_settle (ev_apE (ev_varE rfl) hv))) de_d rfl))) (st_ret (ev_asF ev_C)))
theorem shows_len (F : Four a b c d) {ds : List D} (h : ¬ (ds.length = 1 ∨ ds.length = 3)) : r_shows_fourfold [tupI a, tupI b, tupI c, tupI d, .tup ds] = some (.ok (.d (.bl false))) := by
  have hi := notIn13 ds.length
  rw [decide_eq_false h] at hi
  have ln : lenD (.tup ds) = some (.d (.int (ds.length : Int))) := rfl
  unfold r_shows_fourfold b_shows_fourfold
  refine runP_rt (e := sF a b c d (.tup ds) .un) (shows_pre F ?_)
  exact svSeq_rt (st_ift (ev_or0 (ev_notF (ev_Test (ev_asP (ev_settle (ev_apE (ev_varE rfl) (isi_tt ds)))) de_d rfl)) (ev_or1 (ev_B (ev_settle (ev_ap2 (ev_asP (ev_settle (ev_ap1 (ev_varPv rfl) de_d ln))) (ev_asP (ev_tup (ev_cons ev_C (ev_cons ev_C ev_nil)) rfl)) de_d de_d hi))))) (st_ret (ev_asF ev_C)))
/-- a tuple of 1 or 3 -/
theorem shows_test (F : Four a b c d) {ds : List D} {x : D} {t : Bool} (h : ds.length = 1 ∨ ds.length = 3) (h0 : subsD (.tup ds) (.int 0) = some (.d x)) (hx : isiD "str" x = some (.d (.bl t))) :
    (evOrB (evNotB (evTest (fun env => asP ((fun env => settle ((apE (isiD "tuple") (varE 4)) env)) env)))) (evOrB (evB fun env => settle ((ap2 (inD true) (fun env => asP ((fun env => settle ((ap1 lenD (varP 4)) env)) env)) (fun env => asP ((evTup (evCons (evC (.int 1)) (evCons (evC (.int 3)) evNil))) env))) env)) (evNotB (evTest (fun env => asP ((fun env => settle ((apE (isiD "str") (fun env => settle ((ap2 subsD (varP 4) (fun env => asP ((evC (.int 0)) env))) env))) env)) env)))))) (sF a b c d (.tup ds) .un) = some (.ok (!t) (sF a b c d (.tup ds) .un)) := by
  have hi := notIn13 ds.length
  rw [decide_eq_true h] at hi
  have ln : lenD (.tup ds) = some (.d (.int (ds.length : Int))) := rfl
  exact ev_or0 (ev_notF (ev_Test (ev_asP (ev_settle (ev_apE (ev_varE rfl) (isi_tt ds)))) de_d rfl)) (ev_or0 (ev_B (ev_settle (ev_ap2 (ev_asP (ev_settle (ev_ap1 (ev_varPv rfl) de_d ln))) (ev_asP (ev_tup (ev_cons ev_C (ev_cons ev_C ev_nil)) rfl)) de_d de_d hi))) (ev_not (ev_Test (ev_asP (ev_settle (ev_apE (ev_settle (ev_ap2 (ev_varPv rfl) (ev_asP ev_C) de_d de_d h0)) hx))) de_d rfl)))
theorem shows_ns (F : Four a b c d) {ds : List D} {x : D} (h : ds.length = 1 ∨ ds.length = 3) (h0 : subsD (.tup ds) (.int 0) = some (.d x)) (hx : isiD "str" x = some (.d (.bl false))) : r_shows_fourfold [tupI a, tupI b, tupI c, tupI d, .tup ds] = some (.ok (.d (.bl false))) := by
  unfold r_shows_fourfold b_shows_fourfold
  refine runP_rt (e := sF a b c d (.tup ds) .un) (shows_pre F ?_)
  exact svSeq_rt (st_ift (shows_test F h h0 hx) (st_ret (ev_asF ev_C)))
theorem ev_And1 {f g : Ev D} {env e : Fm} {s : Option (Rs D)} (h : f env = some (.ok (.bl true) e)) (hs : g e = s) : evAnd f g env = s := by unfold evAnd; rw [h]; exact hs
theorem ev_And0 {f g : Ev D} {env e : Fm} (h : f env = some (.ok (.bl false) e)) : evAnd f g env = some (.ok (.bl false) e) := by unfold evAnd; rw [h]; rfl
theorem shows_one (F : Four a b c d) {s : Str} {t : Bool} (ht : eqD (.str s) (.str "holds") = some (.d (.bl t))) : r_shows_fourfold [tupI a, tupI b, tupI c, tupI d, .tup [.str s]] = some (.ok (.d (.bl (t && (badL a b c d).isEmpty)))) := by
  have s0 : subsD (.tup [.str s]) (.int 0) = some (.d (.str s)) := rfl
  have e1 : eqD (.int 1) (.int 1) = some (.d (.bl true)) := by rw [eq_ii]; rfl
  have ln : lenD (.tup [.str s]) = some (.d (.int 1)) := rfl
  have ff := fourfold_eq F
  unfold r_shows_fourfold b_shows_fourfold
  refine runP_rt (e := sF a b c d (.tup [.str s]) .un) (shows_pre F ?_)
  refine st_seq (st_iff (shows_test F (.inl rfl) s0 rfl) st_nil) (svSeq_rt (st_ift (ev_B (ev_settle (ev_ap2 (ev_asP (ev_settle (ev_ap1 (ev_varPv rfl) de_d ln))) (ev_asP ev_C) de_d de_d e1))) ?_))
  have q : (fun env => settle ((ap2 eqD (fun env => asP ((fun env => settle ((ap2 subsD (varP 4) (fun env => asP ((evC (.int 0)) env))) env)) env)) (fun env => asP ((evC (.str "holds")) env))) env)) (sF a b c d (.tup [.str s]) .un) = some (.ok (.bl t) (sF a b c d (.tup [.str s]) .un)) :=
    ev_settle (ev_ap2 (ev_asP (ev_settle (ev_ap2 (ev_varPv rfl) (ev_asP ev_C) de_d de_d s0))) (ev_asP ev_C) de_d de_d ht)
  cases t with
  | false => exact st_ret (ev_asF (ev_And0 q))
  | true =>
    have lf : ∃ k : Int, lenD (toldD (badL a b c d)) = some (.d (.int k)) ∧ decide (k = 1) = (badL a b c d).isEmpty := by
      cases badL a b c d with
      | nil => exact ⟨1, rfl, rfl⟩
      | cons p r => exact ⟨3, rfl, rfl⟩
    obtain ⟨k, l1, l2⟩ := lf
    have e2 := eq_ii k 1
    rw [l2] at e2
    exact st_ret (ev_asF (ev_And1 q (ev_settle (ev_ap2 (ev_asP (ev_settle (ev_ap1 (ev_asP (ev_settle (ev_callP (ev_cons (ev_varE rfl) (ev_cons (ev_varE rfl) (ev_cons (ev_varE rfl) (ev_cons (ev_varE rfl) ev_nil)))) rfl ff))) de_d l1))) (ev_asP ev_C) de_d de_d e2))))
end
end Nol.K44

set_option Elab.async false
set_option linter.all false
set_option maxRecDepth 100000
set_option maxHeartbeats 1000000
/-! k44, plain: shows_fourfold on three. -/
namespace Nol.K44
open Nol PySem PySem.Spec PyProof.Rows
section
variable {a b c d : List Int}
theorem ev_slice {f : Ev D} {lo hi : Ev (Option Int)} {env e1 e2 e3 : Fm} {x : D} {i j : Option Int} {r : FV} (h : f env = some (.ok x e1)) (hl : lo e1 = some (.ok i e2)) (hh : hi e2 = some (.ok j e3)) (hs : sliceD i j x = some r) : evSlice f lo hi env = some (.ok r e3) := by
  unfold evSlice
  rw [h]
  simp only [bindR_ok]
  rw [hl]
  simp only [bindR_ok]
  rw [hh]
  simp only [bindR_ok, hs]
  rfl
theorem ev_part {f : Ev D} {env e : Fm} {i : Int} (h : f env = some (.ok (.int i) e)) : evPart f env = some (.ok (some i) e) := by unfold evPart; rw [h]; rfl
theorem sub_ii (i j : Int) : subD (.int i) (.int j) = some (.d (.int (i - j))) := rfl
theorem shows_three (F : Four a b c d) {s : Str} {x y : D} {t : Bool} (kx : Kn x = true) (ky : Kn y = true) (ht : neD (.str s) (.str "fails") = some (.d (.bl t)))
    (r : Bool) (hr : t = false → btw x 0 ((a.length : Int) - 1) = true → btw y 0 ((a.length : Int) - 1) = true → r_is_more [tupI a, tupI b, tupI c, tupI d, .tup [x, y]] = some (.ok (.d (.bl r)))) :
    r_shows_fourfold [tupI a, tupI b, tupI c, tupI d, .tup [.str s, x, y]] = some (.ok (.d (.bl (!t && (btw x 0 ((a.length : Int) - 1) && btw y 0 ((a.length : Int) - 1)) && r)))) := by
  obtain ⟨V, hV⟩ : ∃ V : D, V = .tup [.str s, x, y] := ⟨_, rfl⟩
  have s0 : subsD (.tup [.str s, x, y]) (.int 0) = some (.d (.str s)) := rfl
  have e1 : eqD (.int 3) (.int 1) = some (.d (.bl false)) := by rw [eq_ii]; rfl
  have ln : lenD (.tup [.str s, x, y]) = some (.d (.int 3)) := rfl
  unfold r_shows_fourfold b_shows_fourfold
  refine runP_rt (e := sF a b c d (.tup [.str s, x, y]) .un) (shows_pre F ?_)
  refine st_seq (st_iff (shows_test F (.inr rfl) s0 rfl) st_nil) (st_seq (st_iff (ev_B (ev_settle (ev_ap2 (ev_asP (ev_settle (ev_ap1 (ev_varPv rfl) de_d ln))) (ev_asP ev_C) de_d de_d e1))) st_nil) ?_)
  have q : (evB fun env => settle ((ap2 neD (fun env => asP ((fun env => settle ((ap2 subsD (varP 4) (fun env => asP ((evC (.int 0)) env))) env)) env)) (fun env => asP ((evC (.str "fails")) env))) env)) (sF a b c d (.tup [.str s, x, y]) .un) = some (.ok t (sF a b c d (.tup [.str s, x, y]) .un)) :=
    ev_B (ev_settle (ev_ap2 (ev_asP (ev_settle (ev_ap2 (ev_varPv rfl) (ev_asP ev_C) de_d de_d s0))) (ev_asP ev_C) de_d de_d ht))
  have sl : sliceD (some 1) none (.tup [.str s, x, y]) = some (.d (.tup [x, y])) := rfl
  have hs : (fun env => settle ((evSlice (varE 4) (evPart (evC (.int 1))) (fun env => some (.ok none env))) env)) (sF a b c d (.tup [.str s, x, y]) .un) = some (.ok (.tup [x, y]) (sF a b c d (.tup [.str s, x, y]) .un)) := by
    exact ev_settle (ev_slice (ev_varE rfl) (ev_part ev_C) rfl sl)
  cases t with
  | true => exact svSeq_rt (st_ift (ev_or1 q) (st_ret (ev_asF ev_C)))
  | false =>
    have el : ∀ z : D, Kn z = true → e_shows_fourfold_1 (sF a b c d (.tup [.str s, x, y]) (.v z)) = some (.ok (.bl (btw z 0 ((a.length : Int) - 1))) (sF a b c d (.tup [.str s, x, y]) (.v z))) := fun z kz =>
      ev_settle (ev_callP (ev_cons (ev_varE rfl) (ev_cons ev_C (ev_cons (ev_settle (ev_ap2 (ev_asP (ev_settle (ev_ap1 (ev_varPv rfl) de_d (len_tupI a)))) (ev_asP ev_C) de_d de_d (sub_ii _ _))) ev_nil))) rfl (is_between_eq z 0 _ kz))
    have cm := loopC_map (i := 5) (elt := e_shows_fourfold_1) (env := sF a b c d (.tup [.str s, x, y]) .un) (h := fun z => .bl (btw z 0 ((a.length : Int) - 1))) (fun _ => rfl) [x, y] [] (fun z hz => by
      simp only [List.mem_cons, List.not_mem_nil, or_false] at hz
      rcases hz with rfl | rfl
      · exact el _ kx
      · exact el _ ky) (by simp)
    have cp := ev_comp (it := evSeq true (fun env => settle ((evSlice (varE 4) (evPart (evC (.int 1))) (fun env => some (.ok none env))) env))) (vs := [5]) (ev_seqT hs) cm
    have al := all_map (fun z => btw z 0 ((a.length : Int) - 1)) [x, y]
    have ae : ([x, y].all fun z => btw z 0 ((a.length : Int) - 1)) = (btw x 0 ((a.length : Int) - 1) && btw y 0 ((a.length : Int) - 1)) := by simp
    rw [ae] at al
    rw [List.nil_append] at cp
    have te : (evTest (fun env => asP ((fun env => settle ((ap1 allD (fun env => asP ((fun env => settle ((evComp (evSeq true (fun env => settle ((evSlice (varE 4) (evPart (evC (.int 1))) (fun env => some (.ok none env))) env))) (putN 5) (fun env => some (.ok true env)) e_shows_fourfold_1 [5]) env)) env))) env)) env))) (sF a b c d (.tup [.str s, x, y]) .un) =
        some (.ok (btw x 0 ((a.length : Int) - 1) && btw y 0 ((a.length : Int) - 1)) (sF a b c d (.tup [.str s, x, y]) .un)) :=
      ev_Test (ev_asP (ev_settle (ev_ap1 (ev_asP (ev_settleF cp)) de_d al))) de_d rfl
    cases h : (btw x 0 ((a.length : Int) - 1) && btw y 0 ((a.length : Int) - 1)) with
    | false =>
      rw [h] at te
      exact svSeq_rt (st_ift (ev_or0 q (ev_notT te)) (st_ret (ev_asF ev_C)))
    | true =>
      rw [h] at te
      rw [Bool.and_eq_true] at h
      have hr := hr rfl h.1 h.2
      exact st_seq (st_iff (ev_or0 q (ev_notF te)) st_nil) (st_ret (ev_callP (ev_cons (ev_varE rfl) (ev_cons (ev_varE rfl) (ev_cons (ev_varE rfl) (ev_cons (ev_varE rfl) (ev_cons hs ev_nil))))) rfl hr))
end
end Nol.K44

set_option Elab.async false
set_option linter.all false
set_option maxRecDepth 100000
set_option maxHeartbeats 1000000
/-! k44, plain: shows_fourfold on the told values. -/
namespace Nol.K44
open Nol PySem PySem.Spec PyProof.Rows
theorem its_kn : (its.all fun d => Kn d && match d with
  | .str s => shp 50 (.str s)
  | _ => true) = true := by decide +kernel
theorem it_kn {x : D} (h : x ∈ its) : Kn x = true := by
  have := List.all_eq_true.mp its_kn x h
  rw [Bool.and_eq_true] at this
  exact this.1
theorem it_str {s : Str} (h : (.str s : D) ∈ its) : shp 50 (.str s) = true := by
  have := List.all_eq_true.mp its_kn _ h
  rw [Bool.and_eq_true] at this
  exact this.2
theorem isi_str (x : D) (h : Kn x = true) : (∃ s, x = .str s) ∨ isiD "str" x = some (.d (.bl false)) := by
  cases x <;> first | exact .inl ⟨_, rfl⟩ | exact .inr rfl | cases h
theorem eqB_ss (s t : Str) : eqB (.str s) (.str t) = decide (s = t) := by
  show (s == t) = decide (s = t)
  by_cases h : s = t
  · rw [decide_eq_true h, h]; simp
  · rw [decide_eq_false h]; simp [h]
theorem shp_h : shp 50 (.str "holds") = true := by decide +kernel
theorem shp_f : shp 50 (.str "fails") = true := by decide +kernel
theorem eq_ss {s t : Str} (h : shp 50 (.str s) = true) (h' : shp 50 (.str t) = true) : eqD (.str s) (.str t) = some (.d (.bl (decide (s = t)))) := by
  unfold eqD
  rw [h, h', eqB_ss]
  rfl
theorem ne_ss {s t : Str} (h : shp 50 (.str s) = true) (h' : shp 50 (.str t) = true) : neD (.str s) (.str t) = some (.d (.bl (!decide (s = t)))) := by
  unfold neD
  rw [h, h', eqB_ss]
  rfl
section
variable {a b c d : List Int}
theorem mem_bad {i j : Nat} : (i, j) ∈ badL a b c d ↔ i < a.length ∧ j < a.length ∧ badAt a b c d i j = true := by
  unfold badL rowL
  rw [List.mem_flatMap]
  constructor
  · rintro ⟨k, hk, h⟩
    obtain ⟨l, hl, e⟩ := List.mem_map.mp h
    cases e
    obtain ⟨h1, h2⟩ := List.mem_filter.mp hl
    exact ⟨List.mem_range.mp hk, List.mem_range.mp h1, h2⟩
  · rintro ⟨h1, h2, h3⟩
    exact ⟨i, List.mem_range.mpr h1, List.mem_map.mpr ⟨j, List.mem_filter.mpr ⟨List.mem_range.mpr h2, h3⟩, rfl⟩⟩
def moreB (a b c d : List Int) (x y : D) : Bool := match x, y with
  | .int k, .int l => badAt a b c d k.toNat l.toNat
  | _, _ => false
theorem btw_int {x : D} {n : Nat} (h : btw x 0 ((n : Int) - 1) = true) : ∃ k : Nat, x = .int (k : Int) ∧ k < n := by
  cases x <;> first | cases h; done | skip
  rename_i i
  have h : (decide (0 ≤ i) && decide (i ≤ (n : Int) - 1)) = true := h
  simp only [Bool.and_eq_true, decide_eq_true_eq] at h
  obtain ⟨k, rfl⟩ := Int.eq_ofNat_of_zero_le h.1
  exact ⟨k, rfl, by omega⟩
theorem int_btw {k n : Nat} (h : k < n) : btw (.int (k : Int)) 0 ((n : Int) - 1) = true := by
  show (decide (0 ≤ (k : Int)) && decide ((k : Int) ≤ (n : Int) - 1)) = true
  simp only [Bool.and_eq_true, decide_eq_true_eq]
  omega
def Due (a b c d : List Int) (v : D) : Prop := (v = holdD ∧ badL a b c d = []) ∨ ∃ p ∈ badL a b c d, v = failD p
theorem shows_all (F : Four a b c d) {v : D} (V : VK0 v) : ∃ r : Bool, r_shows_fourfold [tupI a, tupI b, tupI c, tupI d, v] = some (.ok (.d (.bl r))) ∧ (r = true ↔ Due a b c d v) := by
  have no : ∀ {v : D}, v ≠ holdD → (∀ p, v ≠ failD p) → (false = true ↔ Due a b c d v) := fun {v} h1 h2 => by
    constructor
    · intro h
      cases h
    · rintro (⟨h, _⟩ | ⟨p, _, h⟩)
      · exact (h1 h).elim
      · exact (h2 p h).elim
  cases V with
  | non => exact ⟨false, shows_nt F rfl, no (fun h => nomatch h) (fun p h => nomatch h)⟩
  | lst ds => exact ⟨false, shows_nt F rfl, no (fun h => nomatch h) (fun p h => nomatch h)⟩
  | @tup ds hd =>
    match ds, hd with
    | [], _ => exact ⟨false, shows_len F (by decide), no (fun h => by cases h) (fun p h => by cases h)⟩
    | [x], hd =>
      have hx := hd x (by simp)
      rcases isi_str x (it_kn hx) with ⟨s, rfl⟩ | h
      · refine ⟨_, shows_one F (eq_ss (it_str hx) shp_h), ?_⟩
        rw [Bool.and_eq_true, decide_eq_true_eq, List.isEmpty_iff]
        constructor
        · rintro ⟨rfl, h⟩
          exact .inl ⟨rfl, h⟩
        · rintro (⟨h, q⟩ | ⟨p, _, h⟩)
          · cases h; exact ⟨rfl, q⟩
          · cases h
      · refine ⟨false, shows_ns F (.inl rfl) rfl h, no (fun q => ?_) (fun p q => by cases q)⟩
        cases q
        cases h
    | [x, y], hd => exact ⟨false, shows_len F (by simp), no (fun h => by cases h) (fun p h => by cases h)⟩
    | [x, y, z], hd =>
      have hx := hd x (by simp)
      have hy := it_kn (hd y (by simp))
      have hz := it_kn (hd z (by simp))
      rcases isi_str x (it_kn hx) with ⟨s, rfl⟩ | h
      · refine ⟨_, shows_three F hy hz (ne_ss (it_str hx) shp_f) (moreB a b c d y z) (fun _ h1 h2 => ?_), ?_⟩
        · obtain ⟨k, rfl, hk⟩ := btw_int h1
          obtain ⟨l, rfl, hl⟩ := btw_int h2
          exact is_more_eq F hk hl
        · simp only [Bool.and_eq_true, Bool.not_not, decide_eq_true_eq]
          constructor
          · rintro ⟨⟨rfl, h1, h2⟩, h3⟩
            obtain ⟨k, rfl, hk⟩ := btw_int h1
            obtain ⟨l, rfl, hl⟩ := btw_int h2
            exact .inr ⟨(k, l), mem_bad.mpr ⟨hk, hl, h3⟩, rfl⟩
          · rintro (⟨h, q⟩ | ⟨⟨k, l⟩, hp, h⟩)
            · cases h
            · cases h
              obtain ⟨hk, hl, hb⟩ := mem_bad.mp hp
              exact ⟨⟨rfl, int_btw hk, int_btw hl⟩, hb⟩
      · refine ⟨false, shows_ns F (.inr rfl) rfl h, no (fun q => by cases q) (fun p q => ?_)⟩
        cases q
        cases h
    | x :: y :: z :: w :: r, hd => exact ⟨false, shows_len F (by simp), no (fun h => by cases h) (fun p h => by cases h)⟩
end
end Nol.K44

set_option Elab.async false
set_option linter.all false
set_option maxRecDepth 100000
set_option maxHeartbeats 1000000
/-! k44, plain: what bending a told value's item gives. -/
namespace Nol.K44
open Nol PySem PySem.Spec PyProof.Rows
theorem it_int {k : Nat} (h : k < 18) : (.int ((k : Int) - 1) : D) ∈ its := by
  unfold its
  simp only [List.mem_append]
  exact .inl (.inl (.inl (.inl (.inl (List.mem_map.mpr ⟨k, List.mem_range.mpr h, rfl⟩)))))
theorem it_nat {k : Nat} (h : k < 17) : (.int (k : Int) : D) ∈ its := by
  have := it_int (k := k + 1) (by omega)
  have e : ((k + 1 : Nat) : Int) - 1 = (k : Int) := by omega
  rwa [e] at this
theorem it_lit {x : D} (h : x ∈ ([.bl true, .bl false, .non, .dct [] []] : List D)) : x ∈ its := by
  unfold its
  simp only [List.mem_append]
  exact .inl (.inl (.inl (.inl (.inr h))))
theorem it_word {x : Str} (h : x ∈ (["holds", "fails", "a", "b", "c1", "club", "member", ""] : List Str)) : (.str x : D) ∈ its := by
  unfold its
  simp only [List.mem_append]
  exact .inl (.inl (.inl (.inr (List.mem_map.mpr ⟨x, h, rfl⟩))))
theorem it_num {k : Nat} (h : k < 16) : (.str (Str.ofString (toString k)) : D) ∈ its := by
  unfold its
  simp only [List.mem_append]
  exact .inl (.inl (.inr (List.mem_map.mpr ⟨k, List.mem_range.mpr h, rfl⟩)))
theorem it_box {k : Nat} (h : k < 16) : (.lst [.int (k : Int)] : D) ∈ its := by
  unfold its
  simp only [List.mem_append]
  exact .inl (.inr (List.mem_map.mpr ⟨k, List.mem_range.mpr h, rfl⟩))
theorem it_rest {x : D} (h : x ∈ ([.lst [.str "holds"], .lst [.str "fails"], .tup [.str "holds"], .tup [.str "fails"], .tup [.lst [.str "holds"]], .tup [.lst [.str "fails"]]] : List D)) : x ∈ its := by
  unfold its
  simp only [List.mem_append]
  exact .inr h
end Nol.K44

set_option Elab.async false
set_option linter.all false
set_option maxRecDepth 100000
set_option maxHeartbeats 1000000
/-! k44, plain: an item bent. -/
namespace Nol.K44
open Nol PySem PySem.Spec PyProof.Rows
abbrev bF (p : List D) (v : D) (s2 s3 : Sl) : Fm := [.par p, .v v, s2, s3]
theorem isi_it {v : D} (h : isiD "tuple" v = some (.d (.bl false))) (p : List D) : (evTest (fun env => asP ((fun env => settle ((apE (isiD "tuple") (varE 1)) env)) env))) (bF p v .un .un) = some (.ok false (bF p v .un .un)) :=
  ev_Test (ev_asP (ev_settle (ev_apE (ev_varE rfl) h))) de_d rfl
theorem str_i {k : Nat} (h : k < 16) : strD (.int (k : Int)) = some (.d (.str (Str.ofString (toString k)))) := by
  have c : decide ((k : Int).natAbs.log2 < 1920) = true := decide_eq_true (Nat.lt_of_lt_of_le (log_lt (k := 5) (by omega) (by decide)) (by decide))
  show (if decide ((k : Int).natAbs.log2 < 1920) = true then some (FV.d (.str (toString (k : Int)))) else none) = _
  rw [if_pos c]
  rfl
theorem bent_int {n m : Nat} {p : List D} (h : Pot n p) (hn : n ≤ 1000000) {k : Nat} (hk : k < 16) : ∃ r q, r__law_bent (m + 1) p [.int (k : Int)] = some (.ok (.d r), q) ∧ r ∈ its ∧ Pot (n + 1) q := by
  obtain ⟨r, q, e, hr, hq⟩ := of_ok h hn (ds := [.int ((k : Int) + 1), .int ((k : Int) - 1), .bl (decide ((k : Int) = 1)), .str (Str.ofString (toString k)), .non, .int 0, .lst [.int (k : Int)]]) (by simp) (by simp)
  refine ⟨r, q, ?_, ?_, hq⟩
  · have t := isi_it (v := .int (k : Int)) rfl p
    have st := str_i hk
    have eq := eq_ii (k : Int) 1
    show runQ n__law_bent (b__law_bent (r__law_bent m)) p [.int (k : Int)] = _
    unfold b__law_bent
    refine runQ_rt (e := bF q (.int (k : Int)) .un .un) ?_ rfl
    refine st_seq (st_iff (ev_and0 t) st_nil) (st_seq (st_iff t st_nil) (svSeq_rt (st_ift (ev_Test (ev_asP (ev_settle (ev_apE (ev_varE rfl) (rfl : isiD "int" (.int (k : Int)) = some (.d (.bl true)))))) de_d rfl) ?_)))
    exact Eq.trans (st_ret (ev_callQ rfl (ev_cons (ev_settleF (ev_lst (ev_cons (ev_settle (ev_ap1 (ev_asP (ev_settle (ev_ap2E (ev_varE rfl) ev_C (add_ii _ _)))) de_d (int_i _)))
      (ev_cons (ev_settle (ev_ap1 (ev_asP (ev_settle (ev_ap2 (ev_varPv rfl) (ev_asP ev_C) de_d de_d (sub_ii _ _)))) de_d (int_i _)))
      (ev_cons (ev_settle (ev_ap2 (ev_varPv rfl) (ev_asP ev_C) de_d de_d eq)) (ev_cons (ev_settle (ev_ap1 (ev_varPv rfl) de_d st)) (ev_cons ev_C (ev_cons ev_C
      (ev_cons (ev_settleF (ev_lst (ev_cons (ev_varE rfl) ev_nil) rfl)) ev_nil))))))) rfl)) ev_nil) rfl rfl e)) rfl
  · simp only [List.mem_cons, List.not_mem_nil, or_false] at hr
    rcases hr with rfl | rfl | rfl | rfl | rfl | rfl | rfl
    · exact it_nat (k := k + 1) (by omega)
    · exact it_int (by omega)
    · cases decide ((k : Int) = 1) <;> exact it_lit (by simp)
    · exact it_num hk
    · exact it_lit (by simp)
    · exact it_nat (k := 0) (by decide)
    · exact it_box hk
end Nol.K44

set_option Elab.async false
set_option linter.all false
set_option maxRecDepth 100000
set_option maxHeartbeats 1000000
/-! k44, plain: a word bent. -/
namespace Nol.K44
open Nol PySem PySem.Spec PyProof.Rows
theorem add_ll (x y : List D) (h : x.length + y.length ≤ 1000) : addD (.lst x) (.lst y) = some (.fr (x ++ y)) := by
  have c : okSum x.length y.length = true := by
    unfold okSum
    exact decide_eq_true (by omega)
  show (if okSum x.length y.length = true then some (FV.fr (x ++ y)) else none) = _
  rw [if_pos c]
theorem bent_word {n m : Nat} {p : List D} (h : Pot n p) (hn : n ≤ 1000000) {s : Str} (hs : s = "holds" ∨ s = "fails") : ∃ r q, r__law_bent (m + 1) p [.str s] = some (.ok (.d r), q) ∧ r ∈ its ∧ Pot (n + 1) q := by
  obtain ⟨r, q, e, hr, hq⟩ := of_ok h hn (ds := [.non, .int 0, .str "a", .str "b", .str "c1", .str "club", .str "a", .str "b", .str "member", .str "a", .str "b", .str "club", .str ""] ++ [.lst [.str s], .dct [] [], .tup [.str s], .tup [.lst [.str s]]]) (by simp) (by simp)
  refine ⟨r, q, ?_, ?_, hq⟩
  · have t := isi_it (v := .str s) rfl p
    have al := add_ll [.non, .int 0, .str "a", .str "b", .str "c1", .str "club", .str "a", .str "b", .str "member", .str "a", .str "b", .str "club", .str ""] [.lst [.str s], .dct [] [], .tup [.str s], .tup [.lst [.str s]]] (by simp)
    show runQ n__law_bent (b__law_bent (r__law_bent m)) p [.str s] = _
    unfold b__law_bent
    refine runQ_rt (e := bF q (.str s) .un (.v (.lst [.non, .int 0, .str "a", .str "b", .str "c1", .str "club", .str "a", .str "b", .str "member", .str "a", .str "b", .str "club", .str ""]))) ?_ rfl
    refine st_seq (st_iff (ev_and0 t) st_nil) (st_seq (st_iff t st_nil) (st_seq (st_iff (ev_Test (ev_asP (ev_settle (ev_apE (ev_varE rfl) (rfl : isiD "int" (.str s) = some (.d (.bl false)))))) de_d rfl) st_nil) ?_))
    refine st_seq (e := bF p (.str s) .un (.own [.non, .int 0, .str "a", .str "b", .str "c1", .str "club", .str "a", .str "b", .str "member", .str "a", .str "b", .str "club", .str ""])) ?_ ?_
    · exact Eq.trans (st_asg (ev_lst (ev_cons ev_C (ev_cons ev_C (ev_cons ev_C (ev_cons ev_C (ev_cons ev_C (ev_cons ev_C (ev_cons ev_C (ev_cons ev_C (ev_cons ev_C (ev_cons ev_C (ev_cons ev_C (ev_cons ev_C (ev_cons ev_C ev_nil))))))))))))) rfl)) rfl
    · exact Eq.trans (st_ret (ev_callQ rfl (ev_cons (ev_settleF (ev_ap2E (ev_varEo rfl) (ev_settleF (ev_lst (ev_cons (ev_settleF (ev_lst (ev_cons (ev_varE rfl) ev_nil) rfl)) (ev_cons rfl
        (ev_cons (ev_tup (ev_cons (ev_varE rfl) ev_nil) rfl) (ev_cons (ev_tup (ev_cons (ev_settleF (ev_lst (ev_cons (ev_varE rfl) ev_nil) rfl)) ev_nil) rfl) ev_nil)))) rfl)) al)) ev_nil) rfl rfl e)) rfl
  · simp only [List.mem_cons, List.not_mem_nil, or_false, List.mem_append] at hr
    rcases hr with (rfl | rfl | rfl | rfl | rfl | rfl | rfl | rfl | rfl | rfl | rfl | rfl | rfl) | rfl | rfl | rfl | rfl
    · exact it_lit (by simp)
    · exact it_nat (k := 0) (by decide)
    · exact it_word (by simp)
    · exact it_word (by simp)
    · exact it_word (by simp)
    · exact it_word (by simp)
    · exact it_word (by simp)
    · exact it_word (by simp)
    · exact it_word (by simp)
    · exact it_word (by simp)
    · exact it_word (by simp)
    · exact it_word (by simp)
    · exact it_word (by simp)
    · rcases hs with rfl | rfl <;> exact it_rest (by simp)
    · exact it_lit (by simp)
    · rcases hs with rfl | rfl <;> exact it_rest (by simp)
    · rcases hs with rfl | rfl <;> exact it_rest (by simp)
end Nol.K44

set_option Elab.async false
set_option linter.all false
set_option maxRecDepth 100000
set_option maxHeartbeats 1000000
/-! k44, plain: repr is told of the values. -/
namespace Nol.K44
open Nol PySem PySem.Spec PyProof.Rows
def RO (v : D) : Prop := reprD v = some (.d (.str (shown v)))
theorem its_ro : (its.all fun d => (shp 49 d || shpT 49 d) && shw d && decide (rsz d ≤ 1000)) = true := by decide +kernel
theorem it_ro {x : D} (h : x ∈ its) : (shp 49 x = true ∨ shpT 49 x = true) ∧ shw x = true ∧ rsz x ≤ 1000 := by
  have := List.all_eq_true.mp its_ro x h
  simp only [Bool.and_eq_true, Bool.or_eq_true, decide_eq_true_eq] at this
  exact ⟨this.1.1, this.1.2, this.2⟩
theorem shws_its : ∀ {ds : List D}, Its ds → shws ds = true ∧ rszs ds ≤ 1002 * ds.length
  | [], _ => ⟨rfl, Nat.le_refl _⟩
  | d :: ds, h => by
    obtain ⟨h1, h2⟩ := shws_its (ds := ds) fun x hx => h x (List.mem_cons_of_mem _ hx)
    obtain ⟨-, h3, h4⟩ := it_ro (h d List.mem_cons_self)
    constructor
    · show (shw d && shws ds) = true
      rw [h3, h1]; rfl
    · show rsz d + 2 + rszs ds ≤ 1002 * (ds.length + 1)
      omega
theorem ro_of {v : D} (h : (shp 50 v || shpT 50 v) = true) (h2 : shw v = true) (h3 : rsz v ≤ 16000000) : RO v := by
  have c : ((shp 50 v || shpT 50 v) && shw v && decide (rsz v ≤ 16000000)) = true := by
    rw [h, h2, decide_eq_true h3]; rfl
  unfold RO reprD
  rw [if_pos c]
theorem ro_tup {ds : List D} (hi : Its ds) (hl : ds.length ≤ 16) (h : ds.all (shp 49) = true ∨ ds.all (shpT 49) = true) : RO (.tup ds) := by
  obtain ⟨h1, h2⟩ := shws_its hi
  refine ro_of ?_ h1 ?_
  · rw [Bool.or_eq_true]
    rcases h with h | h
    · exact .inl h
    · exact .inr h
  · show rszs ds + 2 ≤ 16000000
    omega
theorem ro_lst {ds : List D} (hi : Its ds) (hl : ds.length ≤ 16) (h : ds.all (shp 49) = true) : RO (.lst ds) := by
  obtain ⟨h1, h2⟩ := shws_its hi
  refine ro_of ?_ h1 ?_
  · rw [Bool.or_eq_true]
    exact .inl h
  · show rszs ds + 2 ≤ 16000000
    omega
theorem ro_non : RO .non := ro_of rfl rfl (by decide)
end Nol.K44

set_option Elab.async false
set_option linter.all false
set_option maxRecDepth 100000
set_option maxHeartbeats 1000000
/-! k44, plain: a told value bent. -/
namespace Nol.K44
open Nol PySem PySem.Spec PyProof.Rows
/-- an item of what is told -/
def TI (d : D) : Prop := (∃ k : Nat, k < 16 ∧ d = .int (k : Int)) ∨ d = .str "holds" ∨ d = .str "fails"
def Told (ds : List D) : Prop := (∃ d, ds = [d] ∧ TI d) ∨ ∃ x y z, ds = [x, y, z] ∧ TI x ∧ TI y ∧ TI z
theorem TI.its {d : D} (h : TI d) : d ∈ its := by
  rcases h with ⟨k, hk, rfl⟩ | rfl | rfl
  · exact it_nat (by omega)
  · exact it_word (by simp)
  · exact it_word (by simp)
theorem shpT_h : shpT 49 (.str "holds") = true := by decide +kernel
theorem shpT_f : shpT 49 (.str "fails") = true := by decide +kernel
theorem TI.shp {d : D} (h : TI d) : shp 49 d = true ∧ shpT 49 d = true := by
  rcases h with ⟨k, hk, rfl⟩ | rfl | rfl
  · exact ⟨rfl, rfl⟩
  · exact ⟨by decide +kernel, shpT_h⟩
  · exact ⟨by decide +kernel, shpT_f⟩
theorem bent_item {n m : Nat} {p : List D} (h : Pot n p) (hn : n ≤ 1000000) {d : D} (hd : TI d) : ∃ r q, r__law_bent (m + 1) p [d] = some (.ok (.d r), q) ∧ r ∈ its ∧ Pot (n + 1) q := by
  rcases hd with ⟨k, hk, rfl⟩ | rfl | rfl
  · exact bent_int h hn hk
  · exact bent_word h hn (.inl rfl)
  · exact bent_word h hn (.inr rfl)
theorem Told.all {ds : List D} (h : Told ds) : ∀ d ∈ ds, TI d := by
  rcases h with ⟨d, rfl, hd⟩ | ⟨x, y, z, rfl, hx, hy, hz⟩
  · intro w hw
    simp only [List.mem_cons, List.not_mem_nil, or_false] at hw
    rw [hw]; exact hd
  · intro w hw
    simp only [List.mem_cons, List.not_mem_nil, or_false] at hw
    rcases hw with rfl | rfl | rfl
    · exact hx
    · exact hy
    · exact hz
theorem Told.len {ds : List D} (h : Told ds) : 0 < ds.length ∧ ds.length ≤ 3 := by
  rcases h with ⟨d, rfl, hd⟩ | ⟨x, y, z, rfl, hx, hy, hz⟩
  · constructor <;> simp
  · constructor <;> simp
theorem Told.cut {ds : List D} (h : Told ds) {t : Nat} (ht : t < ds.length) : sliceD none (some (t : Int)) (.tup ds) = some (.d (.tup (ds.take t))) ∧ sliceD (some ((t : Int) + 1)) none (.tup ds) = some (.d (.tup (ds.drop (t + 1)))) := by
  rcases h with ⟨d, rfl, hd⟩ | ⟨x, y, z, rfl, hx, hy, hz⟩
  · have : t = 0 := by have : t < 1 := ht; omega
    subst this
    exact ⟨rfl, rfl⟩
  · have : t = 0 ∨ t = 1 ∨ t = 2 := by have : t < 3 := ht; omega
    rcases this with rfl | rfl | rfl
    · exact ⟨rfl, rfl⟩
    · exact ⟨rfl, rfl⟩
    · exact ⟨rfl, rfl⟩
theorem Told.ne {ds : List D} (h : Told ds) : neD (.tup ds) (.tup []) = some (.d (.bl true)) := by
  have s : shp 50 (.tup ds) = true := List.all_eq_true.mpr fun d hd => (h.all d hd).shp.1
  have s0 : shp 50 (.tup []) = true := rfl
  have e : eqB (.tup ds) (.tup []) = false := by
    rcases h with ⟨d, rfl, hd⟩ | ⟨x, y, z, rfl, hx, hy, hz⟩
    · rfl
    · rfl
  unfold neD
  rw [s, s0, e]
  rfl
theorem sub_tup (ds : List D) (i : Nat) (h : i < ds.length) : subsD (.tup ds) (.int (i : Int)) = some (.d ds[i]) := sub_lst ds i h
theorem add_tt (x y : List D) (h : x.length + y.length ≤ 1000) : addD (.tup x) (.tup y) = some (.d (.tup (x ++ y))) := by
  have c : okSum x.length y.length = true := by
    unfold okSum
    exact decide_eq_true (by omega)
  show (if okSum x.length y.length = true then some (FV.d (.tup (x ++ y))) else none) = _
  rw [if_pos c]
end Nol.K44

set_option Elab.async false
set_option linter.all false
set_option maxRecDepth 100000
set_option maxHeartbeats 1000000
/-! k44, plain: what repr writes is a text that may be compared. -/
namespace Nol.K44
open Nol PySem PySem.Spec PyProof.Rows
def okC (c : Nat) : Bool := decide (c < 0x110000)
def SO (v : D) : Prop := (txt v).all okC = true
theorem so_str {s : Str} (h : s.cps.toList.all okC = true) : PyData.strOk s = true := by
  unfold PyData.strOk
  rw [← Array.all_toList]
  exact h
theorem SO.shp {v : D} (h : SO v) : shp 50 (.str (shown v)) = true := so_str h
theorem its_so : (its.all fun d => (txt d).all okC) = true := by decide +kernel
theorem it_so {x : D} (h : x ∈ its) : SO x := List.all_eq_true.mp its_so x h
theorem ints_so : ((List.range 1003).all fun (i : Nat) => (txt (.int ((i : Int) - 1))).all okC) = true := by decide +kernel
theorem int_so {i : Int} (h : -1 ≤ i) (h2 : i ≤ 1000) : SO (.int i) := by
  obtain ⟨n, hn⟩ := Int.eq_ofNat_of_zero_le (show 0 ≤ i + 1 by omega)
  have := List.all_eq_true.mp ints_so n (List.mem_range.mpr (by omega))
  have e : (n : Int) - 1 = i := by omega
  rw [e] at this
  exact this
theorem tx_so : ∀ {ds : List D}, (∀ d ∈ ds, SO d) → (tx ds).all okC = true
  | [], _ => rfl
  | [x], h => h x List.mem_cons_self
  | x :: y :: r, h => by
    have h1 : (txt x).all okC = true := h x List.mem_cons_self
    have h2 := tx_so (ds := y :: r) fun d hd => h d (List.mem_cons_of_mem _ hd)
    show (txt x ++ 44 :: 32 :: tx (y :: r)).all okC = true
    rw [List.all_append, h1, List.all_cons, List.all_cons, h2]
    rfl
theorem so_tup {ds : List D} (h : ∀ d ∈ ds, SO d) : SO (.tup ds) := by
  unfold SO
  match ds, h with
  | [], _ => rw [txt_tup0]; rfl
  | [x], h =>
    have h1 : (txt x).all okC = true := h x List.mem_cons_self
    rw [txt_tup1, List.all_cons, List.all_append, h1]
    rfl
  | x :: y :: r, h =>
    rw [txt_tup2, List.all_cons, List.all_append, tx_so h]
    rfl
theorem from_so : ∀ (ts : List Str) (k : Nat) (acc : Str), acc.cps.toList.all okC = true → (∀ t ∈ ts, t.cps.toList.all okC = true) → (textFrom k acc ts).cps.toList.all okC = true
  | [], _, acc, h, _ => h
  | t :: ts, k, acc, h, ht => by
    refine from_so ts (k + 1) (acc ++ (if k > 0 then ", " else "" : String) ++ t) ?_ fun x hx => ht x (List.mem_cons_of_mem _ hx)
    show (((acc.cps ++ ((if k > 0 then ", " else "" : String) : Str).cps) ++ t.cps).toList).all okC = true
    rw [Array.toList_append, Array.toList_append, List.all_append, List.all_append, h, ht t List.mem_cons_self]
    split <;> rfl
theorem shownAll_mem : ∀ {ds : List D} {t : Str}, t ∈ PyData.shownAll (pys ds) → ∃ d ∈ ds, t = shown d
  | [], _, h => nomatch h
  | d :: ds, t, h => by
    have h : t ∈ shown d :: PyData.shownAll (pys ds) := h
    rcases List.mem_cons.mp h with rfl | h
    · exact ⟨d, List.mem_cons_self, rfl⟩
    · obtain ⟨e, he, q⟩ := shownAll_mem h
      exact ⟨e, List.mem_cons_of_mem _ he, q⟩
theorem so_lst {ds : List D} (h : ∀ d ∈ ds, SO d) : SO (.lst ds) := by
  have e := from_so (PyData.shownAll (pys ds)) 0 "[" rfl fun t ht => by
    obtain ⟨d, hd, rfl⟩ := shownAll_mem ht
    exact h d hd
  show (((textFrom 0 "[" (PyData.shownAll (pys ds))).cps ++ ("]" : Str).cps).toList).all okC = true
  rw [Array.toList_append, List.all_append, e]
  rfl
theorem so_non : SO .non := by unfold SO; rw [txt_non]; rfl
end Nol.K44

set_option Elab.async false
set_option linter.all false
set_option maxRecDepth 100000
set_option maxHeartbeats 1000000
/-! k44, plain: a told value bent, whole. -/
namespace Nol.K44
open Nol PySem PySem.Spec PyProof.Rows
structure VOk (v : D) : Prop where
  k : VK0 v
  r : RO v
  s : SO v
theorem Told.its {ds : List D} (h : Told ds) : Its ds := fun d hd => (h.all d hd).its
theorem vok_tup {ds : List D} (h : ∀ d ∈ ds, TI d) (hl : ds.length ≤ 16) : VOk (.tup ds) :=
  ⟨.tup fun d hd => (h d hd).its, ro_tup (fun d hd => (h d hd).its) hl (.inl (List.all_eq_true.mpr fun d hd => (h d hd).shp.1)), so_tup fun d hd => it_so (h d hd).its⟩
theorem vok_lst {ds : List D} (h : ∀ d ∈ ds, TI d) (hl : ds.length ≤ 16) : VOk (.lst ds) :=
  ⟨.lst ds, ro_lst (fun d hd => (h d hd).its) hl (List.all_eq_true.mpr fun d hd => (h d hd).shp.1), so_lst fun d hd => it_so (h d hd).its⟩
theorem vok_non : VOk .non := ⟨.non, ro_non, so_non⟩
/-- one item put in place of another -/
theorem vok_put {xs ys : List D} {r : D} (hx : ∀ d ∈ xs, TI d) (hy : ∀ d ∈ ys, TI d) (hr : r ∈ its) (hl : (xs ++ [r] ++ ys).length ≤ 16) : VOk (.tup (xs ++ [r] ++ ys)) := by
  have hi : Its (xs ++ [r] ++ ys) := by
    intro d hd
    simp only [List.mem_append, List.mem_cons, List.not_mem_nil, or_false] at hd
    rcases hd with (hd | rfl) | hd
    · exact (hx d hd).its
    · exact hr
    · exact (hy d hd).its
  refine ⟨.tup hi, ro_tup hi hl ?_, so_tup fun d hd => it_so (hi d hd)⟩
  have hall : ∀ f : D → Bool, (∀ d, TI d → f d = true) → f r = true → (xs ++ [r] ++ ys).all f = true := by
    intro f h1 h2
    refine List.all_eq_true.mpr fun d hd => ?_
    simp only [List.mem_append, List.mem_cons, List.not_mem_nil, or_false] at hd
    rcases hd with (hd | rfl) | hd
    · exact h1 d (hx d hd)
    · exact h2
    · exact h1 d (hy d hd)
  rcases (it_ro hr).1 with h | h
  · exact .inl (hall _ (fun d hd => hd.shp.1) h)
  · exact .inr (hall _ (fun d hd => hd.shp.2) h)
end Nol.K44

set_option Elab.async false
set_option linter.all false
set_option maxRecDepth 100000
set_option maxHeartbeats 1000000
/-! k44, plain: a told value bent, the run. -/
namespace Nol.K44
open Nol PySem PySem.Spec PyProof.Rows
theorem Told.last {ds : List D} (T : Told ds) : ∃ l, TI l ∧ sliceD (some (-1)) none (.tup ds) = some (.d (.tup [l])) := by
  rcases T with ⟨d, rfl, hd⟩ | ⟨x, y, z, rfl, hx, hy, hz⟩
  · exact ⟨d, hd, rfl⟩
  · exact ⟨z, hz, rfl⟩
theorem Told.tl {ds : List D} (T : Told ds) : sliceD (some 1) none (.tup ds) = some (.d (.tup (ds.drop 1))) := by
  rcases T with ⟨d, rfl, hd⟩ | ⟨x, y, z, rfl, hx, hy, hz⟩
  · rfl
  · rfl
theorem neg_i (i : Int) : negD (.int i) = some (.d (.int (-i))) := rfl
theorem rev_t (ds : List D) : revD (.tup ds) = some (.d (.tup ds.reverse)) := rfl
theorem list_t (ds : List D) : listD (.tup ds) = some (.fr ds) := rfl
theorem bent_told {n : Nat} {p : List D} (h : Pot n p) (hn : n + 5 ≤ 1000000) {ds : List D} (T : Told ds) : ∃ v q, r__law_bent 2 p [.tup ds] = some (.ok (.d v), q) ∧ VOk v ∧ Pot (n + 5) q := by
  obtain ⟨l0, l3⟩ := T.len
  obtain ⟨t1, q1, e1, ht1, P1⟩ := take_ok h (by omega) (u := 5) (by decide) (by decide)
  have ne := T.ne
  have tt : (evTest (fun env => asP ((fun env => settle ((apE (isiD "tuple") (varE 1)) env)) env))) (bF p (.tup ds) .un .un) = some (.ok true (bF p (.tup ds) .un .un)) :=
    ev_Test (ev_asP (ev_settle (ev_apE (ev_varE rfl) (isi_tt ds)))) de_d rfl
  have te : (evB fun env => settle ((ap2 neD (varP 1) (fun env => asP ((evTup evNil) env))) env)) (bF p (.tup ds) .un .un) = some (.ok true (bF p (.tup ds) .un .un)) :=
    ev_B (ev_settle (ev_ap2 (ev_varPv rfl) (ev_asP (ev_tup ev_nil rfl)) de_d de_d ne))
  have gt := gt_ii (t1 : Int) 0
  have tg : (evB fun env => settle ((ap2 gtD (fun env => asP ((fun env => settle ((evCallQ 0 r__law_take 2 (evCons (evC (.int 5)) evNil)) env)) env)) (fun env => asP ((evC (.int 0)) env))) env)) (bF p (.tup ds) .un .un) = some (.ok (decide (0 < (t1 : Int))) (bF q1 (.tup ds) .un .un)) :=
    ev_B (ev_settle (ev_ap2 (ev_asP (ev_settle (ev_callQ rfl (ev_cons ev_C ev_nil) rfl rfl e1))) (ev_asP ev_C) de_d de_d gt))
  have ln : lenD (.tup ds) = some (.d (.int (ds.length : Int))) := rfl
  by_cases c : 0 < (t1 : Int)
  · rw [decide_eq_true c] at tg
    obtain ⟨t, q2, e2, ht, P2⟩ := take_ok P1 (by omega) (u := (ds.length : Int)) (by omega) (by omega)
    have ht : t < ds.length := by omega
    obtain ⟨r, q3, e3, hr, P3⟩ := bent_item (m := 0) P2 (by omega) (T.all _ (List.getElem_mem ht))
    obtain ⟨c1, c2⟩ := T.cut ht
    have lt1 : (ds.take t).length + 1 ≤ 1000 := by rw [List.length_take]; omega
    have a1 := add_tt (ds.take t) [r] (by simpa using lt1)
    have a2 := add_tt (ds.take t ++ [r]) (ds.drop (t + 1)) (by simp only [List.length_append, List.length_take, List.length_drop, List.length_cons, List.length_nil]; omega)
    refine ⟨.tup (ds.take t ++ [r] ++ ds.drop (t + 1)), q3, ?_, vok_put (fun d hd => T.all d (List.mem_of_mem_take hd)) (fun d hd => T.all d (List.mem_of_mem_drop hd)) hr (by simp only [List.length_append, List.length_take, List.length_drop, List.length_cons, List.length_nil]; omega), P3.mono (by omega)⟩
    show runQ n__law_bent (b__law_bent (r__law_bent 1)) p [.tup ds] = _
    unfold b__law_bent
    refine runQ_rt (e := bF q3 (.tup ds) (.v (.int (t : Int))) .un) ?_ rfl
    refine svSeq_rt (st_ift (ev_and1 tt (ev_and1 te tg)) ?_)
    refine st_seq (e := bF q2 (.tup ds) (.v (.int (t : Int))) .un) ?_ ?_
    · exact Eq.trans (st_asg (ev_callQ rfl (ev_cons (ev_settle (ev_ap1 (ev_varPv rfl) de_d ln)) ev_nil) rfl rfl e2)) rfl
    · exact Eq.trans (st_ret (ev_ap2E (ev_settle (ev_ap2E (ev_settle (ev_slice (ev_varE rfl) rfl (ev_part (ev_varE rfl)) c1)) (ev_tup (ev_cons (ev_settle (ev_callQ rfl (ev_cons (ev_settle (ev_ap2 (ev_varPv rfl) (ev_varPv rfl) de_d de_d (sub_tup ds t ht))) ev_nil) rfl rfl e3)) ev_nil) rfl) a1))
        (ev_settle (ev_slice (ev_varE rfl) (ev_part (ev_settle (ev_ap2E (ev_varE rfl) ev_C (add_ii _ _)))) rfl c2)) a2)) rfl
  · rw [decide_eq_false c] at tg
    obtain ⟨l, hl, el⟩ := T.last
    have etl := T.tl
    have a1 := add_tt ds [l] (by simp; omega)
    have a2 := add_tt ds [.str "a"] (by simp; omega)
    obtain ⟨v, q2, e2, hv, P2⟩ := of_ok P1 (by omega) (ds := [.lst ds, .tup (ds.drop 1), .tup (ds ++ [l]), .tup ds.reverse, .tup [], .non, .tup (ds ++ [.str "a"])]) (by simp) (by simp)
    refine ⟨v, q2, ?_, ?_, P2.mono (by omega)⟩
    · show runQ n__law_bent (b__law_bent (r__law_bent 1)) p [.tup ds] = _
      unfold b__law_bent
      refine runQ_rt (e := bF q2 (.tup ds) .un .un) ?_ rfl
      have tt1 : (evTest (fun env => asP ((fun env => settle ((apE (isiD "tuple") (varE 1)) env)) env))) (bF q1 (.tup ds) .un .un) = some (.ok true (bF q1 (.tup ds) .un .un)) :=
        ev_Test (ev_asP (ev_settle (ev_apE (ev_varE rfl) (isi_tt ds)))) de_d rfl
      refine st_seq (st_iff (ev_and1 tt (ev_and1 te tg)) st_nil) (svSeq_rt (st_ift tt1 ?_))
      exact Eq.trans (st_ret (ev_callQ rfl (ev_cons (ev_settleF (ev_lst (ev_cons (ev_settleF (ev_ap1 (ev_varPv rfl) de_d (list_t ds)))
        (ev_cons (ev_settle (ev_slice (ev_varE rfl) (ev_part ev_C) rfl etl))
        (ev_cons (ev_settle (ev_ap2E (ev_varE rfl) (ev_settle (ev_slice (ev_varE rfl) (ev_part (ev_settle (ev_ap1 (ev_asP ev_C) de_d (neg_i 1)))) rfl el)) a1))
        (ev_cons (ev_settle (ev_ap1 (ev_varPv rfl) de_d (rev_t ds))) (ev_cons (ev_tup ev_nil rfl) (ev_cons ev_C
        (ev_cons (ev_settle (ev_ap2E (ev_varE rfl) (ev_tup (ev_cons ev_C ev_nil) rfl) a2)) ev_nil))))))) rfl)) ev_nil) rfl rfl e2)) rfl
    · simp only [List.mem_cons, List.not_mem_nil, or_false] at hv
      rcases hv with rfl | rfl | rfl | rfl | rfl | rfl | rfl
      · exact vok_lst T.all (by omega)
      · exact vok_tup (fun d hd => T.all d (List.mem_of_mem_drop hd)) (by rw [List.length_drop]; omega)
      · exact vok_tup (fun d hd => by
          rcases List.mem_append.mp hd with h | h
          · exact T.all d h
          · rw [List.mem_singleton.mp h]; exact hl) (by simp; omega)
      · exact vok_tup (fun d hd => T.all d (List.mem_reverse.mp hd)) (by rw [List.length_reverse]; omega)
      · exact vok_tup (fun d hd => nomatch hd) (by decide)
      · exact vok_non
      · have := vok_put (ys := []) (r := .str "a") T.all (fun d hd => nomatch hd) (it_word (by simp)) (by simp; omega)
        rwa [List.append_nil] at this
end Nol.K44

set_option Elab.async false
set_option linter.all false
set_option maxRecDepth 100000
set_option maxHeartbeats 1000000
/-! k44, plain: steps of law_right. -/
namespace Nol.K44
open Nol PySem PySem.Spec PyProof.Rows
/-- a comprehension whose items change nothing but its own names -/
theorem loopC_pure {g : D → Fm → Option Fm} {elt : Ev D} {vs : List Nat} {env : Fm} {h : D → D} : ∀ (ds acc : List D), (∀ d ∈ ds, ∃ e1, g d env = some e1 ∧ elt e1 = some (.ok (h d) e1) ∧ wipeF e1 vs = env) → acc.length + ds.length ≤ 1000 →
    loopC g (fun env => some (.ok true env)) elt vs ds env acc = some (.ok (acc ++ ds.map h) env)
  | [], acc, _, _ => by rw [loopC, List.map_nil, List.append_nil]
  | d :: ds, acc, he, hl => by
    obtain ⟨e1, h1, h2, h3⟩ := he d List.mem_cons_self
    have hl' : acc.length + (ds.length + 1) ≤ 1000 := by simpa using hl
    have ck : ckLen (acc.length + 1) = true := decide_eq_true (by omega)
    have ih := loopC_pure (g := g) (elt := elt) (vs := vs) (env := env) (h := h) ds (acc ++ [h d]) (fun x hx => he x (List.mem_cons_of_mem _ hx)) (by simp; omega)
    rw [loopC]
    simp only [h1, bindR_ok, if_true, h2, ck, h3]
    rw [ih, List.map_cons, List.append_assoc, List.singleton_append]
/-- items that are taken or not -/
theorem loopC_flt {i : Nat} {tst : Ev Bool} {elt : Ev D} {env : Fm} {f : D → Bool} : ∀ (ds acc : List D), (∀ d ∈ ds, tst (env.set i (.v d)) = some (.ok (f d) (env.set i (.v d))) ∧ elt (env.set i (.v d)) = some (.ok d (env.set i (.v d))) ∧ wipeF (env.set i (.v d)) [i] = env) → acc.length + ds.length ≤ 1000 →
    loopC (putN i) tst elt [i] ds env acc = some (.ok (acc ++ ds.filter f) env)
  | [], acc, _, _ => by rw [loopC, List.filter_nil, List.append_nil]
  | d :: ds, acc, he, hl => by
    obtain ⟨h1, h2, h3⟩ := he d List.mem_cons_self
    have hl' : acc.length + (ds.length + 1) ≤ 1000 := by simpa using hl
    have ck : ckLen (acc.length + 1) = true := decide_eq_true (by omega)
    rw [loopC, List.filter_cons]
    cases hf : f d with
    | true =>
      rw [hf] at h1
      have ih := loopC_flt (i := i) (tst := tst) (elt := elt) (env := env) (f := f) ds (acc ++ [d]) (fun x hx => he x (List.mem_cons_of_mem _ hx)) (by simp; omega)
      simp only [putN, h1, bindR_ok, if_true, h2, ck, h3]
      rw [ih, List.append_assoc, List.singleton_append]
    | false =>
      rw [hf] at h1
      have ih := loopC_flt (i := i) (tst := tst) (elt := elt) (env := env) (f := f) ds acc (fun x hx => he x (List.mem_cons_of_mem _ hx)) (by omega)
      simp only [putN, h1, bindR_ok, Bool.false_eq_true, if_false, h3]
      exact ih
theorem loopC_inv2 {N : Nat} {Inv : Nat → Fm → Prop} {P : D → Prop} {i : Nat} {elt : Ev D} {ds : List D} (step : ∀ k, k < N → ∀ d ∈ ds, ∀ e, Inv k e → ∃ y e1, elt (e.set i (.v d)) = some (.ok y e1) ∧ P y ∧ Inv (k + 1) (wipeF e1 [i])) :
    ∀ (acc : List D) (k : Nat) (env : Fm), k + ds.length ≤ N → Inv k env → acc.length + ds.length ≤ 1000 → ∃ ys e, loopC (putN i) (fun env => some (.ok true env)) elt [i] ds env acc = some (.ok (acc ++ ys) e) ∧ ys.length = ds.length ∧ (∀ y ∈ ys, P y) ∧ Inv (k + ds.length) e := by
  induction ds with
  | nil =>
    intro acc k env _ h _
    refine ⟨[], env, ?_, rfl, by simp, h⟩
    rw [loopC, List.append_nil]
  | cons d ds ih =>
    intro acc k env hN h hl
    have hN' : k + (ds.length + 1) ≤ N := by simpa using hN
    have hl' : acc.length + (ds.length + 1) ≤ 1000 := by simpa using hl
    have ck : ckLen (acc.length + 1) = true := decide_eq_true (by omega)
    obtain ⟨y, e1, h1, py, i1⟩ := step k (by omega) d List.mem_cons_self env h
    obtain ⟨ys, e, h2, l2, p2, i2⟩ := ih (fun k hk x hx => step k hk x (List.mem_cons_of_mem _ hx)) (acc ++ [y]) (k + 1) _ (by omega) i1 (by simp; omega)
    refine ⟨y :: ys, e, ?_, by simp [l2], ?_, ?_⟩
    · rw [loopC]
      simp only [putN, bindR_ok, if_true, h1, ck]
      rw [h2]
      simp
    · intro x hx
      rcases List.mem_cons.mp hx with rfl | hx
      · exact py
      · exact p2 x hx
    · have : k + 1 + ds.length = k + (d :: ds).length := by simp; omega
      rw [← this]
      exact i2
theorem loopS_inv2 {N : Nat} {Inv : Nat → Fm → Prop} {g : D → Fm → Option Fm} {body : Sv} {ds : List D} (step : ∀ k, k < N → ∀ d ∈ ds, ∀ e, Inv k e → ∃ e1 e2, g d e = some e1 ∧ body e1 = some (.nx e2) ∧ Inv (k + 1) e2) :
    ∀ (k : Nat) (env : Fm), k + ds.length ≤ N → Inv k env → ∃ e, loopS g body ds env = some (.nx e) ∧ Inv (k + ds.length) e := by
  induction ds with
  | nil =>
    intro k env _ h
    exact ⟨env, by rw [loopS], h⟩
  | cons d ds ih =>
    intro k env hN h
    have hN' : k + (ds.length + 1) ≤ N := by simpa using hN
    obtain ⟨e1, e2, h1, h2, i2⟩ := step k (by omega) d List.mem_cons_self env h
    obtain ⟨e, h3, i3⟩ := ih (fun k hk x hx => step k hk x (List.mem_cons_of_mem _ hx)) (k + 1) e2 (by omega) i2
    refine ⟨e, by rw [loopS_nx h1 h2, h3], ?_⟩
    have : k + 1 + ds.length = k + (d :: ds).length := by simp; omega
    rw [← this]
    exact i3
theorem ev_wr {i : Nat} {f : Ev D} {g : List D → D → Option (List D × D)} {env e1 : Fm} {d r : D} {ds0 ds es : List D} (h0 : env[i]? = some (.own ds0)) (hf : f env = some (.ok d e1)) (h1 : e1[i]? = some (.own ds)) (hg : g ds d = some (es, r)) :
    evWr i f g env = some (.ok (.d r) (e1.set i (.own es))) := by
  have w0 : wrAt env i = some (.own ds0, ds0) := by unfold wrAt; rw [h0]; rfl
  have w1 : wrAt e1 i = some (.own ds, ds) := by unfold wrAt; rw [h1]; rfl
  unfold evWr
  rw [w0]
  simp only []
  rw [hf]
  simp only [bindR_ok]
  unfold evWr1
  rw [w1]
  simp only [hg, wrSet]
theorem st_put {g : D → Fm → Option Fm} {f : Ev D} {env e e2 : Fm} {d : D} (h : f env = some (.ok d e)) (hg : g d e = some e2) : svPut g f env = some (.nx e2) := by
  unfold svPut
  rw [h]
  simp only [bindE_ok, hg]
theorem ev_Or1 {f g : Ev D} {env e : Fm} (h : f env = some (.ok (.bl true) e)) : evOr f g env = some (.ok (.bl true) e) := by unfold evOr; rw [h]; rfl
theorem ev_Or0 {f g : Ev D} {env e : Fm} {s : Option (Rs D)} (h : f env = some (.ok (.bl false) e)) (hs : g e = s) : evOr f g env = s := by unfold evOr; rw [h]; exact hs
theorem sum_tupI (xs : List Int) : sumD (tupI xs) = some (.d (.int xs.sum)) := by
  have e : intsOf (xs.map D.int) = some xs := by
    induction xs with
    | nil => rfl
    | cons x xs ih =>
      rw [List.map_cons]
      unfold intsOf
      rw [ih]
      rfl
  show (intsOf (xs.map D.int)).map (fun ns => FV.d (.int ns.sum)) = _
  rw [e]
  rfl
theorem sum_bnd : ∀ {xs : List Int}, (∀ x ∈ xs, 0 ≤ x ∧ x ≤ 999) → 0 ≤ xs.sum ∧ xs.sum ≤ 999 * xs.length
  | [], _ => ⟨Int.le_refl _, Int.le_refl _⟩
  | x :: xs, h => by
    have h1 := h x List.mem_cons_self
    have h2 := sum_bnd (xs := xs) fun y hy => h y (List.mem_cons_of_mem _ hy)
    rw [List.sum_cons, List.length_cons]
    constructor <;> omega
theorem eq_nil {l : List D} (h : l.all (shp 49) = true) : eqD (.lst l) (.lst []) = some (.d (.bl l.isEmpty)) := by
  have s : shp 50 (.lst l) = true := h
  have s0 : shp 50 (.lst []) = true := rfl
  have e : eqB (.lst l) (.lst []) = l.isEmpty := by cases l <;> rfl
  unfold eqD
  rw [s, s0, e]
  rfl
theorem pair_shp (l : List (Nat × Nat)) : (l.map pairD).all (shp 49) = true := List.all_eq_true.mpr fun d hd => by
  obtain ⟨p, _, rfl⟩ := List.mem_map.mp hd
  rfl
theorem pair_in {l : List (Nat × Nat)} {p : Nat × Nat} (h : p ∈ l) : inD true (pairD p) (.lst (l.map pairD)) = some (.d (.bl false)) := by
  have s : shp 49 (pairD p) = true := rfl
  have e : isIn (pairD p) (l.map pairD) = true := List.any_eq_true.mpr ⟨pairD p, List.mem_map.mpr ⟨p, h, rfl⟩, by
    have e0 : eqB (pairD p) (pairD p) = (decide ((p.1 : Int) = (p.1 : Int)) && (decide ((p.2 : Int) = (p.2 : Int)) && true)) := rfl
    rw [e0, decide_eq_true rfl, decide_eq_true rfl]
    rfl⟩
  show (if (shp 49 (pairD p) && (l.map pairD).all (shp 49)) = true then some (FV.d (.bl (if true = true then !isIn (pairD p) (l.map pairD) else isIn (pairD p) (l.map pairD)))) else none) = _
  rw [s, pair_shp, e]
  rfl
abbrev fR (p : List D) (a b c d : List Int) (s5 s6 s7 s8 s9 s10 s11 s12 s13 s14 s15 s16 s17 : Sl) : Fm := [.par p, .v (tupI a), .v (tupI b), .v (tupI c), .v (tupI d), s5, s6, s7, s8, s9, s10, s11, s12, s13, s14, s15, s16, s17]
section
variable {a b c d : List Int}
theorem hold_ok : VOk holdD := vok_tup (fun d hd => by
  rw [List.mem_singleton.mp hd]; exact .inr (.inl rfl)) (by decide)
theorem told_told (F : Four a b c d) : ∃ ds, toldD (badL a b c d) = .tup ds ∧ Told ds := by
  have hs := F.small
  cases h : badL a b c d with
  | nil => exact ⟨_, rfl, .inl ⟨_, rfl, .inr (.inl rfl)⟩⟩
  | cons p r =>
    obtain ⟨h1, h2, -⟩ := mem_bad.mp (show (p.1, p.2) ∈ badL a b c d by rw [h]; exact List.mem_cons_self)
    exact ⟨_, rfl, .inr ⟨_, _, _, rfl, .inr (.inr rfl), .inl ⟨p.1, by omega, rfl⟩, .inl ⟨p.2, by omega, rfl⟩⟩⟩
theorem right_3 (F : Four a b c d) (p : List D) :
    svIf (evB fun env => settle ((ap2 eqD (varP 5) (fun env => asP ((fun env => settle ((evLst evNil) env)) env))) env)) (svIf (evOrB (evB fun env => settle ((ap2 neD (fun env => asP ((fun env => settle ((apE reprD (varE 6)) env)) env)) (fun env => asP ((fun env => settle ((apE reprD (evTup (evCons (evC (.str "holds")) evNil))) env)) env))) env)) (evB fun env => settle ((ap2 gtD (fun env => asP ((fun env => settle ((ap2E mulD (fun env => settle ((ap1 sumD (varP 1)) env)) (fun env => settle ((ap1 sumD (varP 2)) env))) env)) env)) (fun env => asP ((fun env => settle ((ap2E mulD (fun env => settle ((ap1 sumD (varP 3)) env)) (fun env => settle ((ap1 sumD (varP 4)) env))) env)) env))) env))) (svRet (fun env => asF ((evC (.bl false)) env))) svNil) (svIf (evOrB (evB fun env => settle ((ap2 neD (fun env => asP ((fun env => settle ((ap2 subsD (varP 6) (fun env => asP ((evC (.int 0)) env))) env)) env)) (fun env => asP ((evC (.str "fails")) env))) env)) (evB fun env => settle ((ap2 (inD true) (fun env => asP ((evTup (evCons (fun env => settle ((ap2 subsD (varP 6) (fun env => asP ((evC (.int 1)) env))) env)) (evCons (fun env => settle ((ap2 subsD (varP 6) (fun env => asP ((evC (.int 2)) env))) env)) evNil))) env)) (varP 5)) env))) (svRet (fun env => asF ((evC (.bl false)) env))) svNil)
      (fR p a b c d (.own ((badL a b c d).map pairD)) (.v (toldD (badL a b c d))) .un .un .un .un .un .un .un .un .un .un .un) =
    some (.nx (fR p a b c d (.own ((badL a b c d).map pairD)) (.v (toldD (badL a b c d))) .un .un .un .un .un .un .un .un .un .un .un)) := by
  have eq := eq_nil (pair_shp (badL a b c d))
  have t0 : ∀ e : Fm, (fun env => asP ((fun env => settle ((evLst evNil) env)) env)) e = some (.ok (.d (.lst [])) e) := fun e => ev_asP (ev_settleF (ev_lst ev_nil rfl))
  cases hb : badL a b c d with
  | nil =>
    rw [hb] at eq
    have r1 : RO holdD := hold_ok.r
    have n1 := ne_ss hold_ok.s.shp hold_ok.s.shp
    rw [decide_eq_true rfl] at n1
    have hs := F.small
    have l1 := F.lb
    have l2 := F.lc
    have l3 := F.ld
    have b1 := sum_bnd F.ra
    have b2 := sum_bnd F.rb
    have b3 := sum_bnd F.rc
    have b4 := sum_bnd F.rd
    have m1 := mul_ii (i := a.sum) (j := b.sum) (by omega) (by omega)
    have m2 := mul_ii (i := c.sum) (j := d.sum) (by omega) (by omega)
    have ff := four_fun F hb
    have g := gt_ii (a.sum * b.sum) (c.sum * d.sum)
    rw [decide_eq_false (by omega)] at g
    refine st_ift (ev_B (ev_settle (ev_ap2 (ev_varPo rfl) (t0 _) (de_own rfl) de_d eq))) (st_iff ?_ st_nil)
    refine ev_or0 (ev_B (ev_settle (ev_ap2 (ev_asP (ev_settle (ev_apE (ev_varE rfl) r1))) (ev_asP (ev_settle (ev_apE (ev_tup (ev_cons ev_C ev_nil) rfl) r1))) de_d de_d n1))) ?_
    exact ev_B (ev_settle (ev_ap2 (ev_asP (ev_settle (ev_ap2E (ev_settle (ev_ap1 (ev_varPv rfl) de_d (sum_tupI a))) (ev_settle (ev_ap1 (ev_varPv rfl) de_d (sum_tupI b))) m1))) (ev_asP (ev_settle (ev_ap2E (ev_settle (ev_ap1 (ev_varPv rfl) de_d (sum_tupI c))) (ev_settle (ev_ap1 (ev_varPv rfl) de_d (sum_tupI d))) m2))) de_d de_d g))
  | cons q r =>
    rw [hb] at eq
    have n1 := ne_ss shp_f shp_f
    rw [decide_eq_true rfl] at n1
    have i1 := pair_in (l := q :: r) (p := q) List.mem_cons_self
    refine st_iff (ev_B (ev_settle (ev_ap2 (ev_varPo rfl) (t0 _) (de_own rfl) de_d eq))) (st_iff ?_ st_nil)
    refine ev_or0 (ev_B (ev_settle (ev_ap2 (ev_asP (ev_settle (ev_ap2 (ev_varPv rfl) (ev_asP ev_C) de_d de_d (r := .d (.str "fails")) rfl))) (ev_asP ev_C) de_d de_d n1))) ?_
    exact ev_B (ev_settle (ev_ap2 (ev_asP (ev_tup (ev_cons (ev_settle (ev_ap2 (ev_varPv rfl) (ev_asP ev_C) de_d de_d (r := .d (.int (q.1 : Int))) rfl)) (ev_cons (ev_settle (ev_ap2 (ev_varPv rfl) (ev_asP ev_C) de_d de_d (r := .d (.int (q.2 : Int))) rfl)) ev_nil)) rfl)) (ev_varPo rfl) de_d (de_own rfl) i1))
end
end Nol.K44

set_option Elab.async false
set_option linter.all false
set_option maxRecDepth 100000
set_option maxHeartbeats 1000000
/-! k44, plain: a value tried in law_right. -/
namespace Nol.K44
open Nol PySem PySem.Spec PyProof.Rows
section
variable {a b c d : List Int}
def B5 (L : List D) (s : Sl) : Prop := s = .own L ∨ s = .v (.lst L)
theorem fail_ok (F : Four a b c d) {p : Nat × Nat} (h : p ∈ badL a b c d) : VOk (failD p) ∧ p.1 < 16 ∧ p.2 < 16 := by
  have hs := F.small
  obtain ⟨h1, h2, -⟩ := mem_bad.mp (show (p.1, p.2) ∈ badL a b c d from h)
  refine ⟨vok_tup (fun x hx => ?_) (by simp), by omega, by omega⟩
  simp only [List.mem_cons, List.not_mem_nil, or_false] at hx
  rcases hx with rfl | rfl | rfl
  · exact .inr (.inr rfl)
  · exact .inl ⟨p.1, by omega, rfl⟩
  · exact .inl ⟨p.2, by omega, rfl⟩
def shF (x : D) : D := match x with
  | .tup [y, z] => .str (shown (.tup [.str "fails", y, z]))
  | _ => .non
theorem bl_ro (r : Bool) : RO (.bl r) := by cases r <;> exact ro_of rfl rfl (by decide)
theorem bl_so (r : Bool) : SO (.bl r) := by cases r <;> (unfold SO; decide +kernel)
theorem isIn_shF (s : Str) : ∀ L : List (Nat × Nat), isIn (.str s) ((L.map pairD).map shF) = L.any fun p => decide (shown (failD p) = s)
  | [] => rfl
  | p :: L => by
    have ih := isIn_shF s L
    unfold isIn at ih ⊢
    rw [List.map_cons, List.map_cons, List.any_cons, List.any_cons, ih]
    have e : eqB (shF (pairD p)) (.str s) = decide (shown (failD p) = s) := eqB_ss _ _
    rw [e]
theorem right_c (F : Four a b c d) {q : List D} {s5 s6 s7 s8 s9 s10 s13 s14 s15 s16 s17 : Sl} (h5 : B5 ((badL a b c d).map pairD) s5) :
    (fun env => settle ((evComp (evSeq false (varE 5)) (putTup 2 (putCons (putN 11) (putCons (putN 12) putNil))) (fun env => some (.ok true env)) e__law_right_3 [11, 12]) env)) (fR q a b c d s5 s6 s7 s8 s9 s10 .un .un s13 s14 s15 s16 s17) =
      some (.ok (.lst (((badL a b c d).map pairD).map shF)) (fR q a b c d (.v (.lst ((badL a b c d).map pairD))) s6 s7 s8 s9 s10 .un .un s13 s14 s15 s16 s17)) := by
  have hl : (badL a b c d).length ≤ 256 := by
    have hs := F.small
    unfold badL
    rw [List.length_flatMap]
    have : ∀ (l : List Nat), (l.map fun i => (rowL a b c d i).length).sum ≤ 16 * l.length := fun l => by
      induction l with
      | nil => exact Nat.le_refl _
      | cons i l ih =>
        have := row_len (a := a) (b := b) (c := c) (d := d) i
        rw [List.map_cons, List.sum_cons, List.length_cons]
        omega
    have h1 := this (List.range a.length)
    rw [List.length_range] at h1
    omega
  have it : evSeq false (varE 5) (fR q a b c d s5 s6 s7 s8 s9 s10 .un .un s13 s14 s15 s16 s17) = some (.ok ((badL a b c d).map pairD) (fR q a b c d (.v (.lst ((badL a b c d).map pairD))) s6 s7 s8 s9 s10 .un .un s13 s14 s15 s16 s17)) := by
    rcases h5 with rfl | rfl
    · exact ev_seqL (ev_varEo rfl)
    · exact ev_seqL (ev_varE rfl)
  have lp := loopC_pure (g := putTup 2 (putCons (putN 11) (putCons (putN 12) putNil))) (elt := e__law_right_3) (vs := [11, 12]) (env := fR q a b c d (.v (.lst ((badL a b c d).map pairD))) s6 s7 s8 s9 s10 .un .un s13 s14 s15 s16 s17) (h := shF) ((badL a b c d).map pairD) []
    (fun x hx => by
      obtain ⟨p, hp, rfl⟩ := List.mem_map.mp hx
      have ro : reprD (failD p) = some (.d (.str (shown (failD p)))) := (fail_ok F hp).1.r
      refine ⟨fR q a b c d (.v (.lst ((badL a b c d).map pairD))) s6 s7 s8 s9 s10 (.v (.int (p.1 : Int))) (.v (.int (p.2 : Int))) s13 s14 s15 s16 s17, rfl, ?_, rfl⟩
      exact ev_settle (ev_apE (ev_tup (ev_cons ev_C (ev_cons (ev_varE rfl) (ev_cons (ev_varE rfl) ev_nil))) rfl) ro)) (by rw [List.length_map, List.length_nil]; omega)
  rw [List.nil_append] at lp
  have w : wipeF (fR q a b c d (.v (.lst ((badL a b c d).map pairD))) s6 s7 s8 s9 s10 .un .un s13 s14 s15 s16 s17) [11, 12] = fR q a b c d (.v (.lst ((badL a b c d).map pairD))) s6 s7 s8 s9 s10 .un .un s13 s14 s15 s16 s17 := rfl
  have m : mend (fR q a b c d (.v (.lst ((badL a b c d).map pairD))) s6 s7 s8 s9 s10 .un .un s13 s14 s15 s16 s17) (fR q a b c d (.v (.lst ((badL a b c d).map pairD))) s6 s7 s8 s9 s10 .un .un s13 s14 s15 s16 s17) [11, 12] = fR q a b c d (.v (.lst ((badL a b c d).map pairD))) s6 s7 s8 s9 s10 .un .un s13 s14 s15 s16 s17 := rfl
  have cp := ev_comp (vs := [11, 12]) it (by rw [w]; exact lp)
  rw [m] at cp
  exact ev_settleF cp
theorem shF_shp (F : Four a b c d) : (((badL a b c d).map pairD).map shF).all (shp 49) = true := List.all_eq_true.mpr fun x hx => by
  obtain ⟨y, hy, rfl⟩ := List.mem_map.mp hx
  obtain ⟨p, hp, rfl⟩ := List.mem_map.mp hy
  exact (fail_ok F hp).1.s.shp
theorem in_shF (F : Four a b c d) {v : D} (V : VOk v) : inD false (.str (shown v)) (.lst (((badL a b c d).map pairD).map shF)) = some (.d (.bl ((badL a b c d).any fun p => decide (shown (failD p) = shown v)))) := by
  have s : shp 49 (.str (shown v)) = true := V.s.shp
  show (if (shp 49 (.str (shown v)) && (((badL a b c d).map pairD).map shF).all (shp 49)) = true then some (FV.d (.bl (if false = true then !isIn (.str (shown v)) (((badL a b c d).map pairD).map shF) else isIn (.str (shown v)) (((badL a b c d).map pairD).map shF)))) else none) = _
  rw [s, shF_shp F, isIn_shF]
  rfl
theorem due_iff (F : Four a b c d) {v : D} (V : VOk v) : ((decide (shown v = shown holdD) && ((badL a b c d).map pairD).isEmpty) || ((badL a b c d).any fun p => decide (shown (failD p) = shown v))) = true ↔ Due a b c d v := by
  rw [Bool.or_eq_true, Bool.and_eq_true, decide_eq_true_eq, List.isEmpty_iff, List.map_eq_nil_iff, List.any_eq_true]
  constructor
  · rintro (⟨h1, h2⟩ | ⟨p, hp, h⟩)
    · exact .inl ⟨is_holds V.k (by unfold txt; rw [h1]), h2⟩
    · have h := of_decide_eq_true h
      obtain ⟨-, h1, h2⟩ := fail_ok F hp
      exact .inr ⟨p, hp, is_fails V.k h1 h2 (by unfold txt; rw [h])⟩
  · rintro (⟨rfl, h2⟩ | ⟨p, hp, rfl⟩)
    · exact .inl ⟨rfl, h2⟩
    · exact .inr ⟨p, hp, decide_eq_true rfl⟩
theorem right_4 (F : Four a b c d) {v : D} (V : VOk v) {q : List D} {s5 s6 s7 s8 s10 s13 s14 s15 s16 s17 : Sl} (h5 : B5 ((badL a b c d).map pairD) s5) :
    ∃ s5' s10', l__law_right_4 (fR q a b c d s5 s6 s7 s8 (.v v) s10 .un .un s13 s14 s15 s16 s17) = some (.nx (fR q a b c d s5' s6 s7 s8 (.v v) s10' .un .un s13 s14 s15 s16 s17)) ∧ B5 ((badL a b c d).map pairD) s5' := by
  have ro : reprD v = some (.d (.str (shown v))) := V.r
  have rh : reprD holdD = some (.d (.str (shown holdD))) := hold_ok.r
  have e1 := eq_ss V.s.shp hold_ok.s.shp
  have e2 := eq_nil (pair_shp (badL a b c d))
  have t0 : ∀ e : Fm, (fun env => asP ((fun env => settle ((evLst evNil) env)) env)) e = some (.ok (.d (.lst [])) e) := fun e => ev_asP (ev_settleF (ev_lst ev_nil rfl))
  obtain ⟨D1, hD1⟩ : ∃ D1, D1 = (decide (shown v = shown holdD) && ((badL a b c d).map pairD).isEmpty) := ⟨_, rfl⟩
  obtain ⟨D2, hD2⟩ : ∃ D2, D2 = ((badL a b c d).any fun p => decide (shown (failD p) = shown v)) := ⟨_, rfl⟩
  have du := due_iff F V
  rw [← hD1, ← hD2] at du
  have a1 : svAsg 10 (fun env => asF ((evAnd (fun env => settle ((ap2 eqD (fun env => asP ((fun env => settle ((apE reprD (varE 9)) env)) env)) (fun env => asP ((fun env => settle ((apE reprD (evTup (evCons (evC (.str "holds")) evNil))) env)) env))) env)) (fun env => settle ((ap2 eqD (varP 5) (fun env => asP ((fun env => settle ((evLst evNil) env)) env))) env))) env))
      (fR q a b c d s5 s6 s7 s8 (.v v) s10 .un .un s13 s14 s15 s16 s17) = some (.nx (fR q a b c d s5 s6 s7 s8 (.v v) (.v (.bl D1)) .un .un s13 s14 s15 s16 s17)) := by
    have l : (fun env => settle ((ap2 eqD (fun env => asP ((fun env => settle ((apE reprD (varE 9)) env)) env)) (fun env => asP ((fun env => settle ((apE reprD (evTup (evCons (evC (.str "holds")) evNil))) env)) env))) env)) (fR q a b c d s5 s6 s7 s8 (.v v) s10 .un .un s13 s14 s15 s16 s17) = some (.ok (.bl (decide (shown v = shown holdD))) (fR q a b c d s5 s6 s7 s8 (.v v) s10 .un .un s13 s14 s15 s16 s17)) :=
      ev_settle (ev_ap2 (ev_asP (ev_settle (ev_apE (ev_varE rfl) ro))) (ev_asP (ev_settle (ev_apE (ev_tup (ev_cons ev_C ev_nil) rfl) rh))) de_d de_d e1)
    by_cases h : shown v = shown holdD
    · rw [decide_eq_true h] at l hD1
      rw [Bool.true_and] at hD1
      rw [← hD1] at e2
      have l2 : (fun env => settle ((ap2 eqD (varP 5) (fun env => asP ((fun env => settle ((evLst evNil) env)) env))) env)) (fR q a b c d s5 s6 s7 s8 (.v v) s10 .un .un s13 s14 s15 s16 s17) = some (.ok (.bl D1) (fR q a b c d s5 s6 s7 s8 (.v v) s10 .un .un s13 s14 s15 s16 s17)) := by
        rcases h5 with rfl | rfl
        · exact ev_settle (ev_ap2 (ev_varPo rfl) (t0 _) (de_own rfl) de_d e2)
        · exact ev_settle (ev_ap2 (ev_varPv rfl) (t0 _) de_d de_d e2)
      exact Eq.trans (st_asg (ev_asF (ev_And1 l l2))) rfl
    · rw [decide_eq_false h] at l hD1
      rw [Bool.false_and] at hD1
      rw [hD1]
      exact Eq.trans (st_asg (ev_asF (ev_And0 l))) rfl
  have a2 : ∃ s5', svAsg 10 (fun env => asF ((evOr (varE 10) (fun env => settle ((ap2 (inD false) (fun env => asP ((fun env => settle ((apE reprD (varE 9)) env)) env)) (fun env => asP ((fun env => settle ((evComp (evSeq false (varE 5)) (putTup 2 (putCons (putN 11) (putCons (putN 12) putNil))) (fun env => some (.ok true env)) e__law_right_3 [11, 12]) env)) env))) env))) env))
      (fR q a b c d s5 s6 s7 s8 (.v v) (.v (.bl D1)) .un .un s13 s14 s15 s16 s17) = some (.nx (fR q a b c d s5' s6 s7 s8 (.v v) (.v (.bl (D1 || D2))) .un .un s13 s14 s15 s16 s17)) ∧ B5 ((badL a b c d).map pairD) s5' := by
    cases D1 with
    | true =>
      refine ⟨s5, ?_, h5⟩
      exact Eq.trans (st_asg (ev_asF (ev_Or1 (ev_varE rfl)))) rfl
    | false =>
      refine ⟨_, ?_, .inr rfl⟩
      have i1 := in_shF F V
      rw [← hD2] at i1
      have cc := right_c F (q := q) (s6 := s6) (s7 := s7) (s8 := s8) (s9 := .v v) (s10 := .v (.bl false)) (s13 := s13) (s14 := s14) (s15 := s15) (s16 := s16) (s17 := s17) h5
      rw [Bool.false_or]
      exact Eq.trans (st_asg (ev_asF (ev_Or0 (ev_varE rfl) (ev_settle (ev_ap2 (ev_asP (ev_settle (ev_apE (ev_varE rfl) ro))) (ev_asP cc) de_d de_d i1))))) rfl
  obtain ⟨s5', a2, h5'⟩ := a2
  obtain ⟨r, sh, hr⟩ := shows_all F V.k
  have rr : r = (D1 || D2) := Bool.eq_iff_iff.mpr (hr.trans du.symm)
  subst rr
  have rb : reprD (.bl (D1 || D2)) = some (.d (.str (shown (.bl (D1 || D2))))) := bl_ro _
  have nn := ne_ss (bl_so (D1 || D2)).shp (bl_so (D1 || D2)).shp
  rw [decide_eq_true rfl] at nn
  refine ⟨s5', .v (.bl (D1 || D2)), ?_, h5'⟩
  unfold l__law_right_4
  refine st_seq a1 (st_seq a2 (st_iff ?_ st_nil))
  exact ev_B (ev_settle (ev_ap2 (ev_asP (ev_settle (ev_apE (ev_settle (ev_callP (ev_cons (ev_varE rfl) (ev_cons (ev_varE rfl) (ev_cons (ev_varE rfl) (ev_cons (ev_varE rfl) (ev_cons (ev_varE rfl) ev_nil))))) rfl sh)) rb))) (ev_asP (ev_settle (ev_apE (ev_varE rfl) rb))) de_d de_d nn))
end
end Nol.K44

set_option Elab.async false
set_option linter.all false
set_option maxRecDepth 100000
set_option maxHeartbeats 1000000
/-! k44, plain: the values tried in law_right. -/
namespace Nol.K44
open Nol PySem PySem.Spec PyProof.Rows
section
variable {a b c d : List Int}
theorem Told.hd1 {ds : List D} (T : Told ds) : sliceD none (some 1) (.tup ds) = some (.d (.tup (ds.take 1))) := by
  rcases T with ⟨x, rfl, hd⟩ | ⟨x, y, z, rfl, hx, hy, hz⟩
  · rfl
  · rfl
theorem fails_ok {i j : Nat} (hi : i < 16) (hj : j < 16) : VOk (failD (i, j)) := by
  refine vok_tup (fun x hx => ?_) (by simp)
  simp only [List.mem_cons, List.not_mem_nil, or_false] at hx
  rcases hx with rfl | rfl | rfl
  · exact .inr (.inr rfl)
  · exact .inl ⟨i, hi, rfl⟩
  · exact .inl ⟨j, hj, rfl⟩
def vals9 (ds : List D) (n : Nat) : List D := [.tup ds, .tup ds.reverse, .lst ds, holdD, .tup [.str "fails", .int 0, .int 0], .tup [.str "fails", .int (n : Int), .int 0], .tup (ds.take 1), .non, .tup []]
theorem vals9_ok {ds : List D} (T : Told ds) {n : Nat} (hn : n ≤ 16) : ∀ v ∈ vals9 ds n, VOk v := by
  obtain ⟨l0, l3⟩ := T.len
  intro v hv
  unfold vals9 at hv
  simp only [List.mem_cons, List.not_mem_nil, or_false] at hv
  rcases hv with rfl | rfl | rfl | rfl | rfl | rfl | rfl | rfl | rfl
  · exact vok_tup T.all (by omega)
  · exact vok_tup (fun d hd => T.all d (List.mem_reverse.mp hd)) (by rw [List.length_reverse]; omega)
  · exact vok_lst T.all (by omega)
  · exact hold_ok
  · exact fails_ok (i := 0) (j := 0) (by decide) (by decide)
  · exact vok_put (xs := [.str "fails"]) (ys := [.int 0]) (r := .int (n : Int)) (fun x hx => by rw [List.mem_singleton.mp hx]; exact .inr (.inr rfl)) (fun x hx => by rw [List.mem_singleton.mp hx]; exact .inl ⟨0, by decide, rfl⟩) (it_nat (by omega)) (by simp)
  · exact vok_tup (fun d hd => T.all d (List.mem_of_mem_take hd)) (by rw [List.length_take]; omega)
  · exact vok_non
  · exact vok_tup (fun d hd => nomatch hd) (by decide)
theorem right_v (F : Four a b c d) (p : List D) {ds : List D} (T : Told ds) {s5 : Sl} :
    svAsg 7 (evLst (evCons (varE 6) (evCons (fun env => settle ((ap1 revD (varP 6)) env)) (evCons (fun env => settle ((ap1 listD (varP 6)) env)) (evCons (evTup (evCons (evC (.str "holds")) evNil)) (evCons (evTup (evCons (evC (.str "fails")) (evCons (evC (.int 0)) (evCons (evC (.int 0)) evNil)))) (evCons (evTup (evCons (evC (.str "fails")) (evCons (fun env => settle ((ap1 lenD (varP 1)) env)) (evCons (evC (.int 0)) evNil)))) (evCons (fun env => settle ((evSlice (varE 6) (fun env => some (.ok none env)) (evPart (evC (.int 1)))) env)) (evCons (evC .non) (evCons (evTup evNil) evNil))))))))))
      (fR p a b c d s5 (.v (.tup ds)) .un .un .un .un .un .un .un .un .un .un .un) = some (.nx (fR p a b c d s5 (.v (.tup ds)) (.own (vals9 ds a.length)) .un .un .un .un .un .un .un .un .un .un)) :=
  Eq.trans (st_asg (ev_lst (ev_cons (ev_varE rfl) (ev_cons (ev_settle (ev_ap1 (ev_varPv rfl) de_d (rev_t ds))) (ev_cons (ev_settleF (ev_ap1 (ev_varPv rfl) de_d (list_t ds))) (ev_cons (ev_tup (ev_cons ev_C ev_nil) rfl) (ev_cons (ev_tup (ev_cons ev_C (ev_cons ev_C (ev_cons ev_C ev_nil))) rfl)
    (ev_cons (ev_tup (ev_cons ev_C (ev_cons (ev_settle (ev_ap1 (ev_varPv rfl) de_d (len_tupI a))) (ev_cons ev_C ev_nil))) rfl) (ev_cons (ev_settle (ev_slice (ev_varE rfl) rfl (ev_part ev_C) T.hd1)) (ev_cons ev_C (ev_cons (ev_tup ev_nil rfl) ev_nil))))))))) rfl)) rfl
def I5 (n : Nat) (a b c d : List Int) (s5 s6 : Sl) (k : Nat) (e : Fm) : Prop := ∃ q vs s8, e = fR q a b c d s5 s6 (.own vs) s8 .un .un .un .un .un .un .un .un .un ∧ Pot (n + 2 * k) q ∧ (∀ v ∈ vs, VOk v) ∧ vs.length = 9 + k
theorem right_5 (F : Four a b c d) {n : Nat} (hn : n + 200 ≤ 1000000) {s5 s6 : Sl} {k : Nat} (hk : k < 9) {x : D} {e : Fm} (h : I5 n a b c d s5 s6 k e) : ∃ e1 e2, putN 8 x e = some e1 ∧ l__law_right_1 e1 = some (.nx e2) ∧ I5 n a b c d s5 s6 (k + 1) e2 := by
  obtain ⟨q, vs, s8, rfl, P, hv, hl⟩ := h
  have hs := F.small
  have h0 : 0 < a.length := by rcases F.n with h | h | h | h <;> omega
  obtain ⟨t1, q1, e1, ht1, P1⟩ := take_ok P (by omega) (u := (a.length : Int)) (by omega) (by omega)
  obtain ⟨t2, q2, e2, ht2, P2⟩ := take_ok P1 (by omega) (u := (a.length : Int)) (by omega) (by omega)
  have ck : ckLen (vs.length + 1) = true := decide_eq_true (by omega)
  have ap : appendG vs (failD (t1, t2)) = some (vs ++ [failD (t1, t2)], .non) := by
    unfold appendG
    rw [if_pos ck]
  refine ⟨fR q a b c d s5 s6 (.own vs) (.v x) .un .un .un .un .un .un .un .un .un, fR q2 a b c d s5 s6 (.own (vs ++ [failD (t1, t2)])) (.v x) .un .un .un .un .un .un .un .un .un, rfl, ?_, q2, _, _, rfl, P2.mono (by omega), ?_, by rw [List.length_append, hl]; rfl⟩
  · unfold l__law_right_1
    exact Eq.trans (st_drop (ev_wr (i := 7) rfl (ev_tup (ev_cons ev_C (ev_cons (ev_settle (ev_ap1 (ev_asP (ev_settle (ev_callQ rfl (ev_cons (ev_settle (ev_ap1 (ev_varPv rfl) de_d (len_tupI a))) ev_nil) rfl rfl e1))) de_d (int_i _)))
      (ev_cons (ev_settle (ev_ap1 (ev_asP (ev_settle (ev_callQ rfl (ev_cons (ev_settle (ev_ap1 (ev_varPv rfl) de_d (len_tupI a))) ev_nil) rfl rfl e2))) de_d (int_i _))) ev_nil))) rfl) rfl ap)) rfl
  · intro v hv'
    rcases List.mem_append.mp hv' with h | h
    · exact hv v h
    · rw [List.mem_singleton.mp h]
      exact fails_ok (by omega) (by omega)
def I6 (n : Nat) (a b c d : List Int) (s5 s6 s7 s8 : Sl) (k : Nat) (e : Fm) : Prop := ∃ q, e = fR q a b c d s5 s6 s7 s8 .un .un .un .un .un .un .un .un .un ∧ Pot (n + 5 * k) q
def I7 (q : List D) (a b c d : List Int) (s6 s7 s8 : Sl) (e : Fm) : Prop := ∃ s5 s9 s10, e = fR q a b c d s5 s6 s7 s8 s9 s10 .un .un .un .un .un .un .un ∧ B5 ((badL a b c d).map pairD) s5
theorem rngs_len (n : Nat) : (rngs 0 n).length = n := by rw [rngs0]; simp
/-- the values made, and tried -/
theorem right_s (F : Four a b c d) {n : Nat} {p : List D} (P : Pot n p) (hn : n + 200 ≤ 1000000) {ds : List D} (T : Told ds) :
    ∃ q s5 s7 s8 s9 s10, (∀ g : Sv, svSeq (svFor (evRng1 (evC (.int 8))) (putN 8) l__law_right_1) (svSeq
  (svFor (evSeq false (fun env => settle ((ap2E addD (varE 7) (fun env => settle ((evComp (evRng1 (evC (.int 6))) (putN 8) (fun env => some (.ok true env)) e__law_right_2 [8]) env))) env))) (putN 9) l__law_right_4) g)
      (fR p a b c d (.own ((badL a b c d).map pairD)) (.v (.tup ds)) (.own (vals9 ds a.length)) .un .un .un .un .un .un .un .un .un .un) = g (fR q a b c d s5 (.v (.tup ds)) s7 s8 s9 s10 .un .un .un .un .un .un .un)) ∧ Pot (n + 50) q := by
  have hs := F.small
  have rg8 : ∀ e : Fm, evRng1 (evC (.int 8)) e = some (.ok (rngs 0 8) e) := fun e => rng_of (n := 8) rfl (by decide)
  have rg6 : ∀ e : Fm, evRng1 (evC (.int 6)) e = some (.ok (rngs 0 6) e) := fun e => rng_of (n := 6) rfl (by decide)
  obtain ⟨e1, l1, i1⟩ := loopS_inv2 (N := 8) (Inv := I5 n a b c d (.own ((badL a b c d).map pairD)) (.v (.tup ds))) (g := putN 8) (body := l__law_right_1) (ds := rngs 0 8)
    (fun k hk x _ e h => right_5 F hn (by omega) h) 0 _ (by rw [rngs_len]; decide) ⟨p, vals9 ds a.length, .un, rfl, P, vals9_ok T hs, rfl⟩
  rw [rngs_len] at i1
  obtain ⟨q1, vs, s8, rfl, P1, hv, hl⟩ := i1
  have f1 : svFor (evRng1 (evC (.int 8))) (putN 8) l__law_right_1 (fR p a b c d (.own ((badL a b c d).map pairD)) (.v (.tup ds)) (.own (vals9 ds a.length)) .un .un .un .un .un .un .un .un .un .un) = some (.nx (fR q1 a b c d (.own ((badL a b c d).map pairD)) (.v (.tup ds)) (.own vs) s8 .un .un .un .un .un .un .un .un .un)) := by
    rw [svFor_eq (rg8 _), l1]
  obtain ⟨ys, e2, l2, ly, hy, q2, he2, P2⟩ := loopC_inv2 (N := 6) (Inv := I6 (n + 2 * 8) a b c d (.own ((badL a b c d).map pairD)) (.v (.tup ds)) (.v (.lst vs)) .un) (P := VOk) (i := 8) (elt := e__law_right_2) (ds := rngs 0 6)
    (fun k hk x hx e h => by
      obtain ⟨q, rfl, P⟩ := h
      obtain ⟨v, q', e, hv, P'⟩ := bent_told P (by omega) T
      refine ⟨v, fR q' a b c d (.own ((badL a b c d).map pairD)) (.v (.tup ds)) (.v (.lst vs)) (.v x) .un .un .un .un .un .un .un .un .un, ?_, hv, q', rfl, P'.mono (by omega)⟩
      exact Eq.trans (ev_settle (ev_callQ rfl (ev_cons (ev_varE rfl) ev_nil) rfl rfl e)) rfl) [] 0 _ (by rw [rngs_len]; decide) ⟨q1, rfl, P1⟩ (by rw [rngs_len]; decide)
  rw [List.nil_append] at l2
  rw [rngs_len] at ly P2
  subst he2
  have w8 : wipeF (fR q1 a b c d (.own ((badL a b c d).map pairD)) (.v (.tup ds)) (.v (.lst vs)) s8 .un .un .un .un .un .un .un .un .un) [8] = fR q1 a b c d (.own ((badL a b c d).map pairD)) (.v (.tup ds)) (.v (.lst vs)) .un .un .un .un .un .un .un .un .un .un := rfl
  have m8 : mend (fR q1 a b c d (.own ((badL a b c d).map pairD)) (.v (.tup ds)) (.v (.lst vs)) s8 .un .un .un .un .un .un .un .un .un) (fR q2 a b c d (.own ((badL a b c d).map pairD)) (.v (.tup ds)) (.v (.lst vs)) .un .un .un .un .un .un .un .un .un .un) [8] = fR q2 a b c d (.own ((badL a b c d).map pairD)) (.v (.tup ds)) (.v (.lst vs)) s8 .un .un .un .un .un .un .un .un .un := rfl
  have cp := ev_comp (vs := [8]) (rg6 (fR q1 a b c d (.own ((badL a b c d).map pairD)) (.v (.tup ds)) (.v (.lst vs)) s8 .un .un .un .un .un .un .un .un .un)) (by rw [w8]; exact l2)
  rw [m8] at cp
  have ad : addD (.lst vs) (.lst ys) = some (.fr (vs ++ ys)) := by
    have c : okSum vs.length ys.length = true := by
      unfold okSum
      exact decide_eq_true (by omega)
    show (if okSum vs.length ys.length = true then some (FV.fr (vs ++ ys)) else none) = _
    rw [if_pos c]
  have it : evSeq false (fun env => settle ((ap2E addD (varE 7) (fun env => settle ((evComp (evRng1 (evC (.int 6))) (putN 8) (fun env => some (.ok true env)) e__law_right_2 [8]) env))) env)) (fR q1 a b c d (.own ((badL a b c d).map pairD)) (.v (.tup ds)) (.own vs) s8 .un .un .un .un .un .un .un .un .un) =
      some (.ok (vs ++ ys) (fR q2 a b c d (.own ((badL a b c d).map pairD)) (.v (.tup ds)) (.v (.lst vs)) s8 .un .un .un .un .un .un .un .un .un)) := ev_seqL (ev_settleF (ev_ap2E (ev_varEo rfl) (ev_settleF cp) ad))
  obtain ⟨e3, l3, s5, s9, s10, rfl, -⟩ := loopS_inv (Inv := fun _ => I7 q2 a b c d (.v (.tup ds)) (.v (.lst vs)) s8) (g := putN 9) (body := l__law_right_4) (ds := vs ++ ys)
    (fun k x hx e h => by
      obtain ⟨s5, s9, s10, rfl, h5⟩ := h
      have V : VOk x := by
        rcases List.mem_append.mp hx with h | h
        · exact hv x h
        · exact hy x h
      obtain ⟨s5', s10', h1, h5'⟩ := right_4 F V (q := q2) (s6 := .v (.tup ds)) (s7 := .v (.lst vs)) (s8 := s8) (s10 := s10) (s13 := .un) (s14 := .un) (s15 := .un) (s16 := .un) (s17 := .un) h5
      exact ⟨fR q2 a b c d s5 (.v (.tup ds)) (.v (.lst vs)) s8 (.v x) s10 .un .un .un .un .un .un .un, _, rfl, h1, s5', .v x, s10', rfl, h5'⟩) 0 _ ⟨_, .un, .un, rfl, .inl rfl⟩
  refine ⟨q2, s5, .v (.lst vs), s8, s9, s10, fun g => ?_, P2.mono (by omega)⟩
  refine st_seq f1 (st_seq ?_ rfl)
  rw [svFor_eq it, l3]
end
end Nol.K44

set_option Elab.async false
set_option linter.all false
set_option maxRecDepth 100000
set_option maxHeartbeats 1000000
/-! k44, plain: odd values. -/
namespace Nol.K44
open Nol PySem PySem.Spec PyProof.Rows
theorem four_er {w x y z o : D} {n : List Str} {s : Sv} {l : List D} (h : r_check_four [w, x, y, z] = some (.er "BadNumbers" o)) {r : List Sl} :
    svSeq (svDrop (evCallP r_check_four 4 (evCons (varE 0) (evCons (varE 1) (evCons (varE 2) (evCons (varE 3) evNil)))))) s (.v w :: .v x :: .v y :: .v z :: r) = some (.er "BadNumbers" o (.v w :: .v x :: .v y :: .v z :: r)) := by
  have e : evCallP r_check_four 4 (evCons (varE 0) (evCons (varE 1) (evCons (varE 2) (evCons (varE 3) evNil)))) (.v w :: .v x :: .v y :: .v z :: r) = some (.er "BadNumbers" o (.v w :: .v x :: .v y :: .v z :: r)) := by
    have g : (evCons (varE 0) (evCons (varE 1) (evCons (varE 2) (evCons (varE 3) evNil)))) (.v w :: .v x :: .v y :: .v z :: r) = some (.ok [w, x, y, z] (.v w :: .v x :: .v y :: .v z :: r)) := ev_cons (ev_varE rfl) (ev_cons (ev_varE rfl) (ev_cons (ev_varE rfl) (ev_cons (ev_varE rfl) ev_nil)))
    unfold evCallP
    rw [g]
    simp only [bindR_ok]
    rw [if_pos (show [w, x, y, z].length = 4 from rfl), h]
  unfold svSeq svDrop
  rw [e]
  rfl
theorem fourfold_er {w x y z o : D} (h : r_check_four [w, x, y, z] = some (.er "BadNumbers" o)) : r_fourfold [w, x, y, z] = some (.er "BadNumbers" o) := by
  unfold r_fourfold runP b_fourfold
  have st : startF n_fourfold (List.map Sl.v [w, x, y, z]) = .v w :: .v x :: .v y :: .v z :: [.un, .un] := rfl
  rw [st, four_er (n := []) (l := []) h]
  rfl
theorem shows_er {w x y z o v : D} (h : r_check_four [w, x, y, z] = some (.er "BadNumbers" o)) : r_shows_fourfold [w, x, y, z, v] = some (.er "BadNumbers" o) := by
  unfold r_shows_fourfold runP b_shows_fourfold
  have st : startF n_shows_fourfold (List.map Sl.v [w, x, y, z, v]) = .v w :: .v x :: .v y :: .v z :: [.v v, .un] := rfl
  rw [st, four_er (n := []) (l := []) h]
  rfl
structure Odd (m : Int) (o : D) : Prop where
  g : Arg o = true
  r : RO o
  s : SO o
  f : firstOk o = false
  n : numsOk o m = false
section
variable {a b c d : List Int}
theorem four_all {w x y z o : D} (gw : Arg w = true) (gx : Arg x = true) (gy : Arg y = true) (gz : Arg z = true) (h : four w x y z = some o) : r_check_four [w, x, y, z] = some (.er "BadNumbers" o) := by
  rw [check_four_eq w x y z gw gx gy gz, h]
theorem odd_one (F : Four a b c d) {o : D} (O : Odd (a.length : Int) o) {one : List D} (h : one = [o, tupI b, tupI c, tupI d] ∨ one = [tupI a, o, o, tupI d] ∨ one = [tupI a, tupI b, o, o] ∨ one = [tupI a, tupI b, tupI c, o]) :
    ∃ w x y z, one = [w, x, y, z] ∧ r_check_four [w, x, y, z] = some (.er "BadNumbers" o) ∧ (∀ u ∈ one, u = o ∨ u = tupI a ∨ u = tupI b ∨ u = tupI c ∨ u = tupI d) ∧ o ∈ one := by
  obtain ⟨ga, gb, gc, gd⟩ := F.args
  have fa := firstOk_tupI F
  have e : lenOf (tupI a) = (a.length : Int) := by show ((a.map D.int).length : Int) = _; simp
  have nb := numsOk_tupI F.rb (m := lenOf (tupI a)) (by rw [e, F.lb])
  have nc := numsOk_tupI F.rc (m := lenOf (tupI a)) (by rw [e, F.lc])
  have no : numsOk o (lenOf (tupI a)) = false := by rw [e]; exact O.n
  rcases h with rfl | rfl | rfl | rfl
  · refine ⟨_, _, _, _, rfl, four_all O.g gb gc gd ?_, by simp, by simp⟩
    unfold four
    rw [if_pos O.f]
  · refine ⟨_, _, _, _, rfl, four_all ga O.g O.g gd ?_, by simp, by simp⟩
    unfold four
    rw [if_neg (by rw [fa]; simp), if_pos no]
  · refine ⟨_, _, _, _, rfl, four_all ga gb O.g O.g ?_, by simp, by simp⟩
    unfold four
    rw [if_neg (by rw [fa]; simp), if_neg (by rw [nb]; simp), if_pos no]
  · refine ⟨_, _, _, _, rfl, four_all ga gb gc O.g ?_, by simp, by simp⟩
    unfold four
    rw [if_neg (by rw [fa]; simp), if_neg (by rw [nb]; simp), if_neg (by rw [nc]; simp), if_pos no]
theorem int_size {i : Int} (h : -1 ≤ i) (h2 : i ≤ 1000) : shw (.int i) = true ∧ rsz (.int i) ≤ 100 := by
  have l := log_lt (i := i) (k := 10) (by omega) (by decide)
  constructor
  · show decide (i.natAbs.log2 < 1000) = true
    exact decide_eq_true (by omega)
  · show i.natAbs.log2 + 2 ≤ 100
    omega
/-- scalars that are small -/
def Sca (x : D) : Prop := (∃ i : Int, -1 ≤ i ∧ i ≤ 1000 ∧ x = .int i) ∨ x = .bl true ∨ x = .str "1"
theorem Sca.all {x : D} (h : Sca x) : shp 48 x = true ∧ shp 49 x = true ∧ shw x = true ∧ rsz x ≤ 100 ∧ SO x ∧ Kn x = true := by
  rcases h with ⟨i, h1, h2, rfl⟩ | rfl | rfl
  · obtain ⟨h3, h4⟩ := int_size h1 h2
    exact ⟨rfl, rfl, h3, h4, int_so h1 h2, rfl⟩
  · exact ⟨rfl, rfl, rfl, by decide, bl_so true, rfl⟩
  · exact ⟨by decide +kernel, by decide +kernel, rfl, by decide +kernel, by unfold SO; decide +kernel, rfl⟩
theorem sca_size : ∀ {ds : List D}, (∀ x ∈ ds, Sca x) → shws ds = true ∧ rszs ds ≤ 102 * ds.length
  | [], _ => ⟨rfl, Nat.le_refl _⟩
  | d :: ds, h => by
    obtain ⟨h1, h2⟩ := sca_size (ds := ds) fun x hx => h x (List.mem_cons_of_mem _ hx)
    obtain ⟨-, -, h3, h4, -⟩ := (h d List.mem_cons_self).all
    constructor
    · show (shw d && shws ds) = true
      rw [h3, h1]; rfl
    · show rsz d + 2 + rszs ds ≤ 102 * (ds.length + 1)
      omega
theorem sca_tup {ds : List D} (h : ∀ x ∈ ds, Sca x) (hl : ds.length ≤ 900) : Arg (.tup ds) = true ∧ RO (.tup ds) ∧ SO (.tup ds) := by
  obtain ⟨h1, h2⟩ := sca_size h
  refine ⟨?_, ro_of ?_ h1 ?_, so_tup fun x hx => (h x hx).all.2.2.2.2.1⟩
  · show (ds.all Kn && decide (ds.length ≤ 1000)) = true
    rw [Bool.and_eq_true]
    exact ⟨List.all_eq_true.mpr fun x hx => (h x hx).all.2.2.2.2.2, decide_eq_true (by omega)⟩
  · rw [Bool.or_eq_true]
    exact .inl (List.all_eq_true.mpr fun x hx => (h x hx).all.2.1)
  · show rszs ds + 2 ≤ 16000000
    omega
theorem sca_lst {ds : List D} (h : ∀ x ∈ ds, Sca x) (hl : ds.length ≤ 900) : RO (.lst ds) ∧ SO (.lst ds) := by
  obtain ⟨h1, h2⟩ := sca_size h
  refine ⟨ro_of ?_ h1 ?_, so_lst fun x hx => (h x hx).all.2.2.2.2.1⟩
  · rw [Bool.or_eq_true]
    exact .inl (List.all_eq_true.mpr fun x hx => (h x hx).all.2.1)
  · show rszs ds + 2 ≤ 16000000
    omega
theorem sca_I {xs : List Int} (h : ∀ x ∈ xs, 0 ≤ x ∧ x ≤ 999) : ∀ x ∈ xs.map D.int, Sca x := fun x hx => by
  obtain ⟨i, hi, rfl⟩ := List.mem_map.mp hx
  have := h i hi
  exact .inl ⟨i, by omega, by omega, rfl⟩
/-- a tuple that is no numbers -/
theorem odd_tup {ds : List D} (h : ∀ x ∈ ds, Sca x) (hl : ds.length ≤ 900) {m : Int} (hb : (ds.all fun x => btw x 0 999) = false ∨ ((ds.length : Int) ≠ m ∧ ¬ (ds.length = 2 ∨ ds.length = 4 ∨ ds.length = 8 ∨ ds.length = 16))) : Odd m (.tup ds) := by
  obtain ⟨h1, h2, h3⟩ := sca_tup h hl
  refine ⟨h1, h2, h3, ?_, ?_⟩
  · show (decide (ds.length = 2 ∨ ds.length = 4 ∨ ds.length = 8 ∨ ds.length = 16) && (decide ((ds.length : Int) = (ds.length : Int)) && ds.all fun x => btw x 0 999)) = false
    rcases hb with hb | ⟨-, hb⟩
    · rw [hb, Bool.and_false, Bool.and_false]
    · rw [decide_eq_false hb, Bool.false_and]
  · show (decide ((ds.length : Int) = m) && ds.all fun x => btw x 0 999) = false
    rcases hb with hb | ⟨hb, -⟩
    · rw [hb, Bool.and_false]
    · rw [decide_eq_false hb, Bool.false_and]
def odds (xs : List Int) : List D := [.non, .tup [], .lst (xs.map .int), .tup ((xs.map D.int).take (xs.length - 1) ++ [.int (-1)]), .tup ((xs.map D.int).take (xs.length - 1) ++ [.int 1000]), .tup ((xs.map D.int).take (xs.length - 1) ++ [.bl true]), .tup (xs.map D.int ++ [.int 1]), .tup (List.replicate xs.length (D.str "1"))]
theorem odds_odd (F : Four a b c d) : ∀ o ∈ odds a, Odd (a.length : Int) o := by
  have hs := F.small
  have h0 : 0 < a.length := by rcases F.n with h | h | h | h <;> omega
  have sa := sca_I F.ra
  have put : ∀ {x : D}, Sca x → ∀ y ∈ (a.map D.int).take (a.length - 1) ++ [x], Sca y := fun {x} hx y hy => by
    rcases List.mem_append.mp hy with h | h
    · exact sa y (List.mem_of_mem_take h)
    · rw [List.mem_singleton.mp h]; exact hx
  have pl : ∀ {x : D}, ((a.map D.int).take (a.length - 1) ++ [x]).length ≤ 900 := fun {x} => by simp; omega
  have pf : ∀ {x : D}, btw x 0 999 = false → (((a.map D.int).take (a.length - 1) ++ [x]).all fun x => btw x 0 999) = false := fun {x} h => by
    rw [List.all_append, List.all_cons, h, Bool.false_and, Bool.and_false]
  intro o ho
  unfold odds at ho
  simp only [List.mem_cons, List.not_mem_nil, or_false] at ho
  rcases ho with rfl | rfl | rfl | rfl | rfl | rfl | rfl | rfl
  · exact ⟨rfl, ro_non, so_non, rfl, rfl⟩
  · exact odd_tup (ds := []) (fun x hx => nomatch hx) (by decide) (.inr ⟨by simp; omega, by decide⟩)
  · obtain ⟨h1, h2⟩ := sca_lst sa (by simp; omega)
    exact ⟨rfl, h1, h2, rfl, rfl⟩
  · exact odd_tup (put (.inl ⟨-1, by decide, by decide, rfl⟩)) pl (.inl (pf rfl))
  · exact odd_tup (put (.inl ⟨1000, by decide, by decide, rfl⟩)) pl (.inl (pf rfl))
  · exact odd_tup (put (.inr (.inl rfl))) pl (.inl (pf rfl))
  · refine odd_tup (fun y hy => ?_) (by simp; omega) (.inr ⟨by simp; omega, ?_⟩)
    · rcases List.mem_append.mp hy with h | h
      · exact sa y h
      · rw [List.mem_singleton.mp h]; exact .inl ⟨1, by decide, by decide, rfl⟩
    · simp only [List.length_append, List.length_map, List.length_cons, List.length_nil]
      rcases F.n with h | h | h | h <;> omega
  · refine odd_tup (fun y hy => ?_) (by simp; omega) (.inl ?_)
    · rw [(List.mem_replicate.mp hy).2]; exact .inr (.inr rfl)
    · obtain ⟨n, hn⟩ : ∃ n, a.length = n + 1 := ⟨a.length - 1, by omega⟩
      rw [hn, List.replicate_succ, List.all_cons]
      rfl
theorem cut_last (xs : List Int) (h : 0 < xs.length) : sliceD none (some (-1)) (tupI xs) = some (.d (.tup ((xs.map D.int).take (xs.length - 1)))) := by
  have e : HT.sIx (xs.map D.int).length (xs.map D.int).length (some (-1)) = xs.length - 1 := by
    rw [List.length_map]
    simp [HT.sIx]
    omega
  have e0 : HT.sIx (xs.map D.int).length 0 none = 0 := rfl
  show some (FV.d (.tup (cutL (xs.map D.int) none (some (-1))))) = _
  unfold cutL
  rw [e, e0]
  rfl
theorem ones {n : Nat} (h2 : 2 ≤ n) (h : n ≤ 16) : mulD (.tup [.str "1"]) (.int (n : Int)) = some (.d (.tup (List.replicate n (.str "1")))) := by
  have c : okRepT 1 (n : Int) = true := by
    unfold okRepT
    rw [Bool.and_eq_true, Bool.and_eq_true, Bool.and_eq_true]
    exact ⟨⟨⟨decide_eq_true (by decide), decide_eq_true (by omega)⟩, decide_eq_true (by omega)⟩, decide_eq_true (by decide)⟩
  have e : (List.replicate (n : Int).toNat [D.str "1"]).flatten = List.replicate n (D.str "1") := by
    rw [Int.toNat_natCast]
    clear c h h2
    induction n with
    | zero => rfl
    | succ n ih => rw [List.replicate_succ, List.flatten_cons, ih, List.replicate_succ]; rfl
  show (if okRepT 1 (n : Int) = true then some (FV.d (.tup (List.replicate (n : Int).toNat [D.str "1"]).flatten)) else none) = _
  rw [if_pos c, e]
end
end Nol.K44

set_option Elab.async false
set_option linter.all false
set_option maxRecDepth 100000
set_option maxHeartbeats 1000000
/-! k44, plain: odd values in law_right. -/
namespace Nol.K44
open Nol PySem PySem.Spec PyProof.Rows
theorem ev_settleE {x : Option (Rs FV)} {c : Str} {d : D} {e : Fm} (h : x = some (.er c d e)) : settle x = some (.er c d e) := by rw [h]; rfl
theorem ev_callPE {f : List D → Option FR} {n : Nat} {g : Ev (List D)} {env e : Fm} {ds : List D} {c : Str} {d : D} (hg : g env = some (.ok ds e)) (hn : ds.length = n) (hf : f ds = some (.er c d)) : evCallP f n g env = some (.er c d e) := by
  unfold evCallP
  rw [hg]
  simp only [bindR_ok]
  rw [if_pos hn, hf]
theorem ev_heardE {f : Ev D} {env e : Fm} {c : Str} {d : D} (h : f env = some (.er c d e)) : evHeard f env = some (.ok (.tup [.obj c [d], .non]) e) := by unfold evHeard; rw [h]
theorem is_bad (o : D) : isErr "BadNumbers" (.obj "BadNumbers" [o]) = some (.d (.bl true)) := by
  show (if ("BadNumbers" : Str) = "BadNumbers" then some (FV.d (.bl true)) else none) = _
  rw [if_pos rfl]
theorem val_bad (o : D) : valErr "BadNumbers" (.obj "BadNumbers" [o]) = some (.d o) := by
  show (if ("BadNumbers" : Str) = "BadNumbers" then some (FV.d o) else none) = _
  rw [if_pos rfl]
section
variable {a b c d : List Int}
theorem right_9 (F : Four a b c d) {o : D} (O : Odd (a.length : Int) o) {one : List D} (h1 : one = [o, tupI b, tupI c, tupI d] ∨ one = [tupI a, o, o, tupI d] ∨ one = [tupI a, tupI b, o, o] ∨ one = [tupI a, tupI b, tupI c, o])
    {q : List D} {s5 s6 s7 s8 s9 s10 s14 s15 s17 : Sl} :
    ∃ s15' s17', l__law_right_9 (fR q a b c d s5 s6 s7 s8 s9 s10 (.v (.tup one)) .un (.v o) s14 s15 .un s17) = some (.nx (fR q a b c d s5 s6 s7 s8 s9 s10 (.v (.tup one)) .un (.v o) s14 s15' .un s17')) := by
  obtain ⟨w, x, y, z, ho, ck, hall, hmem⟩ := odd_one F O h1
  have e7 := fourfold_er ck
  have e8 := shows_er (v := .non) ck
  have ro : reprD o = some (.d (.str (shown o))) := O.r
  have hk : ∀ u ∈ one, RO u ∧ SO u := fun u hu => by
    have hs := F.small
    have h1 := F.lb
    have h2 := F.lc
    have h3 := F.ld
    rcases hall u hu with rfl | rfl | rfl | rfl | rfl
    · exact ⟨O.r, O.s⟩
    · exact (sca_tup (sca_I F.ra) (by simp; omega)).2
    · exact (sca_tup (sca_I F.rb) (by simp; omega)).2
    · exact (sca_tup (sca_I F.rc) (by simp; omega)).2
    · exact (sca_tup (sca_I F.rd) (by simp; omega)).2
  have lo : one.length = 4 := by rw [ho]; rfl
  have lp := loopC_flt (i := 16) (tst := t__law_right_6) (elt := e__law_right_5) (env := fR q a b c d s5 s6 s7 s8 s9 s10 (.v (.tup one)) .un (.v o) s14 s15 .un s17) (f := fun u => decide (shown u = shown o)) one []
    (fun u hu => by
      obtain ⟨ru, su⟩ := hk u hu
      have ru : reprD u = some (.d (.str (shown u))) := ru
      refine ⟨?_, ?_, rfl⟩
      · exact ev_B (ev_settle (ev_ap2 (ev_asP (ev_settle (ev_apE (ev_varE rfl) ru))) (ev_asP (ev_settle (ev_apE (ev_varE rfl) ro))) de_d de_d (eq_ss su.shp O.s.shp)))
      · exact ev_varE rfl) (by rw [lo]; decide)
  rw [List.nil_append] at lp
  have w16 : wipeF (fR q a b c d s5 s6 s7 s8 s9 s10 (.v (.tup one)) .un (.v o) s14 s15 .un s17) [16] = fR q a b c d s5 s6 s7 s8 s9 s10 (.v (.tup one)) .un (.v o) s14 s15 .un s17 := rfl
  have m16 : mend (fR q a b c d s5 s6 s7 s8 s9 s10 (.v (.tup one)) .un (.v o) s14 s15 .un s17) (fR q a b c d s5 s6 s7 s8 s9 s10 (.v (.tup one)) .un (.v o) s14 s15 .un s17) [16] = fR q a b c d s5 s6 s7 s8 s9 s10 (.v (.tup one)) .un (.v o) s14 s15 .un s17 := rfl
  have cp := ev_comp (it := evSeq true (varE 11)) (vs := [16]) (ev_seqT (ev_varE rfl)) (by rw [w16]; exact lp)
  rw [m16] at cp
  obtain ⟨l, hl⟩ : ∃ l, l = one.filter fun u => decide (shown u = shown o) := ⟨_, rfl⟩
  rw [← hl] at cp
  have ml : o ∈ l := by rw [hl]; exact List.mem_filter.mpr ⟨hmem, decide_eq_true rfl⟩
  have l0 : 0 < l.length := List.length_pos_of_mem ml
  have sl := sub_lst l 0 l0
  have mf : l[0] ∈ one.filter fun u => decide (shown u = shown o) := by rw [← hl]; exact List.getElem_mem l0
  obtain ⟨f, hf⟩ : ∃ f, f = l[0] := ⟨_, rfl⟩
  rw [← hf] at sl mf
  obtain ⟨mf1, mf2⟩ := List.mem_filter.mp mf
  have mf2 : shown f = shown o := of_decide_eq_true mf2
  have rf' : reprD f = some (.d (.str (shown f))) := (hk f mf1).1
  rw [mf2] at rf'
  have nn := ne_ss O.s.shp O.s.shp
  rw [decide_eq_true rfl] at nn
  have a1 : svAsg 15 (ap2 subsD (fun env => asP ((fun env => settle ((evComp (evSeq true (varE 11)) (putN 16) t__law_right_6 e__law_right_5 [16]) env)) env)) (fun env => asP ((evC (.int 0)) env))) (fR q a b c d s5 s6 s7 s8 s9 s10 (.v (.tup one)) .un (.v o) s14 s15 .un s17) =
      some (.nx (fR q a b c d s5 s6 s7 s8 s9 s10 (.v (.tup one)) .un (.v o) s14 (.v f) .un s17)) := Eq.trans (st_asg (ev_ap2 (ev_asP (ev_settleF cp)) (ev_asP ev_C) de_d de_d sl)) rfl
  have sb : ∀ (k : Nat) (u : D), one[k]? = some u → ∀ t, (fun env => settle ((ap2 subsD (varP 11) (fun env => asP ((evC (.int (k : Int))) env))) env)) (fR q a b c d s5 s6 s7 s8 s9 s10 (.v (.tup one)) .un (.v o) s14 (.v f) .un t) = some (.ok u (fR q a b c d s5 s6 s7 s8 s9 s10 (.v (.tup one)) .un (.v o) s14 (.v f) .un t)) := fun k u hu t => by
    obtain ⟨hk, e⟩ := List.getElem?_eq_some_iff.mp hu
    have := sub_tup one k hk
    rw [e] at this
    exact ev_settle (ev_ap2 (ev_varPv rfl) (ev_asP ev_C) de_d de_d this)
  have o0 : one[0]? = some w := by rw [ho]; rfl
  have o1 : one[1]? = some x := by rw [ho]; rfl
  have o2 : one[2]? = some y := by rw [ho]; rfl
  have o3 : one[3]? = some z := by rw [ho]; rfl
  have z0 : ∀ (u v : D), subsD (.tup [u, v]) (.int 0) = some (.d u) := fun _ _ => rfl
  have h7 : ∀ t, h__law_right_7 (fR q a b c d s5 s6 s7 s8 s9 s10 (.v (.tup one)) .un (.v o) s14 (.v f) .un t) = some (.er "BadNumbers" o (fR q a b c d s5 s6 s7 s8 s9 s10 (.v (.tup one)) .un (.v o) s14 (.v f) .un t)) := fun t => by
    unfold h__law_right_7
    exact ev_settleE (ev_callPE (ev_cons (sb 0 w o0 t) (ev_cons (sb 1 x o1 t) (ev_cons (sb 2 y o2 t) (ev_cons (sb 3 z o3 t) ev_nil)))) rfl e7)
  have h8 : ∀ t, h__law_right_8 (fR q a b c d s5 s6 s7 s8 s9 s10 (.v (.tup one)) .un (.v o) s14 (.v f) .un t) = some (.er "BadNumbers" o (fR q a b c d s5 s6 s7 s8 s9 s10 (.v (.tup one)) .un (.v o) s14 (.v f) .un t)) := fun t => by
    unfold h__law_right_8
    exact ev_settleE (ev_callPE (ev_cons (sb 0 w o0 t) (ev_cons (sb 1 x o1 t) (ev_cons (sb 2 y o2 t) (ev_cons (sb 3 z o3 t) (ev_cons ev_C ev_nil))))) rfl e8)
  have a2 : ∀ t, svAsg 17 (ap2 subsD (fun env => asP ((evHeard h__law_right_7) env)) (fun env => asP ((evC (.int 0)) env))) (fR q a b c d s5 s6 s7 s8 s9 s10 (.v (.tup one)) .un (.v o) s14 (.v f) .un t) =
      some (.nx (fR q a b c d s5 s6 s7 s8 s9 s10 (.v (.tup one)) .un (.v o) s14 (.v f) .un (.v (.obj "BadNumbers" [o])))) := fun t => Eq.trans (st_asg (ev_ap2 (ev_asP (ev_heardE (h7 t))) (ev_asP ev_C) de_d de_d (z0 _ _))) rfl
  have a4 : ∀ t, svAsg 17 (ap2 subsD (fun env => asP ((evHeard h__law_right_8) env)) (fun env => asP ((evC (.int 0)) env))) (fR q a b c d s5 s6 s7 s8 s9 s10 (.v (.tup one)) .un (.v o) s14 (.v f) .un t) =
      some (.nx (fR q a b c d s5 s6 s7 s8 s9 s10 (.v (.tup one)) .un (.v o) s14 (.v f) .un (.v (.obj "BadNumbers" [o])))) := fun t => Eq.trans (st_asg (ev_ap2 (ev_asP (ev_heardE (h8 t))) (ev_asP ev_C) de_d de_d (z0 _ _))) rfl
  have a3 : svIf (evOrB (evNotB (evTest (fun env => asP ((fun env => settle ((apE (isErr "BadNumbers") (varE 17)) env)) env)))) (evB fun env => settle ((ap2 neD (fun env => asP ((fun env => settle ((apE reprD (fun env => settle ((apE (valErr "BadNumbers") (varE 17)) env))) env)) env)) (fun env => asP ((fun env => settle ((apE reprD (varE 15)) env)) env))) env))) (svRet (fun env => asF ((evC (.bl false)) env))) svNil
      (fR q a b c d s5 s6 s7 s8 s9 s10 (.v (.tup one)) .un (.v o) s14 (.v f) .un (.v (.obj "BadNumbers" [o]))) = some (.nx (fR q a b c d s5 s6 s7 s8 s9 s10 (.v (.tup one)) .un (.v o) s14 (.v f) .un (.v (.obj "BadNumbers" [o])))) := by
    refine st_iff (ev_or0 (ev_notF (ev_Test (ev_asP (ev_settle (ev_apE (ev_varE rfl) (is_bad o)))) de_d rfl)) ?_) st_nil
    exact ev_B (ev_settle (ev_ap2 (ev_asP (ev_settle (ev_apE (ev_settle (ev_apE (ev_varE rfl) (val_bad o))) ro))) (ev_asP (ev_settle (ev_apE (ev_varE rfl) rf'))) de_d de_d nn))
  refine ⟨.v f, .v (.obj "BadNumbers" [o]), ?_⟩
  unfold l__law_right_9
  exact st_seq a1 (st_seq (a2 _) (st_seq a3 (st_seq (a4 _) a3)))
theorem right_o (F : Four a b c d) {q : List D} {s5 s6 s7 s8 s9 s10 : Sl} :
    svAsg 13 (evLst (evCons (evC .non) (evCons (evTup evNil) (evCons (fun env => settle ((ap1 listD (varP 1)) env)) (evCons (fun env => settle ((ap2E addD (fun env => settle ((evSlice (varE 1) (fun env => some (.ok none env)) (evPart (fun env => settle ((ap1 negD (fun env => asP ((evC (.int 1)) env))) env)))) env)) (evTup (evCons (fun env => settle ((ap1 negD (fun env => asP ((evC (.int 1)) env))) env)) evNil))) env)) (evCons (fun env => settle ((ap2E addD (fun env => settle ((evSlice (varE 1) (fun env => some (.ok none env)) (evPart (fun env => settle ((ap1 negD (fun env => asP ((evC (.int 1)) env))) env)))) env)) (evTup (evCons (evC (.int 1000)) evNil))) env)) (evCons (fun env => settle ((ap2E addD (fun env => settle ((evSlice (varE 1) (fun env => some (.ok none env)) (evPart (fun env => settle ((ap1 negD (fun env => asP ((evC (.int 1)) env))) env)))) env)) (evTup (evCons (evC (.bl true)) evNil))) env)) (evCons (fun env => settle ((ap2E addD (varE 1) (evTup (evCons (evC (.int 1)) evNil))) env)) (evCons (fun env => settle ((ap2E mulD (evTup (evCons (evC (.str "1")) evNil)) (fun env => settle ((ap1 lenD (varP 1)) env))) env)) evNil)))))))))
      (fR q a b c d s5 s6 s7 s8 s9 s10 .un .un .un .un .un .un .un) = some (.nx (fR q a b c d s5 s6 s7 s8 s9 s10 .un .un (.own (odds a)) .un .un .un .un)) := by
  have hs := F.small
  have h2 : 2 ≤ a.length := by rcases F.n with h | h | h | h <;> omega
  have cl := cut_last a (by omega)
  have on := ones h2 hs
  have ad : ∀ x : D, addD (.tup ((a.map D.int).take (a.length - 1))) (.tup [x]) = some (.d (.tup ((a.map D.int).take (a.length - 1) ++ [x]))) := fun x => add_tt _ _ (by simp; omega)
  have ad1 : addD (tupI a) (.tup [.int 1]) = some (.d (.tup (a.map D.int ++ [.int 1]))) := add_tt _ _ (by simp; omega)
  have sl : (fun env => settle ((evSlice (varE 1) (fun env => some (.ok none env)) (evPart (fun env => settle ((ap1 negD (fun env => asP ((evC (.int 1)) env))) env)))) env)) (fR q a b c d s5 s6 s7 s8 s9 s10 .un .un .un .un .un .un .un) = some (.ok (.tup ((a.map D.int).take (a.length - 1))) (fR q a b c d s5 s6 s7 s8 s9 s10 .un .un .un .un .un .un .un)) :=
    ev_settle (ev_slice (ev_varE rfl) rfl (ev_part (ev_settle (ev_ap1 (ev_asP ev_C) de_d (neg_i 1)))) cl)
  exact Eq.trans (st_asg (ev_lst (ev_cons ev_C (ev_cons (ev_tup ev_nil rfl) (ev_cons (ev_settleF (ev_ap1 (ev_varPv rfl) de_d (list_t _)))
    (ev_cons (ev_settle (ev_ap2E sl (ev_tup (ev_cons (ev_settle (ev_ap1 (ev_asP ev_C) de_d (neg_i 1))) ev_nil) rfl) (ad _)))
    (ev_cons (ev_settle (ev_ap2E sl (ev_tup (ev_cons ev_C ev_nil) rfl) (ad _)))
    (ev_cons (ev_settle (ev_ap2E sl (ev_tup (ev_cons ev_C ev_nil) rfl) (ad _)))
    (ev_cons (ev_settle (ev_ap2E (ev_varE rfl) (ev_tup (ev_cons ev_C ev_nil) rfl) ad1))
    (ev_cons (ev_settle (ev_ap2E (ev_tup (ev_cons ev_C ev_nil) rfl) (ev_settle (ev_ap1 (ev_varPv rfl) de_d (len_tupI a))) on)) ev_nil)))))))) rfl)) rfl
/-- the odd values tried -/
theorem right_z (F : Four a b c d) {n : Nat} {p : List D} (P : Pot n p) (hn : n ≤ 1000000) {s5 s6 s7 s8 s9 s10 : Sl} :
    ∃ q s11 o s14 s15 s17, (svSeq
  (svAsg 13 (evCallQ 0 r__law_of 2 (evCons (varE 13) evNil))) (svSeq
  (svAsg 14 (evLst (evCons (evTup (evCons (varE 13) (evCons (varE 2) (evCons (varE 3) (evCons (varE 4) evNil))))) (evCons (evTup (evCons (varE 1) (evCons (varE 13) (evCons (varE 13) (evCons (varE 4) evNil))))) (evCons (evTup (evCons (varE 1) (evCons (varE 2) (evCons (varE 13) (evCons (varE 13) evNil))))) (evCons (evTup (evCons (varE 1) (evCons (varE 2) (evCons (varE 3) (evCons (varE 13) evNil))))) evNil)))))) (svSeq
  (svFor (evSeq false (varE 14)) (putN 11) l__law_right_9) (svRet (fun env => asF ((evC (.bl true)) env))))))
      (fR p a b c d s5 s6 s7 s8 s9 s10 .un .un (.own (odds a)) .un .un .un .un) = some (.rt (.bl true) (fR q a b c d s5 s6 s7 s8 s9 s10 s11 .un (.v o) s14 s15 .un s17)) ∧ Pot (n + 1) q := by
  obtain ⟨o, q, e, ho, P1⟩ := of_ok P hn (ds := odds a) (by unfold odds; simp) (by unfold odds; simp)
  have O := odds_odd F o ho
  have a1 : svAsg 13 (evCallQ 0 r__law_of 2 (evCons (varE 13) evNil)) (fR p a b c d s5 s6 s7 s8 s9 s10 .un .un (.own (odds a)) .un .un .un .un) = some (.nx (fR q a b c d s5 s6 s7 s8 s9 s10 .un .un (.v o) .un .un .un .un)) :=
    Eq.trans (st_asg (ev_callQ (ps := p) rfl (ev_cons (ev_varEo rfl) ev_nil) rfl rfl e)) rfl
  obtain ⟨L, hL⟩ : ∃ L : List D, L = [.tup [o, tupI b, tupI c, tupI d], .tup [tupI a, o, o, tupI d], .tup [tupI a, tupI b, o, o], .tup [tupI a, tupI b, tupI c, o]] := ⟨_, rfl⟩
  have a2 : svAsg 14 (evLst (evCons (evTup (evCons (varE 13) (evCons (varE 2) (evCons (varE 3) (evCons (varE 4) evNil))))) (evCons (evTup (evCons (varE 1) (evCons (varE 13) (evCons (varE 13) (evCons (varE 4) evNil))))) (evCons (evTup (evCons (varE 1) (evCons (varE 2) (evCons (varE 13) (evCons (varE 13) evNil))))) (evCons (evTup (evCons (varE 1) (evCons (varE 2) (evCons (varE 3) (evCons (varE 13) evNil))))) evNil)))))
      (fR q a b c d s5 s6 s7 s8 s9 s10 .un .un (.v o) .un .un .un .un) = some (.nx (fR q a b c d s5 s6 s7 s8 s9 s10 .un .un (.v o) (.own L) .un .un .un)) := by
    rw [hL]
    exact Eq.trans (st_asg (ev_lst (ev_cons (ev_tup (ev_cons (ev_varE rfl) (ev_cons (ev_varE rfl) (ev_cons (ev_varE rfl) (ev_cons (ev_varE rfl) ev_nil)))) rfl)
      (ev_cons (ev_tup (ev_cons (ev_varE rfl) (ev_cons (ev_varE rfl) (ev_cons (ev_varE rfl) (ev_cons (ev_varE rfl) ev_nil)))) rfl)
      (ev_cons (ev_tup (ev_cons (ev_varE rfl) (ev_cons (ev_varE rfl) (ev_cons (ev_varE rfl) (ev_cons (ev_varE rfl) ev_nil)))) rfl)
      (ev_cons (ev_tup (ev_cons (ev_varE rfl) (ev_cons (ev_varE rfl) (ev_cons (ev_varE rfl) (ev_cons (ev_varE rfl) ev_nil)))) rfl) ev_nil)))) rfl)) rfl
  obtain ⟨e3, l3, s11, s15, s17, rfl⟩ := loopS_inv (Inv := fun _ e => ∃ s11 s15 s17, e = fR q a b c d s5 s6 s7 s8 s9 s10 s11 .un (.v o) (.v (.lst L)) s15 .un s17) (g := putN 11) (body := l__law_right_9) (ds := L)
    (fun k x hx e h => by
      obtain ⟨s11, s15, s17, rfl⟩ := h
      obtain ⟨one, rfl, h1⟩ : ∃ one, x = .tup one ∧ (one = [o, tupI b, tupI c, tupI d] ∨ one = [tupI a, o, o, tupI d] ∨ one = [tupI a, tupI b, o, o] ∨ one = [tupI a, tupI b, tupI c, o]) := by
        rw [hL] at hx
        simp only [List.mem_cons, List.not_mem_nil, or_false] at hx
        rcases hx with rfl | rfl | rfl | rfl
        · exact ⟨_, rfl, .inl rfl⟩
        · exact ⟨_, rfl, .inr (.inl rfl)⟩
        · exact ⟨_, rfl, .inr (.inr (.inl rfl))⟩
        · exact ⟨_, rfl, .inr (.inr (.inr rfl))⟩
      obtain ⟨s15', s17', r⟩ := right_9 F O h1 (q := q) (s5 := s5) (s6 := s6) (s7 := s7) (s8 := s8) (s9 := s9) (s10 := s10) (s14 := .v (.lst L)) (s15 := s15) (s17 := s17)
      exact ⟨fR q a b c d s5 s6 s7 s8 s9 s10 (.v (.tup one)) .un (.v o) (.v (.lst L)) s15 .un s17, _, rfl, r, _, _, _, rfl⟩) 0 (fR q a b c d s5 s6 s7 s8 s9 s10 .un .un (.v o) (.v (.lst L)) .un .un .un) ⟨_, _, _, rfl⟩
  have it : evSeq false (varE 14) (fR q a b c d s5 s6 s7 s8 s9 s10 .un .un (.v o) (.own L) .un .un .un) = some (.ok L (fR q a b c d s5 s6 s7 s8 s9 s10 .un .un (.v o) (.v (.lst L)) .un .un .un)) := ev_seqL (ev_varEo rfl)
  refine ⟨q, s11, o, .v (.lst L), s15, s17, ?_, P1⟩
  refine st_seq a1 (st_seq a2 (st_seq (e := fR q a b c d s5 s6 s7 s8 s9 s10 s11 .un (.v o) (.v (.lst L)) s15 .un s17) ?_ (st_ret (ev_asF ev_C))))
  rw [svFor_eq it, l3]
end
/-- one draw is right -/
theorem right_ok {n : Nat} {p : List D} (P : Pot n p) (hn : n + 300 ≤ 1000000) : ∃ q, r__law_right p [] = some (.ok (.d (.bl true)), q) ∧ Pot (n + 200) q := by
  obtain ⟨a, b, c, d, q1, e1, F, P1⟩ := drawn_ok P (by omega)
  obtain ⟨ds, ht, T⟩ := told_told F
  obtain ⟨q2, s5, s7, s8, s9, s10, h2, P2⟩ := right_s F P1 (by omega) T
  obtain ⟨q3, s11, o, s14, s15, s17, h3, P3⟩ := right_z F P2 (by omega) (s5 := s5) (s6 := .v (.tup ds)) (s7 := s7) (s8 := s8) (s9 := s9) (s10 := s10)
  refine ⟨q3, ?_, P3.mono (by omega)⟩
  have r3 := right_3 F q1
  have f4 := fourfold_eq F
  rw [ht] at r3 f4
  unfold r__law_right b__law_right
  refine runQ_rt (e := fR q3 a b c d s5 (.v (.tup ds)) s7 s8 s9 s10 s11 .un (.v o) s14 s15 .un s17) ?_ rfl
  have s1 : svPut (putTup 4 (putCons (putN 1) (putCons (putN 2) (putCons (putN 3) (putCons (putN 4) putNil))))) (fun env => settle ((evCallQ 0 r__law_drawn 1 evNil) env)) (startF n__law_right (.par p :: ([] : List D).map .v)) = some (.nx (fR q1 a b c d .un .un .un .un .un .un .un .un .un .un .un .un .un)) :=
    st_put (ev_settle (ev_callQ (ps := p) (pds := p) rfl ev_nil rfl rfl e1)) rfl
  refine st_seq s1 (st_seq (e := fR q1 a b c d (.own ((badL a b c d).map pairD)) (.v (.tup ds)) .un .un .un .un .un .un .un .un .un .un .un) ?_ (st_seq r3 (st_seq (right_v F q1 T) ?_)))
  · exact Eq.trans (st_par (ev_callP (ev_cons (ev_varE rfl) (ev_cons (ev_varE rfl) (ev_cons (ev_varE rfl) (ev_cons (ev_varE rfl) ev_nil)))) rfl (law_bad_eq F)) (ev_callP (ev_cons (ev_varE rfl) (ev_cons (ev_varE rfl) (ev_cons (ev_varE rfl) (ev_cons (ev_varE rfl) ev_nil)))) rfl f4)) rfl
  · rw [h2]
    exact st_seq (right_o F) h3
end Nol.K44

set_option Elab.async false
set_option linter.all false
set_option maxRecDepth 100000
set_option maxHeartbeats 1000000
/-! k44, plain: the law. -/
namespace Nol.K44
open Nol PySem PySem.Spec PyProof.Rows
theorem pw_ii {i : Int} {n : Nat} {j : Int} (h : i.natAbs < 2 ^ 1000) (hn : n ≤ 1000) (hj : j = (n : Int)) : powD (.int i) (.int j) = some (.d (.int (i ^ n))) := by
  have h1 := log_lt h (by decide)
  have hm : (i.natAbs.log2 + 1) * n ≤ 1000 * 1000 := Nat.mul_le_mul (by omega) hn
  have hm' : ((i.natAbs.log2 + 1 : Nat) : Int) * (n : Int) ≤ 1000000 := by
    rw [← Int.natCast_mul]
    omega
  have c : powC i j = true := by
    unfold powC
    rw [Bool.and_eq_true]
    rw [hj]
    exact ⟨decide_eq_true (by omega), decide_eq_true (Int.le_trans hm' (by decide))⟩
  have e : powD (.int i) (.int j) = if powC i j = true then some (FV.d (.int (i ^ j.toNat))) else none := rfl
  have t : j.toNat = n := by rw [hj]; exact Int.toNat_natCast n
  rw [e, if_pos c, t]
theorem mul_big {i j : Int} (hi : i.natAbs < 2 ^ 2000) (hj : j.natAbs < 2 ^ 2000) : mulD (.int i) (.int j) = some (.d (.int (i * j))) := by
  have h1 := log_lt hi (by decide)
  have h2 := log_lt hj (by decide)
  have c : decide (i.natAbs.log2 + j.natAbs.log2 < 1000000) = true := decide_eq_true (by omega)
  show (if decide (i.natAbs.log2 + j.natAbs.log2 < 1000000) = true then some (FV.d (.int (i * j))) else none) = _
  rw [if_pos c]
theorem ev_IfT {t : Ev Bool} {f g : Ev FV} {env e : Fm} {s : Option (Rs FV)} (h : t env = some (.ok true e)) (hs : f e = s) : evIf t f g env = s := by unfold evIf; rw [h]; exact hs
theorem ev_IfF {t : Ev Bool} {f g : Ev FV} {env e : Fm} {s : Option (Rs FV)} (h : t env = some (.ok false e)) (hs : g e = s) : evIf t f g env = s := by unfold evIf; rw [h]; exact hs
theorem abs_i (i : Int) : absD (.int i) = some (.d (.int (if i < 0 then -i else i))) := rfl
theorem ge_ii (i j : Int) : geD (.int i) (.int j) = some (.d (.bl (decide (j ≤ i)))) := rfl
theorem len_scr (ns : List Int) : lenD (.scr ns) = some (.d (.int (ns.length : Int))) := rfl
theorem sub_scr (ns : List Int) (i : Nat) (h : i < ns.length) : subsD (.scr ns) (.int (i : Int)) = some (.d (.int ns[i])) := by
  show (L2.atI ns (i : Int)).map (fun n => FV.d (.int n)) = _
  have e : L2.ixN ns.length (i : Int) = some i := by
    unfold L2.ixN
    rw [if_pos (Int.natCast_nonneg i), if_pos (by simpa using h)]
    simp
  unfold L2.atI
  rw [e]
  simp only [Option.bind_some, List.getElem?_eq_getElem h, Option.map_some]
theorem sum_ints (ns : List Int) : sumD (.lst (ns.map .int)) = some (.d (.int ns.sum)) := by
  show (intsOf (ns.map D.int)).map (fun ns => FV.d (.int ns.sum)) = _
  rw [intsOf_map]
  rfl
abbrev pF (ns : List Int) (i : Int) (s2 s3 s4 : Sl) : Fm := [.v (.scr ns), .v (.int i), s2, s3, s4]
theorem tens : ∃ t T u : Int, powD (.int 10) (.int 60) = some (.d (.int t)) ∧ powD (.int t) (.int 5) = some (.d (.int T)) ∧ powD (.int 10) (.int 18) = some (.d (.int u)) ∧ 0 < T ∧ T.natAbs < 2 ^ 2000 := by
  refine ⟨10 ^ 60, (10 ^ 60) ^ 5, 10 ^ 18, pw_ii (n := 60) (by decide) (by decide) rfl, pw_ii (n := 5) (by decide +kernel) (by decide) rfl, pw_ii (n := 18) (by decide) (by decide) rfl, by decide +kernel, by decide +kernel⟩
theorem pot_ok (ns : List Int) {i : Nat} (hi : i ≤ 1) : ∃ p, r__law_pot [.scr ns, .int (i : Int)] = some (.ok (.fr p)) ∧ Pot 0 p := by
  have l1 : ∃ cell : Int, svAsg 2 (evIf (evB fun env => settle ((ap2 ltD (varP 1) (fun env => asP ((fun env => settle ((ap1 lenD (varP 0)) env)) env))) env)) (ap2 subsD (varP 0) (varP 1)) (ap2E addD (fun env => settle ((ap2E addD (fun env => settle ((ap2 modD (fun env => asP ((fun env => settle ((ap1 sumD (fun env => asP ((fun env => settle ((evSlice (varE 0) (fun env => some (.ok none env)) (evPart (evC (.int 1)))) env)) env))) env)) env)) (fun env => asP ((evC (.int 1000003)) env))) env)) (fun env => settle ((ap2E mulD (evC (.int 24489)) (varE 1)) env))) env)) (evC (.int 7487))))
      (pF ns (i : Int) .un .un .un) = some (.nx (pF ns (i : Int) (.v (.int cell)) .un .un)) := by
    have lt := lt_ii (i : Int) (ns.length : Int)
    by_cases h : i < ns.length
    · rw [decide_eq_true (by omega)] at lt
      refine ⟨ns[i], ?_⟩
      have cond : (evB fun env => settle ((ap2 ltD (varP 1) (fun env => asP ((fun env => settle ((ap1 lenD (varP 0)) env)) env))) env)) (pF ns (i : Int) .un .un .un) = some (.ok true (pF ns (i : Int) .un .un .un)) :=
        ev_B (ev_settle (ev_ap2 (ev_varPv rfl) (ev_asP (ev_settle (ev_ap1 (ev_varPv rfl) de_d (len_scr ns)))) de_d de_d lt))
      refine Eq.trans (st_asg (r := .d (.int ns[i])) (e := pF ns (i : Int) .un .un .un) ?_) rfl
      exact ev_IfT cond <| ev_ap2 (ev_varPv rfl) (ev_varPv rfl) de_d de_d (sub_scr ns i h)
    · rw [decide_eq_false (by omega)] at lt
      have sl : sliceD none (some 1) (.scr ns) = some (.fr ((cutL ns none (some 1)).map .int)) := rfl
      have sm := sum_ints (cutL ns none (some 1))
      have md := mod_ii (i := (cutL ns none (some 1)).sum) (j := 1000003) (by decide)
      have ml := mul_ii (i := 24489) (j := (i : Int)) (by decide) (by omega)
      refine ⟨(cutL ns none (some 1)).sum % 1000003 + 24489 * (i : Int) + 7487, ?_⟩
      have cond : (evB fun env => settle ((ap2 ltD (varP 1) (fun env => asP ((fun env => settle ((ap1 lenD (varP 0)) env)) env))) env)) (pF ns (i : Int) .un .un .un) = some (.ok false (pF ns (i : Int) .un .un .un)) :=
        ev_B (ev_settle (ev_ap2 (ev_varPv rfl) (ev_asP (ev_settle (ev_ap1 (ev_varPv rfl) de_d (len_scr ns)))) de_d de_d lt))
      refine Eq.trans (st_asg (r := .d (.int ((cutL ns none (some 1)).sum % 1000003 + 24489 * (i : Int) + 7487))) (e := pF ns (i : Int) .un .un .un) ?_) rfl
      exact ev_IfF cond <| ev_ap2E (ev_settle (ev_ap2E (ev_settle (ev_ap2 (ev_asP (ev_settle (ev_ap1 (ev_asP (ev_settleF (ev_slice (ev_varE rfl) rfl (ev_part ev_C) sl))) de_d sm))) (ev_asP ev_C) de_d de_d md)) (ev_settle (ev_ap2E ev_C (ev_varE rfl) ml)) (add_ii _ _))) ev_C (add_ii _ _)
  obtain ⟨cell, l1⟩ := l1
  obtain ⟨t, T, u, p1, p2, p3, hT, hT2⟩ := tens
  obtain ⟨A, hA⟩ : ∃ A, A = (if cell < 0 then -cell else cell) := ⟨_, rfl⟩
  have ab := abs_i cell
  rw [← hA] at ab
  have md := mod_ii (i := A) hT
  have gg := ge_ii A u
  have m0 := Int.emod_nonneg A (b := T) (by omega)
  have m1 := Int.emod_lt_of_pos A hT
  have hb : ∀ b : Bool, 0 ≤ (if b then (1 : Int) else 0) ∧ (if b then (1 : Int) else 0) ≤ 1 := fun b => by cases b <;> decide
  obtain ⟨B, hB⟩ : ∃ B : Int, B = (if decide (u ≤ A) then (1 : Int) else 0) := ⟨_, rfl⟩
  have b1 := b2i (decide (u ≤ A))
  rw [← hB] at b1
  have hB' := hb (decide (u ≤ A))
  rw [← hB] at hB'
  obtain ⟨M, hM⟩ : ∃ M, M = A % T := ⟨_, rfl⟩
  rw [← hM] at md m0 m1
  have hM2 : M.natAbs < 2 ^ 2000 := Nat.lt_of_le_of_lt (by omega) hT2
  have hB2 : B.natAbs < 2 ^ 2000 := Nat.lt_of_le_of_lt (show B.natAbs ≤ 1 by omega) (by decide)
  have ml := mul_big hM2 hB2
  have own0 : 0 ≤ M * B := Int.mul_nonneg m0 hB'.1
  have l2 : svAsg 3 (ap2E mulD (fun env => settle ((ap2 modD (fun env => asP ((fun env => settle ((ap1 intD (fun env => asP ((fun env => settle ((ap1 absD (varP 2)) env)) env))) env)) env)) (fun env => asP ((fun env => settle ((ap2 powD (fun env => asP ((fun env => settle ((ap2 powD (fun env => asP ((evC (.int 10)) env)) (fun env => asP ((evC (.int 60)) env))) env)) env)) (fun env => asP ((evC (.int 5)) env))) env)) env))) env)) (fun env => settle ((ap1 intD (fun env => asP ((fun env => settle ((ap2 geD (fun env => asP ((fun env => settle ((ap1 absD (varP 2)) env)) env)) (fun env => asP ((fun env => settle ((ap2 powD (fun env => asP ((evC (.int 10)) env)) (fun env => asP ((evC (.int 18)) env))) env)) env))) env)) env))) env)))
      (pF ns (i : Int) (.v (.int cell)) .un .un) = some (.nx (pF ns (i : Int) (.v (.int cell)) (.v (.int (M * B))) .un)) :=
    Eq.trans (st_asg (ev_ap2E (ev_settle (ev_ap2 (ev_asP (ev_settle (ev_ap1 (ev_asP (ev_settle (ev_ap1 (ev_varPv rfl) de_d ab))) de_d (int_i A)))) (ev_asP (ev_settle (ev_ap2 (ev_asP (ev_settle (ev_ap2 (ev_asP ev_C) (ev_asP ev_C) de_d de_d p1))) (ev_asP ev_C) de_d de_d p2))) de_d de_d md))
      (ev_settle (ev_ap1 (ev_asP (ev_settle (ev_ap2 (ev_asP (ev_settle (ev_ap1 (ev_varPv rfl) de_d ab))) (ev_asP (ev_settle (ev_ap2 (ev_asP ev_C) (ev_asP ev_C) de_d de_d p3))) de_d de_d gg))) de_d b1)) ml)) rfl
  have md2 := mod_ii (i := cell) (j := 2305843009213693951) (by decide)
  obtain ⟨s, hs⟩ : ∃ s, s = cell % 2305843009213693951 := ⟨_, rfl⟩
  have s0 : 0 ≤ s := by rw [hs]; exact Int.emod_nonneg _ (by decide)
  have s1 : s < 2305843009213693951 := by rw [hs]; exact Int.emod_lt_of_pos _ (by decide)
  rw [← hs] at md2
  have l3 : svAsg 4 (ap2 modD (fun env => asP ((fun env => settle ((ap1 intD (varP 2)) env)) env)) (fun env => asP ((evC (.int 2305843009213693951)) env)))
      (pF ns (i : Int) (.v (.int cell)) (.v (.int (M * B))) .un) = some (.nx (pF ns (i : Int) (.v (.int cell)) (.v (.int (M * B))) (.v (.int s)))) :=
    Eq.trans (st_asg (ev_ap2 (ev_asP (ev_settle (ev_ap1 (ev_varPv rfl) de_d (int_i cell)))) (ev_asP ev_C) de_d de_d md2)) rfl
  have k1 := mul_ii (i := s) (j := 107451) (by omega) (by decide)
  have k2 := mul_ii (i := 20975) (j := (i : Int)) (by decide) (by omega)
  have k3 := mul_ii (i := 20975 * (i : Int)) (j := (i : Int)) (by omega) (by omega)
  obtain ⟨x, hx⟩ : ∃ x, x = s * 107451 + 20975 * (i : Int) * (i : Int) + 9011 := ⟨_, rfl⟩
  have a1 := add_ii (s * 107451) (20975 * (i : Int) * (i : Int))
  have a2 := add_ii (s * 107451 + 20975 * (i : Int) * (i : Int)) 9011
  rw [← hx] at a2
  have m4 := mod_ii (i := x) (j := 2305843009213693921) (by decide)
  obtain ⟨y, hy⟩ : ∃ y, y = x % 2305843009213693921 := ⟨_, rfl⟩
  have y0 : 0 ≤ y := by rw [hy]; exact Int.emod_nonneg _ (by decide)
  have y1 : y < 2305843009213693921 := by rw [hy]; exact Int.emod_lt_of_pos _ (by decide)
  rw [← hy] at m4
  refine ⟨[.int (M * B), .int y, .int 0], ?_, M * B, y, 0, rfl, own0, y0, y1, by decide, by decide⟩
  unfold r__law_pot runP b__law_pot
  have st : startF n__law_pot (List.map Sl.v [.scr ns, .int (i : Int)]) = pF ns (i : Int) .un .un .un := rfl
  rw [st, st_seq l1 (st_seq l2 (st_seq l3 (st_retF (ev_lst (ev_cons (ev_varE rfl) (ev_cons (ev_settle (ev_ap2 (ev_asP (ev_settle (ev_ap1 (ev_asP (ev_settle (ev_ap2E (ev_settle (ev_ap2E (ev_settle (ev_ap2E (ev_varE rfl) ev_C k1)) (ev_settle (ev_ap2E (ev_settle (ev_ap2E ev_C (ev_varE rfl) k2)) (ev_varE rfl) k3)) a1)) ev_C a2))) de_d (int_i x)))) (ev_asP ev_C) de_d de_d m4)) (ev_cons ev_C ev_nil))) rfl))))]
  rfl
theorem cells_ok (ns : List Int) : ∃ n : Nat, n ≤ 2 ∧ r__law_cells [.scr ns, .int 2] = some (.ok (.fr (rngs 0 n))) := by
  have mn := min_ii 2 (ns.length : Int)
  obtain ⟨x, hx⟩ : ∃ x : Int, x = (if (ns.length : Int) < 2 then (ns.length : Int) else 2) := ⟨_, rfl⟩
  rw [← hx] at mn
  have hx2 : 0 ≤ x ∧ x ≤ 2 := by rw [hx]; split <;> omega
  have mx := max_ii 1 x
  obtain ⟨y, hy⟩ : ∃ y : Int, y = (if x > 1 then x else 1) := ⟨_, rfl⟩
  rw [← hy] at mx
  have hy2 : 0 ≤ y ∧ y ≤ 2 := by rw [hy]; split <;> omega
  refine ⟨y.toNat, by omega, ?_⟩
  unfold r__law_cells runP b__law_cells
  have st : startF n__law_cells (List.map Sl.v [.scr ns, .int 2]) = [.v (.scr ns), .v (.int 2)] := rfl
  have a : (fun env => settle ((ap2E max2D (evC (.int 1)) (fun env => settle ((ap2E min2D (varE 1) (fun env => settle ((ap1 lenD (varP 0)) env))) env))) env)) [.v (.scr ns), .v (.int 2)] = some (.ok (.int y) [.v (.scr ns), .v (.int 2)]) :=
    ev_settle (ev_ap2E ev_C (ev_settle (ev_ap2E (ev_varE rfl) (ev_settle (ev_ap1 (ev_varPv rfl) de_d (len_scr ns))) mn)) mx)
  have e : (evLRng (fun env => settle ((ap2E max2D (evC (.int 1)) (fun env => settle ((ap2E min2D (varE 1) (fun env => settle ((ap1 lenD (varP 0)) env))) env))) env))) [.v (.scr ns), .v (.int 2)] = some (.ok (.fr (rngs 0 y.toNat)) [.v (.scr ns), .v (.int 2)]) := by
    unfold evLRng
    rw [a]
    simp only [bindR_ok]
    rw [if_pos ⟨hy2.1, by omega⟩]
  rw [st, st_retF e]
  rfl
theorem ev_callQo {i n : Nat} {f : List D → List D → Option (FR × List D)} {g : Ev (List D)} {env e1 : Fm} {ps pds ds qds : List D} {v : FV} (h0 : env[i]? = some (.own ps)) (hg : g env = some (.ok ds e1)) (hn : ds.length + 1 = n) (h1 : e1[i]? = some (.own pds)) (hf : f pds ds = some (.ok v, qds)) :
    evCallQ i f n g env = some (.ok v (e1.set i (.own qds))) := by
  have w0 : wrAt env i = some (.own ps, ps) := by unfold wrAt; rw [h0]; rfl
  have w1 : wrAt e1 i = some (.own pds, pds) := by unfold wrAt; rw [h1]; rfl
  unfold evCallQ
  rw [w0, hg]
  simp only [bindR_ok]
  rw [if_pos hn, w1]
  simp only [hf, wrSet]
abbrev wF (ns : List Int) (s1 s2 s3 : Sl) : Fm := [.v (.scr ns), s1, s2, s3]
theorem all_true : ∀ {ys : List D}, (∀ y ∈ ys, y = .bl true) → allD (.lst ys) = some (.d (.bl true)) := fun {ys} h => by
  have e : ys = (List.replicate ys.length true).map D.bl := by
    rw [List.map_replicate]
    exact List.eq_replicate_iff.mpr ⟨rfl, h⟩
  rw [e]
  show (boolsOf ((List.replicate ys.length true).map D.bl)).map (fun bs => FV.d (.bl (bs.all id))) = _
  rw [boolsOf_map]
  simp
theorem law_2 (ns : List Int) {i : Nat} (hi : i ≤ 1) (s2 : Sl) : ∃ s2', l_law_2 (wF ns (.v (.int (i : Int))) s2 .un) = some (.nx (wF ns (.v (.int (i : Int))) s2' .un)) := by
  obtain ⟨p, e1, P⟩ := pot_ok ns hi
  have a1 : svAsg 2 (evCallP r__law_pot 2 (evCons (varE 0) (evCons (varE 1) evNil))) (wF ns (.v (.int (i : Int))) s2 .un) = some (.nx (wF ns (.v (.int (i : Int))) (.own p) .un)) :=
    Eq.trans (st_asg (ev_callP (ev_cons (ev_varE rfl) (ev_cons (ev_varE rfl) ev_nil)) rfl e1)) rfl
  have rg6 : ∀ e : Fm, evRng1 (evC (.int 6)) e = some (.ok (rngs 0 6) e) := fun e => rng_of (n := 6) rfl (by decide)
  obtain ⟨ys, e2, l2, ly, hy, q, rfl, P2⟩ := loopC_inv2 (N := 6) (Inv := fun k e => ∃ q, e = wF ns (.v (.int (i : Int))) (.own q) .un ∧ Pot (200 * k) q) (P := fun y => y = .bl true) (i := 3) (elt := e_law_1) (ds := rngs 0 6)
    (fun k hk x hx e h => by
      obtain ⟨q, rfl, P⟩ := h
      obtain ⟨q', e, P'⟩ := right_ok P (by omega)
      refine ⟨.bl true, wF ns (.v (.int (i : Int))) (.own q') (.v x), ?_, rfl, q', rfl, P'.mono (by omega)⟩
      exact Eq.trans (ev_settle (ev_callQo rfl ev_nil rfl rfl e)) rfl) [] 0 _ (by rw [rngs_len]; decide) ⟨p, rfl, P⟩ (by rw [rngs_len]; decide)
  rw [List.nil_append] at l2
  have w3 : wipeF (wF ns (.v (.int (i : Int))) (.own p) .un) [3] = wF ns (.v (.int (i : Int))) (.own p) .un := rfl
  have m3 : mend (wF ns (.v (.int (i : Int))) (.own p) .un) (wF ns (.v (.int (i : Int))) (.own q) .un) [3] = wF ns (.v (.int (i : Int))) (.own q) .un := rfl
  have cp := ev_comp (vs := [3]) (rg6 (wF ns (.v (.int (i : Int))) (.own p) .un)) (by rw [w3]; exact l2)
  rw [m3] at cp
  refine ⟨.own q, ?_⟩
  unfold l_law_2
  exact st_seq a1 (st_iff (ev_notF (ev_Test (ev_asP (ev_settle (ev_ap1 (ev_asP (ev_settleF cp)) de_d (all_true hy)))) de_d rfl)) st_nil)
theorem law_ok (ns : List Int) : r_law [.scr ns] = some (.ok (.d (.bl true))) := by
  obtain ⟨n, hn, e⟩ := cells_ok ns
  have it : evSeq false (fun env => settle ((evCallP r__law_cells 2 (evCons (varE 0) (evCons (evC (.int 2)) evNil))) env)) (wF ns .un .un .un) = some (.ok (rngs 0 n) (wF ns .un .un .un)) :=
    ev_seqL (ev_settleF (ev_callP (ev_cons (ev_varE rfl) (ev_cons ev_C ev_nil)) rfl e))
  obtain ⟨e2, l2, s1, s2, rfl⟩ := loopS_inv (Inv := fun _ e => ∃ s1 s2, e = wF ns s1 s2 .un) (g := putN 1) (body := l_law_2) (ds := rngs 0 n)
    (fun k x hx e h => by
      obtain ⟨s1, s2, rfl⟩ := h
      obtain ⟨j, hj, rfl⟩ := mem_rngs hx
      obtain ⟨s2', r⟩ := law_2 ns (i := j) (by omega) s2
      exact ⟨wF ns (.v (.int (j : Int))) s2 .un, _, rfl, r, _, _, rfl⟩) 0 (wF ns .un .un .un) ⟨_, _, rfl⟩
  unfold r_law b_law
  refine runP_rt (e := wF ns s1 s2 .un) (st_seq ?_ (st_ret (ev_asF ev_C)))
  show svFor _ _ _ (wF ns .un .un .un) = _
  rw [svFor_eq it, l2]
end Nol.K44

set_option Elab.async false
set_option linter.all false
set_option maxRecDepth 100000
set_option maxHeartbeats 4000000
/-! k44: the join, printed by J44.py. -/
namespace Nol.K44
open PySem PySem.Spec PyProof.Rows L2 Nol
def clsDef (st : Stmt) (i : Nat) : Stmt := match st with
  | .ClassDef (body := b) .. => b.getD i (.Pass ⟨0, 0, 0, 0⟩)
  | s => s
abbrev s_init : Stmt := clsDef (topS 1) 0
abbrev s_heard : Stmt := topS 25
abbrev PL : Program := PySem.Challenge.rw_nolotmore_k44_whole_four_numbers.prog
def scB (N P : List Str) (sc : Scope) : Bool :=
  decide (sc.kind = .function) && !sc.isCoroutine && !sc.isGenerator && decide N.Nodup && decide (N.take P.length = P) && P.all (fun x => decide (sc.names.lookup x = some .local) || decide (sc.names.lookup x = some .cell)) && sc.names.all (fun y => !decide (y.2 = .free))
theorem scB_ok {N P : List Str} {sc : Scope} (h : scB N P sc = true) : FnScope N P sc := by
  unfold scB at h
  simp only [Bool.and_eq_true, Bool.not_eq_true', decide_eq_true_eq, List.all_eq_true, Bool.or_eq_true, decide_eq_false_iff_not] at h
  obtain ⟨⟨⟨⟨⟨⟨h1, h2⟩, h3⟩, h4⟩, h5⟩, h6⟩, h7⟩ := h
  exact ⟨h1, h2, h3, h4, h5, h6, h7⟩
theorem sc_is_integer : FnScope n_is_integer ["value"] (defScope s_is_integer) := scB_ok (by decide +kernel)
theorem ar_is_integer : Args0 "is_integer" s_is_integer ["value"] := ⟨fun _ _ _ _ _ _ us hl => match us, hl with | [_], _ => rfl, fun _ _ _ _ _ _ us hl => match us, hl with | [_], _ => rfl⟩
theorem sc_is_between : FnScope n_is_between ["value", "least", "most"] (defScope s_is_between) := scB_ok (by decide +kernel)
theorem ar_is_between : Args0 "is_between" s_is_between ["value", "least", "most"] := ⟨fun _ _ _ _ _ _ us hl => match us, hl with | [_, _, _], _ => rfl, fun _ _ _ _ _ _ us hl => match us, hl with | [_, _, _], _ => rfl⟩
theorem sc_are_numbers : FnScope n_are_numbers ["value", "many"] (defScope s_are_numbers) := scB_ok (by decide +kernel)
theorem ar_are_numbers : Args0 "are_numbers" s_are_numbers ["value", "many"] := ⟨fun _ _ _ _ _ _ us hl => match us, hl with | [_, _], _ => rfl, fun _ _ _ _ _ _ us hl => match us, hl with | [_, _], _ => rfl⟩
theorem sc_check_four : FnScope n_check_four ["a", "b", "c", "d"] (defScope s_check_four) := scB_ok (by decide +kernel)
theorem ar_check_four : Args0 "check_four" s_check_four ["a", "b", "c", "d"] := ⟨fun _ _ _ _ _ _ us hl => match us, hl with | [_, _, _, _], _ => rfl, fun _ _ _ _ _ _ us hl => match us, hl with | [_, _, _, _], _ => rfl⟩
theorem sc_is_more : FnScope n_is_more ["a", "b", "c", "d", "pair"] (defScope s_is_more) := scB_ok (by decide +kernel)
theorem ar_is_more : Args0 "is_more" s_is_more ["a", "b", "c", "d", "pair"] := ⟨fun _ _ _ _ _ _ us hl => match us, hl with | [_, _, _, _, _], _ => rfl, fun _ _ _ _ _ _ us hl => match us, hl with | [_, _, _, _, _], _ => rfl⟩
theorem sc_fourfold : FnScope n_fourfold ["a", "b", "c", "d"] (defScope s_fourfold) := scB_ok (by decide +kernel)
theorem ar_fourfold : Args0 "fourfold" s_fourfold ["a", "b", "c", "d"] := ⟨fun _ _ _ _ _ _ us hl => match us, hl with | [_, _, _, _], _ => rfl, fun _ _ _ _ _ _ us hl => match us, hl with | [_, _, _, _], _ => rfl⟩
theorem sc_shows_fourfold : FnScope n_shows_fourfold ["a", "b", "c", "d", "value"] (defScope s_shows_fourfold) := scB_ok (by decide +kernel)
theorem ar_shows_fourfold : Args0 "shows_fourfold" s_shows_fourfold ["a", "b", "c", "d", "value"] := ⟨fun _ _ _ _ _ _ us hl => match us, hl with | [_, _, _, _, _], _ => rfl, fun _ _ _ _ _ _ us hl => match us, hl with | [_, _, _, _, _], _ => rfl⟩
theorem sc__law_pot : FnScope n__law_pot ["script", "place"] (defScope s__law_pot) := scB_ok (by decide +kernel)
theorem ar__law_pot : Args0 "_law_pot" s__law_pot ["script", "place"] := ⟨fun _ _ _ _ _ _ us hl => match us, hl with | [_, _], _ => rfl, fun _ _ _ _ _ _ us hl => match us, hl with | [_, _], _ => rfl⟩
theorem sc__law_take : FnScope n__law_take ["pot", "upto"] (defScope s__law_take) := scB_ok (by decide +kernel)
theorem ar__law_take : Args0 "_law_take" s__law_take ["pot", "upto"] := ⟨fun _ _ _ _ _ _ us hl => match us, hl with | [_, _], _ => rfl, fun _ _ _ _ _ _ us hl => match us, hl with | [_, _], _ => rfl⟩
theorem sc__law_of : FnScope n__law_of ["pot", "some"] (defScope s__law_of) := scB_ok (by decide +kernel)
theorem ar__law_of : Args0 "_law_of" s__law_of ["pot", "some"] := ⟨fun _ _ _ _ _ _ us hl => match us, hl with | [_, _], _ => rfl, fun _ _ _ _ _ _ us hl => match us, hl with | [_, _], _ => rfl⟩
theorem sc__law_cells : FnScope n__law_cells ["script", "most"] (defScope s__law_cells) := scB_ok (by decide +kernel)
theorem ar__law_cells : Args0 "_law_cells" s__law_cells ["script", "most"] := ⟨fun _ _ _ _ _ _ us hl => match us, hl with | [_, _], _ => rfl, fun _ _ _ _ _ _ us hl => match us, hl with | [_, _], _ => rfl⟩
theorem sc__law_bent : FnScope n__law_bent ["pot", "value"] (defScope s__law_bent) := scB_ok (by decide +kernel)
theorem ar__law_bent : Args0 "_law_bent" s__law_bent ["pot", "value"] := ⟨fun _ _ _ _ _ _ us hl => match us, hl with | [_, _], _ => rfl, fun _ _ _ _ _ _ us hl => match us, hl with | [_, _], _ => rfl⟩
theorem sc__law_bad : FnScope n__law_bad ["a", "b", "c", "d"] (defScope s__law_bad) := scB_ok (by decide +kernel)
theorem ar__law_bad : Args0 "_law_bad" s__law_bad ["a", "b", "c", "d"] := ⟨fun _ _ _ _ _ _ us hl => match us, hl with | [_, _, _, _], _ => rfl, fun _ _ _ _ _ _ us hl => match us, hl with | [_, _, _, _], _ => rfl⟩
theorem sc__law_numbers : FnScope n__law_numbers ["pot", "many", "most"] (defScope s__law_numbers) := scB_ok (by decide +kernel)
theorem ar__law_numbers : Args0 "_law_numbers" s__law_numbers ["pot", "many", "most"] := ⟨fun _ _ _ _ _ _ us hl => match us, hl with | [_, _, _], _ => rfl, fun _ _ _ _ _ _ us hl => match us, hl with | [_, _, _], _ => rfl⟩
theorem sc__law_drawn : FnScope n__law_drawn ["pot"] (defScope s__law_drawn) := scB_ok (by decide +kernel)
theorem ar__law_drawn : Args0 "_law_drawn" s__law_drawn ["pot"] := ⟨fun _ _ _ _ _ _ us hl => match us, hl with | [_], _ => rfl, fun _ _ _ _ _ _ us hl => match us, hl with | [_], _ => rfl⟩
theorem ar__law_heard : Args0 "_law_heard" s_heard ["call"] := ⟨fun _ _ _ _ _ _ us hl => match us, hl with | [_], _ => rfl, fun _ _ _ _ _ _ us hl => match us, hl with | [_], _ => rfl⟩
theorem sc__law_right : FnScope n__law_right ["pot"] (defScope s__law_right) := scB_ok (by decide +kernel)
theorem ar__law_right : Args0 "_law_right" s__law_right ["pot"] := ⟨fun _ _ _ _ _ _ us hl => match us, hl with | [_], _ => rfl, fun _ _ _ _ _ _ us hl => match us, hl with | [_], _ => rfl⟩
theorem sc_law : FnScope n_law ["script"] (defScope s_law) := scB_ok (by decide +kernel)
theorem ar_law : Args0 "law" s_law ["script"] := ⟨fun _ _ _ _ _ _ us hl => match us, hl with | [_], _ => rfl, fun _ _ _ _ _ _ us hl => match us, hl with | [_], _ => rfl⟩
theorem init_at : InitAt PL s_init "ClubError.__init__" where
  args := ⟨rfl, _, _, rfl, rfl⟩
  body := ⟨_, _, _, _, _, _, _, _, _, _, rfl, fun env => ⟨_, rfl⟩⟩
  scope := ⟨rfl, rfl, rfl, by decide +kernel, (fun z h => by
    have h : List.lookup z [(("self" : Str), NameKind.local), ("value", .local), ("__class__", .free), ("super", .globalImplicit)] = some .free := h
    simp only [List.lookup] at h
    split at h
    · cases h
    · split at h
      · cases h
      · split at h
        · rename_i e
          exact beq_iff_eq.mp e
        · split at h
          · cases h
          · cases h), rfl, rfl, rfl, rfl⟩
  bind := fun _ _ _ _ _ _ _ us hl => match us, hl with | [_, _], _ => rfl
  top := by decide +kernel
theorem lawG {w : World} {K : PySem.W.Frag} {mg : Str → Option Value} {fa : Addr} {h : Heap} {C CE fI cc PP aW : Addr} {qual : Str}
    {cd_is_integer : Value}
    {cd_is_between : Value}
    {cd_are_numbers : Value}
    {cd_check_four : Value}
    {cd_is_more : Value}
    {cd_fourfold : Value}
    {cd_shows_fourfold : Value}
    {cd__law_pot : Value}
    {cd__law_take : Value}
    {cd__law_of : Value}
    {cd__law_cells : Value}
    {cd__law_bent : Value}
    {cd__law_bad : Value}
    {cd__law_numbers : Value}
    {cd__law_drawn : Value}
    {cd__law_heard : Value}
    {cd_law : Value}
    {e : Value} {dd : Option Addr} {us : Array Value} {sl : Array (Option Value)} {tH tF tM t1 t2 t3 t4 : Tok} {dW : Option Addr} {nW : Nat} {sW : Array (Option Value)}
    (X : K.In h) (Gm : h.Ns mainGlobals mg) (hfa : mg "law" = some (.ref fa)) (nb : noneOf K = true)
    (D_is_integer : DefAt K mg "is_integer" s_is_integer cd_is_integer)
    (D_is_between : DefAt K mg "is_between" s_is_between cd_is_between)
    (D_are_numbers : DefAt K mg "are_numbers" s_are_numbers cd_are_numbers)
    (D_check_four : DefAt K mg "check_four" s_check_four cd_check_four)
    (D_is_more : DefAt K mg "is_more" s_is_more cd_is_more)
    (D_fourfold : DefAt K mg "fourfold" s_fourfold cd_fourfold)
    (D_shows_fourfold : DefAt K mg "shows_fourfold" s_shows_fourfold cd_shows_fourfold)
    (D__law_pot : DefAt K mg "_law_pot" s__law_pot cd__law_pot)
    (D__law_take : DefAt K mg "_law_take" s__law_take cd__law_take)
    (D__law_of : DefAt K mg "_law_of" s__law_of cd__law_of)
    (D__law_cells : DefAt K mg "_law_cells" s__law_cells cd__law_cells)
    (D__law_bent : DefAt K mg "_law_bent" s__law_bent cd__law_bent)
    (D__law_bad : DefAt K mg "_law_bad" s__law_bad cd__law_bad)
    (D__law_numbers : DefAt K mg "_law_numbers" s__law_numbers cd__law_numbers)
    (D__law_drawn : DefAt K mg "_law_drawn" s__law_drawn cd__law_drawn)
    (D__law_heard : DefAt K mg "_law_heard" s_heard cd__law_heard)
    (D__law_right : DefAt K mg "_law_right" s__law_right (.ref cc))
    (D_law : DefAt K mg "law" s_law cd_law)
    (lcc : K.lookup cc = some ⟨e, dd, .fields us, sl⟩) (u11 : us[11]? = some (.ref PP)) (nPP : K.lookup PP = none) (E : ErrAt K mg "BadNumbers" C CE fI) (T : ∃ fd, InitTx PL K mg CE fI fd s_init qual ∧ Binds K fd ["self", "value"] [])
    (mCE : PySem.W.nsIn K mainGlobals "ClubError" = some (some (.ref CE))) (ex : PySem.W.exmOne K (.ref C) (.ref CE) = some true) (cH : PySem.W.nsIn K mainGlobals "HOLDS" = some (some (.str "holds" tH))) (cF : PySem.W.nsIn K mainGlobals "FAILS" = some (some (.str "fails" tF))) (cM : PySem.W.nsIn K mainGlobals "MOST_NUMBER" = some (some (.int 999 tM)))
    (cW : PySem.W.nsIn K mainGlobals "WIDTHS" = some (some (.ref aW))) (lW : K.lookup aW = some ⟨.type "tuple", dW, .seq #[.int 2 t1, .int 4 t2, .int 8 t3, .int 16 t4] nW, sW⟩) :
    ∃ cs, TabsOf K ["_law_right"] cs mg ∧ LawAtG true PySem.Challenge.rw_nolotmore_k44_whole_four_numbers w K 10 63 "script" mg fa h cs := by
  obtain ⟨fdI, T, B⟩ := T
  obtain ⟨G, hG⟩ : ∃ G : Gx, G = ⟨K, fun y => if y = "BadNumbers" then some C else none, fun _ => true, fun _ => ["value"], [(PP, "_law_right.<locals>.<lambda>")]⟩ := ⟨_, rfl⟩
  have hK : K = G.K := by rw [hG]
  have hC : G.cls "BadNumbers" = some C := by
    rw [hG]
    show (if ("BadNumbers" : Str) = "BadNumbers" then some C else none) = some C
    rw [if_pos rfl]
  have hx : ∀ y, G.exc y = true := fun y => by rw [hG]
  have hT : G.T = [(PP, ("_law_right.<locals>.<lambda>" : Str))] := by rw [hG]
  have hcls : ∀ c C', G.cls c = some C' → G.exc c = true → PySem.W.exmOne K (.ref C') (.ref CE) = some true := fun c C' h1 _ => by
    rw [hG] at h1
    have h1 : (if c = "BadNumbers" then some C else none) = some C' := h1
    by_cases hc : c = "BadNumbers"
    · rw [if_pos hc] at h1
      cases h1
      exact ex
    · rw [if_neg hc] at h1
      cases h1
  clear hG
  have hbl := noneOf_ok X Gm nb
  have kH := PySem.W.mg_of X Gm cH
  have kF := PySem.W.mg_of X Gm cF
  have kM := PySem.W.mg_of X Gm cM
  have kW := PySem.W.mg_of X Gm cW
  have kCE := PySem.W.mg_of X Gm mCE
  have wid : ∀ {X : Cx} {pos : Pos}, X.K = K → X.mg = mg → Gl X "WIDTHS" → DP G X (.Name "WIDTHS" pos) k_WIDTHS := fun {X pos} h1 h2 h3 => by
    refine dp_globT (a := aW) (vs := [.int 2, .int 4, .int 8, .int 16]) (h1.trans hK) h3 (by rw [h2]; exact kW) (fun H => .inr ⟨⟨.type "tuple", dW, .seq #[.int 2 t1, .int 4 t2, .int 8 t3, .int 16 t4] nW, sW⟩, #[.int 2 t1, .int 4 t2, .int 8 t3, .int 16 t4], nW, by rw [← hK]; exact lW, rfl, rfl, (show 4 ≤ sizeLine from by decide), .cons ⟨_, rfl⟩ (.cons ⟨_, rfl⟩ (.cons ⟨_, rfl⟩ (.cons ⟨_, rfl⟩ .nil)))⟩) fun Ex H => ?_
    exact Are.cons (by unfold Is; rfl) (Are.cons (by unfold Is; rfl) (Are.cons (by unfold Is; rfl) (Are.cons (by unfold Is; rfl) Are.nil)))
  obtain ⟨fL, fdL, FL, _, mL, kVL, docL, pmL, anL, ctL, eL⟩ := D_law.fun
  rw [hfa] at mL
  cases mL
  have ok : ∀ base : Heap, LamX.TabB base mg cc PP → FnG true PL w K mg base 10 fa fdL ["script"] (spP G r_law 1) := fun base TB => by
    have eB : ErrOk G PL w K mg base "BadNumbers" := E.ok T B hC (hx _)
    have hear : HearOk G PL w K mg base "_law_heard" := by
      refine hearOk_of (xe := "ClubError") D__law_heard rfl ar__law_heard hcls fun X g q h1 h2 => ?_
      rw [← h1]
      exact hears (xe := "ClubError") (CE := CE) (by decide) (by rw [h2]; exact kCE) (by decide) (fun _ => rfl) (fun env => sw_none env) (fun _ => rfl) (fun _ => rfl)
    have o1 := D_is_integer.okP (w := w) (P := PL) (base := base) (gf := false) ar_is_integer sc_is_integer hK hbl fun f fd _ => w_is_integer hK
    have o2 := D_is_between.okP ar_is_between sc_is_between hK hbl fun f fd _ => w_is_between o1 hK
    have o3 := D_are_numbers.okP ar_are_numbers sc_are_numbers hK hbl fun f fd _ => w_are_numbers o2 kM hK
    have o4 := D_check_four.okP ar_check_four sc_check_four hK hbl fun f fd _ => w_check_four o3 wid eB hK
    have o5 := D_is_more.okP (w := w) (P := PL) (base := base) (gf := false) ar_is_more sc_is_more hK hbl fun f fd _ => w_is_more hK
    have o6 := D_fourfold.okP ar_fourfold sc_fourfold hK hbl fun f fd _ => w_fourfold o4 o5 kH kF hK
    have o7 := D_shows_fourfold.okP ar_shows_fourfold sc_shows_fourfold hK hbl fun f fd _ => w_shows_fourfold o2 o4 o5 o6 kH kF hK
    have p1 := D__law_pot.okP (w := w) (P := PL) (base := base) (gf := false) ar__law_pot sc__law_pot hK hbl fun f fd _ => w__law_pot hK
    have p2 := D__law_take.okQ (w := w) (P := PL) (base := base) (gf := false) ar__law_take sc__law_take hK hbl fun f fd _ => w__law_take hK
    have p3 := D__law_of.okQ ar__law_of sc__law_of hK hbl fun f fd _ => w__law_of p2 hK
    have p4 := D__law_cells.okP (w := w) (P := PL) (base := base) (gf := false) ar__law_cells sc__law_cells hK hbl fun f fd _ => w__law_cells hK
    have b0 : DefOk false PL w K mg base 0 "_law_bent" ["pot", "value"] (spQ G (r__law_bent 0) 2) := D__law_bent.ok0 ar__law_bent
    have b1 : DefOk false PL w K mg base 3 "_law_bent" ["pot", "value"] (spQ G (r__law_bent 1) 2) := D__law_bent.okQ ar__law_bent sc__law_bent hK hbl fun f fd _ => w__law_bent p2 p3 b0 hK
    have b2 : DefOk false PL w K mg base 6 "_law_bent" ["pot", "value"] (spQ G (r__law_bent 2) 2) := D__law_bent.okQ ar__law_bent sc__law_bent hK hbl fun f fd _ => w__law_bent p2 p3 b1 hK
    have p5 := D__law_bad.okP (w := w) (P := PL) (base := base) (gf := false) ar__law_bad sc__law_bad hK hbl fun f fd _ => w__law_bad hK
    have p6 := D__law_numbers.okQ ar__law_numbers sc__law_numbers hK hbl fun f fd _ => w__law_numbers p2 hK
    have p7 := D__law_drawn.okQ ar__law_drawn sc__law_drawn hK hbl fun f fd _ => w__law_drawn p2 p3 p6 hK
    have p8 := D__law_right.okQ ar__law_right sc__law_right hK hbl fun f fd hc => w__law_right o6 o7 p2 p3 b2 p5 p7 eB hear (fun c _ _ _ => hx c) TB hc (by rw [hT]; exact List.mem_singleton.mpr rfl) (fun p hp _ => by rw [hT] at hp; rw [List.mem_singleton.mp hp]) hK
    exact fnP_ok FL sc_law hK hbl (w_law p1 p4 p8 hK)
  obtain ⟨fR, ocR, odR, kVR, docR, pmR, anR, ctR, oslR, lR, -, -, mR⟩ := D__law_right.ex
  refine ⟨[(cc, PP)], ⟨rfl, fun i y p h1 h2 => ?_⟩, fdL, spP G r_law 1, fun p hp => by rw [List.mem_singleton.mp hp]; exact nPP, fun s u => .of_eq (by rw [eL]; exact ar_law.b _ _ _ _ _ _ [u] rfl), fun H a ns _ _ ht hS => ?_, fun base _ _ ht => ok base (ht _ (List.mem_singleton.mpr rfl))⟩
  · match i, h1, h2 with
    | 0, h1, h2 =>
      cases h1
      cases h2
      exact ⟨fR, _, _, e, dd, us, sl, mR, lR, rfl, rfl, lcc, u11⟩
  · refine spP_law (law_ok ns) (fun p hp => ?_) hK hS
    rw [hT] at hp
    rw [List.mem_singleton.mp hp]
    exact ht (cc, PP) (List.mem_singleton.mpr rfl)
end Nol.K44

open PySem PySem.W PyProof.Rows
set_option maxRecDepth 100000 in
set_option maxHeartbeats 0 in
theorem PySem.Challenge.cw_nolotmore_k44_whole_four_numbers_holds : PySem.Challenge.rw_nolotmore_k44_whole_four_numbers.Holds := by
  w_on; o_law; k_head; (case hw => w_witness2)
  k_fill
  refine Nol.walkG (gf := true) (l := PySem.Challenge.rw_nolotmore_k44_whole_four_numbers) (n := 63) (k := 10) (x := "script") ["_law_right"] rfl (by decide) rfl ⟨rfl, by decide, by decide⟩ ?hxs (fun w h Y => PySem.W.km_in_of Y) ?F
  case hxs => exact fun y hy => by rw [List.mem_singleton.mp hy]; rfl
  case F =>
    intro w mg fa h KX G hmg
    refine' Nol.K44.lawG KX G hmg ?nb ?D_is_integer ?D_is_between ?D_are_numbers ?D_check_four ?D_is_more ?D_fourfold ?D_shows_fourfold ?D__law_pot ?D__law_take ?D__law_of ?D__law_cells ?D__law_bent ?D__law_bad ?D__law_numbers ?D__law_drawn ?D__law_heard ?D__law_right ?D_law ?lcc ?u11 ?nPP ?E ?T ?mCE ?ex ?cH ?cF ?cM ?cW ?lW
    (case nb => kernel_rfl)
    (case mCE => k_is)
    (case D_is_integer => (refine' Nol.defAt_mk KX G ?a ?l ?c ?k; (case a => k_is); (case l => k_is); (case c => k_is); (case k => k_is)))
    (case D_is_between => (refine' Nol.defAt_mk KX G ?a ?l ?c ?k; (case a => k_is); (case l => k_is); (case c => k_is); (case k => k_is)))
    (case D_are_numbers => (refine' Nol.defAt_mk KX G ?a ?l ?c ?k; (case a => k_is); (case l => k_is); (case c => k_is); (case k => k_is)))
    (case D_check_four => (refine' Nol.defAt_mk KX G ?a ?l ?c ?k; (case a => k_is); (case l => k_is); (case c => k_is); (case k => k_is)))
    (case D_is_more => (refine' Nol.defAt_mk KX G ?a ?l ?c ?k; (case a => k_is); (case l => k_is); (case c => k_is); (case k => k_is)))
    (case D_fourfold => (refine' Nol.defAt_mk KX G ?a ?l ?c ?k; (case a => k_is); (case l => k_is); (case c => k_is); (case k => k_is)))
    (case D_shows_fourfold => (refine' Nol.defAt_mk KX G ?a ?l ?c ?k; (case a => k_is); (case l => k_is); (case c => k_is); (case k => k_is)))
    (case D__law_pot => (refine' Nol.defAt_mk KX G ?a ?l ?c ?k; (case a => k_is); (case l => k_is); (case c => k_is); (case k => k_is)))
    (case D__law_take => (refine' Nol.defAt_mk KX G ?a ?l ?c ?k; (case a => k_is); (case l => k_is); (case c => k_is); (case k => k_is)))
    (case D__law_of => (refine' Nol.defAt_mk KX G ?a ?l ?c ?k; (case a => k_is); (case l => k_is); (case c => k_is); (case k => k_is)))
    (case D__law_cells => (refine' Nol.defAt_mk KX G ?a ?l ?c ?k; (case a => k_is); (case l => k_is); (case c => k_is); (case k => k_is)))
    (case D__law_bent => (refine' Nol.defAt_mk KX G ?a ?l ?c ?k; (case a => k_is); (case l => k_is); (case c => k_is); (case k => k_is)))
    (case D__law_bad => (refine' Nol.defAt_mk KX G ?a ?l ?c ?k; (case a => k_is); (case l => k_is); (case c => k_is); (case k => k_is)))
    (case D__law_numbers => (refine' Nol.defAt_mk KX G ?a ?l ?c ?k; (case a => k_is); (case l => k_is); (case c => k_is); (case k => k_is)))
    (case D__law_drawn => (refine' Nol.defAt_mk KX G ?a ?l ?c ?k; (case a => k_is); (case l => k_is); (case c => k_is); (case k => k_is)))
    (case D__law_heard => (refine' Nol.defAt_mk KX G ?a ?l ?c ?k; (case a => k_is); (case l => k_is); (case c => k_is); (case k => k_is)))
    (case D__law_right => (refine' Nol.defAt_mk KX G ?a ?l ?c ?k; (case a => k_is); (case l => k_is); (case c => k_is); (case k => k_is)))
    (case D_law => (refine' Nol.defAt_mk KX G ?a ?l ?c ?k; (case a => k_is); (case l => k_is); (case c => k_is); (case k => k_is)))
    (case lcc => k_is)
    (case u11 => rfl)
    (case nPP => kernel_rfl)
    (case E => (refine' Nol.errAt_mk KX G ?a ?i ?t ?l ?rv ?sa ?exC ?tyC ?kC ?su ?nx ?ve ?nv ?ga ?gg ?hd; (case a => k_is); (case i => k_is); (case t => k_is); (case l => k_is); (case rv => decide +kernel); (case sa => k_is); (case exC => k_is); (case tyC => k_is); (case kC => k_is); (case su => k_is); (case nx => kernel_rfl); (case ve => k_is); (case nv => k_is); (case ga => k_is); (case gg => k_is); (case hd => k_is)))
    (case ex => kernel_rfl)
    (case cH => k_is)
    (case cF => k_is)
    (case cM => k_is)
    (case cW => k_is)
    (case lW => k_is)
    (case T => (refine' Nol.initTx_mk KX G Nol.K44.init_at ?l ?c ?lc ?v2 ?fl ?lcc2 ?cD ?su ?th; (case l => k_is); (case c => k_is); (case lc => k_is); (case v2 => rfl); (case fl => rfl); (case lcc2 => k_is); (case cD => k_is); (case su => k_is); (case th => k_is)))

