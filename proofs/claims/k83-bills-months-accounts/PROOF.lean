import PyProof.Rows.All
import Wide.All
import OpenK.AllK
import Wide.FinOn
import HandS.ForMost
import HandS.ForExc
import HandS.CallSlots
import HandS.Lambda
import HandS.TupAny
import HandS.TupMul
import HandS.Wide
import HandS.Style
import HandS.Flow
import HandS.IsInst
import HandS.Gcd
import KE.KMathG
import KE.GoesEnum
import HandS.Dict
import HandS.SetKeys
import HandS.SortInts
import HandS.Star
import HandS.Conv
import HandS.HeadWalk
import HandS.ExcCtx
import HandS.SetFor
import HandS.Strs
import HandS.Defaults
import HandS.HeadHook2
import KE.KSuper
import KE.KExcSuper
import HandS.ExcInit
import HandS.HotCalls
import KE.KExcIs
import HandS.ExcField
import HandS.Text
import HandS.Head2
import HandS.Head3
import HandS.HeadHook4
import PySem.Challenge.RW_pricesalone_k83_bills_months_and_account
section MPa
set_option Elab.async false
set_option linter.all false
set_option maxRecDepth 100000
/-! MPa: plain data, the store, what relates them to the abstract heap, the readings of the interpreter. -/
namespace MP
open PySem L2

/-- plain data: what is immutable as it is, what may change by its handle -/
inductive D where
  | non | bl (b : Bool) | int (i : Int) | str (x : Str) | tup (ds : List D) | ref (n : Nat) | scr
/-- what a handle's object holds -/
inductive O where
  | lst (ds : List D) | dct (kvs : List (Key × D)) | ins (c : Nat) (fs : List (Str × D)) | dcF (kvs : List (Key × D))
/-- it may be written (a dict that is walked may not) -/
def O.opn : O → Bool
  | .dcF _ => false
  | _ => true
abbrev Sto := List O
/-- how a step ends: a value; an exception of the class c that keeps w; or nothing is told -/
inductive Rs (α : Type) where
  | ok (a : α) (S : Sto) | exc (c : Nat) (w : D) (S : Sto) | bad
def Rs.bind {α β : Type} (r : Rs α) (f : α → Sto → Rs β) : Rs β := match r with
  | .ok a S => f a S
  | .exc c w S => .exc c w S
  | .bad => .bad
abbrev Rho := List (Option D)

/-- the classes of the program's own objects, by number; the exceptions' classes, by number, with the word each bears; the script -/
structure Env1 where
  cls : List Addr
  exc : List (Addr × Str)
  scr : Addr
  sns : List Int
  tabs : List (Addr × Str)

mutual
inductive Rep (T : Env1) (A : List Addr) (H : Hp) : D → V → Prop
  | non : Rep T A H .non .non
  | bl (b : Bool) : Rep T A H (.bl b) (.bl b)
  | int (i : Int) : Rep T A H (.int i) (.int i)
  | str (x : Str) : Rep T A H (.str x) (.str x)
  | tup {a : Addr} {vs : List V} {ds : List D} : H a = some (.tup vs) → Reps T A H ds vs → Rep T A H (.tup ds) (.ref a)
  | ref {n : Nat} {a : Addr} : A[n]? = some a → Rep T A H (.ref n) (.ref a)
  | scr : Rep T A H .scr (.ref T.scr)
inductive Reps (T : Env1) (A : List Addr) (H : Hp) : List D → List V → Prop
  | nil : Reps T A H [] []
  | cons {d : D} {v : V} {ds : List D} {vs : List V} : Rep T A H d v → Reps T A H ds vs → Reps T A H (d :: ds) (v :: vs)
end

/-- what stays of what data lean on: the handles, the tuples -/
structure Ext0 (A : List Addr) (H : Hp) (A' : List Addr) (H' : Hp) : Prop where
  pre : ∃ B, A' = A ++ B
  tup : ∀ a xs, H a = some (.tup xs) → H' a = some (.tup xs)
/-- what stays: the handles, the tuples, what is locked -/
structure Ext (A : List Addr) (H : Hp) (A' : List Addr) (H' : Hp) : Prop where
  pre : ∃ B, A' = A ++ B
  tup : ∀ a xs, H a = some (.tup xs) → H' a = some (.tup xs)
  frz : ∀ a o u, H a = some (.frz o u) → H' a = some (.frz o u)
  cod : ∀ a q, H a = some (LamX.CodeO a q) → H' a = some (LamX.CodeO a q)
theorem Ext.weak {A A' : List Addr} {H H' : Hp} (e : Ext A H A' H') : Ext0 A H A' H' := ⟨e.pre, e.tup⟩
theorem Ext.refl (A : List Addr) (H : Hp) : Ext A H A H := ⟨⟨[], by simp⟩, fun _ _ h => h, fun _ _ _ h => h, fun _ _ h => h⟩
theorem Ext.trans {A A1 A2 : List Addr} {H H1 H2 : Hp} (a : Ext A H A1 H1) (b : Ext A1 H1 A2 H2) : Ext A H A2 H2 := by
  obtain ⟨⟨B, rfl⟩, t, f, g⟩ := a
  obtain ⟨⟨B2, rfl⟩, t2, f2, g2⟩ := b
  exact ⟨⟨B ++ B2, by simp⟩, fun c xs h => t2 c xs (t c xs h), fun c o u h => f2 c o u (f c o u h), fun c q h => g2 c q (g c q h)⟩
theorem Ext0.at_ {A A' : List Addr} {H H' : Hp} (e : Ext0 A H A' H') {n : Nat} {a : Addr} (h : A[n]? = some a) : A'[n]? = some a := by
  obtain ⟨⟨B, rfl⟩, t⟩ := e
  rw [List.getElem?_append_left (List.getElem?_eq_some_iff.mp h).1]
  exact h
theorem Ext.at_ {A A' : List Addr} {H H' : Hp} (e : Ext A H A' H') {n : Nat} {a : Addr} (h : A[n]? = some a) : A'[n]? = some a := e.weak.at_ h
mutual
theorem Rep.ext0 {T : Env1} {A A' : List Addr} {H H' : Hp} (e : Ext0 A H A' H') : ∀ {d : D} {v : V}, Rep T A H d v → Rep T A' H' d v
  | _, _, .non => .non
  | _, _, .bl b => .bl b
  | _, _, .int i => .int i
  | _, _, .str x => .str x
  | _, _, .tup h r => .tup (e.tup _ _ h) (Reps.ext0 e r)
  | _, _, .ref h => .ref (e.at_ h)
  | _, _, .scr => .scr
theorem Reps.ext0 {T : Env1} {A A' : List Addr} {H H' : Hp} (e : Ext0 A H A' H') : ∀ {ds : List D} {vs : List V}, Reps T A H ds vs → Reps T A' H' ds vs
  | _, _, .nil => .nil
  | _, _, .cons r t => .cons (Rep.ext0 e r) (Reps.ext0 e t)
end
theorem Rep.ext {T : Env1} {A A' : List Addr} {H H' : Hp} (e : Ext A H A' H') {d : D} {v : V} (r : Rep T A H d v) : Rep T A' H' d v := r.ext0 e.weak
theorem Reps.ext {T : Env1} {A A' : List Addr} {H H' : Hp} (e : Ext A H A' H') {ds : List D} {vs : List V} (r : Reps T A H ds vs) : Reps T A' H' ds vs := r.ext0 e.weak
theorem Reps.length {T : Env1} {A : List Addr} {H : Hp} : ∀ {ds : List D} {vs : List V}, Reps T A H ds vs → ds.length = vs.length
  | _, _, .nil => rfl
  | _, _, .cons _ t => congrArg (· + 1) (Reps.length t)
theorem Reps.get {T : Env1} {A : List Addr} {H : Hp} : ∀ {ds : List D} {vs : List V} {i : Nat} {d : D}, Reps T A H ds vs → ds[i]? = some d → ∃ v, vs[i]? = some v ∧ Rep T A H d v
  | _, _, _, _, .nil, e => by simp at e
  | _, _, 0, _, .cons r _, e => by
    simp at e
    subst e
    exact ⟨_, rfl, r⟩
  | _, _, i + 1, d, .cons _ t, e => by
    obtain ⟨v, h1, h2⟩ := Reps.get (i := i) (d := d) t (by simpa using e)
    exact ⟨v, by simpa using h1, h2⟩
theorem Reps.got {T : Env1} {A : List Addr} {H : Hp} : ∀ {ds : List D} {vs : List V} {i : Nat} {v : V}, Reps T A H ds vs → vs[i]? = some v → ∃ d, ds[i]? = some d ∧ Rep T A H d v
  | _, _, _, _, .nil, e => by simp at e
  | _, _, 0, _, .cons r _, e => by
    simp at e
    subst e
    exact ⟨_, rfl, r⟩
  | _, _, i + 1, d, .cons _ t, e => by
    obtain ⟨v, h1, h2⟩ := Reps.got (i := i) t (by simpa using e)
    exact ⟨v, by simpa using h1, h2⟩
theorem Reps.append {T : Env1} {A : List Addr} {H : Hp} {es : List D} {ws : List V} (q : Reps T A H es ws) : ∀ {ds : List D} {vs : List V}, Reps T A H ds vs → Reps T A H (ds ++ es) (vs ++ ws)
  | _, _, .nil => q
  | _, _, .cons r t => .cons r (Reps.append q t)
theorem Reps.snoc {T : Env1} {A : List Addr} {H : Hp} {ds : List D} {vs : List V} {d : D} {v : V} (r : Reps T A H ds vs) (q : Rep T A H d v) : Reps T A H (ds ++ [d]) (vs ++ [v]) := Reps.append (.cons q .nil) r
theorem Reps.take {T : Env1} {A : List Addr} {H : Hp} : ∀ (n : Nat) {ds : List D} {vs : List V}, Reps T A H ds vs → Reps T A H (ds.take n) (vs.take n)
  | 0, _, _, _ => .nil
  | _ + 1, _, _, .nil => .nil
  | n + 1, _, _, .cons r t => .cons r (Reps.take n t)
theorem Reps.drop {T : Env1} {A : List Addr} {H : Hp} : ∀ (n : Nat) {ds : List D} {vs : List V}, Reps T A H ds vs → Reps T A H (ds.drop n) (vs.drop n)
  | 0, _, _, r => r
  | _ + 1, _, _, .nil => .nil
  | n + 1, _, _, .cons _ t => Reps.drop n t
theorem Reps.set {T : Env1} {A : List Addr} {H : Hp} {d : D} {v : V} (q : Rep T A H d v) : ∀ (i : Nat) {ds : List D} {vs : List V}, Reps T A H ds vs → Reps T A H (ds.set i d) (vs.set i v)
  | _, _, _, .nil => .nil
  | 0, _, _, .cons _ t => .cons q t
  | i + 1, _, _, .cons r t => .cons r (Reps.set q i t)
theorem Reps.eraseIdx {T : Env1} {A : List Addr} {H : Hp} : ∀ (i : Nat) {ds : List D} {vs : List V}, Reps T A H ds vs → Reps T A H (ds.eraseIdx i) (vs.eraseIdx i)
  | _, _, _, .nil => .nil
  | 0, _, _, .cons _ t => t
  | i + 1, _, _, .cons r t => .cons r (Reps.eraseIdx i t)

/-- a dict's, an instance's pairs -/
inductive RepK {κ : Type} (T : Env1) (A : List Addr) (H : Hp) : List (κ × D) → List (κ × V) → Prop
  | nil : RepK T A H [] []
  | cons {k : κ} {d : D} {v : V} {ds : List (κ × D)} {vs : List (κ × V)} : Rep T A H d v → RepK T A H ds vs → RepK T A H ((k, d) :: ds) ((k, v) :: vs)
theorem RepK.ext0 {κ : Type} {T : Env1} {A A' : List Addr} {H H' : Hp} (e : Ext0 A H A' H') : ∀ {ds : List (κ × D)} {vs : List (κ × V)}, RepK T A H ds vs → RepK T A' H' ds vs
  | _, _, .nil => .nil
  | _, _, .cons r t => .cons (r.ext0 e) (RepK.ext0 e t)
theorem RepK.ext {κ : Type} {T : Env1} {A A' : List Addr} {H H' : Hp} (e : Ext A H A' H') {ds : List (κ × D)} {vs : List (κ × V)} (r : RepK T A H ds vs) : RepK T A' H' ds vs := r.ext0 e.weak
theorem RepK.length {κ : Type} {T : Env1} {A : List Addr} {H : Hp} : ∀ {ds : List (κ × D)} {vs : List (κ × V)}, RepK T A H ds vs → ds.length = vs.length
  | _, _, .nil => rfl
  | _, _, .cons _ t => congrArg (· + 1) (RepK.length t)
theorem RepK.keys {κ : Type} {T : Env1} {A : List Addr} {H : Hp} : ∀ {ds : List (κ × D)} {vs : List (κ × V)}, RepK T A H ds vs → ds.map (·.1) = vs.map (·.1)
  | _, _, .nil => rfl
  | _, _, .cons _ t => congrArg (_ :: ·) (RepK.keys t)
theorem RepK.vals {κ : Type} {T : Env1} {A : List Addr} {H : Hp} : ∀ {ds : List (κ × D)} {vs : List (κ × V)}, RepK T A H ds vs → Reps T A H (ds.map (·.2)) (vs.map (·.2))
  | _, _, .nil => .nil
  | _, _, .cons r t => .cons r (RepK.vals t)

def ObjR (T : Env1) (A : List Addr) (H : Hp) (a : Addr) : O → Prop
  | .lst ds => ∃ vs, H a = some (.lst vs) ∧ Reps T A H ds vs
  | .dct kvs => ∃ ks, H a = some (.dK ks) ∧ RepK T A H kvs ks
  | .ins c fs => ∃ C dx gs, T.cls[c]? = some C ∧ H a = some (.ins C dx gs) ∧ RepK T A H fs gs
  | .dcF kvs => ∃ od ks, H a = some (.frz od (.dK ks)) ∧ RepK T A H kvs ks

/-- the store is held -/
def ScrR (K : PySem.W.Frag) (T : Env1) (A : List Addr) (H : Hp) : Prop := (∃ o, H T.scr = some (.frz o (.lst (T.sns.map V.int)))) ∨ (∀ H' : Hp, SqL K H' T.scr (T.sns.map V.int)) ∨ (H T.scr = some (.lst (T.sns.map V.int)) ∧ T.scr ∉ A)
structure Rl (K : PySem.W.Frag) (T : Env1) (A : List Addr) (S : Sto) (H : Hp) : Prop where
  nd : A.Nodup
  len : A.length = S.length
  obj : ∀ (n : Nat) (o : O) (a : Addr), S[n]? = some o → A[n]? = some a → ObjR T A H a o
  scr : ScrR K T A H
  tab : LamX.Tabs T.tabs H
theorem Rl.at_ {K : PySem.W.Frag} {T : Env1} {A : List Addr} {S : Sto} {H : Hp} (R : Rl K T A S H) {n : Nat} {o : O} (h : S[n]? = some o) : ∃ a, A[n]? = some a ∧ ObjR T A H a o := by
  have hl : n < A.length := by
    rw [R.len]
    exact (List.getElem?_eq_some_iff.mp h).1
  exact ⟨A[n], List.getElem?_eq_getElem hl, R.obj n o _ h (List.getElem?_eq_getElem hl)⟩
theorem nodup_get {A : List Addr} (nd : A.Nodup) {i j : Nat} {a : Addr} (h : A[i]? = some a) (g : A[j]? = some a) : i = j := by
  obtain ⟨hi, ei⟩ := List.getElem?_eq_some_iff.mp h
  obtain ⟨hj, ej⟩ := List.getElem?_eq_some_iff.mp g
  have q := List.pairwise_iff_getElem.mp nd
  rcases Nat.lt_trichotomy i j with c | c | c
  · exact absurd (ei.trans ej.symm) (q i j hi hj c)
  · exact c
  · exact absurd (ej.trans ei.symm) (q j i hj hi c)
theorem codeO_no {c : Addr} {q : Str} {u : HO} (h : ∀ φ, u ≠ .ext φ) : u ≠ LamX.CodeO c q := fun z => h _ z
theorem ObjR.some {T : Env1} {A : List Addr} {H : Hp} {a : Addr} {o : O} (x : ObjR T A H a o) : ∃ u, H a = some u ∧ (∀ xs, u ≠ .tup xs) ∧ (o.opn = true → ∀ o' w', u ≠ .frz o' w') ∧ (∀ o' xs, u ≠ .frz o' (.lst xs)) ∧ (∀ ps, u ≠ .tbl ps) ∧ ∀ c q, u ≠ LamX.CodeO c q := by
  cases o with
  | lst ds => obtain ⟨vs, h, _⟩ := x; exact ⟨_, h, fun _ z => (nomatch z), fun _ _ _ z => (nomatch z), fun _ _ z => (nomatch z), fun _ z => (nomatch z), fun c q => codeO_no fun φ z => nomatch z⟩
  | dct kvs => obtain ⟨vs, h, _⟩ := x; exact ⟨_, h, fun _ z => (nomatch z), fun _ _ _ z => (nomatch z), fun _ _ z => (nomatch z), fun _ z => (nomatch z), fun c q => codeO_no fun φ z => nomatch z⟩
  | ins c fs => obtain ⟨C, dx, gs, _, h, _⟩ := x; exact ⟨_, h, fun _ z => (nomatch z), fun _ _ _ z => (nomatch z), fun _ _ z => (nomatch z), fun _ z => (nomatch z), fun c q => codeO_no fun φ z => nomatch z⟩
  | dcF kvs => obtain ⟨od, ks, h, _⟩ := x; exact ⟨_, h, fun _ z => (nomatch z), fun z => absurd z (by simp [O.opn]), fun _ _ z => (nomatch z), fun _ z => (nomatch z), fun c q => codeO_no fun φ z => nomatch z⟩
theorem Rl.notin {K : PySem.W.Frag} {T : Env1} {A : List Addr} {S : Sto} {H : Hp} (R : Rl K T A S H) {p : Addr} (hp : H p = none) : p ∉ A := fun hm => by
  obtain ⟨n, hn, e⟩ := List.mem_iff_getElem.mp hm
  have h' : A[n]? = some p := by rw [List.getElem?_eq_getElem hn, e]
  have hs : n < S.length := by rw [← R.len]; exact hn
  obtain ⟨u, hu, _⟩ := (R.obj n S[n] p (List.getElem?_eq_getElem hs) h').some
  rw [hp] at hu
  cases hu
/-- the script as it stands -/
theorem Rl.sq {K : PySem.W.Frag} {T : Env1} {A : List Addr} {S : Sto} {H : Hp} (R : Rl K T A S H) : SqL K H T.scr (T.sns.map V.int) := by
  rcases R.scr with ⟨o, h⟩ | h | ⟨h, _⟩
  · exact .inl (.inr ⟨o, h⟩)
  · exact h H
  · exact .inl (.inl h)
theorem scr_upd {K : PySem.W.Frag} {T : Env1} {A : List Addr} {H : Hp} {p : Addr} {ho : HO} (h : ScrR K T A H) (hp : ∀ o xs, H p ≠ some (.frz o (.lst xs))) (hA : p ∈ A ∨ H p = none) : ScrR K T A (upd H p ho) := by
  rcases h with ⟨o, h⟩ | h | ⟨h, hn⟩
  · refine .inl ⟨o, ?_⟩
    have hne : T.scr ≠ p := fun z => hp o _ (z ▸ h)
    rw [upd_ne hne]
    exact h
  · exact .inr (.inl h)
  · refine .inr (.inr ⟨?_, hn⟩)
    have hne : T.scr ≠ p := fun z => by
      rcases hA with q | q
      · exact hn (z ▸ q)
      · rw [z, q] at h
        cases h
    rw [upd_ne hne]
    exact h
theorem scr_push {K : PySem.W.Frag} {T : Env1} {A : List Addr} {H : Hp} {p : Addr} {ho : HO} (h : ScrR K T A H) (hp : H p = none) : ScrR K T (A ++ [p]) (upd H p ho) := by
  have q := scr_upd (ho := ho) h (fun o xs z => nomatch hp.symm.trans z) (.inr hp)
  rcases q with q | q | ⟨q, hn⟩
  · exact .inl q
  · exact .inr (.inl q)
  · rcases h with ⟨o, h⟩ | h | ⟨h, _⟩
    · exact .inl ⟨o, by
        have hne : T.scr ≠ p := fun z => by rw [z, hp] at h; cases h
        rw [upd_ne hne]
        exact h⟩
    · exact .inr (.inl h)
    · refine .inr (.inr ⟨q, fun m => ?_⟩)
      rcases List.mem_append.mp m with m | m
      · exact hn m
      · have z := List.mem_singleton.mp m
        rw [z, hp] at h
        cases h
/-- the tables stay where what is written is none of them -/
theorem tabs_upd {T : List (Addr × Str)} {H : Hp} {p : Addr} {ho : HO} (t : LamX.Tabs T H) (h : ∀ u, H p = some u → (∀ ps, u ≠ .tbl ps) ∧ ∀ c q, u ≠ LamX.CodeO c q) : LamX.Tabs T (upd H p ho) := fun q hq => by
  obtain ⟨ps, h1, h2, h3⟩ := t q hq
  have hne : q.1 ≠ p := fun z => (h _ (z ▸ h1)).1 ps rfl
  refine ⟨ps, by rw [upd_ne hne]; exact h1, h2, fun pos cv hc => ?_⟩
  obtain ⟨c, e1, e2⟩ := h3 pos cv hc
  have hc2 : c ≠ p := fun z => (h _ (z ▸ e2)).2 _ _ rfl
  exact ⟨c, e1, by rw [upd_ne hc2]; exact e2⟩
/-- what an object leans on is kept -/
theorem ObjR.keep0 {T : Env1} {A A' : List Addr} {H H' : Hp} {a : Addr} {o : O} (e : Ext0 A H A' H') (hs : H' a = H a) (x : ObjR T A H a o) : ObjR T A' H' a o := by
  cases o with
  | lst ds =>
    obtain ⟨vs, h, r⟩ := x
    exact ⟨vs, hs.trans h, r.ext0 e⟩
  | dct kvs =>
    obtain ⟨ks, h, r⟩ := x
    exact ⟨ks, hs.trans h, r.ext0 e⟩
  | ins c fs =>
    obtain ⟨C, dx, gs, hc, h, r⟩ := x
    exact ⟨C, dx, gs, hc, hs.trans h, r.ext0 e⟩
  | dcF kvs =>
    obtain ⟨od, ks, h, r⟩ := x
    exact ⟨od, ks, hs.trans h, r.ext0 e⟩
theorem ObjR.keep {T : Env1} {A A' : List Addr} {H H' : Hp} {a : Addr} {o : O} (e : Ext A H A' H') (hs : H' a = H a) (x : ObjR T A H a o) : ObjR T A' H' a o := x.keep0 e.weak hs
/-- an object is laid that has no handle (a tuple, an exception's dict) -/
theorem Rl.laid0 {K : PySem.W.Frag} {T : Env1} {A : List Addr} {S : Sto} {H : Hp} (R : Rl K T A S H) {p : Addr} {o : HO} (hp : H p = none) : Rl K T A S (upd H p o) ∧ Ext A H A (upd H p o) := by
  have e : Ext A H A (upd H p o) := ⟨⟨[], by simp⟩, fun a xs h => by rw [upd_ne (ne_of_none h hp)]; exact h, fun a o u h => by rw [upd_ne (ne_of_none h hp)]; exact h, fun a q h => by rw [upd_ne (ne_of_none h hp)]; exact h⟩
  have hA := R.notin hp
  refine ⟨⟨R.nd, R.len, fun n o' a h h' => ?_, scr_upd R.scr (fun o xs z => (nomatch hp.symm.trans z)) (.inr hp), tabs_upd R.tab fun u z => (nomatch hp.symm.trans z)⟩, e⟩
  have hne : a ≠ p := fun z => hA (z ▸ List.mem_of_getElem? h')
  exact (R.obj n o' a h h').keep e (upd_ne hne)
/-- a handle's object is new -/
theorem Rl.push {K : PySem.W.Frag} {T : Env1} {A : List Addr} {S : Sto} {H : Hp} (R : Rl K T A S H) {p : Addr} {ho : HO} {o : O} (hp : H p = none)
    (hn : ∀ A' H', Ext A H A' H' → H' p = some ho → ObjR T A' H' p o) : Rl K T (A ++ [p]) (S ++ [o]) (upd H p ho) ∧ Ext A H (A ++ [p]) (upd H p ho) := by
  have e : Ext A H (A ++ [p]) (upd H p ho) := ⟨⟨[p], rfl⟩, fun a xs h => by rw [upd_ne (ne_of_none h hp)]; exact h, fun a o u h => by rw [upd_ne (ne_of_none h hp)]; exact h, fun a q h => by rw [upd_ne (ne_of_none h hp)]; exact h⟩
  have hA := R.notin hp
  refine ⟨⟨?_, by rw [List.length_append, List.length_append, R.len]; rfl, fun n o' a h h' => ?_, scr_push R.scr hp, tabs_upd R.tab fun u z => (nomatch hp.symm.trans z)⟩, e⟩
  · rw [List.nodup_append]
    exact ⟨R.nd, List.nodup_cons.mpr ⟨List.not_mem_nil, List.nodup_nil⟩, fun x hx y hy z => by
      rw [List.mem_singleton] at hy
      exact hA (hy ▸ z ▸ hx)⟩
  · by_cases hn' : n < S.length
    · rw [List.getElem?_append_left hn'] at h
      rw [List.getElem?_append_left (by rw [R.len]; exact hn')] at h'
      have hne : a ≠ p := fun z => hA (z ▸ List.mem_of_getElem? h')
      exact (R.obj n o' a h h').keep e (upd_ne hne)
    · have hn2 : n = S.length := by
        have := (List.getElem?_eq_some_iff.mp h).1
        rw [List.length_append] at this
        simp at this
        omega
      subst hn2
      rw [List.getElem?_append_right (Nat.le_refl _)] at h
      rw [List.getElem?_append_right (by rw [R.len]; exact Nat.le_refl _)] at h'
      simp at h
      rw [R.len] at h'
      simp at h'
      subst h
      subst h'
      exact hn _ _ e upd_same
/-- a handle's object is written; what is locked may be let go so -/
theorem Rl.write0 {K : PySem.W.Frag} {T : Env1} {A : List Addr} {S : Sto} {H : Hp} (R : Rl K T A S H) {n : Nat} {p : Addr} {ho : HO} {o o0 : O} (hA : A[n]? = some p) (hS : S[n]? = some o0)
    (hn : ∀ H', Ext0 A H A H' → H' p = some ho → ObjR T A H' p o) : Rl K T A (S.set n o) (upd H p ho) ∧ Ext0 A H A (upd H p ho) ∧ (o0.opn = true → Ext A H A (upd H p ho)) := by
  have hs : n < S.length := (List.getElem?_eq_some_iff.mp hS).1
  obtain ⟨u, hu, hnt, hnf, hnl, hno⟩ := (R.obj n o0 p hS hA).some
  have t : ∀ a xs, H a = some (.tup xs) → (upd H p ho) a = some (.tup xs) := fun a xs h => by
    have hne : a ≠ p := fun z => hnt xs (Option.some.inj (hu.symm.trans (z ▸ h)))
    rw [upd_ne hne]
    exact h
  have e : Ext0 A H A (upd H p ho) := ⟨⟨[], by simp⟩, t⟩
  refine ⟨⟨R.nd, by rw [List.length_set]; exact R.len, fun m o' a h h' => ?_, scr_upd R.scr (fun o xs z => hnl _ _ (Option.some.inj (hu.symm.trans z))) (.inl (List.mem_of_getElem? hA)), tabs_upd R.tab fun v z => by rw [hu] at z; cases z; exact hno⟩, e, fun h0 => ⟨e.pre, e.tup, fun a o' w h => ?_, fun a q h => ?_⟩⟩
  · by_cases hm : m = n
    · subst hm
      rw [List.getElem?_set_self (by have := (List.getElem?_eq_some_iff.mp hA).1; rw [R.len] at this; exact this)] at h
      cases h
      rw [hA] at h'
      cases h'
      exact hn _ e upd_same
    · rw [List.getElem?_set_ne (Ne.symm hm)] at h
      have hne : a ≠ p := fun z => hm (nodup_get R.nd (z ▸ h') hA)
      exact (R.obj m o' a h h').keep0 e (upd_ne hne)
  · have hne : a ≠ p := fun z => hnf h0 _ _ (Option.some.inj (hu.symm.trans (z ▸ h)))
    rw [upd_ne hne]
    exact h
  · have hne : a ≠ p := fun z => hno.2 a q (Option.some.inj (hu.symm.trans (z ▸ h)))
    rw [upd_ne hne]
    exact h
/-- a handle's object is written -/
theorem Rl.write {K : PySem.W.Frag} {T : Env1} {A : List Addr} {S : Sto} {H : Hp} (R : Rl K T A S H) {n : Nat} {p : Addr} {ho : HO} {o o0 : O} (hA : A[n]? = some p) (hS : S[n]? = some o0) (h0 : o0.opn = true)
    (hn : ∀ H', Ext0 A H A H' → H' p = some ho → ObjR T A H' p o) : Rl K T A (S.set n o) (upd H p ho) ∧ Ext A H A (upd H p ho) :=
  let ⟨R', _, e⟩ := R.write0 hA hS hn
  ⟨R', e h0⟩
end MP
end MPa
section MPi
set_option Elab.async false
set_option linter.all false
set_option maxRecDepth 100000
/-! MPi: the intermediate form and its interpreter, in plain Lean. -/
namespace MP
open PySem L2

/-- the built-in functions and types that are called -/
inductive Bt where
  | len | isi (t : String) | tuple | list | int | abs | max | min | gcd | lcm | sum | sorted | sset | lstR | tupR
/-- the methods of built-in types -/
inductive Mt where
  | append | pop | extend | get | setd
def Mt.ty : Mt → String
  | .get => "dict"
  | .setd => "dict"
  | _ => "list"
mutual
inductive Ex where
  | var (i : Nat) | cst (d : D)
  | bin (op : Operator) (a b : Ex) | neg (a : Ex)
  | cmp (op : CmpOp) (a b : Ex) | chain (o1 o2 : CmpOp) (a b c : Ex)
  | and (a b : Ex) | or (a b : Ex) | not (a : Ex) | ife (c a b : Ex)
  | tup (es : Exs) | lst (es : Exs) | dct
  | call (f : Nat) (es : Exs) | blt (b : Bt) (es : Exs) | mth (m : Mt) (o : Ex) (es : Exs) | omt (m : Str) (o : Ex) (es : Exs) | mk (c : Nat) (es : Exs)
  | fld (f : Str) (o : Ex) | idx (a b : Ex) | slc (a : Ex) (lo hi : Exo)
  | comp (own : List Nat) (tg : Tg) (it : Itx) (ifs : Exs) (elt : Ex)
  | heard (a : Ex) | tells (f : Nat) (w : Str) (a b : Ex) | refuses (f : Nat) (a b c : Ex) | lock (i : Nat) (a : Ex)
  | bad
inductive Exs where
  | nil | cons (e : Ex) (es : Exs) | star (e : Ex) (es : Exs)
inductive Exo where
  | no | so (e : Ex)
inductive Itx where
  | seq (e : Ex) | rng (a : Ex) | rng2 (a b : Ex) | enum (e : Ex) | keys (i : Nat) | items (i : Nat)
inductive Tg where
  | name (i : Nat) | tup (ts : Tgs) | sub (o i : Ex) | fld (f : Str) (o : Ex)
inductive Tgs where
  | nil | cons (t : Tg) (ts : Tgs)
end
inductive Sm where
  | expr (e : Ex) | asg (t : Tg) (e : Ex) | par (i j : Nat) (a b : Ex) | par3 (i j k : Nat) (a b c : Ex) | ret (e : Ex) | retN
  | ife (c : Ex) (a b : List Sm) | for_ (t : Tg) (it : Itx) (b : List Sm) | while_ (c : Ex) (b : List Sm)
  | raise (c : Nat) (e : Ex) | brk | cnt | pass | lock (i : Nat) (s : Sm) | bad
structure Fn where
  np : Nat
  ns : Nat
  body : List Sm
/-- the program: defs by number; methods and makers of own classes; the script; how often a while may turn -/
structure Cf where
  P : Nat → Option Fn
  mt : Nat → Str → Option Nat
  ini : Nat → Option Nat
  sns : List Int
  wf : Nat
  wd : Nat → Str
  told : Str

/-! ### values -/
def truD (C : Cf) (S : Sto) : D → Option Bool
  | .non => some false
  | .bl b => some b
  | .int i => some (i != 0)
  | .str x => if x.length ≤ sizeLine then some ((x.length : Int) != 0) else none
  | .tup ds => some (!ds.isEmpty)
  | .scr => some (!C.sns.isEmpty)
  | .ref n => match S[n]? with
    | some (.lst ds) => some (!ds.isEmpty)
    | some (.dct kvs) => some (!kvs.isEmpty)
    | _ => none
/-- the items of a list, a tuple -/
def seqD (C : Cf) (S : Sto) : D → Option (List D)
  | .tup ds => some ds
  | .scr => some (C.sns.map .int)
  | .ref n => match S[n]? with
    | some (.lst ds) => some ds
    | _ => none
  | _ => none
def new (S : Sto) (o : O) : Option (D × Sto) := some (.ref S.length, S ++ [o])
/-- the bits of a number, so few that the model reckons with it -/
def bits (i : Int) : Nat := i.natAbs.log2
def addD (S : Sto) : D → D → Option (D × Sto)
  | .int i, .int j => some (.int (i + j), S)
  | .str x, .str y => if x.length + y.length ≤ sizeLine then some (.str (x ++ y), S) else none
  | .tup xs, .tup ys => if xs.length + ys.length ≤ sizeLine then some (.tup (xs ++ ys), S) else none
  | .ref n, .ref m => match S[n]?, S[m]? with
    | some (.lst xs), some (.lst ys) => if xs.length + ys.length ≤ sizeLine then new S (.lst (xs ++ ys)) else none
    | _, _ => none
  | _, _ => none
def mulD (S : Sto) : D → D → Option (D × Sto)
  | .int i, .int j => if bits i < 60 ∨ bits j < 60 ∨ bits i + bits j < 999999 then some (.int (i * j), S) else none
  | .tup xs, .int k => if 2 ≤ k ∧ k ≤ 2000 ∧ xs.length ≤ 1000 then some (.tup (List.replicate k.toNat xs).flatten, S) else none
  | .ref n, .int k => match S[n]? with
    | some (.lst xs) => if 0 ≤ k ∧ k ≤ 100000 ∧ xs.length ≤ 160 then new S (.lst (List.replicate k.toNat xs).flatten) else none
    | _ => none
  | _, _ => none
def binD (op : Operator) (S : Sto) (a b : D) : Option (D × Sto) := match op with
  | .Add => addD S a b
  | .Sub => match a, b with
    | .int i, .int j => some (.int (i - j), S)
    | _, _ => none
  | .Mult => mulD S a b
  | .FloorDiv => match a, b with
    | .int i, .int j => if 0 < j ∧ bits j < 8000 then some (.int (i / j), S) else none
    | _, _ => none
  | .Mod => match a, b with
    | .int i, .int j => if 0 < j then some (.int (i % j), S) else none
    | _, _ => none
  | .Pow => match a, b with
    | .int i, .int j => if 0 ≤ j ∧ j ≤ 1000 ∧ bits i < 60 then some (.int (i ^ j.toNat), S) else none
    | _, _ => none
  | _ => none
mutual
/-- nested data as the library's plain data -/
def pyD (C : Cf) (S : Sto) : Nat → D → Option PyData
  | 0, _ => none
  | _ + 1, .non => some .none
  | _ + 1, .bl b => some (.bool b)
  | _ + 1, .int i => some (.int i)
  | _ + 1, .str x => some (.str x)
  | k + 1, .tup ds => (pyDs C S k ds).map .tuple
  | k + 1, .scr => some (.list (C.sns.map .int))
  | k + 1, .ref n => match S[n]? with
    | some (.lst ds) => (pyDs C S k ds).map .list
    | _ => none
def pyDs (C : Cf) (S : Sto) : Nat → List D → Option (List PyData)
  | _, [] => some []
  | 0, _ :: _ => none
  | k + 1, d :: ds => match pyD C S k d, pyDs C S (k + 1) ds with
    | some p, some ps => some (p :: ps)
    | _, _ => none
end
def eqD (C : Cf) (S : Sto) (a b : D) : Option Bool := match pyD C S 60 a, pyD C S 60 b with
  | some p, some q => if SeqAt.shaped p = true ∧ SeqAt.shaped q = true then some (PyData.eqv p q) else none
  | _, _ => none
def flatD : D → Bool
  | .non => true
  | .bl _ => true
  | .int _ => true
  | .str _ => true
  | _ => false
def eqF : D → D → Bool
  | .non, .non => true
  | .bl a, .bl b => a == b
  | .bl a, .int b => (if a then 1 else 0) == b
  | .int a, .bl b => a == (if b then 1 else 0)
  | .int a, .int b => a == b
  | .str a, .str b => a == b
  | _, _ => false
def keyD : D → Option Key
  | .int i => some (.inl i)
  | .str x => some (.inr x)
  | _ => none
def valD (kvs : List (Key × D)) (k : Key) : Option D := (kvs.find? fun p => decide (p.1 = k)).map (·.2)
def putD (kvs : List (Key × D)) (k : Key) (d : D) : List (Key × D) :=
  if (kvs.any fun p => decide (p.1 = k)) = true then kvs.map (fun p => if p.1 = k then (p.1, d) else p) else kvs ++ [(k, d)]
def inD (C : Cf) (S : Sto) (a b : D) : Option Bool := match b with
  | .ref n => match S[n]? with
    | some (.dct kvs) => (keyD a).map fun k => (valD kvs k).isSome
    | some (.lst ds) => if flatD a && ds.all flatD then some (ds.any fun y => eqF y a) else none
    | _ => none
  | .tup ds => if flatD a && ds.all flatD then some (ds.any fun y => eqF y a) else none
  | _ => none
def isD : D → D → Option Bool
  | .non, .non => some true
  | .bl a, .bl b => some (a == b)
  | _, .non => some false
  | _, _ => none
def cmpD (C : Cf) (op : CmpOp) (S : Sto) (a b : D) : Option Bool := match op with
  | .Eq => eqD C S a b
  | .NotEq => (eqD C S a b).map (!·)
  | .Lt => match a, b with
    | .int i, .int j => some (decide (i < j))
    | _, _ => none
  | .LtE => match a, b with
    | .int i, .int j => some (decide (i ≤ j))
    | _, _ => none
  | .Gt => match a, b with
    | .int i, .int j => some (decide (j < i))
    | _, _ => none
  | .GtE => match a, b with
    | .int i, .int j => some (decide (j ≤ i))
    | _, _ => none
  | .Is => isD a b
  | .IsNot => (isD a b).map (!·)
  | .In => inD C S a b
  | .NotIn => (inD C S a b).map (!·)
def idxD (C : Cf) (S : Sto) (a b : D) : Option D := match b with
  | .int i => (seqD C S a).bind fun ds => atI ds i
  | _ => none
def ixD (C : Cf) (S : Sto) (a b : D) : Option D := match a with
  | .ref n => match S[n]? with
    | some (.dct kvs) => (keyD b).bind fun k => valD kvs k
    | _ => idxD C S a b
  | .str x => match b with
    | .int i => if x.length ≤ sizeLine then (atI x.cps.toList i).map fun c => .str ⟨#[c]⟩ else none
    | _ => none
  | _ => idxD C S a b
def cutL {α : Type} (xs : List α) (lo hi : Option Int) : List α := (xs.drop (HT.sIx xs.length 0 lo)).take (HT.sIx xs.length xs.length hi - HT.sIx xs.length 0 lo)
def slcD (S : Sto) (lo hi : Option Int) : D → Option (D × Sto)
  | .tup ds => some (.tup (cutL ds lo hi), S)
  | .ref n => match S[n]? with
    | some (.lst ds) => new S (.lst (cutL ds lo hi))
    | _ => none
  | _ => none
def tyD (S : Sto) : D → Option String
  | .non => some "NoneType"
  | .bl _ => some "bool"
  | .int _ => some "int"
  | .str _ => some "str"
  | .tup _ => some "tuple"
  | .scr => some "list"
  | .ref n => match S[n]? with
    | some (.lst _) => some "list"
    | some (.dct _) => some "dict"
    | _ => none
def isiT (t u : String) : Bool := t == u || (t == "bool" && u == "int")
def dKey : Key → D
  | .inl i => .int i
  | .inr x => .str x
def ints? : List D → Option (List Int)
  | [] => some []
  | .int i :: r => (ints? r).map (i :: ·)
  | _ :: _ => none
def insS (i : Int) : List Int → List Int
  | [] => [i]
  | j :: r => if i ≤ j then i :: j :: r else j :: insS i r
def sortI : List Int → List Int
  | [] => []
  | i :: r => insS i (sortI r)
def nubI : List Int → List Int
  | [] => []
  | i :: r => i :: (nubI r).filter (· != i)
def bltD (C : Cf) (b : Bt) (S : Sto) (ds : List D) : Option (D × Sto) := match b, ds with
  | .len, [.str x] => if x.length ≤ sizeLine then some (.int x.length, S) else none
  | .len, [d] => match d with
    | .ref n => match S[n]? with
      | some (.dct kvs) => some (.int kvs.length, S)
      | some (.lst xs) => some (.int xs.length, S)
      | _ => none
    | _ => match seqD C S d with
      | some xs => some (.int xs.length, S)
      | none => none
  | .isi t, [d] => match tyD S d with
    | some u => some (.bl (isiT u t), S)
    | none => none
  | .tuple, [d] => match seqD C S d with
    | some xs => some (.tup xs, S)
    | none => none
  | .list, [d] => match seqD C S d with
    | some xs => new S (.lst xs)
    | none => none
  | .int, [.int i] => some (.int i, S)
  | .int, [.bl k] => some (.int (if k then 1 else 0), S)
  | .abs, [.int i] => some (.int (if i < 0 then -i else i), S)
  | .max, [.int i, .int j] => some (.int (if j > i then j else i), S)
  | .min, [.int i, .int j] => some (.int (if j < i then j else i), S)
  | .gcd, [.int i, .int j] => some (.int (Nat.gcd i.natAbs j.natAbs : Nat), S)
  | .lcm, [.int i, .int j] => if bits i < 12000 ∧ bits j < 12000 ∧ bits (Nat.lcm i.natAbs j.natAbs : Nat) < 100000 then some (.int (Nat.lcm i.natAbs j.natAbs : Nat), S) else none
  | .sum, [.ref n] => match S[n]? with
    | some (.lst ds) => match ints? ds with
      | some ns => some (.int ns.sum, S)
      | none => none
    | _ => none
  | .sorted, [.ref n] => match S[n]? with
    | some (.lst ds) => match ints? ds with
      | some ns => if ns.length ≤ sizeLine then new S (.lst ((sortI ns).map .int)) else none
      | none => none
    | some (.dct kvs) => match ints? (kvs.map fun p => dKey p.1) with
      | some ns => if ns.length < 64 then new S (.lst ((sortI ns).map .int)) else none
      | none => none
    | _ => none
  | .sset, [.ref n] => match S[n]? with
    | some (.lst ds) => match ints? ds with
      | some ns => if (nubI ns).length < 64 ∧ ns.length ≤ 4000 then new S (.lst ((sortI (nubI ns)).map .int)) else none
      | none => none
    | _ => none
  | .lstR, [.int i] => if 0 ≤ i ∧ i ≤ 100000 then new S (.lst ((List.range i.toNat).map fun (j : Nat) => .int j)) else none
  | .tupR, [.int i] => if 0 ≤ i ∧ i ≤ 100000 then some (.tup ((List.range i.toNat).map fun (j : Nat) => .int j), S) else none
  | _, _ => none
def mthD (C : Cf) (m : Mt) (S : Sto) (o : D) (ds : List D) : Option (D × Sto) := match m, o, ds with
  | .append, .ref n, [d] => match S[n]? with
    | some (.lst xs) => if xs.length < sizeLine then some (.non, (S.set n (.lst (xs ++ [d])))) else none
    | _ => none
  | .pop, .ref n, [] => match S[n]? with
    | some (.lst xs) => match xs[xs.length - 1]? with
      | some y => some (y, (S.set n (.lst xs.dropLast)))
      | none => none
    | _ => none
  | .extend, .ref n, [.ref m] => match S[n]?, S[m]? with
    | some (.lst xs), some (.lst ys) => if xs.length + ys.length ≤ sizeLine then some (.non, (S.set n (.lst (xs ++ ys)))) else none
    | _, _ => none
  | .get, .ref n, [k, x] => match S[n]? with
    | some (.dct kvs) => match keyD k with
      | some k => some ((valD kvs k).getD x, S)
      | none => none
    | _ => none
  | .setd, .ref n, [k, x] => match S[n]? with
    | some (.dct kvs) => match keyD k with
      | some k => if kvs.length < 1000000 then match valD kvs k with
        | some d => some (d, S)
        | none => some (x, S.set n (.dct (putD kvs k x))) else none
      | none => none
    | _ => none
  | _, _, _ => none
/-- o[i] = v -/
def setD (S : Sto) (o i v : D) : Option Sto := match o with
  | .ref n => match S[n]? with
    | some (.lst xs) => match i with
      | .int k => (ixN xs.length k).map fun j => S.set n (.lst (xs.set j v))
      | _ => none
    | some (.dct kvs) => match keyD i with
      | some k => if kvs.length < 1000000 then some (S.set n (.dct (putD kvs k v))) else none
      | none => none
    | _ => none
  | _ => none
def fldD (S : Sto) (f : Str) : D → Option D
  | .ref n => match S[n]? with
    | some (.ins c fs) => fs.lookup f
    | _ => none
  | _ => none
def putA (f : Str) (v : D) : List (Str × D) → List (Str × D)
  | [] => [(f, v)]
  | (g, x) :: r => if g = f then (g, v) :: r else (g, x) :: putA f v r
def setA (S : Sto) (f : Str) (v : D) : D → Option Sto
  | .ref n => match S[n]? with
    | some (.ins c fs) => if fs.length < 100 then some (S.set n (.ins c (putA f v fs))) else none
    | _ => none
  | _ => none

/-! ### what is walked -/
inductive Iv where
  | tup (ds : List D) | lst (n : Nat) | rng (lo : Int) (n : Nat) | scr | enumT (ds : List D) | enumL (n : Nat) | keys (n : Nat) (kvs : List (Key × D)) | items (n : Nat) (kvs : List (Key × D))
/-- the turn's item (none: no turn is told; some none: the end) -/
def Iv.at (C : Cf) (S : Sto) (i : Nat) : Iv → Option (Option D)
  | .tup ds => some ds[i]?
  | .scr => some ((C.sns.map D.int)[i]?)
  | .rng lo n => some (if i < n then some (.int (lo + i)) else none)
  | .lst n => match S[n]? with
    | some (.lst ds) => some ds[i]?
    | _ => none
  | .enumT ds => some (ds[i]?.map fun d => .tup [.int i, d])
  | .enumL n => match S[n]? with
    | some (.lst ds) => some (ds[i]?.map fun d => .tup [.int i, d])
    | _ => none
  | .keys _ kvs => some (kvs[i]?.map fun p => dKey p.1)
  | .items _ kvs => some (kvs[i]?.map fun p => .tup [dKey p.1, p.2])
/-- how many turns at the start -/
def Iv.many (C : Cf) (S : Sto) : Iv → Nat
  | .tup ds => ds.length
  | .scr => C.sns.length
  | .rng lo n => n
  | .lst n => match S[n]? with
    | some (.lst ds) => ds.length
    | _ => 0
  | .enumT ds => ds.length
  | .enumL n => match S[n]? with
    | some (.lst ds) => ds.length
    | _ => 0
  | .keys _ kvs => kvs.length
  | .items _ kvs => kvs.length
def seqI (S : Sto) : D → Option Iv
  | .tup ds => some (.tup ds)
  | .scr => some .scr
  | .ref n => match S[n]? with
    | some (.lst _) => some (.lst n)
    | _ => none
  | _ => none
def enumI (S : Sto) : D → Option Iv
  | .tup ds => some (.enumT ds)
  | .ref n => match S[n]? with
    | some (.lst _) => some (.enumL n)
    | _ => none
  | _ => none
def rngI (i j : Int) : Option Iv := if -(2 ^ 62) ≤ i ∧ i < 2 ^ 62 ∧ -(2 ^ 62) ≤ j ∧ j < 2 ^ 62 then some (.rng i (j - i).toNat) else none

/-! ### the interpreter -/
def up (o : Option (D × Sto)) : Rs D := match o with
  | some (d, S) => .ok d S
  | none => .bad
/-- where a statement ends -/
inductive Fr where
  | nx (ρ : Rho) (S : Sto) | rt (d : D) (S : Sto) | bk (ρ : Rho) (S : Sto) | ct (ρ : Rho) (S : Sto) | ex (c : Nat) (w : D) (ρ : Rho) (S : Sto) | bad
def Rs.toFr {α : Type} (ρ : Rho) (r : Rs α) (f : α → Sto → Fr) : Fr := match r with
  | .ok a S => f a S
  | .exc c w S => .ex c w ρ S
  | .bad => .bad
def lift {α : Type} (S : Sto) (o : Option α) : Rs α := match o with
  | some a => .ok a S
  | none => .bad
def noex {α : Type} (r : Rs α) : Rs α := match r with
  | .exc _ _ _ => .bad
  | r => r
def wipeR (ρ : Rho) : List Nat → Rho
  | [] => ρ
  | i :: r => (wipeR ρ r).set i none
/-- what is told of a step that may be refused -/
def heardR (C : Cf) : Rs D → Rs D
  | .ok d S => .ok (.tup [.str C.told, d]) S
  | .exc c w S => .ok (.tup [.str (C.wd c), w]) S
  | .bad => .bad
/-- the dict of a slot, to be locked -/
def lockD (ρ : Rho) (S : Sto) (i : Nat) : Option (Nat × List (Key × D)) := match ρ[i]? with
  | some (some (.ref n)) => match S[n]? with
    | some (.dct kvs) => some (n, kvs)
    | _ => none
  | _ => none
def unlD (n : Nat) (kvs : List (Key × D)) : Rs D → Rs D
  | .ok d S => .ok d (S.set n (.dct kvs))
  | _ => .bad
def unlF (n : Nat) (kvs : List (Key × D)) : Fr → Fr
  | .nx ρ S => .nx ρ (S.set n (.dct kvs))
  | .rt d S => .rt d (S.set n (.dct kvs))
  | .bk ρ S => .bk ρ (S.set n (.dct kvs))
  | .ct ρ S => .ct ρ (S.set n (.dct kvs))
  | _ => .bad
/-- the dict of a slot, locked -/
def lockedI (ρ : Rho) (S : Sto) (i : Nat) : Option (Nat × List (Key × D)) := match ρ[i]? with
  | some (some (.ref n)) => match S[n]? with
    | some (.dcF kvs) => some (n, kvs)
    | _ => none
  | _ => none
section
variable (C : Cf) (cf : Nat → List D → Sto → Rs D)
/-- a comprehension's turns: the new list stands at n -/
def compK (iv : Iv) (n : Nat) (turn : D → Sto → Rs (Option D)) : Nat → Nat → Sto → Rs D
  | k, i, S => match iv.at C S i with
    | none => .bad
    | some none => .ok (.ref n) S
    | some (some d) => match k with
      | 0 => .bad
      | k + 1 => (turn d S).bind fun r S1 => match r with
        | none => compK iv n turn k (i + 1) S1
        | some e => match S1[n]? with
          | some (.lst acc) => if acc.length < sizeLine then compK iv n turn k (i + 1) (S1.set n (.lst (acc ++ [e]))) else .bad
          | _ => .bad
mutual
def evE : Ex → Rho → Sto → Rs D
  | .var i, ρ, S => match ρ[i]? with
    | some (some d) => .ok d S
    | _ => .bad
  | .cst d, ρ, S => .ok d S
  | .bin op a b, ρ, S => (evE a ρ S).bind fun x S1 => (evE b ρ S1).bind fun y S2 => up (binD op S2 x y)
  | .neg a, ρ, S => (evE a ρ S).bind fun x S1 => match x with
    | .int i => .ok (.int (-i)) S1
    | _ => .bad
  | .cmp op a b, ρ, S => (evE a ρ S).bind fun x S1 => (evE b ρ S1).bind fun y S2 => (lift S2 (cmpD C op S2 x y)).bind fun k S3 => .ok (.bl k) S3
  | .chain o1 o2 a b c, ρ, S => (evE a ρ S).bind fun x S1 => (evE b ρ S1).bind fun y S2 => (lift S2 (cmpD C o1 S2 x y)).bind fun k S3 =>
      if k then (evE c ρ S3).bind fun z S4 => (lift S4 (cmpD C o2 S4 y z)).bind fun m S5 => .ok (.bl m) S5 else .ok (.bl false) S3
  | .and a b, ρ, S => (evE a ρ S).bind fun x S1 => (lift S1 (truD C S1 x)).bind fun k S2 => if k then evE b ρ S2 else .ok x S2
  | .or a b, ρ, S => (evE a ρ S).bind fun x S1 => (lift S1 (truD C S1 x)).bind fun k S2 => if k then .ok x S2 else evE b ρ S2
  | .not a, ρ, S => (evE a ρ S).bind fun x S1 => (lift S1 (truD C S1 x)).bind fun k S2 => .ok (.bl (!k)) S2
  | .ife c a b, ρ, S => (evE c ρ S).bind fun x S1 => (lift S1 (truD C S1 x)).bind fun k S2 => if k then evE a ρ S2 else evE b ρ S2
  | .tup es, ρ, S => (evL es ρ S).bind fun ds S1 => if ds.length ≤ sizeLine then .ok (.tup ds) S1 else .bad
  | .lst es, ρ, S => (evL es ρ S).bind fun ds S1 => if ds.length ≤ sizeLine then up (new S1 (.lst ds)) else .bad
  | .dct, ρ, S => up (new S (.dct []))
  | .call f es, ρ, S => (evL es ρ S).bind fun ds S1 => cf f ds S1
  | .blt b es, ρ, S => (evL es ρ S).bind fun ds S1 => up (bltD C b S1 ds)
  | .mth m o es, ρ, S => (evE o ρ S).bind fun x S1 => if tyD S1 x = some m.ty then (evL es ρ S1).bind fun ds S2 => up (mthD C m S2 x ds) else .bad
  | .omt m o es, ρ, S => (evE o ρ S).bind fun x S1 => match x with
    | .ref n => match S1[n]? with
      | some (.ins c fs) => match C.mt c m with
        | some f => if (fs.lookup m).isNone then (evL es ρ S1).bind fun ds S2 => cf f (x :: ds) S2 else .bad
        | none => .bad
      | _ => .bad
    | _ => .bad
  | .mk c es, ρ, S => (evL es ρ S).bind fun ds S1 => match C.ini c with
    | some f => (cf f (.ref S1.length :: ds) (S1 ++ [.ins c []])).bind fun r S2 => match r with
      | .non => .ok (.ref S1.length) S2
      | _ => .bad
    | none => .bad
  | .fld f o, ρ, S => (evE o ρ S).bind fun x S1 => lift S1 (fldD S1 f x)
  | .idx a b, ρ, S => (evE a ρ S).bind fun x S1 => (evE b ρ S1).bind fun y S2 => lift S2 (ixD C S2 x y)
  | .slc a lo hi, ρ, S => (evE a ρ S).bind fun x S1 => (evO lo ρ S1).bind fun l S2 => (evO hi ρ S2).bind fun h S3 => up (slcD S3 l h x)
  | .comp own tg it ifs elt, ρ, S => (evI it ρ S).bind fun iv S1 =>
      compK C iv S1.length (fun d S2 => noex ((evT tg d (wipeR ρ own) S2).bind fun ρ' S3 => (evIf ifs ρ' S3).bind fun k S4 => if k then (evE elt ρ' S4).bind fun e S5 => .ok (some e) S5 else .ok none S4)) (iv.many C S1) 0 (S1 ++ [.lst []])
  | .heard a, ρ, S => heardR C (evE a ρ S)
  | .tells f w a b, ρ, S => (evE b ρ S).bind fun y S1 => (heardR C (evE a ρ S1)).bind fun x S2 => cf f [x, .tup [.str w, y]] S2
  | .refuses f a b c, ρ, S => (evE b ρ S).bind fun y S1 => (evE c ρ S1).bind fun z S2 => (heardR C (evE a ρ S2)).bind fun x S3 => cf f [x, .tup [y, z]] S3
  | .lock i a, ρ, S => match lockD ρ S i with
    | some (n, kvs) => unlD n kvs (evE a ρ (S.set n (.dcF kvs)))
    | none => .bad
  | .bad, ρ, S => .bad
def evL : Exs → Rho → Sto → Rs (List D)
  | .nil, ρ, S => .ok [] S
  | .cons e es, ρ, S => (evE e ρ S).bind fun d S1 => (evL es ρ S1).bind fun ds S2 => .ok (d :: ds) S2
  | .star e es, ρ, S => (evE e ρ S).bind fun d S1 => (lift S1 (seqD C S1 d)).bind fun xs S2 => (evL es ρ S2).bind fun ds S3 => .ok (xs ++ ds) S3
def evO : Exo → Rho → Sto → Rs (Option Int)
  | .no, ρ, S => .ok none S
  | .so e, ρ, S => (evE e ρ S).bind fun d S1 => match d with
    | .int i => .ok (some i) S1
    | _ => .bad
def evI : Itx → Rho → Sto → Rs Iv
  | .seq e, ρ, S => (evE e ρ S).bind fun d S1 => lift S1 (seqI S1 d)
  | .rng a, ρ, S => (evE a ρ S).bind fun d S1 => match d with
    | .int j => lift S1 (rngI 0 j)
    | _ => .bad
  | .rng2 a b, ρ, S => (evE a ρ S).bind fun d S1 => (evE b ρ S1).bind fun e S2 => match d, e with
    | .int i, .int j => lift S2 (rngI i j)
    | _, _ => .bad
  | .enum e, ρ, S => (evE e ρ S).bind fun d S1 => lift S1 (enumI S1 d)
  | .keys i, ρ, S => (lift S (lockedI ρ S i)).bind fun p S1 => .ok (.keys p.1 p.2) S1
  | .items i, ρ, S => (lift S (lockedI ρ S i)).bind fun p S1 => .ok (.items p.1 p.2) S1
/-- all ifs of a comprehension -/
def evIf : Exs → Rho → Sto → Rs Bool
  | .nil, ρ, S => .ok true S
  | .cons e es, ρ, S => (evE e ρ S).bind fun d S1 => (lift S1 (truD C S1 d)).bind fun k S2 => if k then evIf es ρ S2 else .ok false S2
  | .star e es, ρ, S => .bad
/-- a target takes a value -/
def evT : Tg → D → Rho → Sto → Rs Rho
  | .name i, d, ρ, S => if i < ρ.length then .ok (ρ.set i (some d)) S else .bad
  | .tup ts, d, ρ, S => match d with
    | .tup ds => evTs ts ds ρ S
    | _ => .bad
  | .sub o i, d, ρ, S => (evE o ρ S).bind fun x S1 => (evE i ρ S1).bind fun y S2 => (lift S2 (setD S2 x y d)).bind fun S3 _ => .ok ρ S3
  | .fld f o, d, ρ, S => (evE o ρ S).bind fun x S1 => (lift S1 (setA S1 f d x)).bind fun S2 _ => .ok ρ S2
def evTs : Tgs → List D → Rho → Sto → Rs Rho
  | .nil, ds, ρ, S => match ds with
    | [] => .ok ρ S
    | _ :: _ => .bad
  | .cons t ts, ds, ρ, S => match ds with
    | [] => .bad
    | d :: r => (evT t d ρ S).bind fun ρ' S1 => evTs ts r ρ' S1
end
/-- a for's turns -/
def forK (iv : Iv) (turn : D → Rho → Sto → Fr) : Nat → Nat → Rho → Sto → Fr
  | k, i, ρ, S => match iv.at C S i with
    | none => .bad
    | some none => .nx ρ S
    | some (some d) => match k with
      | 0 => .bad
      | k + 1 => match turn d ρ S with
        | .nx ρ' S' => forK iv turn k (i + 1) ρ' S'
        | .ct ρ' S' => forK iv turn k (i + 1) ρ' S'
        | .bk ρ' S' => .nx ρ' S'
        | r => r
/-- a while's turns -/
def whileK (test : Rho → Sto → Rs Bool) (body : Rho → Sto → Fr) : Nat → Rho → Sto → Fr
  | 0, ρ, S => .bad
  | k + 1, ρ, S => (test ρ S).toFr ρ fun b S1 => if b then match body ρ S1 with
      | .nx ρ' S' => whileK test body k ρ' S'
      | .ct ρ' S' => whileK test body k ρ' S'
      | .bk ρ' S' => .nx ρ' S'
      | r => r
    else .nx ρ S1
def evB (c : Ex) (ρ : Rho) (S : Sto) : Rs Bool := (evE C cf c ρ S).bind fun d S1 => lift S1 (truD C S1 d)
mutual
def evS : Sm → Rho → Sto → Fr
  | .expr e, ρ, S => (evE C cf e ρ S).toFr ρ fun _ S1 => .nx ρ S1
  | .asg t e, ρ, S => (evE C cf e ρ S).toFr ρ fun d S1 => (noex (evT C cf t d ρ S1)).toFr ρ fun ρ' S2 => .nx ρ' S2
  | .par i j a b, ρ, S => (evE C cf a ρ S).toFr ρ fun x S1 => (evE C cf b ρ S1).toFr ρ fun y S2 => .nx ((ρ.set i (some x)).set j (some y)) S2
  | .par3 i j k a b c, ρ, S => (evE C cf a ρ S).toFr ρ fun x S1 => (evE C cf b ρ S1).toFr ρ fun y S2 => (evE C cf c ρ S2).toFr ρ fun z S3 => .nx (((ρ.set i (some x)).set j (some y)).set k (some z)) S3
  | .ret e, ρ, S => (evE C cf e ρ S).toFr ρ fun d S1 => .rt d S1
  | .retN, ρ, S => .rt .non S
  | .ife c a b, ρ, S => (evB C cf c ρ S).toFr ρ fun k S1 => if k then evSs a ρ S1 else evSs b ρ S1
  | .for_ t it b, ρ, S => (evI C cf it ρ S).toFr ρ fun iv S1 =>
      forK C iv (fun d ρ' S2 => (noex (evT C cf t d ρ' S2)).toFr ρ' fun ρ2 S3 => evSs b ρ2 S3) (iv.many C S1) 0 ρ S1
  | .while_ c b, ρ, S => whileK (evB C cf c) (fun ρ' S' => evSs b ρ' S') C.wf ρ S
  | .raise c e, ρ, S => (evE C cf e ρ S).toFr ρ fun d S1 => .ex c d ρ S1
  | .brk, ρ, S => .bk ρ S
  | .cnt, ρ, S => .ct ρ S
  | .pass, ρ, S => .nx ρ S
  | .lock i s, ρ, S => match lockD ρ S i with
    | some (n, kvs) => unlF n kvs (evS s ρ (S.set n (.dcF kvs)))
    | none => .bad
  | .bad, ρ, S => .bad
def evSs : List Sm → Rho → Sto → Fr
  | [], ρ, S => .nx ρ S
  | s :: r, ρ, S => match evS s ρ S with
    | .nx ρ' S' => evSs r ρ' S'
    | r => r
end
end
/-- a def is called: n calls deep at most -/
def callF (C : Cf) : Nat → Nat → List D → Sto → Rs D
  | 0, _, _, _ => .bad
  | n + 1, f, ds, S => match C.P f with
    | none => .bad
    | some F => if ds.length = F.np ∧ F.np ≤ F.ns then match evSs C (callF C n) F.body (ds.map some ++ List.replicate (F.ns - F.np) none) S with
        | .nx _ S' => .ok .non S'
        | .rt d S' => .ok d S'
        | .ex c w _ S' => .exc c w S'
        | _ => .bad
      else .bad
end MP
end MPi
section MPs
set_option Elab.async false
set_option linter.all false
set_option maxRecDepth 100000
/-! MPs: the interpreter's readings; operators, comparisons, truth, built-in calls by values. -/
namespace MP
open PySem L2

section
variable (K : PySem.W.Frag) (T : Env1)
/-- a value has come -/
def OkD (A : List Addr) (H : Hp) (d : D) (S : Sto) (Q : VK) : Prop := ∀ v H' A', Ext A H A' H' → Rl K T A' S H' → Rep T A' H' d v → Q v H'
/-- an exception of the class c that keeps w, as it lies in the heap: its class, its own dict -/
def ExcR (c : Nat) (w : D) (A : List Addr) (H : Hp) (cv : Value) (dx : Option Addr) : Prop :=
  ∃ C x q fs v, T.exc[c]? = some (C, x) ∧ cv = .ref C ∧ dx = some q ∧ H q = some (.xd fs) ∧ fs.lookup ("what" : Str) = some v ∧ Rep T A H w v ∧ fs.lookup ("word" : Str) = some (.str x)
def ExD (A : List Addr) (H : Hp) (c : Nat) (w : D) (S : Sto) (W : WX) (σ : St) : Prop := ∀ cv dx H' A', Ext A H A' H' → Rl K T A' S H' → ExcR T c w A' H' cv dx → W cv dx σ H'
def PostD (A : List Addr) (H : Hp) (r : Rs D) (W : WX) (σ : St) (Q : VK) : Prop := match r with
  | .ok d S => OkD K T A H d S Q
  | .exc c w S => ExD K T A H c w S W σ
  | .bad => False
/-- the same of any result, by what it stands for -/
def PostG {α : Type} (A : List Addr) (H : Hp) (r : Rs α) (W : WX) (σ : St) (Q : α → List Addr → Sto → Hp → Prop) : Prop := match r with
  | .ok a S => ∀ H' A', Ext A H A' H' → Rl K T A' S H' → Q a A' S H'
  | .exc c w S => ExD K T A H c w S W σ
  | .bad => False
/-- the slots -/
structure RhoR (A : List Addr) (H : Hp) (ρ : Rho) (σ : St) : Prop where
  len : ρ.length = σ.length
  at_ : ∀ (i : Nat) (d : D), ρ[i]? = some (some d) → ∃ v, σ[i]? = some (some v) ∧ Rep T A H d v
end
section
variable {K : PySem.W.Frag} {T : Env1} {A A' : List Addr} {S : Sto} {H H' : Hp} {W : WX} {σ : St} {ρ : Rho}
theorem RhoR.ext (e : Ext A H A' H') (r : RhoR T A H ρ σ) : RhoR T A' H' ρ σ := ⟨r.len, fun i d h => let ⟨v, h1, h2⟩ := r.at_ i d h; ⟨v, h1, h2.ext e⟩⟩
theorem RhoR.set (r : RhoR T A H ρ σ) {d : D} {v : V} (q : Rep T A H d v) (i : Nat) : RhoR T A H (ρ.set i (some d)) (σ.set i (some v)) := by
  refine ⟨by rw [List.length_set, List.length_set]; exact r.len, fun j e h => ?_⟩
  by_cases hj : j = i
  · subst hj
    have hl : j < ρ.length := by
      have := (List.getElem?_eq_some_iff.mp h).1
      rw [List.length_set] at this
      exact this
    rw [List.getElem?_set_self hl] at h
    cases h
    exact ⟨v, List.getElem?_set_self (r.len ▸ hl), q⟩
  · rw [List.getElem?_set_ne (Ne.symm hj)] at h
    rw [List.getElem?_set_ne (Ne.symm hj)]
    exact r.at_ j e h
theorem RhoR.set_none (r : RhoR T A H ρ σ) (i : Nat) (o : Option V) : RhoR T A H (ρ.set i none) (σ.set i o) := by
  refine ⟨by rw [List.length_set, List.length_set]; exact r.len, fun j e h => ?_⟩
  by_cases hj : j = i
  · subst hj
    have hl : j < ρ.length := by
      have := (List.getElem?_eq_some_iff.mp h).1
      rw [List.length_set] at this
      exact this
    rw [List.getElem?_set_self hl] at h
    cases h
  · rw [List.getElem?_set_ne (Ne.symm hj)] at h
    rw [List.getElem?_set_ne (Ne.symm hj)]
    exact r.at_ j e h
theorem OkD.ext {d : D} {Q : VK} (e : Ext A H A' H') (h : OkD K T A H d S Q) : OkD K T A' H' d S Q := fun v H2 A2 e2 R r => h v H2 A2 (e.trans e2) R r
theorem ExD.ext {c : Nat} {w : D} (e : Ext A H A' H') (h : ExD K T A H c w S W σ) : ExD K T A' H' c w S W σ := fun cv dx H2 A2 e2 R r => h cv dx H2 A2 (e.trans e2) R r
theorem PostD.ext {r : Rs D} {Q : VK} (e : Ext A H A' H') (h : PostD K T A H r W σ Q) : PostD K T A' H' r W σ Q := by
  cases r with
  | ok d S => exact OkD.ext e h
  | exc c w S => exact ExD.ext e h
  | bad => exact h
theorem PostG.ext {α : Type} {r : Rs α} {Q : α → List Addr → Sto → Hp → Prop} (e : Ext A H A' H') (h : PostG K T A H r W σ Q) : PostG K T A' H' r W σ Q := by
  cases r with
  | ok a S => exact fun H2 A2 e2 R => h H2 A2 (e.trans e2) R
  | exc c w S => exact ExD.ext e h
  | bad => exact h
theorem PostD.imp {r : Rs D} {Q Q' : VK} (h : PostD K T A H r W σ Q) (hq : ∀ v H', Q v H' → Q' v H') : PostD K T A H r W σ Q' := by
  cases r with
  | ok d S => exact fun v H2 A2 e R q => hq _ _ (h v H2 A2 e R q)
  | exc c w S => exact h
  | bad => exact h
end

section
variable (K : PySem.W.Frag) (T : Env1) (C : Cf) (cf : Nat → List D → Sto → Rs D) (W : WX)
/-- the reading of an expression -/
def tE (x : Ex) : TE := fun σ H Q => ∃ A ρ S, Rl K T A S H ∧ RhoR T A H ρ σ ∧ PostD K T A H (evE C cf x ρ S) W σ Q
def tL (x : Exs) : TA := fun σ H Q => ∃ A ρ S, Rl K T A S H ∧ RhoR T A H ρ σ ∧ PostG K T A H (evL C cf x ρ S) W σ fun ds A' S' H' => ∀ vs, Reps T A' H' ds vs → Q vs H'
def tB_ (x : Ex) : TT := fun σ H Q => ∃ A ρ S, Rl K T A S H ∧ RhoR T A H ρ σ ∧ PostG K T A H (evB C cf x ρ S) W σ fun b A' S' H' => Q b H'
end
section
variable {K : PySem.W.Frag} {T : Env1} {C : Cf} {cf : Nat → List D → Sto → Rs D} {W : WX}
/-- THE STEP: an expression is reckoned first, then what comes behind it -/
theorem stepE {A : List Addr} {S : Sto} {H : Hp} {σ : St} {ρ : Rho} {Q : VK} {Q1 : VK} {a : Ex} {f : D → Sto → Rs D} (R : Rl K T A S H) (r : RhoR T A H ρ σ) (h : PostD K T A H ((evE C cf a ρ S).bind f) W σ Q)
    (k : ∀ x H1 A1 S1 d, Ext A H A1 H1 → Rl K T A1 S1 H1 → RhoR T A1 H1 ρ σ → Rep T A1 H1 d x → PostD K T A1 H1 (f d S1) W σ Q → Q1 x H1) : tE K T C cf W a σ H Q1 := by
  refine ⟨A, ρ, S, R, r, ?_⟩
  cases q : evE C cf a ρ S with
  | ok d S1 =>
    rw [q] at h
    exact fun v H1 A1 e R1 rv => k v H1 A1 S1 d e R1 (r.ext e) rv (PostD.ext e h)
  | exc c w S1 =>
    rw [q] at h
    exact h
  | bad =>
    rw [q] at h
    exact h
theorem stepEG {α : Type} {A : List Addr} {S : Sto} {H : Hp} {σ : St} {ρ : Rho} {Q : α → List Addr → Sto → Hp → Prop} {Q1 : VK} {a : Ex} {f : D → Sto → Rs α} (R : Rl K T A S H) (r : RhoR T A H ρ σ) (h : PostG K T A H ((evE C cf a ρ S).bind f) W σ Q)
    (k : ∀ x H1 A1 S1 d, Ext A H A1 H1 → Rl K T A1 S1 H1 → RhoR T A1 H1 ρ σ → Rep T A1 H1 d x → PostG K T A1 H1 (f d S1) W σ Q → Q1 x H1) : tE K T C cf W a σ H Q1 := by
  refine ⟨A, ρ, S, R, r, ?_⟩
  cases q : evE C cf a ρ S with
  | ok d S1 =>
    rw [q] at h
    exact fun v H1 A1 e R1 rv => k v H1 A1 S1 d e R1 (r.ext e) rv (PostG.ext e h)
  | exc c w S1 =>
    rw [q] at h
    exact h
  | bad =>
    rw [q] at h
    exact h
theorem stepL {A : List Addr} {S : Sto} {H : Hp} {σ : St} {ρ : Rho} {Q : VK} {Q1 : List V → Hp → Prop} {es : Exs} {f : List D → Sto → Rs D} (R : Rl K T A S H) (r : RhoR T A H ρ σ) (h : PostD K T A H ((evL C cf es ρ S).bind f) W σ Q)
    (k : ∀ xs H1 A1 S1 ds, Ext A H A1 H1 → Rl K T A1 S1 H1 → RhoR T A1 H1 ρ σ → Reps T A1 H1 ds xs → PostD K T A1 H1 (f ds S1) W σ Q → Q1 xs H1) : tL K T C cf W es σ H Q1 := by
  refine ⟨A, ρ, S, R, r, ?_⟩
  cases q : evL C cf es ρ S with
  | ok ds S1 =>
    rw [q] at h
    exact fun H1 A1 e R1 vs rv => k vs H1 A1 S1 ds e R1 (r.ext e) rv (PostD.ext e h)
  | exc c w S1 =>
    rw [q] at h
    exact h
  | bad =>
    rw [q] at h
    exact h
theorem tE_imp {x : Ex} {σ : St} {H : Hp} {Q Q' : VK} (h : tE K T C cf W x σ H Q) (hq : ∀ v H', Q v H' → Q' v H') : tE K T C cf W x σ H Q' := by
  obtain ⟨A, ρ, S, R, r, p⟩ := h
  exact ⟨A, ρ, S, R, r, p.imp hq⟩
end
section
variable {X : Cx}
theorem _root_.L2.PE.imp {e : Expr} {t t' : TE} (h : PE X e t) (f : ∀ σ H Q, t' σ H Q → t σ H Q) : PE X e t' := ⟨fun pins s σ H Q I q => h.run pins s σ H Q I (f σ H Q q)⟩
theorem _root_.L2.PT.imp {e : Expr} {t t' : TT} (h : PT X e t) (f : ∀ σ H Q, t' σ H Q → t σ H Q) : PT X e t' := ⟨fun pins s σ H Q I q => h.run pins s σ H Q I (f σ H Q q)⟩
theorem _root_.L2.PA.imp {es : List Expr} {t t' : TA} (h : PA X es t) (f : ∀ σ H Q, t' σ H Q → t σ H Q) : PA X es t' := ⟨fun pos pins s σ H Q I q => h.run pos pins s σ H Q I (f σ H Q q)⟩
theorem _root_.L2.PS.imp {st : Stmt} {t t' : TS} (h : PS X st t) (f : ∀ D σ H, t' D σ H → t D σ H) : PS X st t' := ⟨fun pins s σ H D I q => h.run pins s σ H D I (f D σ H q)⟩
theorem _root_.L2.PSs.imp {st : List Stmt} {t t' : TS} (h : PSs X st t) (f : ∀ D σ H, t' D σ H → t D σ H) : PSs X st t' := ⟨fun pins s σ H D I q => h.run pins s σ H D I (f D σ H q)⟩
end

/-! ### operators -/
section
variable (K : PySem.W.Frag) (T : Env1)
def r2 (f : Sto → D → D → Option (D × Sto)) : R2 := fun x y H Q => ∃ A S d e r S', Rl K T A S H ∧ Rep T A H d x ∧ Rep T A H e y ∧ f S d e = some (r, S') ∧ OkD K T A H r S' Q
/-- a comparison: nothing new -/
def rC (f : Sto → D → D → Option Bool) : R2 := fun x y H Q => ∃ A S d e k, Rl K T A S H ∧ Rep T A H d x ∧ Rep T A H e y ∧ f S d e = some k ∧ Q (.bl k) H
end
section
variable {K : PySem.W.Frag} {T : Env1} {A : List Addr} {S : Sto} {H : Hp} {Q : VK}
theorem Rl.lst (R : Rl K T A S H) {n : Nat} {ds : List D} {a : Addr} (h : S[n]? = some (.lst ds)) (hA : A[n]? = some a) : ∃ vs, H a = some (.lst vs) ∧ Reps T A H ds vs := R.obj n _ a h hA
theorem Rl.dct (R : Rl K T A S H) {n : Nat} {kvs : List (Key × D)} {a : Addr} (h : S[n]? = some (.dct kvs)) (hA : A[n]? = some a) : ∃ vs, H a = some (.dK vs) ∧ RepK T A H kvs vs := R.obj n _ a h hA
/-- a new tuple -/
theorem OkD.tup {ds : List D} {vs : List V} (R : Rl K T A S H) (rv : Reps T A H ds vs) (q : OkD K T A H (.tup ds) S Q) (p : Addr) (hp : H p = none) : Q (.ref p) (upd H p (.tup vs)) := by
  obtain ⟨R', e⟩ := R.laid0 (o := .tup vs) hp
  exact q _ _ A e R' (.tup upd_same (rv.ext e))
/-- a new list -/
theorem OkD.lst {ds : List D} {vs : List V} (R : Rl K T A S H) (rv : Reps T A H ds vs) (q : OkD K T A H (.ref S.length) (S ++ [.lst ds]) Q) (p : Addr) (hp : H p = none) : Q (.ref p) (upd H p (.lst vs)) := by
  obtain ⟨R', e⟩ := R.push (o := .lst ds) (ho := .lst vs) hp fun A' H' e h => ⟨vs, h, rv.ext e⟩
  exact q _ _ _ e R' (.ref (by rw [← R.len, List.getElem?_append_right (Nat.le_refl _)]; simp))
theorem SqL.lst {a : Addr} {vs : List V} (h : H a = some (.lst vs)) : SqL K H a vs := SqL.of h
end
section
variable {X : Cx} {T : Env1}
theorem two60 {i : Int} (h : bits i < 60) : -(2 ^ 64) < i ∧ i < 2 ^ 64 := by
  have h1 : i.natAbs < 2 ^ 60 := by
    by_cases z : i.natAbs = 0
    · rw [z]; decide
    · have := Nat.log2_lt z (k := 60)
      exact this.mp h
  have h2 : (2 : Nat) ^ 60 = 1152921504606846976 := by decide
  have h3 : (2 : Int) ^ 64 = 18446744073709551616 := by decide
  rw [h2] at h1
  rw [h3]
  omega
theorem opr_add : OpR X (binaryOp .Add) (r2 X.K T (fun S a b => binD .Add S a b)) := by
  rintro pins s σ H x y v u Q I rx ry ⟨A, S, d, e, r, S', R, rd, re, hf, hQ⟩
  replace hf : addD S d e = some (r, S') := hf
  cases rd <;> cases re <;> first | (exfalso; simp [addD] at hf; done) | skip
  · rename_i i j
    simp [addD] at hf
    obtain ⟨rfl, rfl⟩ := hf
    exact op_add pins s σ H _ _ v u Q I rx ry ⟨i, j, rfl, rfl, hQ _ _ _ (Ext.refl _ _) R (.int _)⟩
  · rename_i i j
    simp only [addD] at hf
    split at hf
    · rename_i hl
      simp at hf
      obtain ⟨rfl, rfl⟩ := hf
      exact op_add_str pins s σ H _ _ v u Q I rx ry ⟨i, j, rfl, rfl, hl, hQ _ _ _ (Ext.refl _ _) R (.str _)⟩
    · cases hf
  · rename_i a vs ds ha ra b ws es hb rb
    simp only [addD] at hf
    split at hf
    · rename_i hl
      simp at hf
      obtain ⟨rfl, rfl⟩ := hf
      have l1 := ra.length
      have l2 := rb.length
      refine op_catA pins s σ H _ _ v u Q I rx ry ⟨a, b, vs, ws, rfl, rfl, SqT.of ha, SqT.of hb, by omega, fun z => ?_, fun _ z => ?_, fun _ _ p hp => OkD.tup R (Reps.append rb ra) hQ p hp⟩
      · subst z
        cases ra
        exact hQ _ _ _ (Ext.refl _ _) R (.tup hb rb)
      · subst z
        cases rb
        refine hQ _ _ _ (Ext.refl _ _) R ?_
        rw [List.append_nil]
        exact .tup ha ra
    · cases hf
  · rename_i n a ha m b hb
    simp only [addD] at hf
    split at hf
    · rename_i xs ys h1 h2
      split at hf
      · rename_i hl
        simp [new] at hf
        obtain ⟨rfl, rfl⟩ := hf
        obtain ⟨vs, g1, r1⟩ := R.lst h1 ha
        obtain ⟨ws, g2, r2⟩ := R.lst h2 hb
        have l1 := r1.length
        have l2 := r2.length
        exact op_cat pins s σ H _ _ v u Q I rx ry ⟨a, b, vs, ws, rfl, rfl, g1, g2, by omega, fun p hp => OkD.lst R (Reps.append r2 r1) hQ p hp⟩
      · cases hf
    · cases hf
theorem opr_sub : OpR X (binaryOp .Sub) (r2 X.K T (fun S a b => binD .Sub S a b)) := by
  rintro pins s σ H x y v u Q I rx ry ⟨A, S, d, e, r, S', R, rd, re, hf, hQ⟩
  cases rd <;> cases re <;> first | (exfalso; simp [binD] at hf; done) | skip
  rename_i i j
  simp [binD] at hf
  obtain ⟨rfl, rfl⟩ := hf
  exact op_sub pins s σ H _ _ v u Q I rx ry ⟨i, j, rfl, rfl, hQ _ _ _ (Ext.refl _ _) R (.int _)⟩
theorem opr_mod : OpR X (binaryOp .Mod) (r2 X.K T (fun S a b => binD .Mod S a b)) := by
  rintro pins s σ H x y v u Q I rx ry ⟨A, S, d, e, r, S', R, rd, re, hf, hQ⟩
  cases rd <;> cases re <;> first | (exfalso; simp [binD] at hf; done) | skip
  rename_i i j
  simp [binD] at hf
  obtain ⟨hj, rfl, rfl⟩ := hf
  exact op_mod pins s σ H _ _ v u Q I rx ry ⟨i, j, rfl, rfl, hj, hQ _ _ _ (Ext.refl _ _) R (.int _)⟩
theorem opr_fdiv : OpR X (binaryOp .FloorDiv) (r2 X.K T (fun S a b => binD .FloorDiv S a b)) := by
  rintro pins s σ H x y v u Q I rx ry ⟨A, S, d, e, r, S', R, rd, re, hf, hQ⟩
  cases rd <;> cases re <;> first | (exfalso; simp [binD] at hf; done) | skip
  rename_i i j
  simp [binD] at hf
  obtain ⟨⟨hj, hb⟩, rfl, rfl⟩ := hf
  refine op_fdivW pins s σ H _ _ v u Q I rx ry ⟨i, j, rfl, rfl, ⟨hj, ?_⟩, hQ _ _ _ (Ext.refl _ _) R (.int _)⟩
  exact Nat.lt_trans hb (by decide)
theorem opr_pow : OpR X (binaryOp .Pow) (r2 X.K T (fun S a b => binD .Pow S a b)) := by
  rintro pins s σ H x y v u Q I rx ry ⟨A, S, d, e, r, S', R, rd, re, hf, hQ⟩
  cases rd <;> cases re <;> first | (exfalso; simp [binD] at hf; done) | skip
  rename_i i j
  simp [binD] at hf
  obtain ⟨⟨h0, h1, hb⟩, rfl, rfl⟩ := hf
  have := two60 hb
  refine op_pow pins s σ H _ _ v u Q I rx ry ⟨i, j, rfl, rfl, ⟨h0, by omega, ?_⟩, hQ _ _ _ (Ext.refl _ _) R (.int _)⟩
  have h3 : (2 : Int) ^ 64 = 18446744073709551616 := by decide
  have h4 : (2 : Nat) ^ 64 = 18446744073709551616 := by decide
  rw [h3] at this
  rw [h4]
  omega
end
end MP
end MPs
section MPt
set_option Elab.async false
set_option linter.all false
set_option maxRecDepth 100000
/-! MPt: products, comparisons, subscripts, slices, truth, by values. -/
namespace MP
open PySem PySem.Spec PyProof.Rows L2
def nb : Bool → Bool → Bool
  | true, k => !k
  | false, k => k
theorem Reps.rep {T : Env1} {A : List Addr} {H : Hp} {ds : List D} {vs : List V} (h : Reps T A H ds vs) : ∀ k : Nat, Reps T A H (List.replicate k ds).flatten (List.replicate k vs).flatten
  | 0 => .nil
  | k + 1 => by
    rw [List.replicate_succ, List.replicate_succ, List.flatten_cons, List.flatten_cons]
    exact Reps.append (Reps.rep h k) h
section
variable {X : Cx} {T : Env1}
/-- a tuple times a number from 2 to 2000 -/
def rRep2 (K : PySem.W.Frag) : R2 := fun x y H Q => ∃ l k xs, x = .ref l ∧ y = .int k ∧ SqT K H l xs ∧ 0 < xs.length ∧ 2 ≤ k ∧ k ≤ 2000 ∧ xs.length ≤ 1000 ∧ ∀ p, H p = none → Q (.ref p) (upd H p (.tup (List.replicate k.toNat xs).flatten))
theorem op_rep2 : OpR X (binaryOp .Mult) (rRep2 X.K) := by
  rintro pins s σ H x y v u Q I rx ry ⟨l, k, xs, rfl, rfl, hT, hne, h1, h2, hz, q⟩
  cases rx
  obtain ⟨t, rfl⟩ := ry
  obtain ⟨its, r, ⟨⟨cls, dd, data, sl⟩, ho, hc, n, hd⟩, hs⟩ := I.tuple hT
  simp only at hc hd
  subst hc hd
  have hle := r.length
  have hi : its.toArray.isEmpty = false := by
    cases its with
    | nil =>
      rw [hle] at hne
      exact absurd hne (Nat.lt_irrefl 0)
    | cons a b => rfl
  have hz0 : its.toArray.size = xs.length := by rw [List.size_toArray, hle]
  have hm : ((its.toArray.size : Nat) : Int) * k ≤ 2000000 := by
    rw [hz0]
    have a1 : ((xs.length : Nat) : Int) * k ≤ 1000 * k := Int.mul_le_mul_of_nonneg_right (by omega) (by omega)
    omega
  have fl : k.toNat * xs.length ≤ 2000 * 1000 := Nat.mul_le_mul (by omega) hz
  have flen : (List.replicate k.toNat its).flatten.length ≤ sizeLine := by
    rw [PyProof.Rows.lm_len_rep_flat, ← hle, sizeLine_eq]
    omega
  refine wpAny_binaryOp_repeat_ref (T := "tuple") (U := "int") (by decide) ⟨_, ho, rfl⟩ (fun s' => typeIs_int s' k t) noFill_tuple_mul F.fills_int_mul F.slot_int_rmul repeat_tuple F.slot_int_index.lookup
    (call_meets F.slot_int_rmul (typeIs_int s k t) F.entry_int_rmul (F.args_int_rmul_2 _ _) (int_rmul_tuple k t l its.toArray n dd sl)
      ⟨ho, rfl, ⟨_, ho, rfl⟩, call_meets F.slot_tuple_mul ⟨_, ho, rfl⟩ F.entry_tuple_mul (F.args_tuple_mul_2 _ _)
        (tuple_mulW l its.toArray n dd sl k t (by rw [decide_eq_false (by omega), decide_eq_false (by omega)]; rfl) (by rw [hi, Bool.false_or]; exact beq_eq_false_iff_ne.mpr (by omega))
          (by rw [hi, Bool.or_false]; exact decide_eq_false (by omega)) (by omega) (by unfold Builtin.Tuple.tupleTooMany; rw [sizeLine_eq]; exact decide_eq_false (by omega)) (by rw [size_rep, List.size_toArray]; exact flen)) ⟨ho, ?_⟩⟩)
  rw [size_rep]
  refine ⟨.ref s.heap.objs.size, _, I.laid (t' := s.toks) (o := .tup (List.replicate k.toNat xs).flatten) (fun b ob q => Heap.get?_push_of_some _ q) (Nat.le_refl _) ?_, rfl, q _ (I.hok.fresh (Nat.le_refl _))⟩
  exact ⟨by rw [PyProof.Rows.lm_len_rep_flat, sizeLine_eq]; omega, _, r.rep k.toNat, IsTup.new _ _⟩
theorem tuple_mul0 (l : Addr) (n : Nat) (dd : Option Addr) (sl : Array (Option Value)) (x : Int) (u : Tok) (c0 : (decide (x < -(2 ^ 63)) || decide (x ≥ 2 ^ 63)) = false) :
    Meets (Builtin.«tuple.__mul__» ⟨[.ref l, .int x u], []⟩) (fun _ R s => s.heap.get? l = some { cls := .type "tuple", dict := dd, data := .seq #[] n, slots := sl } ∧ R (.ok (.ret (Value.ref l))) s) :=
  .of_wp fun prog w A R s h => by
    obtain ⟨hp, g, d, tk, os⟩ := s
    obtain ⟨hl, h⟩ := h
    have f1 := AutoSeq1.idx_int
    wp_walk using wpAny_loadPart' hl
    repeat (first
      | (refine wpAny_ite_false (decide_eq_false (by rw [c0]; exact Bool.false_ne_true)) ?_; wp_walk using wpAny_loadPart' hl)
      | (refine wpAny_ite_true rfl ?_; wp_walk using wpAny_loadPart' hl))
    exact ⟨_, rfl, h⟩
/-- an empty tuple times a number: itself -/
def rRep0 (K : PySem.W.Frag) : R2 := fun x y H Q => ∃ l k, x = .ref l ∧ y = .int k ∧ SqT K H l [] ∧ 2 ≤ k ∧ k ≤ 2000 ∧ Q (.ref l) H
theorem op_rep0 : OpR X (binaryOp .Mult) (rRep0 X.K) := by
  rintro pins s σ H x y v u Q I rx ry ⟨l, k, rfl, rfl, hT, h1, h2, q⟩
  cases rx
  obtain ⟨t, rfl⟩ := ry
  obtain ⟨its, r, ⟨⟨cls, dd, data, sl⟩, ho, hc, n, hd⟩, hs⟩ := I.tuple hT
  simp only at hc hd
  subst hc hd
  have hi : its = [] := List.eq_nil_of_length_eq_zero r.length.symm
  subst hi
  refine wpAny_binaryOp_repeat_ref (T := "tuple") (U := "int") (by decide) ⟨_, ho, rfl⟩ (fun s' => typeIs_int s' k t) noFill_tuple_mul F.fills_int_mul F.slot_int_rmul repeat_tuple F.slot_int_index.lookup
    (call_meets F.slot_int_rmul (typeIs_int s k t) F.entry_int_rmul (F.args_int_rmul_2 _ _) (int_rmul_tuple k t l ([] : List Value).toArray n dd sl)
      ⟨ho, rfl, ⟨_, ho, rfl⟩, call_meets F.slot_tuple_mul ⟨_, ho, rfl⟩ F.entry_tuple_mul (F.args_tuple_mul_2 _ _)
        (tuple_mul0 l n dd sl k t (by rw [decide_eq_false (by omega), decide_eq_false (by omega)]; rfl)) ⟨ho, ?_⟩⟩)
  exact ⟨.ref l, _, I, rfl, q⟩
theorem opr_mul : OpR X (binaryOp .Mult) (r2 X.K T (fun S a b => binD .Mult S a b)) := by
  rintro pins s σ H x y v u Q I rx ry ⟨A, S, d, e, r, S', R, rd, re, hf, hQ⟩
  replace hf : mulD S d e = some (r, S') := hf
  cases rd <;> cases re <;> first | (exfalso; simp [mulD] at hf; done) | skip
  · rename_i i j
    simp only [mulD] at hf
    split at hf
    · rename_i hb
      simp at hf
      obtain ⟨rfl, rfl⟩ := hf
      have fin : Q (.int (i * j)) H := hQ _ _ _ (Ext.refl _ _) R (.int _)
      rcases hb with hb | hb | hb
      · exact op_mul pins s σ H _ _ v u Q I rx ry ⟨i, j, rfl, rfl, .inl (two60 hb), fin⟩
      · exact op_mul pins s σ H _ _ v u Q I rx ry ⟨i, j, rfl, rfl, .inr (two60 hb), fin⟩
      · exact op_mulW pins s σ H _ _ v u Q I rx ry ⟨i, j, rfl, rfl, Nat.lt_trans hb (by decide), fin⟩
    · cases hf
  · rename_i a vs ds ha ra k
    simp only [mulD] at hf
    split at hf
    · rename_i hb
      simp at hf
      obtain ⟨rfl, rfl⟩ := hf
      have l1 := ra.length
      by_cases h0 : 0 < vs.length
      case neg =>
        have ev : vs = [] := List.eq_nil_of_length_eq_zero (by omega)
        have ed : ds = [] := List.eq_nil_of_length_eq_zero (by omega)
        subst ev ed
        refine op_rep0 pins s σ H _ _ v u Q I rx ry ⟨a, k, rfl, rfl, SqT.of ha, hb.1, hb.2.1, hQ _ _ _ (Ext.refl _ _) R ?_⟩
        have e0 : (List.replicate k.toNat ([] : List D)).flatten = [] := by
          apply List.eq_nil_of_length_eq_zero
          rw [PyProof.Rows.lm_len_rep_flat]
          simp
        rw [e0]
        exact .tup ha .nil
      refine op_rep2 pins s σ H _ _ v u Q I rx ry ⟨a, k, vs, rfl, rfl, SqT.of ha, h0, hb.1, hb.2.1, by omega, fun p hp => OkD.tup R (Reps.rep ra _) hQ p hp⟩
    · cases hf
  · rename_i n a ha k
    simp only [mulD] at hf
    split at hf
    · rename_i xs h1
      split at hf
      · rename_i hb
        simp [new] at hf
        obtain ⟨rfl, rfl⟩ := hf
        obtain ⟨vs, g1, r1⟩ := R.lst h1 ha
        have l1 := r1.length
        have fl : vs.length * k.toNat ≤ 160 * 100000 := Nat.mul_le_mul (by omega) (by omega)
        exact op_rep pins s σ H _ _ v u Q I rx ry ⟨a, k, vs, rfl, rfl, g1, by omega, by omega, by rw [sizeLine_eq]; omega, fun p hp => OkD.lst R (Reps.rep r1 _) hQ p hp⟩
      · cases hf
    · cases hf
theorem opr_bin (op : Operator) : OpR X (binaryOp op) (r2 X.K T (fun S a b => binD op S a b)) := by
  cases op
  case Add => exact opr_add
  case Sub => exact opr_sub
  case Mult => exact opr_mul
  case FloorDiv => exact opr_fdiv
  case Mod => exact opr_mod
  case Pow => exact opr_pow
  all_goals
    rintro pins s σ H x y v u Q I rx ry ⟨A, S, d, e, r, S', R, rd, re, hf, hQ⟩
    cases hf
end

/-! ### comparisons -/
section
variable {K : PySem.W.Frag} {T : Env1} {C : Cf} {A : List Addr} {S : Sto} {H : Hp}
theorem dp_ints {H : Hp} : ∀ ns : List Int, DpAll K H (ns.map V.int) (ns.map PyData.int)
  | [] => .nil
  | n :: r => .cons (.int n) (dp_ints r)
mutual
theorem dp_of (R : Rl K T A S H) (hs : C.sns = T.sns) : ∀ (k : Nat) (d : D) (p : PyData) (v : V), pyD C S k d = some p → Rep T A H d v → Dp K H v p
  | 0, _, _, _, h, _ => by simp [pyD] at h
  | k + 1, .non, p, v, h, r => by
    simp [pyD] at h
    subst h
    cases r
    exact .non
  | k + 1, .bl b, p, v, h, r => by
    simp [pyD] at h
    subst h
    cases r
    exact .bl _
  | k + 1, .int b, p, v, h, r => by
    simp [pyD] at h
    subst h
    cases r
    exact .int _
  | k + 1, .str b, p, v, h, r => by
    simp [pyD] at h
    subst h
    cases r
    exact .str _
  | k + 1, .tup ds, p, v, h, r => by
    simp only [pyD, Option.map_eq_some_iff] at h
    obtain ⟨ps, h, rfl⟩ := h
    cases r with
    | tup ha ra => exact .tup (SqT.of ha) (dps_of R hs k ds ps _ h ra)
  | k + 1, .scr, p, v, h, r => by
    simp [pyD] at h
    subst h
    cases r
    refine .lst R.sq ?_
    rw [hs]
    exact dp_ints _
  | k + 1, .ref n, p, v, h, r => by
    simp only [pyD] at h
    split at h
    · rename_i ds h1
      simp only [Option.map_eq_some_iff] at h
      obtain ⟨ps, h, rfl⟩ := h
      cases r with
      | ref ha =>
        obtain ⟨vs, g, rv⟩ := R.lst h1 ha
        exact .lst (SqL.of g) (dps_of R hs k ds ps _ h rv)
    · cases h
theorem dps_of (R : Rl K T A S H) (hs : C.sns = T.sns) : ∀ (k : Nat) (ds : List D) (ps : List PyData) (vs : List V), pyDs C S k ds = some ps → Reps T A H ds vs → DpAll K H vs ps
  | _, [], ps, vs, h, r => by
    simp [pyDs] at h
    subst h
    cases r
    exact .nil
  | 0, _ :: _, ps, vs, h, r => by simp [pyDs] at h
  | k + 1, d :: ds, ps, vs, h, r => by
    simp only [pyDs] at h
    split at h
    · rename_i p q h1 h2
      simp at h
      subst h
      cases r with
      | cons r1 r2 => exact .cons (dp_of R hs k d p _ h1 r1) (dps_of R hs (k + 1) ds q _ h2 r2)
    · cases h
end
theorem rel_flat {d : D} {v : V} (r : Rep T A H d v) (f : flatD d = true) : flatV v = true := by
  cases r <;> first | rfl | cases f
theorem rel_eqF {d e : D} {v w : V} (r : Rep T A H d v) (q : Rep T A H e w) (f : flatD d = true) (g : flatD e = true) : eqV v w = eqF d e := by
  cases r <;> cases q <;> first | rfl | cases f | cases g
theorem rels_flat : ∀ {ds : List D} {vs : List V}, Reps T A H ds vs → ds.all flatD = true → vs.all flatV = true
  | _, _, .nil, _ => rfl
  | _, _, .cons r t, f => by
    rw [List.all_cons, Bool.and_eq_true] at f ⊢
    exact ⟨rel_flat r f.1, rels_flat t f.2⟩
theorem rels_in {e : D} {w : V} (q : Rep T A H e w) (g : flatD e = true) : ∀ {ds : List D} {vs : List V}, Reps T A H ds vs → ds.all flatD = true → (vs.any fun y => eqV y w) = ds.any fun y => eqF y e
  | _, _, .nil, _ => rfl
  | _, _, .cons r t, f => by
    rw [List.all_cons, Bool.and_eq_true] at f
    rw [List.any_cons, List.any_cons, rel_eqF r q f.1 g, rels_in q g t f.2]
theorem key_rel {d : D} {v : V} {k : Key} (r : Rep T A H d v) (h : keyD d = some k) : v = kV k := by
  cases r <;> simp [keyD] at h
  · subst h; rfl
  · subst h; rfl
theorem val_rel {k : Key} : ∀ {kvs : List (Key × D)} {vs : List (Key × V)}, RepK T A H kvs vs → (valD kvs k = none ∧ valV vs k = none) ∨ ∃ d v, valD kvs k = some d ∧ valV vs k = some v ∧ Rep T A H d v
  | _, _, .nil => .inl ⟨rfl, rfl⟩
  | _, _, @RepK.cons _ _ _ _ j d v ds vs r t => by
    by_cases e : j = k
    · exact .inr ⟨d, v, by simp [valD, List.find?_cons, e], by simp [valV, List.find?_cons, e], r⟩
    · have h1 : valD ((j, d) :: ds) k = valD ds k := by simp [valD, List.find?_cons, e]
      have h2 : valV ((j, v) :: vs) k = valV vs k := by simp [valV, List.find?_cons, e]
      rw [h1, h2]
      exact val_rel t
theorem val_some {k : Key} {kvs : List (Key × D)} {vs : List (Key × V)} (r : RepK T A H kvs vs) : (valV vs k).isSome = (valD kvs k).isSome := by
  rcases val_rel (k := k) r with ⟨a, b⟩ | ⟨d, v, a, b, _⟩ <;> rw [a, b] <;> rfl
end
section
variable {X : Cx} {T : Env1} {C : Cf}
theorem opr_eq (hs : C.sns = T.sns) (hu : X.A.units + 64 < cLine) : OpR X (compareOp .Eq) (rC X.K T (fun S a b => cmpD C .Eq S a b)) := by
  rintro pins s σ H x y v u Q I rx ry ⟨A, S, d, e, k, R, rd, re, hf, hQ⟩
  simp only [cmpD, eqD] at hf
  split at hf
  · rename_i p q h1 h2
    split at hf
    · rename_i hsh
      simp at hf
      subst hf
      exact op_eqD hu pins s σ H _ _ v u Q I rx ry ⟨p, q, dp_of R hs _ _ _ _ h1 rd, dp_of R hs _ _ _ _ h2 re, hsh.1, hsh.2, hQ⟩
    · cases hf
  · cases hf
theorem opr_ne (hs : C.sns = T.sns) (hu : X.A.units + 64 < cLine) : OpR X (compareOp .NotEq) (rC X.K T (fun S a b => cmpD C .NotEq S a b)) := by
  rintro pins s σ H x y v u Q I rx ry ⟨A, S, d, e, k, R, rd, re, hf, hQ⟩
  simp only [cmpD, eqD, Option.map_eq_some_iff] at hf
  obtain ⟨k', hf, rfl⟩ := hf
  split at hf
  · rename_i p q h1 h2
    split at hf
    · rename_i hsh
      simp at hf
      subst hf
      exact op_neD hu pins s σ H _ _ v u Q I rx ry ⟨p, q, dp_of R hs _ _ _ _ h1 rd, dp_of R hs _ _ _ _ h2 re, hsh.1, hsh.2, hQ⟩
    · cases hf
  · cases hf
theorem opr_ord {op : CmpOp} {g : Int → Int → Bool} (hop : OpR X (compareOp op) (rI0 fun i j => .bl (g i j))) (hg : ∀ S d e k, cmpD C op S d e = some k → ∃ i j, d = .int i ∧ e = .int j ∧ k = g i j) : OpR X (compareOp op) (rC X.K T (fun S a b => cmpD C op S a b)) := by
  rintro pins s σ H x y v u Q I rx ry ⟨A, S, d, e, k, R, rd, re, hf, hQ⟩
  obtain ⟨i, j, rfl, rfl, rfl⟩ := hg S d e k hf
  cases rd
  cases re
  exact hop pins s σ H _ _ v u Q I rx ry ⟨i, j, rfl, rfl, hQ⟩
theorem opr_is {neg : Bool} {op : CmpOp} (h1 : OpR X (compareOp op) (fun x y H Q => y = .non ∧ Q (.bl (nb neg (decide (x = .non)))) H)) (h2 : OpR X (compareOp op) (fun x y H Q => ∃ a b : Bool, x = .bl a ∧ y = .bl b ∧ Q (.bl (nb neg (decide (a = b)))) H))
    (hf' : ∀ S d e, cmpD C op S d e = (isD d e).map (nb neg)) : OpR X (compareOp op) (rC X.K T (fun S a b => cmpD C op S a b)) := by
  rintro pins s σ H x y v u Q I rx ry ⟨A, S, d, e, k, R, rd, re, hf, hQ⟩
  replace hf : cmpD C op S d e = some k := hf
  rw [hf', Option.map_eq_some_iff] at hf
  obtain ⟨k', hf, rfl⟩ := hf
  cases re with
  | non =>
    refine h1 pins s σ H _ _ v u Q I rx ry ⟨rfl, ?_⟩
    have e : k' = decide (x = .non) := by
      cases rd <;> simp [isD] at hf <;> subst hf <;> rfl
    rw [← e]
    exact hQ
  | bl b =>
    cases rd with
    | bl a =>
      simp [isD] at hf
      subst hf
      refine h2 pins s σ H _ _ v u Q I rx ry ⟨a, b, rfl, rfl, ?_⟩
      have e : (a == b) = decide (a = b) := by cases a <;> cases b <;> rfl
      rw [← e]
      exact hQ
    | _ => simp [isD] at hf
  | _ => cases rd <;> simp [isD] at hf
theorem inV_of {T : Env1} {A : List Addr} {H : Hp} {ds : List D} {vs : List V} {d : D} {x : V} (r : Reps T A H ds vs) (q : Rep T A H d x) (f : flatD d = true) (g : ds.all flatD = true) : inV x vs = ds.any fun y => eqF y d := rels_in q f r g
theorem opr_inG (neg : Bool) {op : CmpOp} (hop : OpR X (compareOp op) (rIn X.K neg)) (hd : ∀ {H : Hp} {a : Addr} {y : V} {o : Option V} {pins : List (Addr × Obj)} {σ : L2.St} {s : Shared} {u : Value} {Q : Value → Shared → Prop}, Inv X pins σ H s → DGet H a y o → RelV y u →
      (∀ s', Inv X pins σ H s' → Q (.bool (nb neg o.isSome)) s') → wpAny (model X.prog X.w) X.A (compareOp op u (.ref a)) Q X.xe s)
    (hf' : ∀ S d e, cmpD C op S d e = (inD C S d e).map (nb neg)) : OpR X (compareOp op) (rC X.K T (fun S a b => cmpD C op S a b)) := by
  rintro pins s σ H x y v u Q I rx ry ⟨A, S, d, e, k, R, rd, re, hf, hQ⟩
  replace hf : cmpD C op S d e = some k := hf
  rw [hf', Option.map_eq_some_iff] at hf
  obtain ⟨k', hf, rfl⟩ := hf
  have sq : ∀ {p : Addr} {vs : List V} {ds : List D}, SqL X.K H p vs ∨ SqT X.K H p vs → Reps T A H ds vs → y = .ref p → (if (flatD d && ds.all flatD) = true then some (ds.any fun y => eqF y d) else none) = some k' → wpAny (model X.prog X.w) X.A (compareOp op v u) (EP X pins σ Q) X.xe s := by
    intro p vs ds hs r ey h
    split at h
    · rename_i hfl
      rw [Bool.and_eq_true] at hfl
      simp at h
      subst h
      refine hop pins s σ H _ _ v u Q I rx ry ⟨p, vs, ey, hs, rel_flat rd hfl.1, rels_flat r hfl.2, ?_⟩
      rw [inV_of r rd hfl.1 hfl.2]
      cases neg <;> exact hQ
    · cases h
  cases re with
  | @tup a vs ds ha ra => exact sq (.inr (SqT.of ha)) ra rfl hf
  | @ref n a ha =>
    simp only [inD] at hf
    split at hf
    · rename_i kvs h1
      rw [Option.map_eq_some_iff] at hf
      obtain ⟨key, hk, rfl⟩ := hf
      obtain ⟨vs, g, rv⟩ := R.dct h1 ha
      have ex := key_rel rd hk
      subst ex
      cases ry
      refine hd I (DGet.k (k := key) g) rx fun s' I' => ⟨.bl _, H, I', rfl, ?_⟩
      rw [val_some rv]
      exact hQ
    · rename_i ds h1
      obtain ⟨vs, g, rv⟩ := R.lst h1 ha
      exact sq (.inl (SqL.of g)) rv rfl hf
    · cases hf
  | _ => simp [inD] at hf
theorem opr_cmp (hs : C.sns = T.sns) (hu : X.A.units + 64 < cLine) (op : CmpOp) : OpR X (compareOp op) (rC X.K T (fun S a b => cmpD C op S a b)) := by
  have hu1 : X.A.units + 1 < cLine := by omega
  cases op
  case Eq => exact opr_eq hs hu
  case NotEq => exact opr_ne hs hu
  case Lt => exact opr_ord (g := fun i j => decide (i < j)) op_lt fun S d e k h => by cases d <;> cases e <;> simp [cmpD] at h <;> exact ⟨_, _, rfl, rfl, h.symm⟩
  case LtE => exact opr_ord (g := fun i j => decide (i ≤ j)) op_le fun S d e k h => by cases d <;> cases e <;> simp [cmpD] at h <;> exact ⟨_, _, rfl, rfl, h.symm⟩
  case Gt => exact opr_ord (g := fun i j => decide (j < i)) op_gt fun S d e k h => by cases d <;> cases e <;> simp [cmpD] at h <;> exact ⟨_, _, rfl, rfl, h.symm⟩
  case GtE => exact opr_ord (g := fun i j => decide (j ≤ i)) op_ge fun S d e k h => by cases d <;> cases e <;> simp [cmpD] at h <;> exact ⟨_, _, rfl, rfl, h.symm⟩
  case Is => exact opr_is (neg := false) op_isN op_isBl fun S d e => by show isD d e = _; cases isD d e <;> rfl
  case IsNot => exact opr_is (neg := true) op_notN op_notBl fun S d e => by show (isD d e).map (!·) = _; cases isD d e <;> rfl
  case In => exact opr_inG false op_in_seq (fun I g r h => d_in hu1 I g r h) fun S d e => by show inD C S d e = _; cases inD C S d e <;> rfl
  case NotIn => exact opr_inG true op_notIn_seq (fun I g r h => d_notIn hu1 I g r h) fun S d e => by show (inD C S d e).map (!·) = _; cases inD C S d e <;> rfl

/-! ### truth -/
theorem isEmpty_rel {T : Env1} {A : List Addr} {H : Hp} {ds : List D} {vs : List V} (r : Reps T A H ds vs) : vs.isEmpty = ds.isEmpty := by
  cases r <;> rfl
theorem isEmpty_relK {T : Env1} {A : List Addr} {H : Hp} {κ : Type} {ds : List (κ × D)} {vs : List (κ × V)} (r : RepK T A H ds vs) : vs.isEmpty = ds.isEmpty := by
  cases r <;> rfl
theorem tru_of {A : List Addr} {S : Sto} {H : Hp} {d : D} {x : V} {k : Bool} (hs : C.sns = T.sns) (R : Rl X.K T A S H) (r : Rep T A H d x) (h : truD C S d = some k) : TruV X.K x H k := by
  cases r with
  | non => simp only [truD, Option.some.injEq] at h; subst h; rfl
  | bl b => simp only [truD, Option.some.injEq] at h; subst h; rfl
  | int i => simp only [truD, Option.some.injEq] at h; subst h; simp [TruV]
  | str z =>
    simp only [truD] at h
    split at h
    · rename_i hl
      simp only [Option.some.injEq] at h
      subst h
      exact ⟨hl, by simp⟩
    · cases h
  | tup ha ra =>
    simp only [truD, Option.some.injEq] at h
    subst h
    exact .inr (.inl ⟨_, SqT.of ha, by rw [isEmpty_rel ra]⟩)
  | scr =>
    simp only [truD, Option.some.injEq] at h
    subst h
    refine .inl ⟨_, R.sq, ?_⟩
    rw [hs]
    cases T.sns <;> rfl
  | @ref n a ha =>
    simp only [truD] at h
    split at h
    · rename_i ds h1
      simp only [Option.some.injEq] at h
      subst h
      obtain ⟨vs, g, rv⟩ := R.lst h1 ha
      exact .inl ⟨_, SqL.of g, by rw [isEmpty_rel rv]⟩
    · rename_i kvs h1
      simp only [Option.some.injEq] at h
      subst h
      obtain ⟨vs, g, rv⟩ := R.dct h1 ha
      exact .inr (.inr ⟨_, g, by rw [isEmpty_relK rv]⟩)
    · cases h

/-! ### subscripts, slices -/
theorem seq_of {A : List Addr} {S : Sto} {H : Hp} {d : D} {x : V} {ds : List D} (hs : C.sns = T.sns) (R : Rl X.K T A S H) (r : Rep T A H d x) (h : seqD C S d = some ds) : ∃ a vs, x = .ref a ∧ Reps T A H ds vs ∧ (SqL X.K H a vs ∨ SqT X.K H a vs) := by
  cases r with
  | tup ha ra =>
    simp [seqD] at h
    subst h
    exact ⟨_, _, rfl, ra, .inr (SqT.of ha)⟩
  | scr =>
    simp [seqD] at h
    subst h
    refine ⟨_, _, rfl, ?_, .inl R.sq⟩
    rw [hs]
    have : ∀ ns : List Int, Reps T A H (ns.map D.int) (ns.map V.int) := fun ns => by
      induction ns with
      | nil => exact .nil
      | cons i r ih => exact .cons (.int i) ih
    exact this _
  | @ref n a ha =>
    simp only [seqD] at h
    split at h
    · rename_i es h1
      simp at h
      subst h
      obtain ⟨vs, g, rv⟩ := R.lst h1 ha
      exact ⟨a, vs, rfl, rv, .inl (SqL.of g)⟩
    · cases h
  | _ => simp [seqD] at h
theorem atI_rel {T : Env1} {A : List Addr} {H : Hp} {ds : List D} {vs : List V} {i : Int} {d : D} (r : Reps T A H ds vs) (h : atI ds i = some d) : ∃ v, atI vs i = some v ∧ Rep T A H d v := by
  unfold atI at h ⊢
  rw [← r.length]
  rw [Option.bind_eq_some_iff] at h
  obtain ⟨j, hj, hd⟩ := h
  obtain ⟨v, hv, q⟩ := r.get hd
  exact ⟨v, by rw [hj]; exact hv, q⟩
def rIx2 (K : PySem.W.Frag) (T : Env1) (C : Cf) : R2 := fun x y H Q => ∃ A S d e r, Rl K T A S H ∧ Rep T A H d x ∧ Rep T A H e y ∧ ixD C S d e = some r ∧ OkD K T A H r S Q
theorem ixr_dict (hu : X.A.units + 1 < cLine) : IxR X (fun x y H Q => ∃ a v, x = .ref a ∧ DGet H a y (some v) ∧ Q v H) := by
  intro value slice pins s σ H x y v u Q I rx ry h hs
  obtain ⟨a, z, rfl, g, q⟩ := h
  cases rx
  refine tail_any (dict_typeIs I g) F.slot_dict_getitem.lookup ?_ hs
  exact d_getItem hu I g ry fun w' s' I' rw' => ⟨z, H, I', rw', q⟩
end
end MP
end MPt
section MPu
set_option Elab.async false
set_option linter.all false
set_option maxRecDepth 100000
/-! MPu: subscripts, slices, stores, built-in calls and methods, by values. -/
namespace MP
open PySem PySem.Spec PyProof.Rows L2
section
variable {X : Cx} {T : Env1} {C : Cf}
theorem ixr_seq {C : Cf} (hs : C.sns = T.sns) {A : List Addr} {S : Sto} {H : Hp} {d e r : D} {x y : V} {Q : VK} (R : Rl X.K T A S H) (rd : Rep T A H d x) (re : Rep T A H e y) (h : idxD C S d e = some r) (hQ : OkD X.K T A H r S Q) : rIx X.K x y H Q := by
  cases re with
  | int i =>
    simp only [idxD, Option.bind_eq_some_iff] at h
    obtain ⟨ds, h1, h2⟩ := h
    obtain ⟨a, vs, rfl, rv, hs'⟩ := seq_of hs R rd h1
    obtain ⟨v, hv, q⟩ := atI_rel rv h2
    have fin := hQ v H A (Ext.refl _ _) R q
    rcases hs' with hs' | hs'
    · exact .inl ⟨a, vs, i, v, rfl, rfl, hs', hv, fin⟩
    · exact .inr (.inl ⟨a, vs, i, v, rfl, rfl, hs', hv, fin⟩)
  | _ => simp [idxD] at h
theorem ixr_all (hs : C.sns = T.sns) (hu : X.A.units + 1 < cLine) : IxR X (rIx2 X.K T C) := by
  intro value slice pins s σ H x y v u Q I rx ry ⟨A, S, d, e, r, R, rd, re, hf, hQ⟩ hsl
  have seq : idxD C S d e = some r → wpAny (model X.prog X.w) X.A (subscriptTail value slice v u) (EP X pins σ Q) X.xe s := fun h => ix_seq value slice pins s σ H x y v u Q I rx ry (ixr_seq hs R rd re h hQ) hsl
  cases rd with
  | str z =>
    cases re with
    | int i =>
      simp only [ixD] at hf
      split at hf
      · rename_i hl
        rw [Option.map_eq_some_iff] at hf
        obtain ⟨c, hc, rfl⟩ := hf
        exact ix_seq value slice pins s σ H _ _ v u Q I rx ry (.inr (.inr ⟨z, i, c, rfl, rfl, hl, hc, hQ _ _ _ (Ext.refl _ _) R (.str _)⟩)) hsl
      · cases hf
    | _ => simp [ixD] at hf
  | @ref n a ha =>
    simp only [ixD] at hf
    split at hf
    · rename_i kvs h1
      rw [Option.bind_eq_some_iff] at hf
      obtain ⟨key, hk, hv⟩ := hf
      obtain ⟨vs, g, rv⟩ := R.dct h1 ha
      have ex := key_rel re hk
      subst ex
      rcases val_rel (k := key) rv with ⟨z, _⟩ | ⟨d', v', z1, z2, q⟩
      · rw [hv] at z
        cases z
      · rw [hv] at z1
        cases z1
        refine ixr_dict hu value slice pins s σ H _ _ v u Q I rx ry ⟨a, v', rfl, ?_, hQ _ _ _ (Ext.refl _ _) R q⟩ hsl
        rw [← z2]
        exact DGet.k g
    · exact seq hf
  | tup ha ra => exact seq hf
  | scr => exact seq hf
  | non => exact seq hf
  | bl b => exact seq hf
  | int i => exact seq hf
theorem cut_rel {A : List Addr} {H : Hp} {ds : List D} {vs : List V} (r : Reps T A H ds vs) (lo hi : Option Int) : Reps T A H (cutL ds lo hi) (cutV vs lo hi) := by
  unfold cutL cutV
  rw [r.length]
  exact (r.drop _).take _
def rSl2 (K : PySem.W.Frag) (T : Env1) : V → Option Int → Option Int → Hp → VK → Prop := fun x lo hi H Q => ∃ A S d r S', Rl K T A S H ∧ Rep T A H d x ∧ slcD S lo hi d = some (r, S') ∧ OkD K T A H r S' Q
theorem cut_whole {α : Type} {xs : List α} {lo hi : Option Int} (h : HT.sIx xs.length 0 lo = 0 ∧ HT.sIx xs.length xs.length hi = xs.length) : cutL xs lo hi = xs := by
  unfold cutL
  rw [h.1, h.2, List.drop_zero, Nat.sub_zero, List.take_length]
theorem slr_all : SlR X (rSl2 X.K T) := by
  rintro pins s σ H x v vl vu lo hi sl Q I rx hsl pl pu ⟨A, S, d, r, S', R, rd, hf, hQ⟩
  cases rd with
  | @tup a vs ds ha ra =>
    simp only [slcD, Option.some.injEq, Prod.mk.injEq] at hf
    obtain ⟨rfl, rfl⟩ := hf
    have hl := ra.length
    refine sl_tupA pins s σ H _ v vl vu lo hi sl Q I rx hsl pl pu ⟨a, vs, rfl, SqT.of ha, fun z => ?_, fun _ p hp => OkD.tup R (cut_rel ra lo hi) hQ p hp⟩
    refine hQ _ _ _ (Ext.refl _ _) R ?_
    rw [← hl] at z
    rw [cut_whole z]
    exact .tup ha ra
  | @ref n a ha =>
    simp only [slcD] at hf
    split at hf
    · rename_i ds h1
      simp only [new, Option.some.injEq, Prod.mk.injEq] at hf
      obtain ⟨rfl, rfl⟩ := hf
      obtain ⟨vs, g, rv⟩ := R.lst h1 ha
      exact sl_list pins s σ H _ v vl vu lo hi sl Q I rx hsl pl pu ⟨a, vs, rfl, SqL.of g, fun p hp => OkD.lst R (cut_rel rv lo hi) hQ p hp⟩
    · cases hf
  | _ => simp [slcD] at hf
/-- o[i] = v -/
def rSet2 (K : PySem.W.Frag) (T : Env1) : TSet := fun o i v H Q => ∃ A S d e w S', Rl K T A S H ∧ Rep T A H d o ∧ Rep T A H e i ∧ Rep T A H w v ∧ setD S d e w = some S' ∧ ∀ H' A', Ext A H A' H' → Rl K T A' S' H' → Q H'
theorem put_rel {A : List Addr} {H : Hp} {k : Key} {d : D} {v : V} (q : Rep T A H d v) {kvs : List (Key × D)} {vs : List (Key × V)} (r : RepK T A H kvs vs) : RepK T A H (putD kvs k d) (putK vs k v) := by
  have hk : (kvs.any fun p => decide (p.1 = k)) = vs.any fun p => decide (p.1 = k) := by
    clear q
    induction r with
    | nil => rfl
    | cons r t ih => rw [List.any_cons, List.any_cons, ih]
  have hm : RepK T A H (kvs.map fun p => if p.1 = k then (p.1, d) else p) (vs.map fun p => if p.1 = k then (p.1, v) else p) := by
    clear hk
    induction r with
    | nil => exact .nil
    | @cons j d' v' ds vs' r t ih =>
      rw [List.map_cons, List.map_cons]
      by_cases e : j = k
      · simp only [e, if_true]
        exact .cons q ih
      · simp only [e, if_false]
        exact .cons r ih
  have ha : RepK T A H (kvs ++ [(k, d)]) (vs ++ [(k, v)]) := by
    clear hk hm
    induction r with
    | nil => exact .cons q .nil
    | cons r t ih => exact .cons r ih
  unfold putD putK
  rw [← hk]
  split
  · exact hm
  · exact ha
theorem pset_all (hu : X.A.units + 1 < cLine) : PSet X (rSet2 X.K T) := by
  rintro pins s σ H o i v ov iv u Q I ro ri rv ⟨A, S, d, e, w, S', R, rd, re, rw', hf, hQ⟩
  cases rd with
  | @ref n a ha =>
    simp only [setD] at hf
    split at hf
    · rename_i xs h1
      obtain ⟨vs, g, rvs⟩ := R.lst h1 ha
      cases re with
      | int k =>
        simp only [Option.map_eq_some_iff] at hf
        obtain ⟨j, hj, rfl⟩ := hf
        refine set_list pins s σ H _ _ _ ov iv u Q I ro ri rv ⟨a, vs, k, j, rfl, rfl, g, by rw [← rvs.length]; exact hj, ?_⟩
        obtain ⟨R', e'⟩ := R.write (n := n) (ho := .lst (vs.set j v)) (o := .lst (xs.set j w)) ha h1 rfl fun H' e' h' => ⟨_, h', (Reps.set rw' j rvs).ext0 e'⟩
        exact hQ _ _ e' R'
      | _ => simp at hf
    · rename_i kvs h1
      obtain ⟨vs, g, rvs⟩ := R.dct h1 ha
      split at hf
      · rename_i k hk
        split at hf
        · rename_i hl
          simp only [Option.some.injEq] at hf
          subst hf
          have ex := key_rel re hk
          subst ex
          cases ro
          have hlen := rvs.length
          refine d_setItem hu I (DPut.k (k := k) g (by rw [← hlen, sizeLine_eq]; omega)) ri rv fun s' I' => ⟨_, I', ?_⟩
          obtain ⟨R', e'⟩ := R.write (n := n) (ho := .dK (putK vs k v)) (o := .dct (putD kvs k w)) ha h1 rfl fun H' e' h' => ⟨_, h', (put_rel rw' rvs).ext0 e'⟩
          exact hQ _ _ e' R'
        · cases hf
      · cases hf
    · cases hf
  | _ => simp [setD] at hf

/-! ### built-in calls -/
def rCl (K : PySem.W.Frag) (T : Env1) (f : Sto → List D → Option (D × Sto)) : List V → Hp → VK → Prop := fun xs H Q => ∃ A S ds r S', Rl K T A S H ∧ Reps T A H ds xs ∧ f S ds = some (r, S') ∧ OkD K T A H r S' Q
theorem clr_len (hs : C.sns = T.sns) : CallR X (.builtin "len") (rCl X.K T fun S ds => bltD C .len S ds) := by
  rintro pins s σ H xs us Q I rv ⟨A, S, ds, r, S', R, rs, hf, hQ⟩
  cases rs with
  | nil => cases hf
  | @cons d v ds vs rd rs =>
    cases rs with
    | cons r1 r2 => cases rd <;> cases hf
    | nil =>
      have sq : ∀ {xs : List D}, seqD C S d = some xs → r = .int xs.length → S' = S → wpAny (model X.prog X.w) X.A (call (.builtin "len") us) (EP X pins σ Q) X.xe s := by
        intro xs h1 h2 h3
        subst h2 h3
        obtain ⟨a, ws, rfl, rws, hq⟩ := seq_of hs R rd h1
        refine call_len_seq pins s σ H _ us Q I rv ⟨a, ws, rfl, hq, ?_⟩
        rw [← rws.length]
        exact hQ _ _ _ (Ext.refl _ _) R (.int _)
      cases rd with
      | str z =>
        simp only [bltD] at hf
        split at hf
        · rename_i hl
          simp only [Option.some.injEq, Prod.mk.injEq] at hf
          obtain ⟨rfl, rfl⟩ := hf
          exact call_len_str pins s σ H _ us Q I rv ⟨z, rfl, hl, hQ _ _ _ (Ext.refl _ _) R (.int _)⟩
        · cases hf
      | @ref n a ha =>
        simp only [bltD] at hf
        split at hf
        · rename_i kvs h1
          simp only [Option.some.injEq, Prod.mk.injEq] at hf
          obtain ⟨rfl, rfl⟩ := hf
          obtain ⟨ws, g, rws⟩ := R.dct h1 ha
          refine call_lenD pins s σ H _ us Q I rv ⟨a, ws, rfl, g, ?_⟩
          rw [← rws.length]
          exact hQ _ _ _ (Ext.refl _ _) R (.int _)
        · rename_i ys h1
          simp only [Option.some.injEq, Prod.mk.injEq] at hf
          obtain ⟨rfl, rfl⟩ := hf
          exact sq (xs := ys) (by simp only [seqD, h1]) rfl rfl
        · cases hf
      | tup ha ra =>
        simp only [bltD, seqD, Option.some.injEq, Prod.mk.injEq] at hf
        exact sq rfl hf.1.symm hf.2.symm
      | scr =>
        simp only [bltD, seqD, Option.some.injEq, Prod.mk.injEq] at hf
        exact sq rfl hf.1.symm hf.2.symm
      | non => simp [bltD, seqD] at hf
      | bl b => simp [bltD, seqD] at hf
      | int i => simp [bltD, seqD] at hf
theorem clr_tuple (hs : C.sns = T.sns) : CallR X (.type "tuple") (rCl X.K T fun S ds => bltD C .tuple S ds) := by
  rintro pins s σ H xs us Q I rv ⟨A, S, ds, r, S', R, rs, hf, hQ⟩
  cases rs with
  | nil => cases hf
  | @cons d v ds vs rd rs =>
    cases rs with
    | cons r1 r2 => cases hf
    | nil =>
      simp only [bltD] at hf
      split at hf
      · rename_i ys h1
        simp only [Option.some.injEq, Prod.mk.injEq] at hf
        obtain ⟨rfl, rfl⟩ := hf
        cases rd with
        | tup ha ra =>
          simp only [seqD, Option.some.injEq] at h1
          subst h1
          exact call_tuple_of pins s σ H _ us Q I rv ⟨_, _, rfl, .inr ⟨SqT.of ha, hQ _ _ _ (Ext.refl _ _) R (.tup ha ra)⟩⟩
        | scr =>
          obtain ⟨a, ws, ea, rws, hq⟩ := seq_of hs R .scr h1
          cases ea
          rcases hq with hq | hq
          · exact call_tuple_of pins s σ H _ us Q I rv ⟨_, _, rfl, .inl ⟨hq, fun l hl => OkD.tup R rws hQ l hl⟩⟩
          · exfalso
            simp only [seqD, Option.some.injEq] at h1
            obtain ⟨i1, p1, p2, _⟩ := I.list R.sq
            obtain ⟨i2, q1, q2, _⟩ := I.tuple hq
            obtain ⟨o1, e1, c1, _⟩ := q2
            obtain ⟨o2, e2, c2, _⟩ := p2.isList
            rw [e1] at e2
            cases e2
            rw [c1] at c2
            injection c2 with z
            exact absurd z (by decide)
        | @ref n a ha =>
          simp only [seqD] at h1
          split at h1
          · rename_i zs h2
            simp only [Option.some.injEq] at h1
            subst h1
            obtain ⟨ws, g, rws⟩ := R.lst h2 ha
            exact call_tuple_of pins s σ H _ us Q I rv ⟨_, _, rfl, .inl ⟨SqL.of g, fun l hl => OkD.tup R rws hQ l hl⟩⟩
          · cases h1
        | _ => simp [seqD] at h1
      · cases hf
theorem clr_list (hs : C.sns = T.sns) : CallR X (.type "list") (rCl X.K T fun S ds => bltD C .list S ds) := by
  rintro pins s σ H xs us Q I rv ⟨A, S, ds, r, S', R, rs, hf, hQ⟩
  cases rs with
  | nil => cases hf
  | @cons d v ds vs rd rs =>
    cases rs with
    | cons r1 r2 => cases hf
    | nil =>
      simp only [bltD] at hf
      split at hf
      · rename_i ys h1
        simp only [new, Option.some.injEq, Prod.mk.injEq] at hf
        obtain ⟨rfl, rfl⟩ := hf
        obtain ⟨a, ws, rfl, rws, hq⟩ := seq_of hs R rd h1
        exact call_list_of pins s σ H _ us Q I rv ⟨a, ws, rfl, hq, fun l hl => OkD.lst R rws hQ l hl⟩
      · cases hf
end
end MP
end MPu
section MPv
set_option Elab.async false
set_option linter.all false
set_option maxRecDepth 100000
/-! MPv: further built-in calls, isinstance, methods of lists and dicts, by values. -/
namespace MP
open PySem PySem.Spec PyProof.Rows L2
section
variable {X : Cx} {T : Env1} {C : Cf}
theorem clr_int : CallR X (.type "int") (rCl X.K T fun S ds => bltD C .int S ds) := by
  rintro pins s σ H xs us Q I rv ⟨A, S, ds, r, S', R, rs, hf, hQ⟩
  cases rs with
  | nil => cases hf
  | cons rd rs =>
    cases rs with
    | cons r1 r2 => cases rd <;> cases hf
    | nil =>
      cases rd with
      | int i =>
        simp only [bltD, Option.some.injEq, Prod.mk.injEq] at hf
        obtain ⟨rfl, rfl⟩ := hf
        exact call_int1 pins s σ H _ us Q I rv (.inl ⟨i, rfl, hQ _ _ _ (Ext.refl _ _) R (.int _)⟩)
      | bl k =>
        simp only [bltD, Option.some.injEq, Prod.mk.injEq] at hf
        obtain ⟨rfl, rfl⟩ := hf
        exact call_int1 pins s σ H _ us Q I rv (.inr ⟨k, rfl, hQ _ _ _ (Ext.refl _ _) R (.int _)⟩)
      | _ => cases hf
theorem clr_abs : CallR X (.builtin "abs") (rCl X.K T fun S ds => bltD C .abs S ds) := by
  rintro pins s σ H xs us Q I rv ⟨A, S, ds, r, S', R, rs, hf, hQ⟩
  cases rs with
  | nil => cases hf
  | cons rd rs =>
    cases rs with
    | cons r1 r2 => cases rd <;> cases hf
    | nil =>
      cases rd with
      | int i =>
        simp only [bltD, Option.some.injEq, Prod.mk.injEq] at hf
        obtain ⟨rfl, rfl⟩ := hf
        exact call_abs pins s σ H _ us Q I rv ⟨i, rfl, hQ _ _ _ (Ext.refl _ _) R (.int _)⟩
      | _ => cases hf
/-- a call of two ints -/
theorem clr_two {id : String} {b : Bt} {g : Int → Int → Int} {P : Int → Int → Prop} (h1 : ∀ S ds r S', bltD C b S ds = some (r, S') → ∃ i j, ds = [.int i, .int j] ∧ P i j ∧ r = .int (g i j) ∧ S' = S)
    (h2 : CallR X (.builtin id) (fun xs H Q => ∃ i j, xs = [.int i, .int j] ∧ P i j ∧ Q (.int (g i j)) H)) : CallR X (.builtin id) (rCl X.K T fun S ds => bltD C b S ds) := by
  rintro pins s σ H xs us Q I rv ⟨A, S, ds, r, S', R, rs, hf, hQ⟩
  obtain ⟨i, j, rfl, hp, rfl, rfl⟩ := h1 S ds r S' hf
  cases rs with
  | cons r1 r2 =>
    cases r2 with
    | cons r3 r4 =>
      cases r4
      cases r1
      cases r3
      exact h2 pins s σ H _ us Q I rv ⟨i, j, rfl, hp, hQ _ _ _ (Ext.refl _ _) R (.int _)⟩
theorem two_of {b : Bt} {g : Int → Int → Int} {P : Int → Int → Prop} [∀ i j, Decidable (P i j)] (h : ∀ S ds, bltD C b S ds = match ds with
    | [.int i, .int j] => if P i j then some (.int (g i j), S) else none
    | _ => none) : ∀ S ds r S', bltD C b S ds = some (r, S') → ∃ i j, ds = [.int i, .int j] ∧ P i j ∧ r = .int (g i j) ∧ S' = S := by
  intro S ds r S' hf
  rw [h] at hf
  split at hf
  · rename_i i j
    split at hf
    · rename_i hp
      simp only [Option.some.injEq, Prod.mk.injEq] at hf
      exact ⟨i, j, rfl, hp, hf.1.symm, hf.2.symm⟩
    · cases hf
  · cases hf
theorem two_shape {α : Type} (f : Int → Int → Option α) (g : List D → Option α) (h1 : ∀ i j, g [.int i, .int j] = f i j) (h2 : ∀ ds, (∀ i j, ds ≠ [.int i, .int j]) → g ds = none) (ds : List D) : g ds = match ds with
    | [.int i, .int j] => f i j
    | _ => none := by
  split
  · exact h1 _ _
  · rename_i h
    exact h2 ds fun i j e => h i j e
theorem clr_max (hc : X.calm = true) : CallR X (.builtin "max") (rCl X.K T fun S ds => bltD C .max S ds) :=
  clr_two (g := fun i j => if j > i then j else i) (P := fun _ _ => True) (fun S ds r S' hf => by
    match ds, hf with
    | [.int i, .int j], hf =>
      simp only [bltD, Option.some.injEq, Prod.mk.injEq] at hf
      exact ⟨i, j, rfl, trivial, hf.1.symm, hf.2.symm⟩) fun pins s σ H xs us Q I r ⟨i, j, e, _, q⟩ => call_max2 hc pins s σ H xs us Q I r ⟨i, j, e, q⟩
theorem clr_min (hc : X.calm = true) : CallR X (.builtin "min") (rCl X.K T fun S ds => bltD C .min S ds) :=
  clr_two (g := fun i j => if j < i then j else i) (P := fun _ _ => True) (fun S ds r S' hf => by
    match ds, hf with
    | [.int i, .int j], hf =>
      simp only [bltD, Option.some.injEq, Prod.mk.injEq] at hf
      exact ⟨i, j, rfl, trivial, hf.1.symm, hf.2.symm⟩) fun pins s σ H xs us Q I r ⟨i, j, e, _, q⟩ => call_min2 hc pins s σ H xs us Q I r ⟨i, j, e, q⟩
theorem clr_gcd : CallR X (.builtin "math.gcd") (rCl X.K T fun S ds => bltD C .gcd S ds) :=
  clr_two (g := fun i j => ((Nat.gcd i.natAbs j.natAbs : Nat) : Int)) (P := fun _ _ => True) (fun S ds r S' hf => by
    match ds, hf with
    | [.int i, .int j], hf =>
      simp only [bltD, Option.some.injEq, Prod.mk.injEq] at hf
      exact ⟨i, j, rfl, trivial, hf.1.symm, hf.2.symm⟩) fun pins s σ H xs us Q I r ⟨i, j, e, _, q⟩ => cr_gcd pins s σ H xs us Q I r ⟨i, j, e, q⟩
theorem clr_lcm : CallR X (.builtin "math.lcm") (rCl X.K T fun S ds => bltD C .lcm S ds) :=
  clr_two (g := fun i j => ((Nat.lcm i.natAbs j.natAbs : Nat) : Int)) (P := fun i j => bits i < 12000 ∧ bits j < 12000 ∧ bits (Nat.lcm i.natAbs j.natAbs : Nat) < 100000) (fun S ds r S' hf => by
    match ds, hf with
    | [.int i, .int j], hf =>
      simp only [bltD] at hf
      split at hf
      · rename_i hp
        simp only [Option.some.injEq, Prod.mk.injEq] at hf
        exact ⟨i, j, rfl, hp, hf.1.symm, hf.2.symm⟩
      · cases hf) fun pins s σ H xs us Q I r ⟨i, j, e, ⟨b1, b2, b3⟩, q⟩ => by
    subst e
    obtain ⟨t, u, rfl⟩ := Vals.int2 r
    have e1 : (Nat.lcm 1 i.natAbs).lcm j.natAbs = Nat.lcm i.natAbs j.natAbs := by rw [Nat.lcm_one_left]
    have m0 : (max 1 i.natAbs).log2 < 12000 := by
      by_cases h : 1 ≤ i.natAbs
      · rw [Nat.max_eq_right h]; exact b1
      · rw [Nat.max_eq_left (by omega)]; decide
    have m1 : (max i.natAbs j.natAbs).log2 < 12000 := by
      by_cases h : i.natAbs ≤ j.natAbs
      · rw [Nat.max_eq_right h]; exact b2
      · rw [Nat.max_eq_left (by omega)]; exact b1
    refine call_function_meets PySem.W.MGF.kind_lcm PySem.W.MGF.plain_lcm PySem.W.MGF.entry_lcm (PySem.W.MGF.args_lcm _ _) (PySem.W.mg_run_lcm i t j u (by omega) (by omega) ?_).meets ?_
    · rw [e1]
      have : (100000 : Nat) < bitsLine := by decide
      unfold bits at b3
      omega
    · rw [e1]
      exact ⟨.int _, H, I.tok _, ⟨_, rfl⟩, q⟩
theorem ints_rel {A : List Addr} {H : Hp} : ∀ {ds : List D} {vs : List V} {ns : List Int}, Reps T A H ds vs → ints? ds = some ns → vs = ns.map V.int
  | _, _, _, .nil, h => by
    simp only [ints?, Option.some.injEq] at h
    subst h
    rfl
  | _, _, ns, .cons r t, h => by
    cases r with
    | int i =>
      simp only [ints?, Option.map_eq_some_iff] at h
      obtain ⟨ms, h, rfl⟩ := h
      rw [ints_rel t h]
      rfl
    | _ => simp [ints?] at h
theorem clr_sum (hc : X.calm = true) : CallR X (.builtin "sum") (rCl X.K T fun S ds => bltD C .sum S ds) := by
  rintro pins s σ H xs us Q I rv ⟨A, S, ds, r, S', R, rs, hf, hQ⟩
  cases rs with
  | nil => cases hf
  | cons rd rs =>
    cases rs with
    | cons r1 r2 => cases rd <;> cases hf
    | nil =>
      cases rd with
      | @ref n a ha =>
        simp only [bltD] at hf
        split at hf
        · rename_i ys h1
          split at hf
          · rename_i ns h2
            simp only [Option.some.injEq, Prod.mk.injEq] at hf
            obtain ⟨rfl, rfl⟩ := hf
            obtain ⟨ws, g, rws⟩ := R.lst h1 ha
            have e := ints_rel rws h2
            subst e
            exact cr_sum hc pins s σ H _ us Q I rv ⟨a, ns, rfl, SqL.of g, hQ _ _ _ (Ext.refl _ _) R (.int _)⟩
          · cases hf
        · cases hf
      | _ => cases hf
/-- isinstance(x, t), t a built-in type -/
theorem isi_of {A : List Addr} {S : Sto} {H : Hp} {d : D} {x : V} {u : String} {K : PySem.W.Frag} {o : Obj} (R : Rl K T A S H) (r : Rep T A H d x) (h : tyD S d = some u) : TyX K H x (.type u) := by
  cases r with
  | non => simp only [tyD, Option.some.injEq] at h; subst h; exact .base .non
  | bl b => simp only [tyD, Option.some.injEq] at h; subst h; exact .base (.bl _)
  | int i => simp only [tyD, Option.some.injEq] at h; subst h; exact .base (.int _)
  | str z => simp only [tyD, Option.some.injEq] at h; subst h; exact .base (.str _)
  | tup ha ra => simp only [tyD, Option.some.injEq] at h; subst h; exact .base (.tup ha)
  | scr =>
    simp only [tyD, Option.some.injEq] at h
    subst h
    rcases R.sq with (h | ⟨o, h⟩) | ⟨o, its, n, h1, h2, _⟩
    · exact .base (.lst h)
    · exact .base (.frz h)
    · exact .kList h1 h2
  | @ref n a ha =>
    simp only [tyD] at h
    split at h
    · rename_i ds h1
      simp only [Option.some.injEq] at h
      subst h
      obtain ⟨vs, g, rv⟩ := R.lst h1 ha
      exact .base (.lst g)
    · rename_i ds h1
      simp only [Option.some.injEq] at h
      subst h
      obtain ⟨vs, g, rv⟩ := R.dct h1 ha
      exact .base (.dK g)
    · cases h
def tys : List String := ["NoneType", "bool", "int", "str", "tuple", "list", "dict"]
theorem tyD_in {S : Sto} {d : D} {u : String} (h : tyD S d = some u) : u ∈ tys := by
  unfold tyD at h
  split at h <;> first | (simp only [Option.some.injEq] at h; subst h; decide) | skip
  split at h <;> first | (simp only [Option.some.injEq] at h; subst h; decide) | cases h
theorem kitB_all : (tys.all fun u => ["bool", "int", "str", "tuple", "list", "dict"].all fun t => decide (kitB u t = some (isiT u t))) = true := by decide +kernel
theorem isi_kit {K : PySem.W.Frag} {u t : String} (hu : u ∈ tys) (ht : t ∈ ["bool", "int", "str", "tuple", "list", "dict"]) : PySem.W.kitOne K (.type u) (.type t) = some (isiT u t) := by
  have h := List.all_eq_true.mp (List.all_eq_true.mp kitB_all u hu) t ht
  exact kit_ty (of_decide_eq_true h)
/-- isinstance by values: the second place is the type -/
theorem clr_isi {t : String} (ht : t ∈ ["bool", "int", "str", "tuple", "list", "dict"]) : CallR X (.builtin "isinstance") (fun xs H Q => ∃ x, xs = [x, .ty t] ∧ rCl X.K T (fun S ds => bltD C (.isi t) S ds) [x] H Q) := by
  rintro pins s σ H xs us Q I rv ⟨x, rfl, A, S, ds, r, S', R, rs, hf, hQ⟩
  cases rs with
  | cons rd rs =>
    cases rs
    simp only [bltD] at hf
    split at hf
    · rename_i u h1
      simp only [Option.some.injEq, Prod.mk.injEq] at hf
      obtain ⟨rfl, rfl⟩ := hf
      refine call_isi pins s σ H _ us Q I rv ⟨x, .ty t, .type u, .type t, _, rfl, .ty t, isi_of (o := default) R rd h1, isi_kit (tyD_in h1) ht, hQ _ _ _ (Ext.refl _ _) R (.bl _)⟩
    · cases hf
/-! ### methods -/
def rMt (K : PySem.W.Frag) (T : Env1) (f : Sto → D → List D → Option (D × Sto)) : V → List V → Hp → VK → Prop := fun x xs H Q => ∃ A S d ds r S', Rl K T A S H ∧ Rep T A H d x ∧ Reps T A H ds xs ∧ f S d ds = some (r, S') ∧ OkD K T A H r S' Q
theorem OkD.lset {K : PySem.W.Frag} {A : List Addr} {S : Sto} {H : Hp} {r : D} {x : V} {n : Nat} {a : Addr} {ds xs : List D} {vs : List V} {Q : VK} (R : Rl K T A S H) (hs : S[n]? = some (.lst xs)) (ha : A[n]? = some a) (rv : Reps T A H ds vs) (q : Rep T A H r x) (hQ : OkD K T A H r (S.set n (.lst ds)) Q) : Q x (upd H a (.lst vs)) := by
  obtain ⟨R', e'⟩ := R.write (n := n) (ho := .lst vs) (o := .lst ds) ha hs rfl fun H' e' h' => ⟨_, h', rv.ext0 e'⟩
  exact hQ _ _ _ e' R' (q.ext e')
theorem Reps.dropLast {A : List Addr} {H : Hp} {ds : List D} {vs : List V} (r : Reps T A H ds vs) : Reps T A H ds.dropLast vs.dropLast := by
  rw [List.dropLast_eq_take, List.dropLast_eq_take, r.length]
  exact r.take _
theorem mtr_append : MtR X "list.append" (rMt X.K T fun S o ds => mthD C .append S o ds) := by
  rintro pins s σ H x xs v us Q I rx rv ⟨A, S, d, ds, r, S', R, rd, rs, hf, hQ⟩
  cases rd with
  | @ref n a ha =>
    cases rs with
    | nil => cases hf
    | cons r1 r2 =>
      cases r2 with
      | cons r3 r4 => cases hf
      | nil =>
        simp only [mthD] at hf
        split at hf
        · rename_i ys h1
          split at hf
          · rename_i hl
            simp only [Option.some.injEq, Prod.mk.injEq] at hf
            obtain ⟨rfl, rfl⟩ := hf
            obtain ⟨ws, g, rws⟩ := R.lst h1 ha
            exact mt_append pins s σ H _ _ v us Q I rx rv ⟨a, ws, _, rfl, rfl, g, by rw [← rws.length]; exact hl, OkD.lset R h1 ha (rws.snoc r1) .non hQ⟩
          · cases hf
        · cases hf
  | _ => cases rs <;> cases hf
theorem mtr_pop : MtR X "list.pop" (rMt X.K T fun S o ds => mthD C .pop S o ds) := by
  rintro pins s σ H x xs v us Q I rx rv ⟨A, S, d, ds, r, S', R, rd, rs, hf, hQ⟩
  cases rd with
  | @ref n a ha =>
    cases rs with
    | cons r1 r2 => cases hf
    | nil =>
      simp only [mthD] at hf
      split at hf
      · rename_i ys h1
        split at hf
        · rename_i y h2
          simp only [Option.some.injEq, Prod.mk.injEq] at hf
          obtain ⟨rfl, rfl⟩ := hf
          obtain ⟨ws, g, rws⟩ := R.lst h1 ha
          obtain ⟨z, hz, q⟩ := rws.get h2
          exact mt_pop pins s σ H _ _ v us Q I rx rv ⟨a, ws, z, rfl, rfl, g, by rw [← rws.length]; exact hz, OkD.lset R h1 ha rws.dropLast q hQ⟩
        · cases hf
      · cases hf
  | _ => cases rs <;> cases hf
theorem mtr_extend : MtR X "list.extend" (rMt X.K T fun S o ds => mthD C .extend S o ds) := by
  rintro pins s σ H x xs v us Q I rx rv ⟨A, S, d, ds, r, S', R, rd, rs, hf, hQ⟩
  cases rd with
  | @ref n a ha =>
    cases rs with
    | nil => cases hf
    | cons r1 r2 =>
      cases r1 with
      | @ref m b hb =>
        cases r2 with
        | cons r3 r4 => cases hf
        | nil =>
          simp only [mthD] at hf
          split at hf
          · rename_i ys zs h1 h2
            split at hf
            · rename_i hl
              simp only [Option.some.injEq, Prod.mk.injEq] at hf
              obtain ⟨rfl, rfl⟩ := hf
              obtain ⟨ws, g, rws⟩ := R.lst h1 ha
              obtain ⟨us', g2, rus⟩ := R.lst h2 hb
              exact mt_extend pins s σ H _ _ v us Q I rx rv ⟨a, b, ws, us', rfl, rfl, g, g2, by rw [← rws.length, ← rus.length]; exact hl, OkD.lset R h1 ha (Reps.append rus rws) .non hQ⟩
            · cases hf
          · cases hf
      | _ => cases r2 <;> cases hf
  | _ => cases rs <;> cases hf
theorem mtr_get (hu : X.A.units + 1 < cLine) : MtR X "dict.get" (rMt X.K T fun S o ds => mthD C .get S o ds) := by
  rintro pins s σ H x xs v us Q I rx rv ⟨A, S, d, ds, r, S', R, rd, rs, hf, hQ⟩
  cases rd with
  | @ref n a ha =>
    match rs, hf with
    | .cons r1 (.cons r2 .nil), hf =>
      simp only [mthD] at hf
      split at hf
      · rename_i kvs h1
        split at hf
        · rename_i k hk
          simp only [Option.some.injEq, Prod.mk.injEq] at hf
          obtain ⟨rfl, rfl⟩ := hf
          obtain ⟨ws, g, rws⟩ := R.dct h1 ha
          have ex := key_rel r1 hk
          subst ex
          cases rx
          cases rv with
          | cons q1 q2 =>
            cases q2 with
            | cons q3 q4 =>
              cases q4
              refine d_get2 hu I (DGet.k (k := k) g) q1 q3 fun w' s' I' rw' => ⟨_, H, I', rw', ?_⟩
              rcases val_rel (k := k) rws with ⟨z1, z2⟩ | ⟨d', v', z1, z2, q⟩
              · rw [z1] at hQ
                rw [z2]
                exact hQ _ _ _ (Ext.refl _ _) R r2
              · rw [z1] at hQ
                rw [z2]
                exact hQ _ _ _ (Ext.refl _ _) R q
        · cases hf
      · cases hf
  | _ => cases rs <;> cases hf
end
end MP
end MPv
section MPw
set_option Elab.async false
set_option linter.all false
set_option maxRecDepth 100000
/-! MPw: each form of an expression, from its parts. -/
namespace MP
open PySem PySem.Spec PyProof.Rows L2
/-- what every context of ours has -/
structure Bas (X : Cx) (T : Env1) (C : Cf) : Prop where
  hc : X.calm = true
  nd : X.N.Nodup
  hs : C.sns = T.sns
  hu : X.A.units + 64 < cLine
section
variable {X : Cx} {T : Env1} {C : Cf} {cf : Nat → List D → Sto → Rs D} {W : WX}
theorem lift_ok {α β : Type} {K : PySem.W.Frag} {A : List Addr} {H : Hp} {S : Sto} {o : Option α} {f : α → Sto → Rs β} {σ : L2.St} {Q : β → List Addr → Sto → Hp → Prop} (h : PostG K T A H ((lift S o).bind f) W σ Q) : ∃ a, o = some a ∧ PostG K T A H (f a S) W σ Q := by
  cases o with
  | none => exact h.elim
  | some a => exact ⟨a, rfl, h⟩
theorem lift_okD {α : Type} {K : PySem.W.Frag} {A : List Addr} {H : Hp} {S : Sto} {o : Option α} {f : α → Sto → Rs D} {σ : L2.St} {Q : VK} (h : PostD K T A H ((lift S o).bind f) W σ Q) : ∃ a, o = some a ∧ PostD K T A H (f a S) W σ Q := by
  cases o with
  | none => exact h.elim
  | some a => exact ⟨a, rfl, h⟩
theorem up_ok {K : PySem.W.Frag} {A : List Addr} {H : Hp} {o : Option (D × Sto)} {σ : L2.St} {Q : VK} (h : PostD K T A H (up o) W σ Q) : ∃ r S', o = some (r, S') ∧ OkD K T A H r S' Q := by
  cases o with
  | none => exact h.elim
  | some p => exact ⟨p.1, p.2, rfl, h⟩
theorem dpe_var {i : Nat} {x : Str} {pos : Pos} (h : PE X (.Name x pos) (tVar i)) : PE X (.Name x pos) (tE X.K T C cf W (.var i)) := h.imp fun σ H Q ⟨A, ρ, S, R, r, p⟩ => by
  simp only [evE] at p
  split at p
  · rename_i d hd
    obtain ⟨v, hv, rv⟩ := r.at_ i d hd
    exact ⟨v, hv, p v H A (Ext.refl _ _) R rv⟩
  · exact p.elim
theorem dpe_cst {e : Expr} {v : V} {d : D} (h : PE X e (tC v)) (hr : ∀ A H, Rep T A H d v) : PE X e (tE X.K T C cf W (.cst d)) := h.imp fun σ H Q ⟨A, ρ, S, R, r, p⟩ => p v H A (Ext.refl _ _) R (hr A H)
theorem dpe_bin {op : Operator} {a b : Expr} {xa xb : Ex} {pos : Pos} (ha : PE X a (tE X.K T C cf W xa)) (hb : PE X b (tE X.K T C cf W xb)) : PE X (.BinOp a op b pos) (tE X.K T C cf W (.bin op xa xb)) :=
  (pe_op (opr_bin (T := T) op) ha hb).imp fun σ H Q ⟨A, ρ, S, R, r, p⟩ => by
    refine stepE R r p fun x H1 A1 S1 d e1 R1 r1 rd p => ?_
    refine stepE R1 r1 p fun y H2 A2 S2 e e2 R2 r2 re p => ?_
    obtain ⟨v, S', hf, hQ⟩ := up_ok p
    exact ⟨A2, S2, d, e, v, S', R2, rd.ext e2, re, hf, hQ⟩
theorem unr_neg : UnR X (unaryOp .USub) (fun x H Q => ∃ A S d r S', Rl X.K T A S H ∧ Rep T A H d x ∧ (match d with
    | .int i => some (.int (-i), S)
    | _ => none) = some (r, S') ∧ OkD X.K T A H r S' Q) := by
  rintro pins s σ H x v Q I rx ⟨A, S, d, r, S', R, rd, hf, hQ⟩
  cases rd with
  | int i =>
    simp only [Option.some.injEq, Prod.mk.injEq] at hf
    obtain ⟨rfl, rfl⟩ := hf
    exact un_neg pins s σ H _ v Q I rx ⟨i, rfl, hQ _ _ _ (Ext.refl _ _) R (.int _)⟩
  | _ => cases hf
theorem dpe_neg {a : Expr} {xa : Ex} {pos : Pos} (ha : PE X a (tE X.K T C cf W xa)) : PE X (.UnaryOp .USub a pos) (tE X.K T C cf W (.neg xa)) :=
  (pe_un (unr_neg (T := T)) ha).imp fun σ H Q ⟨A, ρ, S, R, r, p⟩ => by
    refine stepE R r p fun x H1 A1 S1 d e1 R1 r1 rd p => ?_
    cases d with
    | int i => exact ⟨A1, S1, _, _, _, R1, rd, rfl, p⟩
    | _ => exact p.elim
theorem dpe_cmp (G : Bas X T C) {op : CmpOp} {a b : Expr} {xa xb : Ex} {pos : Pos} (ha : PE X a (tE X.K T C cf W xa)) (hb : PE X b (tE X.K T C cf W xb)) (hm : behindInMarks op b = false) : PE X (.Compare a [op] [b] pos) (tE X.K T C cf W (.cmp op xa xb)) :=
  (pe_cmpR (opr_cmp G.hs G.hu op) ha hb hm).imp fun σ H Q ⟨A, ρ, S, R, r, p⟩ => by
    refine stepE R r p fun x H1 A1 S1 d e1 R1 r1 rd p => ?_
    refine stepE R1 r1 p fun y H2 A2 S2 e e2 R2 r2 re p => ?_
    obtain ⟨k, hk, p⟩ := lift_okD p
    exact ⟨A2, S2, d, e, k, R2, rd.ext e2, re, hk, p _ _ _ (Ext.refl _ _) R2 (.bl _)⟩
theorem dpt_cmp (G : Bas X T C) {op : CmpOp} {a b : Expr} {xa xb : Ex} {pos : Pos} (ha : PE X a (tE X.K T C cf W xa)) (hb : PE X b (tE X.K T C cf W xb)) (hm : behindInMarks op b = false) : PT X (.Compare a [op] [b] pos) (tB_ X.K T C cf W (.cmp op xa xb)) :=
  (pt_cmpR (opr_cmp G.hs G.hu op) ha hb hm).imp fun σ H Q ⟨A, ρ, S, R, r, p⟩ => by
    have e0 : evB C cf (.cmp op xa xb) ρ S = (evE C cf xa ρ S).bind fun x S1 => (evE C cf xb ρ S1).bind fun y S2 => (lift S2 (cmpD C op S2 x y)).bind fun k S3 => .ok k S3 := by
      simp only [evB, evE]
      cases evE C cf xa ρ S with
      | ok x S1 =>
        simp only [Rs.bind]
        cases evE C cf xb ρ S1 with
        | ok y S2 =>
          simp only [Rs.bind]
          cases cmpD C op S2 x y <;> rfl
        | _ => rfl
      | _ => rfl
    rw [e0] at p
    refine stepEG R r p fun x H1 A1 S1 d e1 R1 r1 rd p => ?_
    refine stepEG R1 r1 p fun y H2 A2 S2 e e2 R2 r2 re p => ?_
    obtain ⟨k, hk, p⟩ := lift_ok p
    exact ⟨A2, S2, d, e, k, R2, rd.ext e2, re, hk, k, rfl, p _ _ (Ext.refl _ _) R2⟩
theorem chain_run {K : PySem.W.Frag} (G : Bas X T C) {o1 o2 : CmpOp} {xa xb xc : Ex} {σ : L2.St} {H : Hp} {Q : VK} (hK : K = X.K) (p : tE K T C cf W (.chain o1 o2 xa xb xc) σ H Q) :
    tChain (rC K T fun S a b => cmpD C o1 S a b) (rC K T fun S a b => cmpD C o2 S a b) (tE K T C cf W xa) (tE K T C cf W xb) (tE K T C cf W xc) σ H Q := by
  obtain ⟨A, ρ, S, R, r, p⟩ := p
  refine stepE R r p fun x H1 A1 S1 d e1 R1 r1 rd p => ?_
  refine stepE R1 r1 p fun y H2 A2 S2 e e2 R2 r2 re p => ?_
  obtain ⟨k, hk, p⟩ := lift_okD p
  refine ⟨A2, S2, d, e, k, R2, rd.ext e2, re, hk, k, rfl, ?_⟩
  cases k with
  | true =>
    rw [if_pos rfl]
    refine stepE R2 r2 p fun z H3 A3 S3 f e3 R3 r3 rf p => ?_
    obtain ⟨m, hm, p⟩ := lift_okD p
    exact ⟨A3, S3, e, f, m, R3, re.ext e3, rf, hm, p _ _ _ (Ext.refl _ _) R3 (.bl _)⟩
  | false =>
    rw [if_neg (by simp)]
    exact p _ _ _ (Ext.refl _ _) R2 (.bl _)
theorem dpe_chain (G : Bas X T C) {o1 o2 : CmpOp} {a b c : Expr} {xa xb xc : Ex} {pos : Pos} (ha : PE X a (tE X.K T C cf W xa)) (hb : PE X b (tE X.K T C cf W xb)) (hc : PE X c (tE X.K T C cf W xc)) (hm : lastMarks [o1, o2] [b, c] = false) :
    PE X (.Compare a [o1, o2] [b, c] pos) (tE X.K T C cf W (.chain o1 o2 xa xb xc)) := (pe_chain (opr_cmp G.hs G.hu o1) (opr_cmp G.hs G.hu o2) ha hb hc hm).imp fun σ H Q p => chain_run G rfl p
/-- a test from a value -/
theorem test_of (G : Bas X T C) {x : Ex} {σ : L2.St} {H : Hp} {Q : Bool → Hp → Prop} (p : tB_ X.K T C cf W x σ H Q) : tE X.K T C cf W x σ H fun v H' => ∃ k, TruV X.K v H' k ∧ Q k H' := by
  obtain ⟨A, ρ, S, R, r, p⟩ := p
  refine stepEG R r p fun y H1 A1 S1 d e1 R1 r1 rd p => ?_
  cases hk : truD C S1 d with
  | none =>
    rw [hk] at p
    exact p.elim
  | some k =>
    rw [hk] at p
    exact ⟨k, tru_of G.hs R1 rd hk, p _ _ (Ext.refl _ _) R1⟩
theorem dpt_truth (G : Bas X T C) {a : Expr} {x : Ex} (ha : PE X a (tE X.K T C cf W x)) (he : ∀ whole, isTrue a X.env whole = (do let v ← whole; standAt a.pos; holding [v] (truthy v))) : PT X a (tB_ X.K T C cf W x) := (pt_truth ha he).imp fun σ H Q p => test_of G p
theorem dpe_not (G : Bas X T C) {a : Expr} {x : Ex} {pos : Pos} (ha : PE X a (tE X.K T C cf W x)) : PE X (.UnaryOp .Not a pos) (tE X.K T C cf W (.not x)) := (pe_notT ha).imp fun σ H Q ⟨A, ρ, S, R, r, p⟩ => by
  refine stepE R r p fun y H1 A1 S1 d e1 R1 r1 rd p => ?_
  obtain ⟨k, hk, p⟩ := lift_okD p
  exact ⟨k, tru_of G.hs R1 rd hk, p _ _ _ (Ext.refl _ _) R1 (.bl _)⟩
theorem PostG.imp {K : PySem.W.Frag} {α β : Type} {A : List Addr} {H : Hp} {r : Rs α} {σ : L2.St} {Q Q' : α → List Addr → Sto → Hp → Prop} (h : PostG K T A H r W σ Q) (hq : ∀ a A' S' H', Q a A' S' H' → Q' a A' S' H') : PostG K T A H r W σ Q' := by
  cases r with
  | ok a S => exact fun H' A' e R => hq _ _ _ _ (h H' A' e R)
  | exc c w S => exact h
  | bad => exact h
/-- a test is reckoned first -/
theorem stepB {K : PySem.W.Frag} {A : List Addr} {S : Sto} {H : Hp} {σ : L2.St} {ρ : Rho} {α : Type} {Q : α → List Addr → Sto → Hp → Prop} {Q1 : Bool → Hp → Prop} {a : Ex} {f : Bool → Sto → Rs α} (R : Rl K T A S H) (r : RhoR T A H ρ σ) (h : PostG K T A H ((evB C cf a ρ S).bind f) W σ Q)
    (k : ∀ b H1 A1 S1, Ext A H A1 H1 → Rl K T A1 S1 H1 → RhoR T A1 H1 ρ σ → PostG K T A1 H1 (f b S1) W σ Q → Q1 b H1) : tB_ K T C cf W a σ H Q1 := by
  refine ⟨A, ρ, S, R, r, ?_⟩
  cases q : evB C cf a ρ S with
  | ok b S1 =>
    rw [q] at h
    exact fun H1 A1 e R1 => k b H1 A1 S1 e R1 (r.ext e) (PostG.ext e h)
  | exc c w S1 =>
    rw [q] at h
    exact h
  | bad =>
    rw [q] at h
    exact h
theorem stepBD {K : PySem.W.Frag} {A : List Addr} {S : Sto} {H : Hp} {σ : L2.St} {ρ : Rho} {Q : VK} {Q1 : Bool → Hp → Prop} {a : Ex} {f : Bool → Sto → Rs D} (R : Rl K T A S H) (r : RhoR T A H ρ σ) (h : PostD K T A H ((evB C cf a ρ S).bind f) W σ Q)
    (k : ∀ b H1 A1 S1, Ext A H A1 H1 → Rl K T A1 S1 H1 → RhoR T A1 H1 ρ σ → PostD K T A1 H1 (f b S1) W σ Q → Q1 b H1) : tB_ K T C cf W a σ H Q1 := by
  refine ⟨A, ρ, S, R, r, ?_⟩
  cases q : evB C cf a ρ S with
  | ok b S1 =>
    rw [q] at h
    exact fun H1 A1 e R1 => k b H1 A1 S1 e R1 (r.ext e) (PostD.ext e h)
  | exc c w S1 =>
    rw [q] at h
    exact h
  | bad =>
    rw [q] at h
    exact h
theorem bind_assoc {α β γ : Type} (r : Rs α) (f : α → Sto → Rs β) (g : β → Sto → Rs γ) : (r.bind f).bind g = r.bind fun a S => (f a S).bind g := by
  cases r <;> rfl
theorem dpt_not {a : Expr} {x : Ex} {pos : Pos} (ha : PT X a (tB_ X.K T C cf W x)) : PT X (.UnaryOp .Not a pos) (tB_ X.K T C cf W (.not x)) := (pt_not ha).imp fun σ H Q ⟨A, ρ, S, R, r, p⟩ => by
  have e0 : evB C cf (.not x) ρ S = (evB C cf x ρ S).bind fun k S1 => .ok (!k) S1 := by
    simp only [evB, evE, bind_assoc]
    rfl
  rw [e0] at p
  exact stepB R r p fun b H1 A1 S1 e1 R1 r1 p => p _ _ (Ext.refl _ _) R1
theorem dpw_and1 {a : Expr} {x : Ex} {pos : Pos} (ha : PT X a (tB_ X.K T C cf W x)) : PW X (.BoolOp .And [a] pos) (tB_ X.K T C cf W x) := pw_and1 ha
theorem dpw_or1 {a : Expr} {x : Ex} {pos : Pos} (ha : PT X a (tB_ X.K T C cf W x)) : PW X (.BoolOp .Or [a] pos) (tB_ X.K T C cf W x) := pw_or1 ha
theorem _root_.L2.PW.imp {e : Expr} {t t' : TT} (h : PW X e t) (f : ∀ σ H Q, t' σ H Q → t σ H Q) : PW X e t' := ⟨fun whole pins s σ H Q I q => h.run whole pins s σ H Q I (f σ H Q q)⟩
theorem dpw_and {a b : Expr} {rest : List Expr} {xa xb : Ex} {pos : Pos} (ha : PT X a (tB_ X.K T C cf W xa)) (hb : PW X (.BoolOp .And (b :: rest) pos) (tB_ X.K T C cf W xb)) : PW X (.BoolOp .And (a :: b :: rest) pos) (tB_ X.K T C cf W (.and xa xb)) := (pw_and ha hb).imp fun σ H Q ⟨A, ρ, S, R, r, p⟩ => by
  have e0 : evB C cf (.and xa xb) ρ S = (evB C cf xa ρ S).bind fun k S1 => if k then evB C cf xb ρ S1 else .ok false S1 := by
    simp only [evB, evE, bind_assoc]
    congr 1
    funext d S1
    cases h : truD C S1 d with
    | none => rfl
    | some k =>
      cases k with
      | true => rfl
      | false => simp only [lift, Rs.bind, Bool.false_eq_true, if_false, h]
  rw [e0] at p
  refine stepB R r p fun b H1 A1 S1 e1 R1 r1 p => ?_
  cases b with
  | true => exact ⟨A1, ρ, S1, R1, r1, p⟩
  | false => exact p _ _ (Ext.refl _ _) R1
theorem dpw_or {a b : Expr} {rest : List Expr} {xa xb : Ex} {pos : Pos} (ha : PT X a (tB_ X.K T C cf W xa)) (hb : PW X (.BoolOp .Or (b :: rest) pos) (tB_ X.K T C cf W xb)) : PW X (.BoolOp .Or (a :: b :: rest) pos) (tB_ X.K T C cf W (.or xa xb)) := (pw_or ha hb).imp fun σ H Q ⟨A, ρ, S, R, r, p⟩ => by
  have e0 : evB C cf (.or xa xb) ρ S = (evB C cf xa ρ S).bind fun k S1 => if k then .ok true S1 else evB C cf xb ρ S1 := by
    simp only [evB, evE, bind_assoc]
    congr 1
    funext d S1
    cases h : truD C S1 d with
    | none => rfl
    | some k =>
      cases k with
      | true => simp only [lift, Rs.bind, if_true, h]
      | false => rfl
  rw [e0] at p
  refine stepB R r p fun b H1 A1 S1 e1 R1 r1 p => ?_
  cases b with
  | true => exact p _ _ (Ext.refl _ _) R1
  | false => exact ⟨A1, ρ, S1, R1, r1, p⟩
theorem dpe_and (G : Bas X T C) {a b : Expr} {rest : List Expr} {xa xb : Ex} {pos : Pos} (ha : PE X a (tE X.K T C cf W xa)) (hb : PE X (.BoolOp .And (b :: rest) pos) (tE X.K T C cf W xb)) : PE X (.BoolOp .And (a :: b :: rest) pos) (tE X.K T C cf W (.and xa xb)) := (pe_andT ha hb).imp fun σ H Q ⟨A, ρ, S, R, r, p⟩ => by
  refine stepE R r p fun y H1 A1 S1 d e1 R1 r1 rd p => ?_
  obtain ⟨k, hk, p⟩ := lift_okD p
  refine ⟨k, tru_of G.hs R1 rd hk, ?_⟩
  cases k with
  | true => exact ⟨A1, ρ, S1, R1, r1, p⟩
  | false => exact p _ _ _ (Ext.refl _ _) R1 rd
theorem dpe_or (G : Bas X T C) {a b : Expr} {rest : List Expr} {xa xb : Ex} {pos : Pos} (ha : PE X a (tE X.K T C cf W xa)) (hb : PE X (.BoolOp .Or (b :: rest) pos) (tE X.K T C cf W xb)) : PE X (.BoolOp .Or (a :: b :: rest) pos) (tE X.K T C cf W (.or xa xb)) := (pe_orT ha hb).imp fun σ H Q ⟨A, ρ, S, R, r, p⟩ => by
  refine stepE R r p fun y H1 A1 S1 d e1 R1 r1 rd p => ?_
  obtain ⟨k, hk, p⟩ := lift_okD p
  refine ⟨k, tru_of G.hs R1 rd hk, ?_⟩
  cases k with
  | true => exact p _ _ _ (Ext.refl _ _) R1 rd
  | false => exact ⟨A1, ρ, S1, R1, r1, p⟩
theorem dpe_ife {c a b : Expr} {xc xa xb : Ex} {pos : Pos} (hc : PT X c (tB_ X.K T C cf W xc)) (ha : PE X a (tE X.K T C cf W xa)) (hb : PE X b (tE X.K T C cf W xb)) : PE X (.IfExp c a b pos) (tE X.K T C cf W (.ife xc xa xb)) := (pe_ifExp hc ha hb).imp fun σ H Q ⟨A, ρ, S, R, r, p⟩ => by
  have e0 : evE C cf (.ife xc xa xb) ρ S = (evB C cf xc ρ S).bind fun k S2 => if k then evE C cf xa ρ S2 else evE C cf xb ρ S2 := by
    simp only [evB, evE, bind_assoc]
  rw [e0] at p
  refine stepBD R r p fun b H1 A1 S1 e1 R1 r1 p => ?_
  cases b with
  | true => exact ⟨A1, ρ, S1, R1, r1, p⟩
  | false => exact ⟨A1, ρ, S1, R1, r1, p⟩
/-! ### argument lists, displays -/
theorem dpa_nil : PA X [] (tL X.K T C cf W .nil) := pa_nil.imp fun σ H Q ⟨A, ρ, S, R, r, p⟩ => p _ _ (Ext.refl _ _) R _ .nil
theorem dpa_cons {e : Expr} {es : List Expr} {x : Ex} {xs : Exs} (ha : PE X e (tE X.K T C cf W x)) (hr : PA X es (tL X.K T C cf W xs)) (hs : starEach (e :: es) X.env = (false, eval e X.env) :: starEach es X.env) : PA X (e :: es) (tL X.K T C cf W (.cons x xs)) := (pa_cons ha hr hs).imp fun σ H Q ⟨A, ρ, S, R, r, p⟩ => by
  refine stepEG R r p fun y H1 A1 S1 d e1 R1 r1 rd p => ?_
  refine ⟨A1, ρ, S1, R1, r1, ?_⟩
  cases q : evL C cf xs ρ S1 with
  | ok ds S2 =>
    rw [q] at p
    exact fun H2 A2 e2 R2 vs rv => p H2 A2 e2 R2 _ (.cons (rd.ext e2) rv)
  | exc c w S2 =>
    rw [q] at p
    exact p
  | bad =>
    rw [q] at p
    exact p
theorem dpe_tup {es : List Expr} {xs : Exs} {k : Nat} {pos : Pos} (h : PA X es (tL X.K T C cf W xs)) : PE X (.Tuple es k pos) (tE X.K T C cf W (.tup xs)) := (pe_tup h).imp fun σ H Q ⟨A, ρ, S, R, r, p⟩ => by
  refine stepL R r p fun vs H1 A1 S1 ds e1 R1 r1 rv p => ?_
  split at p
  · rename_i hl
    exact ⟨by rw [← rv.length]; exact hl, fun q hq => OkD.tup R1 rv p q hq⟩
  · exact p.elim
theorem dpe_lst {es : List Expr} {xs : Exs} {pos : Pos} (h : PA X es (tL X.K T C cf W xs)) : PE X (.List es pos) (tE X.K T C cf W (.lst xs)) := (pe_lst h).imp fun σ H Q ⟨A, ρ, S, R, r, p⟩ => by
  refine stepL R r p fun vs H1 A1 S1 ds e1 R1 r1 rv p => ?_
  split at p
  · rename_i hl
    obtain ⟨w, S', hw, hQ⟩ := up_ok p
    simp only [new, Option.some.injEq, Prod.mk.injEq] at hw
    obtain ⟨rfl, rfl⟩ := hw
    exact ⟨by rw [← rv.length]; exact hl, fun q hq => OkD.lst R1 rv hQ q hq⟩
  · exact p.elim
theorem dpe_idx (G : Bas X T C) {a b : Expr} {xa xb : Ex} {pos : Pos} (ha : PE X a (tE X.K T C cf W xa)) (hb : PE X b (tE X.K T C cf W xb)) (hs : PlainIx b) : PE X (.Subscript a b pos) (tE X.K T C cf W (.idx xa xb)) :=
  (pe_ix (ixr_all G.hs (by have := G.hu; omega)) ha hb hs).imp fun σ H Q ⟨A, ρ, S, R, r, p⟩ => by
    refine stepE R r p fun x H1 A1 S1 d e1 R1 r1 rd p => ?_
    refine stepE R1 r1 p fun y H2 A2 S2 e e2 R2 r2 re p => ?_
    have p' : PostD X.K T A2 H2 ((lift S2 (ixD C S2 d e)).bind fun r S => .ok r S) W σ Q := by
      cases h : ixD C S2 d e with
      | none => rw [h] at p; exact p
      | some z => rw [h] at p; exact p
    obtain ⟨z, hz, hQ⟩ := lift_okD p'
    exact ⟨A2, S2, d, e, z, R2, rd.ext e2, re, hz, hQ⟩
/-! ### slices -/
def tO (K : PySem.W.Frag) (T : Env1) (C : Cf) (cf : Nat → List D → Sto → Rs D) (W : WX) (x : Exo) : TO := fun σ H Q => ∃ A ρ S, Rl K T A S H ∧ RhoR T A H ρ σ ∧ PostG K T A H (evO C cf x ρ S) W σ fun o A' S' H' => Q o H'
theorem dpo_none : PO X none (tO X.K T C cf W .no) := ⟨fun pins s σ H Q I ⟨A, ρ, S, R, r, p⟩ => po_none.run pins s σ H Q I (p _ _ (Ext.refl _ _) R)⟩
theorem dpo_some {e : Expr} {x : Ex} (h : PE X e (tE X.K T C cf W x)) : PO X (some e) (tO X.K T C cf W (.so x)) := ⟨fun pins s σ H Q I ⟨A, ρ, S, R, r, p⟩ => (po_some h).run pins s σ H Q I (by
  refine stepEG R r p fun y H1 A1 S1 d e1 R1 r1 rd p => ?_
  cases rd with
  | int i => exact ⟨i, rfl, p _ _ (Ext.refl _ _) R1⟩
  | _ => exact p.elim)⟩
theorem stepO {K : PySem.W.Frag} {A : List Addr} {S : Sto} {H : Hp} {σ : L2.St} {ρ : Rho} {Q : VK} {Q1 : Option Int → Hp → Prop} {x : Exo} {f : Option Int → Sto → Rs D} (R : Rl K T A S H) (r : RhoR T A H ρ σ) (h : PostD K T A H ((evO C cf x ρ S).bind f) W σ Q)
    (k : ∀ b H1 A1 S1, Ext A H A1 H1 → Rl K T A1 S1 H1 → RhoR T A1 H1 ρ σ → PostD K T A1 H1 (f b S1) W σ Q → Q1 b H1) : tO K T C cf W x σ H Q1 := by
  refine ⟨A, ρ, S, R, r, ?_⟩
  cases q : evO C cf x ρ S with
  | ok b S1 =>
    rw [q] at h
    exact fun H1 A1 e R1 => k b H1 A1 S1 e R1 (r.ext e) (PostD.ext e h)
  | exc c w S1 =>
    rw [q] at h
    exact h
  | bad =>
    rw [q] at h
    exact h
theorem dpe_slc {e : Expr} {lo hi : Option Expr} {x : Ex} {l h : Exo} {p2 pos : Pos} (he : PE X e (tE X.K T C cf W x)) (hl : PO X lo (tO X.K T C cf W l)) (hh : PO X hi (tO X.K T C cf W h)) : PE X (.Subscript e (.Slice lo hi none p2) pos) (tE X.K T C cf W (.slc x l h)) :=
  (pe_slice (slr_all (T := T)) he hl hh).imp fun σ H Q ⟨A, ρ, S, R, r, p⟩ => by
    refine stepE R r p fun y H1 A1 S1 d e1 R1 r1 rd p => ?_
    refine stepO R1 r1 p fun lo' H2 A2 S2 e2 R2 r2 p => ?_
    refine stepO R2 r2 p fun hi' H3 A3 S3 e3 R3 r3 p => ?_
    obtain ⟨v, S', hf, hQ⟩ := up_ok p
    exact ⟨A3, S3, d, v, S', R3, (rd.ext e2).ext e3, hf, hQ⟩
end
end MP
end MPw
section MPx
set_option Elab.async false
set_option linter.all false
set_option maxRecDepth 100000
/-! MPx: what is walked: lists, tuples, the script, ranges, enumerate of these. -/
namespace MP
open PySem PySem.Spec PyProof.Rows L2
section
variable {prog : Program} {w : World} {A : Around} {E : Value → Shared → Prop} {s : Shared}
set_option maxHeartbeats 1000000 in
theorem meets_enum_new {v : Value} {o : Obj} {P : Heap → Prop} (B : Begins v o P) :
    Meets (Builtin.«enumerate.__new__» ⟨[.type "enumerate", v], []⟩) (fun _ R s => P s.heap ∧
      R (.ok (.ret (.ref (s.heap.push o).objs.size))) { s with heap := (s.heap.push o).push { cls := .type "enumerate", data := .fields #[.none, .bool false, .ref s.heap.objs.size, rawInt 0, .none, .none] } }) :=
  .of_wp fun prog w A R s h => by
    obtain ⟨hp, g, d, tk, os⟩ := s
    obtain ⟨h1, h⟩ := h
    have hsub := sub_enumerate
    have q1 : ∀ {A' : Around} {E : Value → Shared → Prop} {Q : Value → Shared → Prop}, Q (.ref hp.objs.size) ⟨hp.push o, g, d, tk, os⟩ → wpAny (model prog w) A' (pyIter v) Q E ⟨hp, g, d, tk, os⟩ := fun q => B.iter prog w _ _ ⟨hp, g, d, tk, os⟩ _ h1 q
    wp_walk using q1
    refine wpAny_stack_any fun st => wpAny_pure ?_
    split
    · rename_i c _ _ _ _ _
      cases (c == Value.type "enumerate") <;> (wp_walk using q1; exact ⟨_, rfl, h⟩)
    · wp_walk using q1
      exact ⟨_, rfl, h⟩
theorem call_enum {v : Value} {o : Obj} {P : Heap → Prop} {Q : Value → Shared → Prop} (B : Begins v o P) (h1 : P s.heap)
    (h : ∀ h', IsEnum h' (s.heap.objs.size + 1) s.heap.objs.size 0 .none → h'.get? s.heap.objs.size = some o → h'.objs.size = s.heap.objs.size + 2 →
      (∀ b o, s.heap.get? b = some o → h'.get? b = some o) → Q (.ref (s.heap.objs.size + 1)) { s with heap := h' }) : wpAny (model prog w) A (call (.type "enumerate") [v]) Q E s := by
  refine callType_new F.called_enumerate (by decide) (F.typeCall_enumerate_1 _) (F.newCall_enumerate_1 _) (fun obj => F.args_object_init_2 obj _) F.entry_enumerate_new (meets_enum_new B) ⟨h1, ?_⟩
  have hz : (s.heap.push o).objs.size = s.heap.objs.size + 1 := Heap.size_push ..
  show _ ∧ _
  rw [hz]
  have he : IsEnum ((s.heap.push o).push { cls := .type "enumerate", data := .fields #[.none, .bool false, .ref s.heap.objs.size, rawInt 0, .none, .none] }) (s.heap.objs.size + 1) s.heap.objs.size 0 .none := by
    have q := Heap.get?_push_size (s.heap.push o) (o := { cls := .type "enumerate", data := .fields #[.none, .bool false, .ref s.heap.objs.size, rawInt 0, .none, .none] }) rfl
    rw [hz] at q
    exact q
  exact ⟨⟨_, he, rfl⟩, h _ he (Heap.get?_push_of_some _ (Heap.get?_push_size _ B.free)) (by rw [Heap.size_push, hz]) fun b o' x => Heap.get?_push_of_some _ (Heap.get?_push_of_some _ x)⟩
theorem enumT_end {e it l : Addr} {i : Nat} {items : Array Value} {old : Value} {Q : Option Value → Shared → Prop} (hh : A.handled = none) (he : IsEnum s.heap e it i old) (hit : s.heap.IsTupleIter it l i) (hl : s.heap.IsTuple l items) (hx : items[i]? = none)
    (hQ : ∀ h', Heap.ExtBut it s.heap h' → Q none { s with heap := h' }) : wpAny (model prog w) A (pyNext (.ref e)) Q E s := by
  have ty : s.TypeIs (.ref e) "enumerate" := ⟨_, he, rfl⟩
  unfold pyNext
  refine wpAny_bind (wpAny_attempt (wpAny_callSpecial?_slot (name := Str.ofString "__next__") ty F.slot_enumerate_next (wpAny_call_entry F.slot_enumerate_next ty F.entry_enumerate_next ?_ (F.args_enumerate_next_1 _))))
  show wpAny _ _ (field (.ref e) 2 >>= _) _ _ _
  refine wpAny_bind (wpAny_field he rfl (x := .ref it) rfl (wpAny_bind (wpAny_nextOf_tuple_end hh hit hl hx fun h' x k1 ⟨o, k2, k3⟩ => ?_)))
  exact wpAny_bind (wpAny_isInstance (T := "StopIteration") (b := true) ⟨o, k2, k3⟩ isSubtype_stop (wpAny_pure (hQ _ k1)))
end
/-- enumerate of the tuple at a -/
def Iet (K : PySem.W.Frag) (a : Addr) : It :=
  ⟨fun i H => ∃ (xs : List V) (x : V), SqT K H a xs ∧ xs[i]? = some x, fun i H v H' => ∃ T x, v = .ref T ∧ H T = none ∧ H' = upd H T (.tup [.int (i : Nat), x]) ∧ ∀ xs, SqT K H a xs → xs[i]? = some x, fun i H => ∃ xs : List V, SqT K H a xs ∧ xs.length ≤ i⟩
theorem turn_enumT {P : Program} {w : World} {K : PySem.W.Frag} {elts : List Expr} {kk : Nat} {tpos : Pos} (a e it : Addr) (hai : a ≠ it) (hae : a ≠ e) :
    Turn P w K (.Tuple elts kk tpos) (Iet K a) [e, it] e (fun i h => (∃ old, IsEnum h e it ((i : Nat) : Int) old) ∧ h.IsTupleIter it a i ∧ e ≠ it) where
  mem := by simp
  obj := fun i h st b hb => by
    obtain ⟨⟨old, he⟩, ⟨o, ho, hc, hd⟩, _⟩ := st
    have e' : b = e ∨ b = it := by simpa using hb
    rcases e' with z | z
    · exact z ▸ ⟨_, he, fun v q => nomatch q⟩
    · exact z ▸ ⟨o, ho, fun v q => by rw [hd] at q; cases q⟩
  keep := fun i h h' st k => let ⟨⟨old, he⟩, hi, hne⟩ := st; ⟨⟨old, k e (by simp) _ he⟩, hi.at fun o q => k it (by simp) o q, hne⟩
  item := by
    intro X hP hw hK hc i pins s σ H E I hf st hg
    subst hP hw hK
    obtain ⟨⟨old, he⟩, hit, hne⟩ := st
    obtain ⟨xs, x, hq, hx⟩ := hg
    obtain ⟨its, rv, p, hz⟩ := I.tuple hq
    obtain ⟨u, hu, ru⟩ := rv.get hx
    have hel : e < s.heap.objs.size := Heap.lt_size he
    have hil : it < s.heap.objs.size := let ⟨_, q, _⟩ := hit; Heap.lt_size q
    have hlt : i < its.toArray.size := by
      have := (List.getElem?_eq_some_iff.mp hu).1
      simpa using this
    have hd0 : X.A.in1.handled = none := I.ok.hd hc
    have tp : s.heap.IsTuple a its.toArray := p
    refine wpAny_pyNext_enum_itemD (Draws.tuple (prog := X.prog) (w := X.w) (A := X.A.in1) hd0 it a hai its.toArray) he ⟨hit, tp⟩ hlt hne (by simp; exact ⟨hne, fun z => hae z.symm⟩) fun x' h' tk hx' ho st' hT hsz hk => ?_
    have hxu : x' = u := by
      have : its.toArray[i]? = some u := by simpa using hu
      exact Option.some.inj (hx'.symm.trans this)
    subst hxu
    obtain ⟨hit', _⟩ := st'
    refine ⟨_, rfl, wpAny_letOwnedTupleGo_enum (s := { s with heap := h', toks := tk + 1 }) ho fun h'' he' sb => ?_⟩
    have hT2 : h''.get? s.heap.objs.size = some { cls := .type "tuple", data := .seq #[.int i tk, x'] } := (sb.2 _ (Nat.ne_of_gt hel)).trans hT
    have new : ObjOk X.prog X.w (upd H s.heap.objs.size (.tup [.int (i : Nat), x])) h'' s.heap.objs.size (.tup [.int (i : Nat), x]) :=
      ⟨(by show 2 ≤ sizeLine; decide), [.int i tk, x'], .cons ⟨_, rfl⟩ (.cons ru .nil), ⟨_, hT2, rfl, _, rfl⟩⟩
    have I1 : Inv X pins σ (upd H s.heap.objs.size (.tup [.int (i : Nat), x])) { s with heap := h'', toks := tk + 1 } :=
      I.turnedNew (ch := [e, it]) (fun b ob hb q => (sb.2 b (fun z => hb (by simp [z]))).trans (hk b ob (fun z => hb (by simp [z])) (fun z => hb (by simp [z])) q)) hf (Nat.le_refl _) new
    refine ⟨.ref s.heap.objs.size, _, I1, rfl, ⟨_, x, rfl, I.hok.fresh (Nat.le_refl _), rfl, fun ys hy => by rw [I.tuple_inj hy hq]; exact hx⟩, ⟨⟨x', ?_⟩, hit'.at fun o q => (sb.2 it (Ne.symm hne)).trans q, hne⟩, fun b hb => ?_⟩
    · have e1 : ((i + 1 : Nat) : Int) = (i : Int) + 1 := by omega
      rw [e1]
      exact he'
    · have hb' : b < s.heap.objs.size := by
        have e' : b = e ∨ b = it := by simpa using hb
        rcases e' with z | z
        · rw [z]; exact hel
        · rw [z]; exact hil
      rw [upd_ne (Nat.ne_of_lt hb')]
      exact (hf b hb).1
  done := by
    intro X hP hw hK hc i pins s σ H E I hf st hg
    subst hP hw hK
    obtain ⟨⟨old, he⟩, hit, hne⟩ := st
    obtain ⟨xs, hq, hx⟩ := hg
    obtain ⟨its, rv, p, hz⟩ := I.tuple hq
    obtain ⟨f0, f1, f2, f3, f4, f5⟩ := hf it (by simp)
    have hl := rv.length
    have hd0 : X.A.in1.handled = none := I.ok.hd hc
    have tp : s.heap.IsTuple a its.toArray := p
    exact enumT_end hd0 he hit tp (by simp; omega) fun h' eb => ⟨rfl, I.turned (t' := s.toks) (fun b o hb q => eb b o hb q) f0 f1 f3 f4 f5⟩
  self := fun A i s Q E st h => let ⟨⟨_, he⟩, _⟩ := st; wpAny_pyIter_enum he h
section
variable {X : Cx} {T : Env1} {C : Cf} {cf : Nat → List D → Sto → Rs D} {W : WX}
/-- what is walked in the interpreter, and in the hand layer -/
def IvR (K : PySem.W.Frag) (T : Env1) (C : Cf) (A : List Addr) (H : Hp) (iv : Iv) (J : It) : Prop := ∀ A' H' S' i, Ext A H A' H' → Rl K T A' S' H' → match iv.at C S' i with
  | none => True
  | some none => J.stop i H'
  | some (some d) => J.go i H' ∧ ∀ x H2, J.yld i H' x H2 → Ext A' H' A' H2 ∧ Rl K T A' S' H2 ∧ Rep T A' H2 d x
def tI (K : PySem.W.Frag) (T : Env1) (C : Cf) (cf : Nat → List D → Sto → Rs D) (W : WX) (x : Itx) : TI := fun σ H R => ∃ A ρ S, Rl K T A S H ∧ RhoR T A H ρ σ ∧ PostG K T A H (evI C cf x ρ S) W σ fun iv A' S' H' => ∀ J, IvR K T C A' H' iv J → R J H'
def iSeq (K : PySem.W.Frag) (tl : TE) : TI := fun σ H R => tl σ H fun x H1 => ∃ a, x = .ref a ∧ (((∃ xs, SqL K H1 a xs) ∧ R (Itl K a) H1) ∨ ((∃ xs, SqT K H1 a xs) ∧ R (Itt K a) H1))
theorem pi_seq {tg l : Expr} {tl : TE} (hl : PE X l tl) : PI X tg l (iSeq X.K tl) := by
  refine ⟨fun pins s σ H R I h => thn (hl.run pins s σ H _ I h) fun v s1 ⟨x, H1, I1, r1, a, e, q1⟩ => ?_⟩
  subst e
  cases r1
  have new : ∀ b ∈ [s1.heap.objs.size], FpOk X pins H1 b := fun b hb => by
    obtain rfl : b = s1.heap.objs.size := by simpa using hb
    exact I1.fpOk (Nat.le_refl _) (I1.hok.fresh (Nat.le_refl _))
  rcases q1 with ⟨⟨xs, hq⟩, q⟩ | ⟨⟨xs, hq⟩, q⟩
  · obtain ⟨its, rv, p, hz⟩ := I1.list hq
    exact wpAny_pyIter_list p.isList ⟨s1.heap.objs.size, [s1.heap.objs.size], _, _, H1, rfl, I1.kept (t' := s1.toks) fun b o e => Heap.get?_push_of_some _ e, turn_list a _, ⟨_, Heap.get?_push_size _ rfl, rfl, rfl⟩, new, q⟩
  · obtain ⟨its, rv, p, hz⟩ := I1.tuple hq
    exact wpAny_pyIter_tuple (show s1.heap.IsTuple a its.toArray from p) ⟨s1.heap.objs.size, [s1.heap.objs.size], _, _, H1, rfl, I1.kept (t' := s1.toks) fun b o e => Heap.get?_push_of_some _ e, turn_tuple a _, ⟨_, Heap.get?_push_size _ rfl, rfl, rfl⟩, new, q⟩
theorem get_none_len {α : Type} {l : List α} {i : Nat} (h : l[i]? = none) : l.length ≤ i := List.getElem?_eq_none_iff.mp h
/-- a list by its handle -/
theorem ivr_lst {K : PySem.W.Frag} {A : List Addr} {H : Hp} {n : Nat} {a : Addr} (ha : A[n]? = some a) : IvR K T C A H (.lst n) (Itl K a) := by
  intro A' H' S' i e R
  simp only [Iv.at]
  cases hs : S'[n]? with
  | none => trivial
  | some o =>
    cases o with
    | lst ds =>
      obtain ⟨vs, g, rv⟩ := R.lst hs (e.at_ ha)
      show match some ds[i]? with
        | none => True
        | some none => _
        | some (some d) => _
      cases hd : ds[i]? with
      | none => exact ⟨vs, SqL.of g, by rw [← rv.length]; exact get_none_len hd⟩
      | some d =>
        obtain ⟨v, hv, q⟩ := rv.get hd
        refine ⟨⟨vs, v, SqL.of g, hv⟩, fun x H2 ⟨e2, hx⟩ => ?_⟩
        subst e2
        have := hx vs (SqL.of g)
        rw [hv] at this
        cases this
        exact ⟨Ext.refl _ _, R, q⟩
    | dct kvs => trivial
    | ins c fs => trivial
    | dcF kvs => trivial
theorem ivr_tup {K : PySem.W.Frag} {A : List Addr} {H : Hp} {a : Addr} {ds : List D} {vs : List V} (ha : H a = some (.tup vs)) (rv : Reps T A H ds vs) : IvR K T C A H (.tup ds) (Itt K a) := by
  intro A' H' S' i e R
  have g := e.tup _ _ ha
  have rv' := rv.ext e
  simp only [Iv.at]
  cases hd : ds[i]? with
  | none => exact ⟨vs, SqT.of g, by rw [← rv.length]; exact get_none_len hd⟩
  | some d =>
    obtain ⟨v, hv, q⟩ := rv'.get hd
    refine ⟨⟨vs, v, SqT.of g, hv⟩, fun x H2 ⟨e2, hx⟩ => ?_⟩
    subst e2
    have := hx vs (SqT.of g)
    rw [hv] at this
    cases this
    exact ⟨Ext.refl _ _, R, q⟩
theorem ivr_scr {K : PySem.W.Frag} (hs : C.sns = T.sns) {A : List Addr} {H : Hp} : IvR K T C A H .scr (Itl K T.scr) := by
  intro A' H' S' i e R
  simp only [Iv.at]
  rw [hs]
  cases hd : (T.sns.map D.int)[i]? with
  | none => exact ⟨_, R.sq, by have := get_none_len hd; simpa using this⟩
  | some d =>
    rw [List.getElem?_map, Option.map_eq_some_iff] at hd
    obtain ⟨z, hz, rfl⟩ := hd
    have hv : (T.sns.map V.int)[i]? = some (.int z) := by rw [List.getElem?_map, hz]; rfl
    refine ⟨⟨_, _, R.sq, hv⟩, fun x H2 ⟨e2, hx⟩ => ?_⟩
    subst e2
    have := hx _ R.sq
    rw [hv] at this
    cases this
    exact ⟨Ext.refl _ _, R, .int z⟩
theorem ivr_rng {K : PySem.W.Frag} {A : List Addr} {H : Hp} {lo : Int} {n : Nat} : IvR K T C A H (.rng lo n) (Itr lo n) := by
  intro A' H' S' i e R
  simp only [Iv.at]
  by_cases h : i < n
  · simp only [h, if_true]
    refine ⟨h, fun x H2 ⟨e2, hx⟩ => ?_⟩
    subst e2 hx
    exact ⟨Ext.refl _ _, R, .int _⟩
  · simp only [h, if_false]
    exact Nat.le_of_not_lt h
theorem ivr_enumT {K : PySem.W.Frag} {A : List Addr} {H : Hp} {a : Addr} {ds : List D} {vs : List V} (ha : H a = some (.tup vs)) (rv : Reps T A H ds vs) : IvR K T C A H (.enumT ds) (Iet K a) := by
  intro A' H' S' i e R
  have g := e.tup _ _ ha
  have rv' := rv.ext e
  simp only [Iv.at]
  cases hd : ds[i]? with
  | none => exact ⟨vs, SqT.of g, by rw [← rv.length]; exact get_none_len hd⟩
  | some d =>
    obtain ⟨v, hv, q⟩ := rv'.get hd
    refine ⟨⟨vs, v, SqT.of g, hv⟩, fun x H2 ⟨p, z, ex, hp, e2, hx⟩ => ?_⟩
    subst ex e2
    have := hx vs (SqT.of g)
    rw [hv] at this
    cases this
    obtain ⟨R', e'⟩ := R.laid0 (o := .tup [.int (i : Nat), v]) hp
    exact ⟨e', R', .tup upd_same (.cons (.int _) (.cons (q.ext e') .nil))⟩
theorem ivr_enumL {K : PySem.W.Frag} {A : List Addr} {H : Hp} {n : Nat} {a : Addr} (ha : A[n]? = some a) : IvR K T C A H (.enumL n) (Ite K a) := by
  intro A' H' S' i e R
  simp only [Iv.at]
  cases hs : S'[n]? with
  | none => trivial
  | some o =>
    cases o with
    | lst ds =>
      obtain ⟨vs, g, rv⟩ := R.lst hs (e.at_ ha)
      show match some (ds[i]?.map fun d => D.tup [.int i, d]) with
        | none => True
        | some none => _
        | some (some d) => _
      cases hd : ds[i]? with
      | none => exact ⟨vs, SqL.of g, by rw [← rv.length]; exact get_none_len hd⟩
      | some d =>
        obtain ⟨v, hv, q⟩ := rv.get hd
        refine ⟨⟨vs, v, SqL.of g, hv⟩, fun x H2 ⟨p, z, ex, hp, e2, hx⟩ => ?_⟩
        subst ex e2
        have := hx vs (SqL.of g)
        rw [hv] at this
        cases this
        obtain ⟨R', e'⟩ := R.laid0 (o := .tup [.int (i : Nat), v]) hp
        exact ⟨e', R', .tup upd_same (.cons (.int _) (.cons (q.ext e') .nil))⟩
    | dct kvs => trivial
    | ins c fs => trivial
    | dcF kvs => trivial
theorem stepEI {A : List Addr} {S : Sto} {H : Hp} {σ : L2.St} {ρ : Rho} {R0 : It → Hp → Prop} {Q1 : VK} {a : Ex} {f : D → Sto → Rs Iv} (R : Rl X.K T A S H) (r : RhoR T A H ρ σ) (h : PostG X.K T A H ((evE C cf a ρ S).bind f) W σ fun iv A' S' H' => ∀ J, IvR X.K T C A' H' iv J → R0 J H')
    (k : ∀ x H1 A1 S1 d, Ext A H A1 H1 → Rl X.K T A1 S1 H1 → Rep T A1 H1 d x → (∀ iv, f d S1 = .ok iv S1 → ∀ J, IvR X.K T C A1 H1 iv J → R0 J H1) → (∃ iv, f d S1 = .ok iv S1) → Q1 x H1) (hf : ∀ d S1, (∃ iv, f d S1 = .ok iv S1) ∨ f d S1 = .bad) : tE X.K T C cf W a σ H Q1 := by
  refine stepEG R r h fun x H1 A1 S1 d e1 R1 r1 rd p => ?_
  rcases hf d S1 with ⟨iv, q⟩ | q
  · rw [q] at p
    exact k x H1 A1 S1 d e1 R1 rd (fun iv' q' J hJ => by
      rw [q] at q'
      cases q'
      exact p H1 A1 (Ext.refl _ _) R1 J hJ) ⟨iv, q⟩
  · rw [q] at p
    exact p.elim
theorem lift_two {α : Type} (S : Sto) (o : Option α) : (∃ a, lift S o = .ok a S) ∨ lift S o = .bad := by
  cases o with
  | none => exact .inr rfl
  | some a => exact .inl ⟨a, rfl⟩
theorem lift_some {α : Type} {S : Sto} {o : Option α} {a : α} (h : lift S o = .ok a S) : o = some a := by
  cases o with
  | none => cases h
  | some b =>
    have : b = a := by injection h
    rw [this]
theorem dpi_seq (G : Bas X T C) {tg e : Expr} {x : Ex} (he : PE X e (tE X.K T C cf W x)) : PI X tg e (tI X.K T C cf W (.seq x)) := ⟨fun pins s σ H R0 I ⟨A, ρ, S, R, r, p⟩ => (pi_seq he).run pins s σ H R0 I (by
  refine stepEI R r p (fun y H1 A1 S1 d e1 R1 rd k ⟨iv, hiv⟩ => ?_) fun d S1 => lift_two _ _
  have k' := k iv hiv
  have h := lift_some hiv
  cases rd with
  | tup ha ra =>
    simp only [seqI, Option.some.injEq] at h
    subst h
    exact ⟨_, rfl, .inr ⟨⟨_, SqT.of ha⟩, k' _ (ivr_tup ha ra)⟩⟩
  | scr =>
    simp only [seqI, Option.some.injEq] at h
    subst h
    exact ⟨_, rfl, .inl ⟨⟨_, R1.sq⟩, k' _ (ivr_scr G.hs)⟩⟩
  | @ref n a ha =>
    simp only [seqI] at h
    split at h
    · rename_i ds h1
      simp only [Option.some.injEq] at h
      subst h
      obtain ⟨vs, g, rv⟩ := R1.lst h1 ha
      exact ⟨a, rfl, .inl ⟨⟨vs, SqL.of g⟩, k' _ (ivr_lst ha)⟩⟩
    · cases h
  | _ => simp [seqI] at h)⟩
theorem dpi_rng {tg a : Expr} {x : Ex} {p pos : Pos} (hg : Gl X "range") (hm : X.mg "range" = none) (ha : PE X a (tE X.K T C cf W x)) (hs : starEach [a] X.env = [(false, eval a X.env)]) : PI X tg (.Call (.Name "range" p) [a] [] pos) (tI X.K T C cf W (.rng x)) := ⟨fun pins s σ H R0 I ⟨A, ρ, S, R, r, q⟩ => (pi_range1 hg hm (pa_cons ha pa_nil hs) hs).run pins s σ H R0 I (by
  refine stepEI R r q (fun y H1 A1 S1 d e1 R1 rd k ⟨iv, hiv⟩ => ?_) fun d S1 => by
    cases d <;> first | exact .inr rfl | exact lift_two _ _
  have k' := k iv hiv
  cases rd with
  | int j =>
    have h := lift_some hiv
    unfold rngI at h
    split at h
    · rename_i hb
      simp only [Option.some.injEq] at h
      subst h
      refine ⟨j, rfl, hb.2.2.1, hb.2.2.2, ?_⟩
      have e : (j - 0).toNat = j.toNat := by rw [Int.sub_zero]
      rw [e] at k'
      exact k' _ ivr_rng
    · cases h
  | _ => cases hiv)⟩
def iEnu (K : PySem.W.Frag) (ta : TA) : TI := fun σ H R => ta σ H fun vs H1 => ∃ a, vs = [.ref a] ∧ (((∃ xs, SqL K H1 a xs) ∧ R (Ite K a) H1) ∨ ((∃ xs, SqT K H1 a xs) ∧ R (Iet K a) H1))
theorem pi_enu {e : Expr} {ta : TA} {p pos tpos : Pos} {elts : List Expr} {kk : Nat} (hg : Gl X "enumerate") (hm : X.mg "enumerate" = none) (ha : PA X [e] ta) (hs : starEach [e] X.env = [(false, eval e X.env)]) :
    PI X (.Tuple elts kk tpos) (.Call (.Name "enumerate" p) [e] [] pos) (iEnu X.K ta) := by
  refine ⟨fun pins s σ H R I h => Call_ (ld_blt I hg hm boot_enumerate (PyProof.Rows.callWith_type1 (thn (ha.run pos pins s σ H _ I h) fun us s1 ⟨vs, H1, I1, r1, a, ex, q⟩ => ?_) hs rfl))⟩
  subst ex
  cases r1 with
  | cons r rr =>
    cases rr
    cases r
    have new : ∀ b ∈ [s1.heap.objs.size + 1, s1.heap.objs.size], FpOk X pins H1 b := fun b hb => by
      have hle : s1.heap.objs.size ≤ b := by
        have e' : b = s1.heap.objs.size + 1 ∨ b = s1.heap.objs.size := by simpa using hb
        rcases e' with z | z
        · rw [z]; exact Nat.le_add_right _ _
        · rw [z]; exact Nat.le_refl _
      exact I1.fpOk hle (I1.hok.fresh hle)
    rcases q with ⟨⟨xs, hq⟩, q⟩ | ⟨⟨xs, hq⟩, q⟩
    · obtain ⟨its, rv, p', hz⟩ := I1.list hq
      refine call_enumerate_list p'.isList fun h' he hit hsz hk => wpAny_pyIter_enum he ?_
      exact ⟨s1.heap.objs.size + 1, [s1.heap.objs.size + 1, s1.heap.objs.size], _, _, H1, rfl, I1.kept (t' := s1.toks) hk, turn_enum a (s1.heap.objs.size + 1) s1.heap.objs.size, ⟨⟨.none, he⟩, hit, Nat.succ_ne_self _⟩, new, q⟩
    · obtain ⟨its, rv, p', hz⟩ := I1.tuple hq
      have hal : a < s1.heap.objs.size := let ⟨_, z, _⟩ := p'; Heap.lt_size z
      refine call_enum (begins_tuple a its.toArray) (show s1.heap.IsTuple a its.toArray from p') fun h' he hit hsz hk => wpAny_pyIter_enum he ?_
      exact ⟨s1.heap.objs.size + 1, [s1.heap.objs.size + 1, s1.heap.objs.size], _, _, H1, rfl, I1.kept (t' := s1.toks) hk, turn_enumT a (s1.heap.objs.size + 1) s1.heap.objs.size (Nat.ne_of_lt hal) (Nat.ne_of_lt (Nat.lt_succ_of_lt hal)), ⟨⟨.none, he⟩, ⟨_, hit, rfl, rfl⟩, Nat.succ_ne_self _⟩, new, q⟩
theorem dpi_enum {e : Expr} {x : Ex} {p pos tpos : Pos} {elts : List Expr} {kk : Nat} (hg : Gl X "enumerate") (hm : X.mg "enumerate" = none) (he : PE X e (tE X.K T C cf W x)) (hs : starEach [e] X.env = [(false, eval e X.env)]) :
    PI X (.Tuple elts kk tpos) (.Call (.Name "enumerate" p) [e] [] pos) (tI X.K T C cf W (.enum x)) := ⟨fun pins s σ H R0 I ⟨A, ρ, S, R, r, q⟩ => (pi_enu hg hm (pa_cons he pa_nil hs) hs).run pins s σ H R0 I (by
  refine stepEI R r q (fun y H1 A1 S1 d e1 R1 rd k ⟨iv, hiv⟩ => ?_) fun d S1 => lift_two _ _
  have k' := k iv hiv
  have h := lift_some hiv
  cases rd with
  | tup ha ra =>
    simp only [enumI, Option.some.injEq] at h
    subst h
    exact ⟨_, rfl, .inr ⟨⟨_, SqT.of ha⟩, k' _ (ivr_enumT ha ra)⟩⟩
  | @ref n a ha =>
    simp only [enumI] at h
    split at h
    · rename_i ds h1
      simp only [Option.some.injEq] at h
      subst h
      obtain ⟨vs, g, rv⟩ := R1.lst h1 ha
      exact ⟨a, rfl, .inl ⟨⟨vs, SqL.of g⟩, k' _ (ivr_enumL ha)⟩⟩
    · cases h
  | _ => simp [enumI] at h)⟩
end
end MP
end MPx
section MPy
set_option Elab.async false
set_option linter.all false
set_option maxRecDepth 100000
/-! MPy: targets, comprehensions. -/
namespace MP
open PySem PySem.Spec PyProof.Rows L2
mutual
def tgv : Tg → List Nat
  | .name i => [i]
  | .tup ts => tgvs ts
  | _ => []
def tgvs : Tgs → List Nat
  | .nil => []
  | .cons t ts => tgv t ++ tgvs ts
end
def tgn : Tgs → Nat
  | .nil => 0
  | .cons _ ts => tgn ts + 1
/-- the same slots but for those -/
def Out (vs : List Nat) (σ σ' : L2.St) : Prop := σ'.length = σ.length ∧ ∀ j : Nat, j ∉ vs → σ'[j]? = σ[j]?
theorem Out.refl {vs : List Nat} {σ : L2.St} : Out vs σ σ := ⟨rfl, fun _ _ => rfl⟩
theorem Out.trans {v1 v2 : List Nat} {σ σ1 σ2 : L2.St} (a : Out v1 σ σ1) (b : Out v2 σ1 σ2) : Out (v1 ++ v2) σ σ2 := ⟨b.1.trans a.1, fun j h => by
  rw [List.mem_append, not_or] at h
  rw [b.2 j h.2, a.2 j h.1]⟩
theorem wipe_in {σ : L2.St} {i : Nat} : ∀ {vs : List Nat}, i ∈ vs → i < σ.length → (wipe σ vs)[i]? = some none
  | v :: vs, h, hl => by
    unfold wipe
    by_cases hv : v = i
    · subst hv
      exact List.getElem?_set_self (by rw [wipe_length]; exact hl)
    · rw [List.getElem?_set_ne hv]
      rcases List.mem_cons.mp h with z | z
      · exact absurd z.symm hv
      · exact wipe_in z hl
theorem Out.wipe {vs ws : List Nat} {σ σ' : L2.St} (o : Out vs σ σ') (h : ∀ j ∈ vs, j ∈ ws) : L2.wipe σ' ws = L2.wipe σ ws := by
  refine List.ext_getElem? fun j => ?_
  by_cases hj : j ∈ ws
  · by_cases hl : j < σ.length
    · rw [wipe_in hj hl, wipe_in hj (by rw [o.1]; exact hl)]
    · rw [List.getElem?_eq_none (by rw [wipe_length, o.1]; omega), List.getElem?_eq_none (by rw [wipe_length]; omega)]
  · rw [wipe_out hj, wipe_out hj, o.2 j fun z => hj (h j z)]
theorem wipe_twice {vs : List Nat} {σ : L2.St} : L2.wipe (L2.wipe σ vs) vs = L2.wipe σ vs := by
  refine List.ext_getElem? fun j => ?_
  by_cases hj : j ∈ vs
  · by_cases hl : j < σ.length
    · rw [wipe_in hj hl, wipe_in hj (by rw [wipe_length]; exact hl)]
    · rw [List.getElem?_eq_none (by rw [wipe_length, wipe_length]; omega), List.getElem?_eq_none (by rw [wipe_length]; omega)]
  · rw [wipe_out hj]
theorem RhoR.wipe {T : Env1} {A : List Addr} {H : Hp} {ρ : Rho} {σ : L2.St} (r : RhoR T A H ρ σ) : ∀ vs : List Nat, RhoR T A H (wipeR ρ vs) (L2.wipe σ vs)
  | [] => r
  | i :: vs => RhoR.set_none (RhoR.wipe r vs) i none
section
variable (K : PySem.W.Frag) (T : Env1) (C : Cf) (cf : Nat → List D → Sto → Rs D) (W : WX)
def PostT (A : List Addr) (H : Hp) (r : Rs Rho) (vs : List Nat) (σ : L2.St) (Q : L2.St → Hp → Prop) : Prop := match r with
  | .ok ρ' S' => ∀ H' A' σ', Ext A H A' H' → Rl K T A' S' H' → RhoR T A' H' ρ' σ' → Out vs σ σ' → Q σ' H'
  | _ => False
def gT (tg : Tg) : TG := fun v σ H Q => ∃ A ρ S d, Rl K T A S H ∧ RhoR T A H ρ σ ∧ Rep T A H d v ∧ PostT K T A H (evT C cf tg d ρ S) (tgv tg) σ Q
def gTs (ts : Tgs) : TGs := fun vs σ H Q => ∃ A ρ S ds, Rl K T A S H ∧ RhoR T A H ρ σ ∧ Reps T A H ds vs ∧ PostT K T A H (evTs C cf ts ds ρ S) (tgvs ts) σ Q
def tIf (es : Exs) : TT := fun σ H Q => ∃ A ρ S, Rl K T A S H ∧ RhoR T A H ρ σ ∧ PostG K T A H (evIf C cf es ρ S) W σ fun b A' S' H' => Q b H'
end
section
variable {X : Cx} {T : Env1} {C : Cf} {cf : Nat → List D → Sto → Rs D} {W : WX}
theorem _root_.L2.PG.imp {e : Expr} {t t' : TG} (h : PG X e t) (f : ∀ v σ H Q, t' v σ H Q → t v σ H Q) : PG X e t' := ⟨fun pins s σ H v u Q I r q => h.run pins s σ H v u Q I r (f v σ H Q q)⟩
theorem _root_.L2.PGs.imp {e : List Expr} {t t' : TGs} (h : PGs X e t) (f : ∀ v σ H Q, t' v σ H Q → t v σ H Q) : PGs X e t' := ⟨fun pins s σ H v u Q I r q => h.run pins s σ H v u Q I r (f v σ H Q q)⟩
theorem _root_.L2.PTs.imp {e : List Expr} {t t' : TT} (h : PTs X e t) (f : ∀ σ H Q, t' σ H Q → t σ H Q) : PTs X e t' := ⟨fun pins s σ H Q I q => h.run pins s σ H Q I (f σ H Q q)⟩
theorem PostT.ext {K : PySem.W.Frag} {A A' : List Addr} {H H' : Hp} {r : Rs Rho} {vs : List Nat} {σ : L2.St} {Q : L2.St → Hp → Prop} (e : Ext A H A' H') (h : PostT K T A H r vs σ Q) : PostT K T A' H' r vs σ Q := by
  cases r with
  | ok ρ' S' => exact fun H2 A2 σ' e2 R r o => h H2 A2 σ' (e.trans e2) R r o
  | exc c w S => exact h
  | bad => exact h
theorem dpg_name {i : Nat} {x : Str} {pos : Pos} (hN : X.N.Nodup) (hi : X.N[i]? = some x) (hx : Loc X.env.scope x) (hf : X.fn x = true ∨ X.env.scope.names.lookup x = some .local) : PG X (.Name x pos) (gT X.K T C cf (.name i)) :=
  (pg_name hN hi hx hf).imp fun v σ H Q ⟨A, ρ, S, d, R, r, rd, p⟩ => by
    simp only [evT] at p
    split at p
    · exact p H A _ (Ext.refl _ _) R (r.set rd i) ⟨List.length_set, fun j hj => List.getElem?_set_ne (fun z => hj (by simp [tgv, z]))⟩
    · exact p.elim
theorem dpgs_nil : PGs X [] (gTs X.K T C cf .nil) := pgs_nil.imp fun vs σ H Q ⟨A, ρ, S, ds, R, r, rd, p⟩ => by
  cases rd with
  | nil => exact ⟨rfl, p H A _ (Ext.refl _ _) R r Out.refl⟩
  | cons _ _ => exact p.elim
theorem dpgs_cons {e : Expr} {es : List Expr} {t : Tg} {ts : Tgs} (h1 : PG X e (gT X.K T C cf t)) (h2 : PGs X es (gTs X.K T C cf ts)) (hs : (assignEach (e :: es) X.env).map (·.2) = assign e X.env :: (assignEach es X.env).map (·.2)) :
    PGs X (e :: es) (gTs X.K T C cf (.cons t ts)) := (pgs_cons h1 h2 hs).imp fun vs σ H Q ⟨A, ρ, S, ds, R, r, rd, p⟩ => by
  cases rd with
  | nil => exact p.elim
  | @cons d v ds vs rd rr =>
    refine ⟨v, vs, rfl, A, ρ, S, d, R, r, rd, ?_⟩
    simp only [evTs] at p
    cases q : evT C cf t d ρ S with
    | ok ρ1 S1 =>
      rw [q] at p
      intro H1 A1 σ1 e1 R1 r1 o1
      refine ⟨A1, ρ1, S1, ds, R1, r1, rr.ext e1, ?_⟩
      have p' : PostT X.K T A H (evTs C cf ts ds ρ1 S1) (tgv t ++ tgvs ts) σ Q := p
      cases q2 : evTs C cf ts ds ρ1 S1 with
      | ok ρ2 S2 =>
        rw [q2] at p'
        exact fun H2 A2 σ2 e2 R2 r2 o2 => p' H2 A2 σ2 (e1.trans e2) R2 r2 (o1.trans o2)
      | exc c w S2 =>
        rw [q2] at p'
        exact p'
      | bad =>
        rw [q2] at p'
        exact p'
    | exc c w S1 =>
      rw [q] at p
      exact p
    | bad =>
      rw [q] at p
      exact p
theorem evTs_len : ∀ (ts : Tgs) {ds : List D} {ρ : Rho} {S : Sto} {K : PySem.W.Frag} {A : List Addr} {H : Hp} {vs : List Nat} {σ : L2.St} {Q : L2.St → Hp → Prop}, PostT K T A H (evTs C cf ts ds ρ S) vs σ Q → ds.length = tgn ts
  | .nil, [], _, _, _, _, _, _, _, _, p => rfl
  | .nil, _ :: _, _, _, _, _, _, _, _, _, p => p.elim
  | .cons t ts, [], _, _, _, _, _, _, _, _, p => p.elim
  | .cons t ts, d :: r, ρ, S, K, A, H, vs, σ, Q, p => by
    simp only [evTs] at p
    cases q : evT C cf t d ρ S with
    | ok ρ1 S1 =>
      rw [q] at p
      exact congrArg (· + 1) (evTs_len ts (K := K) (A := A) (H := H) (vs := vs) (σ := σ) (Q := Q) p)
    | exc c w S1 =>
      rw [q] at p
      exact p.elim
    | bad =>
      rw [q] at p
      exact p.elim
theorem dpg_tup {es : List Expr} {k : Nat} {ts : Tgs} {pos : Pos} (hc : X.calm = true) (h : PGs X es (gTs X.K T C cf ts)) (hn : (assignEach es X.env).length = tgn ts) (hst : (assignEach es X.env).findIdx? (·.1) = none) :
    PG X (.Tuple es k pos) (gT X.K T C cf (.tup ts)) := (pg_tup hc h hn hst).imp fun v σ H Q ⟨A, ρ, S, d, R, r, rd, p⟩ => by
  cases rd with
  | tup ha ra =>
    simp only [evT] at p
    exact ⟨_, _, rfl, SqT.of ha, by rw [← ra.length]; exact evTs_len _ p, A, ρ, S, _, R, r, ra, p⟩
  | _ => simp only [evT] at p; exact p.elim
theorem dpg_sub {o i : Expr} {xo xi : Ex} {pos : Pos} (hu : X.A.units + 1 < cLine) (ho : PE X o (tE X.K T C cf W xo)) (hi : PE X i (tE X.K T C cf W xi))
    (ha : ∀ v, assign (.Subscript o i pos) X.env v = (do
      let ov ← holding [v] (eval o X.env)
      let iv ← holding [v, ov] (eval i X.env)
      standAt pos
      holding [v, ov, iv] (setItem ov iv v)
      release [v, ov, iv] [])) : PG X (.Subscript o i pos) (gT X.K T C cf (.sub xo xi)) := (pg_sub ho hi (pset_all hu) ha).imp fun v σ H Q ⟨A, ρ, S, d, R, r, rd, p⟩ => by
  simp only [evT] at p
  refine ⟨A, ρ, S, R, r, ?_⟩
  cases q : evE C cf xo ρ S with
  | ok x S1 =>
    rw [q] at p
    intro ov H1 A1 e1 R1 ro
    refine ⟨A1, ρ, S1, R1, r.ext e1, ?_⟩
    have p : PostT X.K T A H ((evE C cf xi ρ S1).bind fun y S2 => (lift S2 (setD S2 x y d)).bind fun S3 _ => .ok ρ S3) [] σ Q := p
    cases q2 : evE C cf xi ρ S1 with
    | ok y S2 =>
      rw [q2] at p
      intro iv H2 A2 e2 R2 ri
      have p : PostT X.K T A H ((lift S2 (setD S2 x y d)).bind fun S3 _ => .ok ρ S3) [] σ Q := p
      cases q3 : setD S2 x y d with
      | none =>
        rw [q3] at p
        exact p.elim
      | some S3 =>
        rw [q3] at p
        have p : ∀ H' A' σ', Ext A H A' H' → Rl X.K T A' S3 H' → RhoR T A' H' ρ σ' → Out [] σ σ' → Q σ' H' := p
        exact ⟨A2, S2, x, y, d, S3, R2, ro.ext e2, ri, (rd.ext e1).ext e2, q3, fun H3 A3 e3 R3 => p H3 A3 σ ((e1.trans e2).trans e3) R3 (((r.ext e1).ext e2).ext e3) Out.refl⟩
    | exc c w S2 =>
      rw [q2] at p
      exact p.elim
    | bad =>
      rw [q2] at p
      exact p.elim
  | exc c w S1 =>
    rw [q] at p
    exact p.elim
  | bad =>
    rw [q] at p
    exact p.elim
/-! ### comprehensions -/
abbrev WF : WX := fun _ _ _ _ => False
theorem dpts_nil : PTs X [] (tIf X.K T C cf W .nil) := pts_nil.imp fun σ H Q ⟨A, ρ, S, R, r, p⟩ => p _ _ (Ext.refl _ _) R
theorem dpts_one {e : Expr} {x : Ex} (h : PT X e (tB_ X.K T C cf W x)) : PTs X [e] (tIf X.K T C cf W (.cons x .nil)) := (pts_one h).imp fun σ H Q ⟨A, ρ, S, R, r, p⟩ => by
  refine ⟨A, ρ, S, R, r, ?_⟩
  have e0 : evIf C cf (.cons x .nil) ρ S = evB C cf x ρ S := by
    simp only [evIf, evB]
    congr 1
    funext d S1
    cases h : truD C S1 d with
    | none => rfl
    | some k => cases k <;> rfl
  rw [e0] at p
  exact p
theorem noex_ok {α : Type} {r : Rs α} {a : α} {S : Sto} (h : noex r = .ok a S) : r = .ok a S := by
  cases r <;> first | exact h | cases h
theorem ok_ok {α : Type} {a b : α} {S S' : Sto} (h : Rs.ok a S = Rs.ok b S') : a = b ∧ S = S' := by
  cases h
  exact ⟨rfl, rfl⟩
theorem lc_of (G : Bas X T C) {elt tg iter : Expr} {ifs : List Expr} {scope : Scope} {own : List (Str × Nat)} {t : Tg} {it : Itx} {xi : Exs} {xe : Ex} {vs : List Nat} (hv : own.map (·.2) = vs) (hi : PI X tg iter (tI X.K T C cf W it)) (ok : BlkOk X.N X.env.scope scope own)
    (hg : ∀ (s : Shared) (H : Hp) (B : Addr) (cl : List (Str × Addr)) (fp : List Addr), PG (X.blk s H scope (compEnvC scope cl B X.env) fp) tg (gT X.K T C cf t)) (ht : ∀ (s : Shared) (H : Hp) (B : Addr) (cl : List (Str × Addr)) (fp : List Addr), PTs (X.blk s H scope (compEnvC scope cl B X.env) fp) ifs (tIf X.K T C cf WF xi))
    (he : ∀ (s : Shared) (H : Hp) (B : Addr) (cl : List (Str × Addr)) (fp : List Addr), PE (X.blk s H scope (compEnvC scope cl B X.env) fp) elt (tE X.K T C cf WF xe)) (hs : ∀ x, foldedSetIterable iter X.env x = pure x) (hw : ∀ j ∈ tgv t, j ∈ vs) {σ : L2.St} {H : Hp} {Q : VK} (h : tE X.K T C cf W (.comp vs t it xi xe) σ H Q) :
    tLc (tI X.K T C cf W it) (gT X.K T C cf t) (tIf X.K T C cf WF xi) (tE X.K T C cf WF xe) (own.map (·.2)) σ H Q := by
  obtain ⟨A, ρ, S, R, r, p⟩ := h
  rw [hv]
  refine ⟨A, ρ, S, R, r, ?_⟩
  simp only [evE] at p
  cases q : evI C cf it ρ S with
  | ok iv S1 =>
    rw [q] at p
    intro H1 A1 e1 R1 J hJ D hD
    have p := PostD.ext e1 p
    have r1 := r.ext e1
    generalize hturn : (fun d S2 => noex ((evT C cf t d (wipeR ρ vs) S2).bind fun ρ' S3 => (evIf C cf xi ρ' S3).bind fun k S4 => if k then (evE C cf xe ρ' S4).bind fun e S5 => Rs.ok (some e) S5 else Rs.ok none S4)) = turn at p
    have p : PostD X.K T A1 H1 (compK C iv S1.length turn (iv.many C S1) 0 (S1 ++ [.lst []])) W σ Q := by
      rw [← hturn]
      rw [← hturn] at p
      exact p
    obtain ⟨R2, e2⟩ := R1.push (o := .lst []) (ho := .lst []) hD fun A' H' e h => ⟨[], h, .nil⟩
    refine ⟨fun i m H => ∃ A' S', Ext (A1 ++ [D]) (upd H1 D (.lst [])) A' H ∧ Rl X.K T A' S' H ∧ PostD X.K T A' H (compK C iv S1.length turn m i S') W σ Q, ⟨iv.many C S1, A1 ++ [D], _, Ext.refl _ _, R2, p.ext e2⟩, ?_⟩
    rintro i m H3 ⟨A3, S3, e3, R3, p3⟩
    have hn : ∀ {A'' : List Addr} {H'' : Hp}, Ext A3 H3 A'' H'' → A''[S1.length]? = some D := fun {A'' H''} e => by
      refine (e3.trans e).at_ ?_
      rw [← R1.len, List.getElem?_append_right (Nat.le_refl _)]
      simp
    have hj := hJ A3 H3 S3 i (e2.trans e3) R3
    unfold compK at p3
    cases hat : iv.at C S3 i with
    | none =>
      rw [hat] at p3
      exact p3.elim
    | some o =>
      rw [hat] at p3 hj
      cases o with
      | none => exact .inl ⟨hj, p3 _ _ _ (Ext.refl _ _) R3 (.ref (hn (Ext.refl _ _)))⟩
      | some d =>
        cases m with
        | zero => exact p3.elim
        | succ m =>
          refine .inr ⟨hj.1, fun H => ∃ A' S', Ext (A1 ++ [D]) (upd H1 D (.lst [])) A' H ∧ Rl X.K T A' S' H ∧ PostD X.K T A' H (compK C iv S1.length turn m (i + 1) S') W σ Q, fun H' h => ⟨m, Nat.lt_succ_self _, h⟩, fun x H4 y => ?_⟩
          obtain ⟨e4, R4, rd⟩ := hj.2 x H4 y
          have p4 := PostD.ext e4 p3
          have p4 : PostD X.K T A3 H4 ((turn d S3).bind fun r S1' => match r with
            | none => compK C iv S1.length turn m (i + 1) S1'
            | some e => match S1'[S1.length]? with
              | some (.lst acc) => if acc.length < sizeLine then compK C iv S1.length turn m (i + 1) (S1'.set S1.length (.lst (acc ++ [e]))) else .bad
              | _ => .bad) W σ Q := p4
          have rw4 := (r1.ext (e2.trans (e3.trans e4))).wipe vs
          refine ⟨A3, wipeR ρ vs, S3, d, R4, rw4, rd, ?_⟩
          cases ht : turn d S3 with
          | ok o S5 =>
            rw [ht] at p4
            rw [← hturn] at ht
            have ht := noex_ok ht
            cases hq : evT C cf t d (wipeR ρ vs) S3 with
            | ok ρ' S6 =>
              rw [hq] at ht
              intro H6 A6 σ6 e6 R6 r6 o6
              refine ⟨by rw [o6.wipe hw, wipe_twice], A6, ρ', S6, R6, r6, ?_⟩
              have ht : ((evIf C cf xi ρ' S6).bind fun k S4 => if k then (evE C cf xe ρ' S4).bind fun e S5 => Rs.ok (some e) S5 else Rs.ok none S4) = .ok o S5 := ht
              cases hk : evIf C cf xi ρ' S6 with
              | ok k S7 =>
                rw [hk] at ht
                intro H7 A7 e7 R7
                have e47 := e6.trans e7
                cases k with
                | true =>
                  show ite _ _ _
                  rw [if_pos rfl]
                  have ht : ((evE C cf xe ρ' S7).bind fun e S5 => Rs.ok (some e) S5) = .ok o S5 := ht
                  refine ⟨A7, ρ', S7, R7, r6.ext e7, ?_⟩
                  cases hx : evE C cf xe ρ' S7 with
                  | ok z S8 =>
                    rw [hx] at ht
                    obtain ⟨rfl, rfl⟩ := ok_ok ht
                    intro y8 H8 A8 e8 R8 rz
                    have e48 := e47.trans e8
                    have p8 := PostD.ext e48 p4
                    have p8 : PostD X.K T A8 H8 (match S8[S1.length]? with
                      | some (.lst acc) => if acc.length < sizeLine then compK C iv S1.length turn m (i + 1) (S8.set S1.length (.lst (acc ++ [z]))) else .bad
                      | _ => .bad) W σ Q := p8
                    have hD8 := hn (e4.trans e48)
                    split at p8
                    · rename_i acc hacc
                      split at p8
                      · rename_i hl
                        obtain ⟨vs8, g8, rv8⟩ := R8.lst hacc hD8
                        refine ⟨vs8, g8, by rw [← rv8.length]; exact hl, ?_⟩
                        obtain ⟨R9, e9⟩ := R8.write (o := .lst (acc ++ [z])) (ho := .lst (vs8 ++ [y8])) hD8 hacc rfl fun H' e h => ⟨_, h, (rv8.ext0 e).snoc (rz.ext0 e)⟩
                        exact ⟨A8, _, e3.trans (e4.trans (e48.trans e9)), R9, p8.ext e9⟩
                      · exact p8.elim
                    · exact p8.elim
                  | exc c w S8 =>
                    rw [hx] at ht
                    cases ht
                  | bad =>
                    rw [hx] at ht
                    cases ht
                | false =>
                  show ite _ _ _
                  rw [if_neg (by simp)]
                  have ht : Rs.ok none S7 = .ok o S5 := ht
                  obtain ⟨rfl, rfl⟩ := ok_ok ht
                  exact ⟨A7, S7, e3.trans (e4.trans e47), R7, PostD.ext e47 p4⟩
              | exc c w S7 =>
                rw [hk] at ht
                cases ht
              | bad =>
                rw [hk] at ht
                cases ht
            | exc c w S6 =>
              rw [hq] at ht
              cases ht
            | bad =>
              rw [hq] at ht
              cases ht
          | exc c w S5 =>
            rw [← hturn] at ht
            have ht : noex _ = Rs.exc c w S5 := ht
            unfold noex at ht
            split at ht
            · cases ht
            · rename_i hne
              exact absurd ht (hne _ _ _)
          | bad =>
            rw [ht] at p4
            exact p4.elim
  | exc c w S1 =>
    rw [q] at p
    exact p
  | bad =>
    rw [q] at p
    exact p
theorem dpe_comp (G : Bas X T C) {elt tg iter : Expr} {ifs : List Expr} {scope : Scope} {own : List (Str × Nat)} {pos : Pos} {t : Tg} {it : Itx} {xi : Exs} {xe : Ex} {vs : List Nat} (hv : own.map (·.2) = vs) (hi : PI X tg iter (tI X.K T C cf W it)) (ok : BlkOk X.N X.env.scope scope own)
    (hg : ∀ (s : Shared) (H : Hp) (B : Addr) (cl : List (Str × Addr)) (fp : List Addr), PG (X.blk s H scope (compEnvC scope cl B X.env) fp) tg (gT X.K T C cf t)) (ht : ∀ (s : Shared) (H : Hp) (B : Addr) (cl : List (Str × Addr)) (fp : List Addr), PTs (X.blk s H scope (compEnvC scope cl B X.env) fp) ifs (tIf X.K T C cf WF xi))
    (he : ∀ (s : Shared) (H : Hp) (B : Addr) (cl : List (Str × Addr)) (fp : List Addr), PE (X.blk s H scope (compEnvC scope cl B X.env) fp) elt (tE X.K T C cf WF xe)) (hs : ∀ x, foldedSetIterable iter X.env x = pure x) (hw : ∀ j ∈ tgv t, j ∈ vs) :
    PE X (.ListComp elt [⟨tg, iter, ifs, 0⟩] scope pos) (tE X.K T C cf W (.comp vs t it xi xe)) := (pe_lc G.hc G.nd hi ok hg ht he hs).imp fun σ H Q h => lc_of G hv hi ok hg ht he hs hw h
end
end MP
end MPy
section MPz
set_option Elab.async false
set_option linter.all false
set_option maxRecDepth 100000
/-! MPz: statements. -/
namespace MP
open PySem PySem.Spec PyProof.Rows L2
section
variable (K : PySem.W.Frag) (T : Env1) (C : Cf) (cf : Nat → List D → Sto → Rs D) (W : WX)
def NxP (A : List Addr) (H : Hp) (ρ : Rho) (S : Sto) (Q : L2.St → Hp → Prop) : Prop := ∀ H' A' σ', Ext A H A' H' → Rl K T A' S H' → RhoR T A' H' ρ σ' → Q σ' H'
def PostF (A : List Addr) (H : Hp) (r : Fr) (Z : Ends) : Prop := match r with
  | .nx ρ S => NxP K T A H ρ S Z.nx
  | .bk ρ S => NxP K T A H ρ S Z.bk
  | .ct ρ S => NxP K T A H ρ S Z.ct
  | .rt d S => OkD K T A H d S Z.rt
  | .ex c w ρ S => ∀ cv dx H' A' σ', Ext A H A' H' → Rl K T A' S H' → ExcR T c w A' H' cv dx → RhoR T A' H' ρ σ' → W cv dx σ' H'
  | .bad => False
def tS (s : Sm) : TS := fun Z σ H => ∃ A ρ S, Rl K T A S H ∧ RhoR T A H ρ σ ∧ PostF K T W A H (evS C cf s ρ S) Z
def tSs (ss : List Sm) : TS := fun Z σ H => ∃ A ρ S, Rl K T A S H ∧ RhoR T A H ρ σ ∧ PostF K T W A H (evSs C cf ss ρ S) Z
end
section
variable {K : PySem.W.Frag} {T : Env1} {C : Cf} {cf : Nat → List D → Sto → Rs D} {W : WX}
theorem NxP.ext {A A' : List Addr} {H H' : Hp} {ρ : Rho} {S : Sto} {Q : L2.St → Hp → Prop} (e : Ext A H A' H') (h : NxP K T A H ρ S Q) : NxP K T A' H' ρ S Q := fun H2 A2 σ' e2 R r => h H2 A2 σ' (e.trans e2) R r
theorem PostF.ext {A A' : List Addr} {H H' : Hp} {r : Fr} {Z : Ends} (e : Ext A H A' H') (h : PostF K T W A H r Z) : PostF K T W A' H' r Z := by
  cases r with
  | nx ρ S => exact NxP.ext e h
  | bk ρ S => exact NxP.ext e h
  | ct ρ S => exact NxP.ext e h
  | rt d S => exact OkD.ext e h
  | ex c w ρ S => exact fun cv dx H2 A2 σ' e2 R x r => h cv dx H2 A2 σ' (e.trans e2) R x r
  | bad => exact h
/-- an expression within a statement -/
theorem stepF {A : List Addr} {S : Sto} {H : Hp} {σ : L2.St} {ρ : Rho} {Z : Ends} {Q1 : VK} {a : Ex} {f : D → Sto → Fr} (R : Rl K T A S H) (r : RhoR T A H ρ σ) (h : PostF K T W A H ((evE C cf a ρ S).toFr ρ f) Z)
    (k : ∀ x H1 A1 S1 d, Ext A H A1 H1 → Rl K T A1 S1 H1 → RhoR T A1 H1 ρ σ → Rep T A1 H1 d x → PostF K T W A1 H1 (f d S1) Z → Q1 x H1) : tE K T C cf W a σ H Q1 := by
  refine ⟨A, ρ, S, R, r, ?_⟩
  cases q : evE C cf a ρ S with
  | ok d S1 =>
    rw [q] at h
    exact fun v H1 A1 e R1 rv => k v H1 A1 S1 d e R1 (r.ext e) rv (PostF.ext e h)
  | exc c w S1 =>
    rw [q] at h
    exact fun cv dx H' A' e R x => h cv dx H' A' σ e R x (r.ext e)
  | bad =>
    rw [q] at h
    exact h
theorem stepFG {α : Type} {A : List Addr} {H : Hp} {σ : L2.St} {ρ : Rho} {Z : Ends} {q : Rs α} {f : α → Sto → Fr} (r : RhoR T A H ρ σ) (h : PostF K T W A H (q.toFr ρ f) Z) : PostG K T A H q W σ fun a A' S' H' => Ext A H A' H' ∧ Rl K T A' S' H' ∧ PostF K T W A' H' (f a S') Z := by
  cases q with
  | ok a S1 => exact fun H1 A1 e R1 => ⟨e, R1, PostF.ext e h⟩
  | exc c w S1 => exact fun cv dx H' A' e R x => h cv dx H' A' σ e R x (r.ext e)
  | bad => exact h
theorem PostG.mono {α : Type} {A : List Addr} {H : Hp} {r : Rs α} {σ : L2.St} {Q Q' : α → List Addr → Sto → Hp → Prop} (h : PostG K T A H r W σ Q) (hq : ∀ a A' S' H', Q a A' S' H' → Q' a A' S' H') : PostG K T A H r W σ Q' := by
  cases r with
  | ok a S => exact fun H' A' e R => hq _ _ _ _ (h H' A' e R)
  | exc c w S => exact h
  | bad => exact h
/-- a target behind a value -/
theorem stepT {A : List Addr} {S : Sto} {H : Hp} {σ : L2.St} {ρ ρ0 : Rho} {Z : Ends} {Q : L2.St → Hp → Prop} {t : Tg} {d : D} {v : V} {f : Rho → Sto → Fr} (R : Rl K T A S H) (r : RhoR T A H ρ σ) (rd : Rep T A H d v) (h : PostF K T W A H ((noex (evT C cf t d ρ S)).toFr ρ0 f) Z)
    (k : ∀ H' A' σ' ρ' S', Ext A H A' H' → Rl K T A' S' H' → RhoR T A' H' ρ' σ' → PostF K T W A' H' (f ρ' S') Z → Q σ' H') : gT K T C cf t v σ H Q := by
  refine ⟨A, ρ, S, d, R, r, rd, ?_⟩
  cases q : evT C cf t d ρ S with
  | ok ρ' S' =>
    rw [q] at h
    exact fun H' A' σ' e R' r' _ => k H' A' σ' ρ' S' e R' r' (PostF.ext e h)
  | exc c w S1 =>
    rw [q] at h
    exact h
  | bad =>
    rw [q] at h
    exact h
end
section
variable {X : Cx} {T : Env1} {C : Cf} {cf : Nat → List D → Sto → Rs D} {W : WX} {pos : Pos}
theorem dps_expr {e : Expr} {x : Ex} (he : PE X e (tE X.K T C cf W x)) (hs : swapsWith e none pos.line X.env = pure false) : PS X (.Expr e pos) (tS X.K T C cf W (.expr x)) := (ps_expr he hs).imp fun Z σ H ⟨A, ρ, S, R, r, p⟩ =>
  stepF R r p fun x H1 A1 S1 d e1 R1 r1 rd p => p H1 A1 σ (Ext.refl _ _) R1 r1
theorem dps_ret {e : Expr} {x : Ex} (he : PE X e (tE X.K T C cf W x)) : PS X (.Return (some e) pos) (tS X.K T C cf W (.ret x)) := (ps_ret he).imp fun Z σ H ⟨A, ρ, S, R, r, p⟩ =>
  stepF R r p fun x H1 A1 S1 d e1 R1 r1 rd p => p x H1 A1 (Ext.refl _ _) R1 rd
theorem dps_retN : PS X (.Return none pos) (tS X.K T C cf W .retN) := ps_retN.imp fun Z σ H ⟨A, ρ, S, R, r, p⟩ => p _ _ _ (Ext.refl _ _) R .non
theorem dps_pass : PS X (.Pass pos) (tS X.K T C cf W .pass) := ps_pass.imp fun Z σ H ⟨A, ρ, S, R, r, p⟩ => p H A σ (Ext.refl _ _) R r
theorem dps_doc {x j p'} : PS X (.Expr (.Constant (.str x) j p') pos) (tS X.K T C cf W .pass) := ps_doc.imp fun Z σ H ⟨A, ρ, S, R, r, p⟩ => p H A σ (Ext.refl _ _) R r
theorem dps_break : PS X (.Break pos) (tS X.K T C cf W .brk) := ps_break.imp fun Z σ H ⟨A, ρ, S, R, r, p⟩ => p H A σ (Ext.refl _ _) R r
theorem dps_continue : PS X (.Continue pos) (tS X.K T C cf W .cnt) := ps_continue.imp fun Z σ H ⟨A, ρ, S, R, r, p⟩ => p H A σ (Ext.refl _ _) R r
theorem dpss_nil : PSs X [] (tSs X.K T C cf W []) := pss_nil.imp fun Z σ H ⟨A, ρ, S, R, r, p⟩ => p H A σ (Ext.refl _ _) R r
theorem dpss_cons {st : Stmt} {sts : List Stmt} {s : Sm} {ss : List Sm} (h1 : PS X st (tS X.K T C cf W s)) (h2 : PSs X sts (tSs X.K T C cf W ss)) : PSs X (st :: sts) (tSs X.K T C cf W (s :: ss)) := (pss_cons h1 h2).imp fun Z σ H ⟨A, ρ, S, R, r, p⟩ => by
  refine ⟨A, ρ, S, R, r, ?_⟩
  simp only [evSs] at p
  cases q : evS C cf s ρ S with
  | nx ρ' S' =>
    rw [q] at p
    exact fun H1 A1 σ1 e1 R1 r1 => ⟨A1, ρ', S', R1, r1, PostF.ext e1 p⟩
  | rt d S' => rw [q] at p; exact p
  | bk ρ' S' => rw [q] at p; exact p
  | ct ρ' S' => rw [q] at p; exact p
  | ex c w ρ' S' => rw [q] at p; exact p
  | bad => rw [q] at p; exact p
theorem dps_if {c : Expr} {a b : List Stmt} {xc : Ex} {xa xb : List Sm} (hc : PT X c (tB_ X.K T C cf W xc)) (ha : PSs X a (tSs X.K T C cf W xa)) (hb : PSs X b (tSs X.K T C cf W xb)) : PS X (.If c a b pos) (tS X.K T C cf W (.ife xc xa xb)) := (ps_if hc ha hb).imp fun Z σ H ⟨A, ρ, S, R, r, p⟩ => by
  simp only [evS] at p
  refine ⟨A, ρ, S, R, r, (stepFG r p).mono fun k A1 S1 H1 ⟨e1, R1, p1⟩ => ?_⟩
  cases k with
  | true => exact ⟨A1, ρ, S1, R1, r.ext e1, p1⟩
  | false => exact ⟨A1, ρ, S1, R1, r.ext e1, p1⟩
theorem dps_asg {tg e : Expr} {x : Ex} {t : Tg} (he : PE X e (tE X.K T C cf W x)) (hg : PG X tg (gT X.K T C cf t)) (hs : swapsWithSole [tg] e pos.line X.env = pure false) (hw : swappedStores [tg] e X.env = pure none)
    (h1 : (assignEach [tg] X.env).map (·.2) = [assign tg X.env]) : PS X (.Assign [tg] e pos) (tS X.K T C cf W (.asg t x)) := (ps_asg he hg hs hw h1).imp fun Z σ H ⟨A, ρ, S, R, r, p⟩ => by
  simp only [evS] at p
  exact stepF R r p fun v H1 A1 S1 d e1 R1 r1 rd p => stepT R1 r1 rd p fun H2 A2 σ2 ρ2 S2 e2 R2 r2 p => p H2 A2 σ2 (Ext.refl _ _) R2 r2
theorem dps_set {i : Nat} {x : Str} {e : Expr} {y : Ex} {pos' : Pos} (hN : X.N.Nodup) (hi : X.N[i]? = some x) (hx : Loc X.env.scope x) (he : PE X e (tE X.K T C cf W y)) (hs : swapsWith e (some (.Name x pos')) pos.line X.env = pure false) (hf : X.fn x = true ∨ X.env.scope.names.lookup x = some .local) :
    PS X (.Assign [.Name x pos'] e pos) (tS X.K T C cf W (.asg (.name i) y)) := (ps_set hN hi hx he hs hf).imp fun Z σ H ⟨A, ρ, S, R, r, p⟩ => by
  simp only [evS] at p
  refine stepF R r p fun v H1 A1 S1 d e1 R1 r1 rd p => ?_
  simp only [evT] at p
  split at p
  · exact p H1 A1 _ (Ext.refl _ _) R1 (r1.set rd i)
  · exact p.elim
theorem dps_setLc (G : Bas X T C) {i : Nat} {y : Str} {py : Pos} {elt tg iter : Expr} {ifs : List Expr} {scope : Scope} {own : List (Str × Nat)} {cpos : Pos} {t : Tg} {it : Itx} {xi : Exs} {xe : Ex} {vs : List Nat} (hy : X.N[i]? = some y) (hyl : X.env.scope.names.lookup y = some .local)
    (hsw : swapsWith (.ListComp elt [⟨tg, iter, ifs, 0⟩] scope cpos) (some (.Name y py)) pos.line X.env = pure true) (hv : own.map (·.2) = vs) (hi : PI X tg iter (tI X.K T C cf W it)) (ok : BlkOk X.N X.env.scope scope own)
    (hg : ∀ (s : Shared) (H : Hp) (B : Addr) (cl : List (Str × Addr)) (fp : List Addr), PG (X.blk s H scope (compEnvC scope cl B X.env) fp) tg (gT X.K T C cf t)) (ht : ∀ (s : Shared) (H : Hp) (B : Addr) (cl : List (Str × Addr)) (fp : List Addr), PTs (X.blk s H scope (compEnvC scope cl B X.env) fp) ifs (tIf X.K T C cf WF xi))
    (he : ∀ (s : Shared) (H : Hp) (B : Addr) (cl : List (Str × Addr)) (fp : List Addr), PE (X.blk s H scope (compEnvC scope cl B X.env) fp) elt (tE X.K T C cf WF xe)) (hs : ∀ x, foldedSetIterable iter X.env x = pure x) (hw : ∀ j ∈ tgv t, j ∈ vs) :
    PS X (.Assign [.Name y py] (.ListComp elt [⟨tg, iter, ifs, 0⟩] scope cpos) pos) (tS X.K T C cf W (.asg (.name i) (.comp vs t it xi xe))) := (ps_setLc G.hc G.nd hy hyl hsw hi ok hg ht he hs).imp fun Z σ H ⟨A, ρ, S, R, r, p⟩ => by
  simp only [evS] at p
  refine lc_of G hv hi ok hg ht he hs hw (stepF R r p fun v H1 A1 S1 d e1 R1 r1 rd p => ?_)
  simp only [evT] at p
  split at p
  · exact p H1 A1 _ (Ext.refl _ _) R1 (r1.set rd i)
  · exact p.elim
theorem dps_par {i j : Nat} {x y : Str} {a b : Expr} {xa xb : Ex} {px py pt : Pos} {kt k2 pt2} (hc : X.calm = true) (hN : X.N.Nodup) (hi : X.N[i]? = some x) (hj : X.N[j]? = some y) (hij : i ≠ j)
    (hx : X.env.scope.names.lookup x = some .local) (hy : X.env.scope.names.lookup y = some .local) (ha : PA X [a, b] (tL X.K T C cf W (.cons xa (.cons xb .nil))))
    (hw : swappedStores [.Tuple [.Name x px, .Name y py] kt pt] (.Tuple [a, b] k2 pt2) X.env = pure (some [x, y]))
    (hs : swapsWithSole [.Tuple [.Name x px, .Name y py] kt pt] (.Tuple [a, b] k2 pt2) pos.line X.env = pure false) :
    PS X (.Assign [.Tuple [.Name x px, .Name y py] kt pt] (.Tuple [a, b] k2 pt2) pos) (tS X.K T C cf W (.par i j xa xb)) := (ps_par hc hN hi hj hij hx hy ha hw hs).imp fun Z σ H ⟨A, ρ, S, R, r, p⟩ => by
  simp only [evS] at p
  refine ⟨A, ρ, S, R, r, ?_⟩
  simp only [evL]
  cases q1 : evE C cf xa ρ S with
  | ok d S1 =>
    rw [q1] at p
    have p : PostF X.K T W A H ((evE C cf xb ρ S1).toFr ρ fun y S2 => .nx ((ρ.set i (some d)).set j (some y)) S2) Z := p
    simp only [Rs.bind]
    cases q2 : evE C cf xb ρ S1 with
    | ok e S2 =>
      rw [q2] at p
      have p : NxP X.K T A H ((ρ.set i (some d)).set j (some e)) S2 Z.nx := p
      intro H1 A1 e1 R1 vs rv
      cases rv with
      | cons rd rr =>
        cases rr with
        | cons re rn =>
          cases rn
          exact ⟨_, _, rfl, p H1 A1 _ e1 R1 (((r.ext e1).set rd i).set re j)⟩
    | exc c w S2 =>
      rw [q2] at p
      exact fun cv dx H' A' e R x => p cv dx H' A' σ e R x (r.ext e)
    | bad =>
      rw [q2] at p
      exact p
  | exc c w S1 =>
    rw [q1] at p
    exact fun cv dx H' A' e R x => p cv dx H' A' σ e R x (r.ext e)
  | bad =>
    rw [q1] at p
    exact p
theorem dps_for {tg iter : Expr} {body : List Stmt} {t : Tg} {it : Itx} {xs : List Sm} (hp : PassesOwn (model X.prog X.w) X.A X.env X.xe) (hc : X.calm = true) (hi : PI X tg iter (tI X.K T C cf W it)) (hg : PG X tg (gT X.K T C cf t)) (hb : PSs X body (tSs X.K T C cf W xs))
    (hs : ∀ x, foldedSetIterable iter X.env x = pure x) : PS X (.For tg iter body [] pos) (tS X.K T C cf W (.for_ t it xs)) := (ps_for hp hc hi hg hb hs).imp fun Z σ H ⟨A, ρ, S, R, r, p⟩ => by
  simp only [evS] at p
  refine ⟨A, ρ, S, R, r, (stepFG r p).mono fun iv A1 S1 H1 ⟨e1, R1, p1⟩ => ?_⟩
  intro J hJ
  have r1 := r.ext e1
  generalize hturn : (fun d ρ' S2 => (noex (evT C cf t d ρ' S2)).toFr ρ' fun ρ2 S3 => evSs C cf xs ρ2 S3) = turn at p1
  refine ⟨fun i m σ2 H2 => ∃ A2 ρ2 S2, Ext A1 H1 A2 H2 ∧ Rl X.K T A2 S2 H2 ∧ RhoR T A2 H2 ρ2 σ2 ∧ PostF X.K T W A2 H2 (forK C iv turn m i ρ2 S2) Z, ⟨iv.many C S1, A1, ρ, S1, Ext.refl _ _, R1, r1, p1⟩, ?_⟩
  rintro i m σ2 H2 ⟨A2, ρ2, S2, e2, R2, r2, p2⟩
  have hj := hJ A2 H2 S2 i e2 R2
  unfold forK at p2
  cases hat : iv.at C S2 i with
  | none =>
    rw [hat] at p2
    exact p2.elim
  | some o =>
    rw [hat] at p2 hj
    cases o with
    | none => exact .inl ⟨hj, p2 H2 A2 σ2 (Ext.refl _ _) R2 r2⟩
    | some d =>
      cases m with
      | zero => exact p2.elim
      | succ m =>
        refine .inr ⟨hj.1, fun σ3 H3 => ∃ A3 ρ3 S3, Ext A1 H1 A3 H3 ∧ Rl X.K T A3 S3 H3 ∧ RhoR T A3 H3 ρ3 σ3 ∧ PostF X.K T W A3 H3 (forK C iv turn m (i + 1) ρ3 S3) Z, fun σ' H' h => ⟨m, Nat.lt_succ_self _, h⟩, fun x H3 y => ?_⟩
        obtain ⟨e3, R3, rd⟩ := hj.2 x H3 y
        have p3 := PostF.ext e3 p2
        have p3 : PostF X.K T W A2 H3 (match turn d ρ2 S2 with
          | .nx ρ' S' => forK C iv turn m (i + 1) ρ' S'
          | .ct ρ' S' => forK C iv turn m (i + 1) ρ' S'
          | .bk ρ' S' => .nx ρ' S'
          | r => r) Z := p3
        have r3 := r2.ext e3
        refine ⟨A2, ρ2, S2, d, R3, r3, rd, ?_⟩
        cases hq : evT C cf t d ρ2 S2 with
        | ok ρ4 S4 =>
          have ht : turn d ρ2 S2 = evSs C cf xs ρ4 S4 := by
            rw [← hturn]
            show (noex (evT C cf t d ρ2 S2)).toFr ρ2 _ = _
            rw [hq]
            rfl
          rw [ht] at p3
          intro H4 A4 σ4 e4 R4 r4 o4
          refine ⟨A4, ρ4, S4, R4, r4, ?_⟩
          have p4 := PostF.ext e4 p3
          have E4 := e2.trans (e3.trans e4)
          cases hb : evSs C cf xs ρ4 S4 with
          | nx ρ5 S5 =>
            rw [hb] at p4
            exact fun H5 A5 σ5 e5 R5 r5 => ⟨A5, ρ5, S5, E4.trans e5, R5, r5, PostF.ext e5 p4⟩
          | ct ρ5 S5 =>
            rw [hb] at p4
            exact fun H5 A5 σ5 e5 R5 r5 => ⟨A5, ρ5, S5, E4.trans e5, R5, r5, PostF.ext e5 p4⟩
          | bk ρ5 S5 => rw [hb] at p4; exact p4
          | rt d S5 => rw [hb] at p4; exact p4
          | ex c w ρ5 S5 => rw [hb] at p4; exact p4
          | bad => rw [hb] at p4; exact p4
        | exc c w S4 =>
          have ht : turn d ρ2 S2 = .bad := by
            rw [← hturn]
            show (noex (evT C cf t d ρ2 S2)).toFr ρ2 _ = _
            rw [hq]
            rfl
          rw [ht] at p3
          exact p3.elim
        | bad =>
          have ht : turn d ρ2 S2 = .bad := by
            rw [← hturn]
            show (noex (evT C cf t d ρ2 S2)).toFr ρ2 _ = _
            rw [hq]
            rfl
          rw [ht] at p3
          exact p3.elim
theorem dps_while {c : Expr} {body : List Stmt} {xc : Ex} {xs : List Sm} (hp : PassesOwn (model X.prog X.w) X.A X.env X.xe) (hc : PT X c (tB_ X.K T C cf W xc)) (hb : PSs X body (tSs X.K T C cf W xs)) : PS X (.While c body [] pos) (tS X.K T C cf W (.while_ xc xs)) := (ps_while hp hc hb).imp fun Z σ H ⟨A, ρ, S, R, r, p⟩ => by
  simp only [evS] at p
  refine ⟨fun m σ H => ∃ A ρ S, Rl X.K T A S H ∧ RhoR T A H ρ σ ∧ PostF X.K T W A H (whileK (evB C cf xc) (fun ρ' S' => evSs C cf xs ρ' S') m ρ S) Z, ⟨C.wf, A, ρ, S, R, r, p⟩, ?_⟩
  rintro m σ1 H1 ⟨A1, ρ1, S1, R1, r1, p1⟩
  cases m with
  | zero => exact p1.elim
  | succ m =>
    unfold whileK at p1
    refine ⟨A1, ρ1, S1, R1, r1, (stepFG r1 p1).mono fun b A2 S2 H2 ⟨e2, R2, p2⟩ => ?_⟩
    cases b with
    | true =>
      show ite _ _ _
      rw [if_pos rfl]
      refine ⟨_, fun σ' H' h => ⟨m, Nat.lt_succ_self _, h⟩, A2, ρ1, S2, R2, r1.ext e2, ?_⟩
      have p2 : PostF X.K T W A2 H2 (match evSs C cf xs ρ1 S2 with
          | .nx ρ' S' => whileK (evB C cf xc) (fun ρ' S' => evSs C cf xs ρ' S') m ρ' S'
          | .ct ρ' S' => whileK (evB C cf xc) (fun ρ' S' => evSs C cf xs ρ' S') m ρ' S'
          | .bk ρ' S' => .nx ρ' S'
          | r => r) Z := p2
      cases hb : evSs C cf xs ρ1 S2 with
      | nx ρ5 S5 =>
        rw [hb] at p2
        exact fun H5 A5 σ5 e5 R5 r5 => ⟨A5, ρ5, S5, R5, r5, PostF.ext e5 p2⟩
      | ct ρ5 S5 =>
        rw [hb] at p2
        exact fun H5 A5 σ5 e5 R5 r5 => ⟨A5, ρ5, S5, R5, r5, PostF.ext e5 p2⟩
      | bk ρ5 S5 => rw [hb] at p2; exact p2
      | rt d S5 => rw [hb] at p2; exact p2
      | ex c w ρ5 S5 => rw [hb] at p2; exact p2
      | bad => rw [hb] at p2; exact p2
    | false =>
      show ite _ _ _
      rw [if_neg (by simp)]
      exact p2 H2 A2 σ1 (Ext.refl _ _) R2 (r1.ext e2)
end
end MP
end MPz
section MQa
set_option Elab.async false
set_option linter.all false
set_option maxRecDepth 100000
/-! MQa: calls of built-in functions and methods, stars, fields, locks, what is walked of a dict. -/
namespace MP
open PySem PySem.Spec PyProof.Rows L2
/-- no star -/
def nst : Expr → Bool
  | .Starred _ _ => false
  | _ => true
theorem star_ns {e : Expr} {es : List Expr} {env : Env} (h : nst e = true) : starEach (e :: es) env = (false, eval e env) :: starEach es env := by
  cases e <;> first | rfl | cases h
theorem plain_ns {env : Env} {pos : Pos} : ∀ {es : List Expr}, es.all nst = true → (backTo pos (starEach es env)).any (·.1) = false
  | [], _ => rfl
  | e :: es, h => by
    rw [List.all_cons, Bool.and_eq_true] at h
    rw [star_ns h.1]
    show (false || (backTo pos (starEach es env)).any (·.1)) = false
    rw [plain_ns h.2]
    rfl
theorem plain_all {env : Env} {pos : Pos} : ∀ {es : List Expr}, es.all nst = true → (backTo pos (starEach es env)).all (fun x => !x.1) = true
  | [], _ => rfl
  | e :: es, h => by
    rw [List.all_cons, Bool.and_eq_true] at h
    rw [star_ns h.1]
    show (true && (backTo pos (starEach es env)).all (fun x => !x.1)) = true
    rw [plain_all h.2]
    rfl
section
variable {X : Cx} {T : Env1} {C : Cf} {cf : Nat → List D → Sto → Rs D} {W : WX} {x : Str} {p pos apos : Pos} {e o : Expr} {es : List Expr} {xs : Exs} {xo : Ex}
theorem blt_run {b : Bt} {σ : L2.St} {H : Hp} {Q : VK} (h : tE X.K T C cf W (.blt b xs) σ H Q) : tCB (rCl X.K T fun S ds => bltD C b S ds) (tL X.K T C cf W xs) σ H Q := by
  obtain ⟨A, ρ, S, R, r, p⟩ := h
  refine stepL R r p fun vs H1 A1 S1 ds e1 R1 r1 rv p => ?_
  obtain ⟨v, S', hf, hQ⟩ := up_ok p
  exact ⟨A1, S1, ds, v, S', R1, rv, hf, hQ⟩
theorem dpe_bltF {b : Bt} {id : String} (hc : CallR X (.builtin id) (rCl X.K T fun S ds => bltD C b S ds)) (hg : Gl X x) (hm : X.mg x = none) (hv : bootBuiltins x = some (.builtin id)) (ha : PA X (e :: es) (tL X.K T C cf W xs)) (hn : x ≠ "__name__") (hdb : (x == ("__debug__" : Str)) = false) (hs : (e :: es).all nst = true) :
    PE X (.Call (.Name x p) (e :: es) [] pos) (tE X.K T C cf W (.blt b xs)) := by
  rw [List.all_cons, Bool.and_eq_true] at hs
  exact (pe_callB hc hg hm hv ha hn hdb (star_ns hs.1) (plain_ns hs.2)).imp fun σ H Q h => blt_run h
theorem dpe_bltT {b : Bt} {ty : String} (hc : CallR X (.type ty) (rCl X.K T fun S ds => bltD C b S ds)) (hg : Gl X x) (hm : X.mg x = none) (hv : bootBuiltins x = some (.type ty)) (ha : PA X (e :: es) (tL X.K T C cf W xs)) (hn : x ≠ "__name__") (hdb : (x == ("__debug__" : Str)) = false) (hs : (e :: es).all nst = true) :
    PE X (.Call (.Name x p) (e :: es) [] pos) (tE X.K T C cf W (.blt b xs)) := by
  rw [List.all_cons, Bool.and_eq_true] at hs
  exact (pe_callTy hc hg hm hv ha hn hdb (star_ns hs.1) (plain_ns hs.2)).imp fun σ H Q h => blt_run h
theorem dpe_bltM {b : Bt} {id : String} (hc : CallR X (.builtin id) (rCl X.K T fun S ds => bltD C b S ds)) (hg : Gl X x) (hm : X.mg x = some (.builtin id)) (ha : PA X (e :: es) (tL X.K T C cf W xs)) (hdb : (x == ("__debug__" : Str)) = false) (hs : (e :: es).all nst = true) :
    PE X (.Call (.Name x p) (e :: es) [] pos) (tE X.K T C cf W (.blt b xs)) := by
  rw [List.all_cons, Bool.and_eq_true] at hs
  exact (pe_callBfun hc hg hm ha hdb (star_ns hs.1) (plain_ns hs.2)).imp fun σ H Q h => blt_run h
/-- isinstance(e, t), t a built-in type -/
theorem dpe_isi {t : Str} {ty : String} {x1 : Ex} {p2 : Pos} (ht : ty ∈ ["bool", "int", "str", "tuple", "list", "dict"]) (hg : Gl X "isinstance") (hm : X.mg "isinstance" = none) (hgt : Gl X t) (hmt : X.mg t = none) (hvt : bootBuiltins t = some (.type ty)) (hnt : t ≠ "__name__") (hdt : (t == ("__debug__" : Str)) = false)
    (he : PE X e (tE X.K T C cf W x1)) (hs : nst e = true) : PE X (.Call (.Name "isinstance" p) [e, .Name t p2] [] pos) (tE X.K T C cf W (.blt (.isi ty) (.cons x1 .nil))) :=
  (pe_callB (clr_isi (X := X) (T := T) (C := C) ht) hg hm boot_isinstance (pa_cons he (pa_cons (pe_bltn hgt hmt hvt (v := .ty ty) rfl hnt hdt) pa_nil) (star_ns hs)) (he := star_ns hs)).imp fun σ H Q ⟨A, ρ, S, R, r, q⟩ => by
    simp only [evE, evL, bind_assoc] at q
    refine stepE R r q fun v H1 A1 S1 d e1 R1 r1 rd q => ?_
    obtain ⟨w, S', hf, hQ⟩ := up_ok q
    exact ⟨v, rfl, A1, S1, [d], w, S', R1, .cons rd .nil, hf, hQ⟩
/-! ### methods -/
theorem tyV_of {A : List Addr} {S : Sto} {H : Hp} {d : D} {v : V} {u : String} (R : Rl X.K T A S H) (r : Rep T A H d v) (h : tyD S d = some u) (hu : u = "list" ∨ u = "dict") : tyV X.K u v H := by
  cases r with
  | @ref n a ha =>
    simp only [tyD] at h
    split at h
    · rename_i ds h1
      cases h
      obtain ⟨vs, g, _⟩ := R.lst h1 ha
      exact .inl ⟨rfl, vs, SqL.of g⟩
    · rename_i ds h1
      cases h
      obtain ⟨vs, g, _⟩ := R.dct h1 ha
      exact .inr (.inr (.inl ⟨rfl, .inl ⟨vs, g⟩⟩))
    · cases h
  | scr =>
    cases h
    exact .inl ⟨rfl, _, R.sq⟩
  | _ =>
    simp only [tyD, Option.some.injEq] at h
    subst h
    rcases hu with z | z <;> exact absurd z (by decide)
theorem mty {m : Mt} : m.ty = "list" ∨ m.ty = "dict" := by cases m <;> first | exact .inl rfl | exact .inr rfl
theorem mth_run {m : Mt} {σ : L2.St} {H : Hp} {Q : VK} (h : tE X.K T C cf W (.mth m xo xs) σ H Q) : tBM X.K m.ty (rMt X.K T fun S d ds => mthD C m S d ds) (tE X.K T C cf W xo) (tL X.K T C cf W xs) σ H Q := by
  obtain ⟨A, ρ, S, R, r, q⟩ := h
  refine stepE R r q fun v H1 A1 S1 d e1 R1 r1 rd q => ?_
  split at q
  · rename_i ht
    refine ⟨tyV_of R1 rd ht mty, stepL R1 r1 q fun vs H2 A2 S2 ds e2 R2 r2 rv q => ?_⟩
    obtain ⟨w, S', hf, hQ⟩ := up_ok q
    exact ⟨A2, S2, d, ds, w, S', R2, rd.ext e2, rv, hf, hQ⟩
  · exact q.elim
/-- no call: what super() would need -/
def ncl : Expr → Bool
  | .Call (.Name _ _) [] [] _ => false
  | _ => true
theorem base_nc {f : Str} {env : Env} (h : ncl o = true) (whole : Sem Value) : attributeBase o f env whole = whole := by
  cases o with
  | Call f as ks q =>
    cases f with
    | Name y z =>
      cases as with
      | nil =>
        cases ks with
        | nil => cases h
        | cons _ _ => rfl
      | cons _ _ => rfl
    | _ => rfl
  | _ => rfl
theorem few_of {cpos : Pos} {env : Env} {es : List Expr} (hs : es.all nst = true) (hl : es.length < 30) : ((backTo cpos (starEach es env)).all (fun x => !x.1) && (backToKw cpos (keywordEach [] env)).all (fun x => x.1.isSome)
    && decide (es.length + ([] : List Keyword).length + (if ([] : List Keyword).isEmpty then 0 else 1) < 30)) = true := by
  rw [plain_all hs]
  show (true && true && decide (es.length + 0 + 0 < 30)) = true
  simp only [Bool.and_self, Bool.true_and, Nat.add_zero]
  exact decide_eq_true hl
theorem dpe_mth {m : Mt} {name : Str} {id : String} (pa : PlainAttrs m.ty) (slot : Slot m.ty name id) (hty : typeOf (.builtin id) = pure (.type "method_descriptor")) (hm : MtR X id (rMt X.K T fun S d ds => mthD C m S d ds)) (ho : PE X o (tE X.K T C cf W xo)) (ha : PA X (e :: es) (tL X.K T C cf W xs))
    (hb : ncl o = true) (hs : (e :: es).all nst = true) (hl : (e :: es).length < 30) (hline : (apos.endLine == pos.line) = true) : PE X (.Call (.Attribute o name apos) (e :: es) [] pos) (tE X.K T C cf W (.mth m xo xs)) := by
  have hs' := hs
  rw [List.all_cons, Bool.and_eq_true] at hs'
  exact (pe_bm pa slot hty hm ho ha (base_nc hb _) (few_of hs hl) hline (star_ns hs'.1) (plain_ns hs'.2)).imp fun σ H Q h => mth_run h
/-- no argument -/
theorem dpe_mth0 {m : Mt} {name : Str} {id : String} (pa : PlainAttrs m.ty) (slot : Slot m.ty name id) (hty : typeOf (.builtin id) = pure (.type "method_descriptor")) (hm : MtR X id (rMt X.K T fun S d ds => mthD C m S d ds)) (ho : PE X o (tE X.K T C cf W xo))
    (hb : ncl o = true) (hline : (apos.endLine == pos.line) = true) : PE X (.Call (.Attribute o name apos) [] [] pos) (tE X.K T C cf W (.mth m xo .nil)) :=
  (pe_bm0 pa slot hty hm ho (base_nc hb _) hline).imp fun σ H Q ⟨A, ρ, S, R, r, q⟩ => by
    refine stepE R r q fun v H1 A1 S1 d e1 R1 r1 rd q => ?_
    split at q
    · rename_i ht
      obtain ⟨w, S', hf, hQ⟩ := up_ok q
      exact ⟨tyV_of R1 rd ht mty, A1, S1, d, [], w, S', R1, rd, .nil, hf, hQ⟩
    · exact q.elim
theorem mtr_setd : MtR X "dict.setdefault" (rMt X.K T fun S d ds => mthD C .setd S d ds) := by
  rintro pins s σ H v vs u us Q I rv rvs ⟨A, S, d, ds, w, S', R, rd, rds, hf, hQ⟩
  cases rd with
  | @ref n a ha =>
    cases rds with
    | nil => cases hf
    | cons rk rr =>
      cases rr with
      | nil => cases hf
      | cons ry rr =>
        cases rr with
        | cons _ _ => cases hf
        | nil =>
          cases rvs with
          | cons q1 q2 =>
            cases q2 with
            | cons q3 q4 =>
              cases q4
              obtain rfl : u = Value.ref a := rv
              simp only [mthD] at hf
              split at hf
              · rename_i kvs h1
                obtain ⟨ks, g, rk'⟩ := R.dct h1 ha
                split at hf
                · rename_i k hk
                  have ex := key_rel rk hk
                  subst ex
                  split at hf
                  · rename_i hl
                    have hz : ks.length < sizeLine := by rw [← rk'.length, sizeLine_eq]; omega
                    rcases val_rel (k := k) rk' with ⟨n1, n2⟩ | ⟨d0, v0, n1, n2, rdv⟩
                    · rw [n1] at hf
                      simp only [Option.some.injEq, Prod.mk.injEq] at hf
                      obtain ⟨rfl, rfl⟩ := hf
                      refine d_setd I g q1 q3 hz (fun v h => by rw [n2] at h; cases h) fun _ w' s' I' rw' => ?_
                      obtain ⟨R', e'⟩ := R.write (ho := .dK (putK ks k _)) (o := .dct (putD kvs k _)) ha h1 rfl fun H' e' h' => ⟨_, h', (put_rel ry rk').ext0 e'⟩
                      exact ⟨_, _, I', rw', hQ _ _ _ e' R' (ry.ext e')⟩
                    · rw [n1] at hf
                      simp only [Option.some.injEq, Prod.mk.injEq] at hf
                      obtain ⟨rfl, rfl⟩ := hf
                      refine d_setd I g q1 q3 hz (fun v h w' s' I' rw' => ?_) fun h => by rw [n2] at h; cases h
                      rw [n2] at h
                      cases h
                      exact ⟨_, _, I', rw', hQ _ _ _ (Ext.refl _ _) R rdv⟩
                  · cases hf
                · cases hf
              · cases hf
  | _ => cases rds <;> first | cases hf | skip
/-! ### stars, dicts, fields -/
theorem dpa_star {q : Pos} (G : Bas X T C) (he : PE X e (tE X.K T C cf W xo)) (hr : PA X es (tL X.K T C cf W xs)) : PA X (.Starred e q :: es) (tL X.K T C cf W (.star xo xs)) := (StX.pa_star he hr rfl).imp fun σ H Q ⟨A, ρ, S, R, r, p⟩ => by
  simp only [evL] at p
  refine stepEG R r p fun y H1 A1 S1 d e1 R1 r1 rd p => ?_
  obtain ⟨ds, hd, p⟩ := lift_ok p
  obtain ⟨a, vs, ex, rv, hq⟩ := seq_of G.hs R1 rd hd
  refine ⟨a, vs, ex, hq.symm, A1, ρ, S1, R1, r1, ?_⟩
  cases q : evL C cf xs ρ S1 with
  | ok ds2 S2 =>
    rw [q] at p
    exact fun H2 A2 e2 R2 vs2 rv2 => p H2 A2 e2 R2 _ (Reps.append rv2 (rv.ext e2))
  | exc c w S2 =>
    rw [q] at p
    exact p
  | bad =>
    rw [q] at p
    exact p
theorem dpe_dct : PE X (.Dict [] [] pos) (tE X.K T C cf W .dct) := pe_dnewK.imp fun σ H Q ⟨A, ρ, S, R, r, p⟩ => by
  simp only [evE, new, up] at p
  intro q hq
  obtain ⟨R', e⟩ := R.push (o := .dct []) (ho := .dK []) hq fun A' H' e h => ⟨[], h, .nil⟩
  exact p _ _ _ e R' (.ref (by rw [← R.len, List.getElem?_append_right (Nat.le_refl _)]; simp))
theorem look_rel {A : List Addr} {H : Hp} {f : Str} {d : D} : ∀ {fs : List (Str × D)} {gs : List (Str × V)}, RepK T A H fs gs → fs.lookup f = some d → ∃ v, gs.lookup f = some v ∧ Rep T A H d v
  | _, _, .nil, h => by cases h
  | _, _, .cons (k := k) r t, h => by
    rw [List.lookup_cons] at h ⊢
    cases hk : f == k with
    | true =>
      rw [hk] at h
      cases h
      exact ⟨_, rfl, r⟩
    | false =>
      rw [hk] at h
      exact look_rel t h
theorem look_none {A : List Addr} {H : Hp} {f : Str} : ∀ {fs : List (Str × D)} {gs : List (Str × V)}, RepK T A H fs gs → fs.lookup f = none → gs.lookup f = none
  | _, _, .nil, _ => rfl
  | _, _, .cons (k := k) r t, h => by
    rw [List.lookup_cons] at h ⊢
    cases hk : f == k with
    | true =>
      rw [hk] at h
      cases h
    | false =>
      rw [hk] at h
      exact look_none t h
theorem put_fs {A : List Addr} {H : Hp} {f : Str} {d : D} {v : V} (q : Rep T A H d v) : ∀ {fs : List (Str × D)} {gs : List (Str × V)}, RepK T A H fs gs → RepK T A H (putA f d fs) (putF f v gs)
  | _, _, .nil => .cons q .nil
  | _, _, .cons (k := k) r t => by
    unfold putA putF
    by_cases hk : k = f
    · rw [if_pos hk, if_pos hk]
      exact .cons q t
    · rw [if_neg hk, if_neg hk]
      exact .cons r (put_fs q t)
/-- what the context knows of its classes: fields are plain -/
structure ClsOk (K : PySem.W.Frag) (T : Env1) (flds : Nat → List Str) : Prop where
  cls : ∀ (c : Nat) (a : Addr), T.cls[c]? = some a → Cls K a
  no : ∀ (c : Nat) (a : Addr) (f : Str), T.cls[c]? = some a → f ∈ flds c → NoAttr K a f
theorem dpe_fld {f : Str} {flds : Nat → List Str} (O : ClsOk X.K T flds) (hf : ∀ c, f ∈ flds c) (ho : PE X o (tE X.K T C cf W xo)) (hb : ncl o = true) : PE X (.Attribute o f pos) (tE X.K T C cf W (.fld f xo)) := (pe_fld ho (base_nc hb _)).imp fun σ H Q ⟨A, ρ, S, R, r, p⟩ => by
  simp only [evE] at p
  refine stepE R r p fun y H1 A1 S1 d e1 R1 r1 rd p => ?_
  have p' : PostD X.K T A1 H1 ((lift S1 (fldD S1 f d)).bind fun r S => .ok r S) W σ Q := by
    cases h : fldD S1 f d with
    | none => rw [h] at p; exact p
    | some z => rw [h] at p; exact p
  obtain ⟨z, hz, hQ⟩ := lift_okD p'
  cases rd with
  | @ref n a ha =>
    simp only [fldD] at hz
    split at hz
    · rename_i c fs h1
      obtain ⟨B, dx, gs, hc, g, rk⟩ := R1.obj n _ a h1 ha
      obtain ⟨v, hv, rv⟩ := look_rel rk hz
      exact ⟨a, B, dx, gs, v, rfl, g, O.cls c B hc, O.no c B f hc (hf c), hv, hQ _ _ _ (Ext.refl _ _) R1 rv⟩
    · cases hz
  | _ => cases hz
theorem dps_fld {f : Str} {flds : Nat → List Str} {value : Expr} {xv : Ex} {pos' : Pos} (O : ClsOk X.K T flds) (hf : ∀ c, f ∈ flds c) (ho : PE X o (tE X.K T C cf W xo)) (hv : PE X value (tE X.K T C cf W xv)) (hs : swapsWith value (some (.Attribute o f pos')) pos.line X.env = pure false) :
    PS X (.Assign [.Attribute o f pos'] value pos) (tS X.K T C cf W (.asg (.fld f xo) xv)) := (ps_fld ho hv hs).imp fun Z σ H ⟨A, ρ, S, R, r, p⟩ => by
  simp only [evS] at p
  refine stepF R r p fun v H1 A1 S1 d e1 R1 r1 rd p => ?_
  simp only [evT] at p
  refine ⟨A1, ρ, S1, R1, r1, ?_⟩
  cases q : evE C cf xo ρ S1 with
  | ok y S2 =>
    rw [q] at p
    intro yo H2 A2 e2 R2 ro
    have p : PostF X.K T W A1 H1 ((noex ((lift S2 (setA S2 f d y)).bind fun S3 _ => .ok ρ S3)).toFr ρ fun ρ' S2 => .nx ρ' S2) Z := p
    cases hz : setA S2 f d y with
    | none => rw [hz] at p; exact p.elim
    | some S3 =>
      rw [hz] at p
      have p : NxP X.K T A1 H1 ρ S3 Z.nx := p
      cases ro with
      | @ref n a ha =>
        simp only [setA] at hz
        split at hz
        · rename_i c fs h1
          split at hz
          · rename_i hl
            simp only [Option.some.injEq] at hz
            subst hz
            obtain ⟨B, dx, gs, hc, g, rk⟩ := R2.obj n _ a h1 ha
            refine ⟨a, B, dx, gs, rfl, g, O.cls c B hc, O.no c B f hc (hf c), by rw [← rk.length]; omega, ?_⟩
            obtain ⟨R3, e3⟩ := R2.write (ho := .ins B dx (putF f v gs)) (o := .ins c (putA f d fs)) ha h1 rfl fun H' e' h' => ⟨B, dx, _, hc, h', (put_fs (rd.ext e2) rk).ext0 e'⟩
            exact p _ _ σ (e2.trans e3) R3 ((r1.ext e2).ext e3)
          · cases hz
        · cases hz
      | _ => cases hz
  | exc c w S2 =>
    rw [q] at p
    exact p.elim
  | bad =>
    rw [q] at p
    exact p.elim
/-! ### a dict is walked -/
theorem lock_rel {A : List Addr} {S : Sto} {H : Hp} {ρ : Rho} {σ : L2.St} {i n : Nat} {kvs : List (Key × D)} (R : Rl X.K T A S H) (r : RhoR T A H ρ σ) (h : lockD ρ S i = some (n, kvs)) :
    ∃ a ks, ρ[i]? = some (some (.ref n)) ∧ A[n]? = some a ∧ S[n]? = some (.dct kvs) ∧ H a = some (.dK ks) ∧ RepK T A H kvs ks ∧ ∀ od, Rl X.K T A (S.set n (.dcF kvs)) (upd H a (.frz od (.dK ks))) ∧ Ext A H A (upd H a (.frz od (.dK ks))) := by
  unfold lockD at h
  split at h
  · rename_i m hm
    split at h
    · rename_i kvs' hs
      cases h
      obtain ⟨v, hv, rv⟩ := r.at_ i _ hm
      cases rv with
      | @ref _ a ha =>
        obtain ⟨ks, g, rk⟩ := R.dct hs ha
        exact ⟨a, ks, hm, ha, hs, g, rk, fun od => R.write ha hs rfl fun H' e' h' => ⟨od, ks, h', rk.ext0 e'⟩⟩
    · cases h
  · cases h
theorem unlock_rel {A A' : List Addr} {S' : Sto} {H H' : Hp} {n : Nat} {a : Addr} {kvs : List (Key × D)} {ks : List (Key × V)} {od : Obj} (ha : A[n]? = some a) (g : H a = some (.dK ks)) (rk : RepK T A H kvs ks) (e : Ext A (upd H a (.frz od (.dK ks))) A' H') (R' : Rl X.K T A' S' H') (hn : n < S'.length) :
    H' a = some (.frz od (.dK ks)) ∧ Rl X.K T A' (S'.set n (.dct kvs)) (upd H' a (.dK ks)) ∧ Ext0 A' H' A' (upd H' a (.dK ks)) ∧ Ext A H A' (upd H' a (.dK ks)) := by
  have hl : H' a = some (.frz od (.dK ks)) := e.frz _ _ _ upd_same
  have ha' := e.at_ ha
  have e0 : Ext0 A H A' H' := ⟨e.pre, fun b xs h => e.tup b xs (by rw [upd_ne (fun z => by rw [z, g] at h; cases h)]; exact h)⟩
  obtain ⟨R2, e2, _⟩ := R'.write0 (o := .dct kvs) (ho := .dK ks) ha' (List.getElem?_eq_getElem hn) fun H2 e2 h2 => ⟨ks, h2, (rk.ext0 e0).ext0 e2⟩
  refine ⟨hl, R2, e2, ⟨e.pre, fun b xs h => e2.tup b xs (e0.tup b xs h), fun b o u h => ?_, fun b q h => ?_⟩⟩
  · have hb : b ≠ a := fun z => by rw [z, g] at h; cases h
    rw [upd_ne hb]
    exact e.frz b o u (by rw [upd_ne hb]; exact h)
  · have hb : b ≠ a := fun z => by
      rw [z, g] at h
      unfold LamX.CodeO at h
      cases h
    rw [upd_ne hb]
    exact e.cod b q (by rw [upd_ne hb]; exact h)
theorem RhoR.ext0 {A A' : List Addr} {H H' : Hp} {ρ : Rho} {σ : L2.St} (e : Ext0 A H A' H') (r : RhoR T A H ρ σ) : RhoR T A' H' ρ σ := ⟨r.len, fun i d h => let ⟨v, h1, h2⟩ := r.at_ i d h; ⟨v, h1, h2.ext0 e⟩⟩
theorem Rl.has {A A' : List Addr} {S' : Sto} {H H' : Hp} {n : Nat} {a : Addr} (ha : A[n]? = some a) (e : Ext A H A' H') (R' : Rl X.K T A' S' H') : n < S'.length := by
  rw [← R'.len]
  exact (List.getElem?_eq_some_iff.mp (e.at_ ha)).1
theorem dpe_lock {i : Nat} (he : PE X e (tE X.K T C cf WF xo)) : PE X e (tE X.K T C cf W (.lock i xo)) := (pe_lock he).imp fun σ H Q ⟨A, ρ, S, R, r, p⟩ => by
  simp only [evE] at p
  cases hl : lockD ρ S i with
  | none => rw [hl] at p; exact p.elim
  | some q =>
    obtain ⟨n, kvs⟩ := q
    rw [hl] at p
    have p : PostD X.K T A H (unlD n kvs (evE C cf xo ρ (S.set n (.dcF kvs)))) W σ Q := p
    obtain ⟨a, ks, hi, ha, hs, g, rk, hlk⟩ := lock_rel R r hl
    refine ⟨a, .dK ks, g, trivial, fun od => ?_⟩
    obtain ⟨R1, e1⟩ := hlk od
    refine ⟨A, ρ, _, R1, r.ext e1, ?_⟩
    cases hx : evE C cf xo ρ (S.set n (.dcF kvs)) with
    | ok d S2 =>
      rw [hx] at p
      intro v H2 A2 e2 R2 rv
      obtain ⟨h1, R3, e3, e4⟩ := unlock_rel ha g rk e2 R2 (Rl.has ha e2 R2)
      exact ⟨h1, p v _ A2 e4 R3 (rv.ext0 e3)⟩
    | exc c w S2 => rw [hx] at p; exact p.elim
    | bad => rw [hx] at p; exact p.elim
theorem dps_lock {i : Nat} {st : Stmt} {xs : Sm} (he : PS X st (tS X.K T C cf WF xs)) : PS X st (tS X.K T C cf W (.lock i xs)) := (ps_lock he).imp fun Z σ H ⟨A, ρ, S, R, r, p⟩ => by
  simp only [evS] at p
  cases hl : lockD ρ S i with
  | none => rw [hl] at p; exact p.elim
  | some q =>
    obtain ⟨n, kvs⟩ := q
    rw [hl] at p
    have p : PostF X.K T W A H (unlF n kvs (evS C cf xs ρ (S.set n (.dcF kvs)))) Z := p
    obtain ⟨a, ks, hi, ha, hs, g, rk, hlk⟩ := lock_rel R r hl
    refine ⟨a, .dK ks, g, trivial, fun od => ?_⟩
    obtain ⟨R1, e1⟩ := hlk od
    refine ⟨A, ρ, _, R1, r.ext e1, ?_⟩
    cases hx : evS C cf xs ρ (S.set n (.dcF kvs)) with
    | nx ρ2 S2 =>
      rw [hx] at p
      intro H2 A2 σ2 e2 R2 r2
      obtain ⟨h1, R3, e3, e4⟩ := unlock_rel ha g rk e2 R2 (Rl.has ha e2 R2)
      exact ⟨h1, p _ A2 σ2 e4 R3 (r2.ext0 e3)⟩
    | bk ρ2 S2 =>
      rw [hx] at p
      intro H2 A2 σ2 e2 R2 r2
      obtain ⟨h1, R3, e3, e4⟩ := unlock_rel ha g rk e2 R2 (Rl.has ha e2 R2)
      exact ⟨h1, p _ A2 σ2 e4 R3 (r2.ext0 e3)⟩
    | ct ρ2 S2 =>
      rw [hx] at p
      intro H2 A2 σ2 e2 R2 r2
      obtain ⟨h1, R3, e3, e4⟩ := unlock_rel ha g rk e2 R2 (Rl.has ha e2 R2)
      exact ⟨h1, p _ A2 σ2 e4 R3 (r2.ext0 e3)⟩
    | rt d S2 =>
      rw [hx] at p
      intro v H2 A2 e2 R2 rv
      obtain ⟨h1, R3, e3, e4⟩ := unlock_rel ha g rk e2 R2 (Rl.has ha e2 R2)
      exact ⟨h1, p v _ A2 e4 R3 (rv.ext0 e3)⟩
    | ex c w ρ2 S2 => rw [hx] at p; exact p.elim
    | bad => rw [hx] at p; exact p.elim
end
end MP
end MQa
section MQb
set_option Elab.async false
set_option linter.all false
set_option maxRecDepth 100000
/-! MQb: dict's keys and items walked; ranges; sorted; calls of the program's own defs, methods, makers. -/
namespace MP
open PySem PySem.Spec PyProof.Rows L2
section
variable {X : Cx} {T : Env1} {C : Cf} {cf : Nat → List D → Sto → Rs D} {W : WX} {x : Str} {p pos apos : Pos} {e o tg : Expr} {es : List Expr} {xs : Exs} {xo : Ex}
theorem key_rep {A : List Addr} {H : Hp} (k : Key) : Rep T A H (dKey k) (kV k) := by
  cases k with
  | inl i => exact .int i
  | inr x => exact .str x
theorem kvs_get {A : List Addr} {H : Hp} : ∀ {kvs : List (Key × D)} {ks : List (Key × V)} {i : Nat}, RepK T A H kvs ks → (kvs[i]? = none ∧ ks.length ≤ i) ∨ ∃ k d v, kvs[i]? = some (k, d) ∧ ks[i]? = some (k, v) ∧ Rep T A H d v
  | _, _, i, .nil => .inl ⟨rfl, Nat.zero_le _⟩
  | _, _, 0, .cons r t => .inr ⟨_, _, _, rfl, rfl, r⟩
  | _, _, i + 1, .cons r t => by
    rcases kvs_get (i := i) t with ⟨h1, h2⟩ | ⟨k, d, v, h1, h2, h3⟩
    · exact .inl ⟨by simpa using h1, by simpa using h2⟩
    · exact .inr ⟨k, d, v, by simpa using h1, by simpa using h2, h3⟩
theorem ivr_keys {A : List Addr} {H : Hp} {n : Nat} {a : Addr} {od : Obj} {kvs : List (Key × D)} {ks : List (Key × V)} (g : H a = some (.frz od (.dK ks))) (rk : RepK T A H kvs ks) : IvR X.K T C A H (.keys n kvs) (Itk a od ks) := by
  intro A' H' S' i e R
  have g' := e.frz _ _ _ g
  rcases kvs_get (i := i) (rk.ext e) with ⟨h1, h2⟩ | ⟨k, d, v, h1, h2, h3⟩
  · simp only [Iv.at, h1, Option.map_none]
    exact ⟨g', h2⟩
  · simp only [Iv.at, h1, Option.map_some]
    have hlt := (List.getElem?_eq_some_iff.mp h2).1
    refine ⟨⟨g', hlt⟩, fun y H2 ⟨e2, k', v', hk, hy⟩ => ?_⟩
    subst e2
    rw [h2] at hk
    cases hk
    subst hy
    exact ⟨Ext.refl _ _, R, key_rep k⟩
theorem ivr_items {A : List Addr} {H : Hp} {n : Nat} {a : Addr} {od : Obj} {kvs : List (Key × D)} {ks : List (Key × V)} (g : H a = some (.frz od (.dK ks))) (rk : RepK T A H kvs ks) : IvR X.K T C A H (.items n kvs) (Iti a od ks) := by
  intro A' H' S' i e R
  have g' := e.frz _ _ _ g
  rcases kvs_get (i := i) (rk.ext e) with ⟨h1, h2⟩ | ⟨k, d, v, h1, h2, h3⟩
  · simp only [Iv.at, h1, Option.map_none]
    exact ⟨g', h2⟩
  · simp only [Iv.at, h1, Option.map_some]
    have hlt := (List.getElem?_eq_some_iff.mp h2).1
    refine ⟨⟨g', hlt⟩, fun y H2 ⟨q, k', v', hk, hy, hq, e2⟩ => ?_⟩
    rw [h2] at hk
    cases hk
    subst hy e2
    obtain ⟨R', e'⟩ := R.laid0 (o := .tup [kV k, v]) hq
    exact ⟨e', R', .tup upd_same (.cons (key_rep k) (.cons (h3.ext e') .nil))⟩
theorem locked_rel {A : List Addr} {S : Sto} {H : Hp} {ρ : Rho} {σ : L2.St} {i n : Nat} {kvs : List (Key × D)} (R : Rl X.K T A S H) (r : RhoR T A H ρ σ) (h : lockedI ρ S i = some (n, kvs)) :
    ∃ a od ks, σ[i]? = some (some (.ref a)) ∧ H a = some (.frz od (.dK ks)) ∧ RepK T A H kvs ks := by
  unfold lockedI at h
  split at h
  · rename_i m hm
    split at h
    · rename_i kvs' hs
      cases h
      obtain ⟨v, hv, rv⟩ := r.at_ i _ hm
      cases rv with
      | @ref _ a ha =>
        obtain ⟨od, ks, g, rk⟩ := R.obj _ _ a hs ha
        exact ⟨a, od, ks, hv, g, rk⟩
    · cases h
  · cases h
theorem dpi_keys {i : Nat} (he : PE X e (tVar i)) : PI X tg e (tI X.K T C cf W (.keys i)) := ⟨fun pins s σ H R0 I ⟨A, ρ, S, R, r, p⟩ => (pi_keys he).run pins s σ H R0 I (by
  simp only [evI] at p
  obtain ⟨⟨n, kvs⟩, hl, p⟩ := lift_ok p
  obtain ⟨a, od, ks, hv, g, rk⟩ := locked_rel R r hl
  exact ⟨_, hv, a, od, rfl, .inl ⟨ks, g, p H A (Ext.refl _ _) R _ (ivr_keys g rk)⟩⟩)⟩
theorem dpi_items {i kk : Nat} {elts : List Expr} {tpos : Pos} (he : PE X e (tVar i)) (hb : ncl e = true) (hline : (apos.endLine == pos.line) = true) : PI X (.Tuple elts kk tpos) (.Call (.Attribute e "items" apos) [] [] pos) (tI X.K T C cf W (.items i)) := ⟨fun pins s σ H R0 I ⟨A, ρ, S, R, r, p⟩ => (pi_items he (base_nc hb _) hline).run pins s σ H R0 I (by
  simp only [evI] at p
  obtain ⟨⟨n, kvs⟩, hl, p⟩ := lift_ok p
  obtain ⟨a, od, ks, hv, g, rk⟩ := locked_rel R r hl
  exact ⟨_, hv, a, od, ks, rfl, g, p H A (Ext.refl _ _) R _ (ivr_items g rk)⟩)⟩
/-- range with two bounds -/
theorem dpi_rng2 {a b : Expr} {xa xb : Ex} (hg : Gl X "range") (hm : X.mg "range" = none) (ha : PE X a (tE X.K T C cf W xa)) (hb : PE X b (tE X.K T C cf W xb)) (hs : nst a = true) (hs2 : nst b = true) : PI X tg (.Call (.Name "range" p) [a, b] [] pos) (tI X.K T C cf W (.rng2 xa xb)) := ⟨fun pins s σ H R0 I ⟨A, ρ, S, R, r, q⟩ =>
  (pi_range2 hg hm (pa_cons ha (pa_cons hb pa_nil (star_ns hs2)) (star_ns hs)) (by rw [star_ns hs, star_ns hs2]; rfl) (by rw [star_ns hs2]; rfl)).run pins s σ H R0 I (by
    simp only [evI] at q
    refine stepEG R r q fun y H1 A1 S1 d e1 R1 r1 rd q => ?_
    refine stepEG R1 r1 q fun z H2 A2 S2 d2 e2 R2 r2 rd2 q => ?_
    cases rd with
    | int i =>
      cases rd2 with
      | int j =>
        have q : PostG X.K T A2 H2 (lift S2 (rngI i j)) W σ fun iv A' S' H' => ∀ J, IvR X.K T C A' H' iv J → R0 J H' := q
        have q' : PostG X.K T A2 H2 ((lift S2 (rngI i j)).bind fun iv S => .ok iv S) W σ fun iv A' S' H' => ∀ J, IvR X.K T C A' H' iv J → R0 J H' := by
          cases h : rngI i j with
          | none => rw [h] at q; exact q
          | some z => rw [h] at q; exact q
        obtain ⟨iv, hiv, q⟩ := lift_ok q'
        unfold rngI at hiv
        split at hiv
        · rename_i hb
          cases hiv
          exact ⟨i, j, rfl, hb, q H2 A2 (Ext.refl _ _) R2 _ ivr_rng⟩
        · cases hiv
      | _ => exact q.elim
    | _ => cases rd2 <;> exact q.elim)⟩
/-! ### ranges as values; sorted -/
theorem rgV_is (n : Int) : rgV 0 n = (List.range n.toNat).map fun (j : Nat) => V.int j := by
  unfold rgV
  rw [Int.sub_zero]
  congr 1
  funext j
  rw [Int.zero_add]
theorem reps_rng {A : List Addr} {H : Hp} : ∀ ns : List Nat, Reps T A H (ns.map fun (j : Nat) => D.int j) (ns.map fun (j : Nat) => V.int j)
  | [] => .nil
  | n :: ns => .cons (.int _) (reps_rng ns)
theorem reps_int {A : List Addr} {H : Hp} : ∀ ns : List Int, Reps T A H (ns.map D.int) (ns.map V.int)
  | [] => .nil
  | n :: ns => .cons (.int _) (reps_int ns)
theorem rng_run {b : Bt} {σ : L2.St} {H : Hp} {Q : VK} (hb : ∀ S ds r S', bltD C b S ds = some (r, S') → ∃ i : Int, ds = [.int i] ∧ 0 ≤ i ∧ i ≤ 100000) (h : tE X.K T C cf W (.blt b (.cons xo .nil)) σ H Q) :
    tRg1 (tE X.K T C cf W xo) σ H fun a n H1 => a = 0 ∧ RgOk 0 n ∧ ∃ A1 S1 r S', Rl X.K T A1 S1 H1 ∧ bltD C b S1 [.int n] = some (r, S') ∧ OkD X.K T A1 H1 r S' Q := by
  obtain ⟨A, ρ, S, R, r, q⟩ := h
  simp only [evE, evL, bind_assoc] at q
  refine stepE R r q fun y H1 A1 S1 d e1 R1 r1 rd q => ?_
  obtain ⟨v, S', hf, hQ⟩ := up_ok q
  obtain ⟨i, hi, h0, h1⟩ := hb _ _ _ _ hf
  cases rd with
  | int j =>
    cases hi
    exact ⟨i, rfl, rfl, .of_le (Int.le_refl _) (by omega) (by decide) h0, A1, S1, v, S', R1, hf, hQ⟩
  | _ => cases hi
theorem lstR_in {S S' : Sto} {ds : List D} {r : D} (hb : bltD C .lstR S ds = some (r, S')) : ∃ i : Int, ds = [.int i] ∧ 0 ≤ i ∧ i ≤ 100000 := by
  cases ds with
  | nil => cases hb
  | cons d t =>
    cases t with
    | cons _ _ => cases d <;> cases hb
    | nil =>
      cases d with
      | int i =>
        simp only [bltD] at hb
        split at hb
        · rename_i hz; exact ⟨i, rfl, hz⟩
        · cases hb
      | _ => cases hb
theorem tupR_in {S S' : Sto} {ds : List D} {r : D} (hb : bltD C .tupR S ds = some (r, S')) : ∃ i : Int, ds = [.int i] ∧ 0 ≤ i ∧ i ≤ 100000 := by
  cases ds with
  | nil => cases hb
  | cons d t =>
    cases t with
    | cons _ _ => cases d <;> cases hb
    | nil =>
      cases d with
      | int i =>
        simp only [bltD] at hb
        split at hb
        · rename_i hz; exact ⟨i, rfl, hz⟩
        · cases hb
      | _ => cases hb
theorem dpe_lstR {p2 pos2 : Pos} (hc : X.calm = true) (hg : Gl X "list") (hm : X.mg "list" = none) (hgr : Gl X "range") (hmr : X.mg "range" = none) (he : PE X e (tE X.K T C cf W xo)) (hs : nst e = true) :
    PE X (.Call (.Name "list" p) [.Call (.Name "range" p2) [e] [] pos2] [] pos) (tE X.K T C cf W (.blt .lstR (.cons xo .nil))) := (pe_listRg hc hg hm (prg_1 hgr hmr he (star_ns hs))).imp fun σ H Q h => by
  have h := rng_run (fun S ds r S' hb => lstR_in hb) h
  obtain ⟨A, ρ, S, R, r, q⟩ := h
  refine ⟨A, ρ, S, R, r, q.imp fun v H1 ⟨n, ex, e0, ok, A1, S1, d, S', R1, hf, hQ⟩ => ⟨n, ex, ok, fun q hq => ?_⟩⟩
  have hz : 0 ≤ n ∧ n ≤ 100000 := by
    simp only [bltD] at hf
    split at hf
    · assumption
    · cases hf
  simp only [bltD, hz, and_self, if_true, new, Option.some.injEq, Prod.mk.injEq] at hf
  obtain ⟨rfl, rfl⟩ := hf
  rw [rgV_is]
  exact OkD.lst R1 (reps_rng _) hQ q hq
theorem dpe_tupR {p2 pos2 : Pos} (hc : X.calm = true) (hg : Gl X "tuple") (hm : X.mg "tuple" = none) (hgr : Gl X "range") (hmr : X.mg "range" = none) (he : PE X e (tE X.K T C cf W xo)) (hs : nst e = true) :
    PE X (.Call (.Name "tuple" p) [.Call (.Name "range" p2) [e] [] pos2] [] pos) (tE X.K T C cf W (.blt .tupR (.cons xo .nil))) := (pe_tupRg hc hg hm (prg_1 hgr hmr he (star_ns hs))).imp fun σ H Q h => by
  have h := rng_run (fun S ds r S' hb => tupR_in hb) h
  obtain ⟨A, ρ, S, R, r, q⟩ := h
  refine ⟨A, ρ, S, R, r, q.imp fun v H1 ⟨n, ex, e0, ok, A1, S1, d, S', R1, hf, hQ⟩ => ⟨n, ex, ok, fun q hq => ?_⟩⟩
  have hz : 0 ≤ n ∧ n ≤ 100000 := by
    simp only [bltD] at hf
    split at hf
    · assumption
    · cases hf
  simp only [bltD, hz, and_self, if_true, Option.some.injEq, Prod.mk.injEq] at hf
  obtain ⟨rfl, rfl⟩ := hf
  rw [rgV_is]
  exact OkD.tup R1 (reps_rng _) hQ q hq
/-! ### sorted -/
theorem ins_perm (i : Int) : ∀ l : List Int, (insS i l).Perm (i :: l)
  | [] => .refl _
  | j :: r => by
    unfold insS
    split
    · exact .refl _
    · exact ((ins_perm i r).cons j).trans (.swap i j r)
theorem sort_perm : ∀ l : List Int, (sortI l).Perm l
  | [] => .refl _
  | i :: r => (ins_perm i _).trans ((sort_perm r).cons i)
theorem ins_sorted (i : Int) : ∀ l : List Int, l.Pairwise (· ≤ ·) → (insS i l).Pairwise (· ≤ ·)
  | [], _ => by simp [insS]
  | j :: r, h => by
    obtain ⟨h1, h2⟩ := List.pairwise_cons.mp h
    unfold insS
    split
    · rename_i hij
      refine List.pairwise_cons.mpr ⟨fun y hy => ?_, h⟩
      rcases List.mem_cons.mp hy with z | z
      · omega
      · have := h1 y z; omega
    · rename_i hij
      refine List.pairwise_cons.mpr ⟨fun y hy => ?_, ins_sorted i r h2⟩
      rcases List.mem_cons.mp ((ins_perm i r).mem_iff.mp hy) with z | z
      · omega
      · exact h1 y z
theorem sort_sorted : ∀ l : List Int, (sortI l).Pairwise (· ≤ ·)
  | [] => .nil
  | i :: r => ins_sorted i _ (sort_sorted r)
theorem sort_unique {l m : List Int} (h : m.Perm l) (hm : m.Pairwise (· ≤ ·)) : m = sortI l := by
  refine List.Perm.eq_of_pairwise (le := (· ≤ ·)) (fun a b _ _ h1 h2 => Int.le_antisymm h1 h2) hm (sort_sorted l) (h.trans (sort_perm l).symm)
end
end MP
end MQb
section MQc
set_option Elab.async false
set_option linter.all false
set_option maxRecDepth 100000
/-! MQc: sorted; calls of the program's own defs, methods, makers. -/
namespace MP
open PySem PySem.Spec PyProof.Rows L2
section
variable {X : Cx} {T : Env1} {C : Cf} {cf : Nat → List D → Sto → Rs D} {W : WX} {x m : Str} {p pos apos : Pos} {e o tg : Expr} {es : List Expr} {xs : Exs} {xo : Ex} {E : XK}
theorem keys_int {A : List Addr} {H : Hp} : ∀ {kvs : List (Key × D)} {ks : List (Key × V)} {ns : List Int}, RepK T A H kvs ks → ints? (kvs.map fun p => dKey p.1) = some ns → ks.map (·.1) = ns.map Sum.inl
  | _, _, ns, .nil, h => by
    cases h
    rfl
  | _, _, ns, .cons (k := k) r t, h => by
    cases k with
    | inr x => cases h
    | inl i =>
      simp only [List.map_cons, dKey, ints?, Option.map_eq_some_iff] at h
      obtain ⟨ms, h1, rfl⟩ := h
      rw [List.map_cons, List.map_cons, keys_int t h1]
theorem clr_sorted (hc : X.calm = true) : CallR X (.builtin "sorted") (rCl X.K T fun S ds => bltD C .sorted S ds) := by
  rintro pins s σ H vs us Q I rv ⟨A, S, ds, r, S', R, rds, hf, hQ⟩
  cases rds with
  | nil => cases hf
  | cons rd rr =>
    cases rr with
    | cons r2 r3 => cases rd <;> cases r2 <;> simp [bltD] at hf
    | nil =>
      cases rd with
      | @ref n a ha =>
        simp only [bltD] at hf
        split at hf
        · rename_i ds h1
          split at hf
          · rename_i ns hns
            split at hf
            · rename_i hl
              simp only [new, Option.some.injEq, Prod.mk.injEq] at hf
              obtain ⟨rfl, rfl⟩ := hf
              obtain ⟨ws, g, rw'⟩ := R.lst h1 ha
              have hw := ints_rel rw' hns
              subst hw
              refine cr_sortedI pins s σ H _ us Q I rv ⟨a, ns, rfl, SqL.of g, fun ns' q k1 k2 hq => ?_⟩
              have e := sort_unique k1 k2
              subst e
              exact OkD.lst R (reps_int _) hQ q hq
            · cases hf
          · cases hf
        · rename_i kvs h1
          split at hf
          · rename_i ns hns
            split at hf
            · rename_i hl
              simp only [new, Option.some.injEq, Prod.mk.injEq] at hf
              obtain ⟨rfl, rfl⟩ := hf
              obtain ⟨ws, g, rw'⟩ := R.dct h1 ha
              refine call_sortedDI hc pins s σ H _ us Q I rv ⟨a, ws, ns, rfl, Rd.of g, keys_int rw' hns, hl, fun ns' q k1 k2 hq => ?_⟩
              have e := sort_unique k1 k2
              subst e
              exact OkD.lst R (reps_int _) hQ q hq
            · cases hf
          · cases hf
        · cases hf
      | _ => cases hf
/-! ### the program's own defs -/
/-- what a def promises: what the interpreter tells of it -/
def spD (K : PySem.W.Frag) (T : Env1) (cf : Nat → List D → Sto → Rs D) (i : Nat) : Sp := fun vs H Q E => ∃ A S ds, Rl K T A S H ∧ Reps T A H ds vs ∧ PostD K T A H (cf i ds S) (fun cv dx _ H' => E cv dx H') [] Q
structure FnK (X : Cx) (T : Env1) (cf : Nat → List D → Sto → Rs D) (k i : Nat) (f : Addr) : Prop where
  ok : ∃ fd ps, FnOk X.prog X.w X.K X.mg X.base (L2N.CX X.prog X.w) k f fd ps (spD X.K T cf i) ∧ Binds X.K fd ps []
  kp : PySem.W.keepIn X.K (.ref f) = true
abbrev WK (E : XK) : WX := fun cv dx _ H => E cv dx H
theorem PostD.wk {K : PySem.W.Frag} {A : List Addr} {H : Hp} {r : Rs D} {σ σ' : L2.St} {Q : VK} (h : PostD K T A H r (WK E) σ Q) : PostD K T A H r (fun cv dx _ H' => E cv dx H') σ' Q := by
  cases r with
  | ok d S => exact h
  | exc c w S => exact h
  | bad => exact h
theorem dpe_call {k i : Nat} {f : Addr} (F : FnK X T cf k i f) (hr : Room k X.A) (hg : Gl X x) (hm : X.mg x = some (.ref f)) (hx : Passes (L2N.CX X.prog X.w) X E) (ha : PA X (e :: es) (tL X.K T C cf (WK E) xs)) (hdb : (x == ("__debug__" : Str)) = false) (hs : (e :: es).all nst = true) :
    PE X (.Call (.Name x p) (e :: es) [] pos) (tE X.K T C cf (WK E) (.call i xs)) := by
  obtain ⟨fd, ps, F0, hb⟩ := F.ok
  rw [List.all_cons, Bool.and_eq_true] at hs
  refine (pe_call (dvs := []) F0 hr hg hm F.kp hb .nil hx ha hdb (star_ns hs.1) (plain_ns hs.2)).imp fun σ H Q ⟨A, ρ, S, R, r, q⟩ => ?_
  simp only [evE] at q
  refine stepL R r q fun vs H1 A1 S1 ds e1 R1 r1 rv q => ?_
  rw [List.append_nil]
  exact ⟨A1, S1, ds, R1, rv, q.wk⟩
theorem dpe_call0 {k i : Nat} {f : Addr} (F : FnK X T cf k i f) (hr : Room k X.A) (hg : Gl X x) (hm : X.mg x = some (.ref f)) (hx : Passes (L2N.CX X.prog X.w) X E) (hdb : (x == ("__debug__" : Str)) = false) :
    PE X (.Call (.Name x p) [] [] pos) (tE X.K T C cf (WK E) (.call i .nil)) := by
  obtain ⟨fd, ps, F0, hb⟩ := F.ok
  refine (pe_call0 (dvs := []) F0 hr hg hm F.kp hb .nil hx hdb).imp fun σ H Q ⟨A, ρ, S, R, r, q⟩ => ?_
  exact ⟨A, S, [], R, .nil, PostD.wk q⟩
/-- its methods -/
structure MtK (K : PySem.W.Frag) (T : Env1) (C : Cf) (fa : Nat → Option Addr) : Prop where
  cls : ∀ (c : Nat) (a : Addr), T.cls[c]? = some a → Cls K a
  meth : ∀ (c : Nat) (a : Addr) (m : Str) (i : Nat), T.cls[c]? = some a → C.mt c m = some i → ∃ f, fa i = some f ∧ Meth K a m f
  all : ∀ (c : Nat), (T.cls[c]?).isSome = true ∨ ∀ m, C.mt c m = none
theorem mcall_eq {env : Env} (hb : ncl o = true) (hs : es.all nst = true) (hl : es.length < 30) (hline : (apos.endLine == pos.line) = true) :
    eval (.Call (.Attribute o m apos) es [] pos) env = (do
      let ov ← eval o env
      standAt apos.atName
      let (f, first) ← holding [ov] (getMethod ov m (plainOf o env))
      callWith pos f first (backTo pos (starEach es env)) (backToKw pos (keywordEach [] env))) := by
  show (do
    let ov ← attributeBase o m env (eval o env)
    standAt apos.atName
    methodCall o m apos pos env ov (es.length + ([] : List Keyword).length) (backTo pos (starEach es env)) (backToKw pos (keywordEach [] env))) = _
  rw [base_nc hb]
  congr 1
  funext ov
  congr 1
  funext _
  refine mcall_line ?_ hline
  have q := few_of (cpos := pos) (env := env) hs hl
  exact q
theorem omt_in {A : List Addr} {H : Hp} {S1 : Sto} {n : Nat} {σ : L2.St} {Q : VK} {f : Nat → Sto → Rs D} (q : PostD X.K T A H (match S1[n]? with
      | some (.ins c fs) => match C.mt c m with
        | some g => if (fs.lookup m).isNone then f g S1 else .bad
        | none => .bad
      | _ => .bad) W σ Q) : ∃ c fs g, S1[n]? = some (.ins c fs) ∧ C.mt c m = some g ∧ (fs.lookup m).isNone = true ∧ PostD X.K T A H (f g S1) W σ Q := by
  cases h : S1[n]? with
  | none => rw [h] at q; exact q.elim
  | some o =>
    rw [h] at q
    cases o with
    | ins c fs =>
      have q : PostD X.K T A H (match C.mt c m with
        | some g => if (fs.lookup m).isNone then f g S1 else .bad
        | none => .bad) W σ Q := q
      cases hm : C.mt c m with
      | none => rw [hm] at q; exact q.elim
      | some g =>
        rw [hm] at q
        have q : PostD X.K T A H (if (fs.lookup m).isNone then f g S1 else .bad) W σ Q := q
        split at q
        · rename_i hn
          exact ⟨c, fs, g, rfl, hm, hn, q⟩
        · exact q.elim
    | _ => exact q.elim
/-- o.m(..): which def it is, is seen when it runs; here the class is known to be the only one that has the method -/
theorem dpe_omt {k i c : Nat} {a f : Addr} (c1 : T.cls[c]? = some a) (cl : Cls X.K a) (me : Meth X.K a m f) (only : ∀ c' i', C.mt c' m = some i' → c' = c ∧ i' = i) (F : FnK X T cf k i f) (hr : Room k X.A) (hx : Passes (L2N.CX X.prog X.w) X E) (ho : PE X o (tE X.K T C cf (WK E) xo)) (ha : PA X (e :: es) (tL X.K T C cf (WK E) xs))
    (hb : ncl o = true) (hs : (e :: es).all nst = true) (hl : (e :: es).length < 30) (hline : (apos.endLine == pos.line) = true) : PE X (.Call (.Attribute o m apos) (e :: es) [] pos) (tE X.K T C cf (WK E) (.omt m xo xs)) := by
  obtain ⟨fd, ps, F0, hbn⟩ := F.ok
  have hs' := hs
  rw [List.all_cons, Bool.and_eq_true] at hs'
  refine (pe_meth (dvs := []) ho cl me F0 hr hbn .nil hx ha (star_ns hs'.1) (plain_ns hs'.2) (mcall_eq hb hs hl hline)).imp fun σ H Q ⟨A, ρ, S, R, r, q⟩ => ?_
  simp only [evE] at q
  refine stepE R r q fun v H1 A1 S1 d e1 R1 r1 rd q => ?_
  cases rd with
  | @ref n b hb' =>
    obtain ⟨c', fs, g, h1, hg, hno, q⟩ := omt_in (f := fun g S1 => (evL C cf xs ρ S1).bind fun ds S2 => cf g (.ref n :: ds) S2) q
    obtain ⟨rfl, rfl⟩ := only _ _ hg
    obtain ⟨B, dx, gs, hc, hg', rk⟩ := R1.obj _ _ b h1 hb'
    rw [c1] at hc
    cases hc
    refine ⟨b, dx, gs, rfl, hg', look_none rk (by simpa using hno), stepL R1 r1 q fun vs H2 A2 S2 ds e2 R2 r2 rv q => ?_⟩
    rw [List.append_nil]
    exact ⟨A2, S2, .ref n :: ds, R2, .cons (.ref (e2.at_ hb')) rv, q.wk⟩
  | _ => exact q.elim
theorem dpe_omt0 {k i c : Nat} {a f : Addr} (c1 : T.cls[c]? = some a) (cl : Cls X.K a) (me : Meth X.K a m f) (only : ∀ c' i', C.mt c' m = some i' → c' = c ∧ i' = i) (F : FnK X T cf k i f) (hr : Room k X.A) (hx : Passes (L2N.CX X.prog X.w) X E) (ho : PE X o (tE X.K T C cf (WK E) xo))
    (hb : ncl o = true) (hline : (apos.endLine == pos.line) = true) : PE X (.Call (.Attribute o m apos) [] [] pos) (tE X.K T C cf (WK E) (.omt m xo .nil)) := by
  obtain ⟨fd, ps, F0, hbn⟩ := F.ok
  refine (pe_meth0 (dvs := []) ho cl me F0 hr hbn .nil hx (mcall_eq hb rfl (by decide) hline)).imp fun σ H Q ⟨A, ρ, S, R, r, q⟩ => ?_
  simp only [evE, evL] at q
  refine stepE R r q fun v H1 A1 S1 d e1 R1 r1 rd q => ?_
  cases rd with
  | @ref n b hb' =>
    obtain ⟨c', fs, g, h1, hg, hno, q⟩ := omt_in (f := fun g S1 => cf g [.ref n] S1) q
    obtain ⟨rfl, rfl⟩ := only _ _ hg
    obtain ⟨B, dx, gs, hc, hg', rk⟩ := R1.obj _ _ b h1 hb'
    rw [c1] at hc
    cases hc
    exact ⟨b, dx, gs, rfl, hg', look_none rk (by simpa using hno), A1, S1, [.ref n], R1, .cons (.ref hb') .nil, PostD.wk q⟩
  | _ => exact q.elim
/-- C(..): the new thing first, then its maker -/
theorem mk_rel {A : List Addr} {S : Sto} {H : Hp} {c : Nat} {a y dx : Addr} (R : Rl X.K T A S H) (hc : T.cls[c]? = some a) (hy : H y = none) (hd : H dx = none) (hne : dx ≠ y) :
    Rl X.K T (A ++ [y]) (S ++ [.ins c []]) (upd (upd H dx (.own y)) y (.ins a dx [])) ∧ Ext A H (A ++ [y]) (upd (upd H dx (.own y)) y (.ins a dx [])) ∧ (A ++ [y])[S.length]? = some y := by
  obtain ⟨R1, e1⟩ := R.laid0 (o := .own y) hd
  obtain ⟨R2, e2⟩ := R1.push (p := y) (o := .ins c []) (ho := .ins a dx []) (by rw [upd_ne (Ne.symm hne)]; exact hy) fun A' H' e h => ⟨a, dx, [], hc, h, .nil⟩
  refine ⟨R2, e1.trans e2, ?_⟩
  rw [← R.len, List.getElem?_append_right (Nat.le_refl _)]
  simp
theorem mk_post {A : List Addr} {S : Sto} {H : Hp} {y : Addr} {r : Rs D} {σ : L2.St} {Q : VK} {A0 : List Addr} {H0 : Hp} (e0 : Ext A0 H0 A H) (hy : A[S.length]? = some y) (q : PostD X.K T A0 H0 (r.bind fun r S2 => match r with
      | .non => .ok (.ref S.length) S2
      | _ => .bad) (WK E) σ Q) : PostD X.K T A H r (fun cv dx _ H' => E cv dx H') [] fun v H2 => v = .non ∧ Q (.ref y) H2 := by
  have q := PostD.ext e0 q
  cases r with
  | ok d S2 =>
    cases d with
    | non =>
      intro v H' A' e' R' rv
      cases rv
      exact ⟨rfl, q _ _ _ e' R' (.ref (e'.at_ hy))⟩
    | _ => exact q.elim
  | exc c w S2 => exact q
  | bad => exact q
theorem dpe_mk {k i c : Nat} {a f : Addr} (hc : T.cls[c]? = some a) (hi : C.ini c = some i) (M : Mk X.K a f) (F : FnK X T cf k i f) (hr : Room (k + 1) X.A) (hg : Gl X x) (hm : X.mg x = some (.ref a)) (hx : Passes (L2N.CX X.prog X.w) X E) (ha : PA X (e :: es) (tL X.K T C cf (WK E) xs)) (hdb : (x == ("__debug__" : Str)) = false) (hs : (e :: es).all nst = true) :
    PE X (.Call (.Name x p) (e :: es) [] pos) (tE X.K T C cf (WK E) (.mk c xs)) := by
  obtain ⟨fd, ps, F0, hb⟩ := F.ok
  rw [List.all_cons, Bool.and_eq_true] at hs
  refine (pe_make (dvs := []) M F0 hr hg hm hb .nil hx ha hdb (star_ns hs.1) (plain_ns hs.2)).imp fun σ H Q ⟨A, ρ, S, R, r, q⟩ => ?_
  simp only [evE] at q
  refine stepL R r q fun vs H1 A1 S1 ds e1 R1 r1 rv q => ?_
  rw [hi] at q
  intro y dx hy hd hne
  rw [List.append_nil]
  obtain ⟨R2, e2, hn⟩ := mk_rel R1 hc hy hd hne
  exact ⟨_, _, _, R2, .cons (.ref hn) (rv.ext e2), mk_post e2 hn q⟩
theorem dpe_mk0 {k i c : Nat} {a f : Addr} (hc : T.cls[c]? = some a) (hi : C.ini c = some i) (M : Mk X.K a f) (F : FnK X T cf k i f) (hr : Room (k + 1) X.A) (hg : Gl X x) (hm : X.mg x = some (.ref a)) (hx : Passes (L2N.CX X.prog X.w) X E) (hdb : (x == ("__debug__" : Str)) = false) :
    PE X (.Call (.Name x p) [] [] pos) (tE X.K T C cf (WK E) (.mk c .nil)) := by
  obtain ⟨fd, ps, F0, hb⟩ := F.ok
  refine (pe_make0 (dvs := []) M F0 hr hg hm hb .nil hx hdb).imp fun σ H Q ⟨A, ρ, S, R, r, q⟩ => ?_
  simp only [evE, evL, Rs.bind] at q
  rw [hi] at q
  intro y dx hy hd hne
  obtain ⟨R2, e2, hn⟩ := mk_rel R hc hy hd hne
  exact ⟨_, _, _, R2, .cons (.ref hn) .nil, mk_post e2 hn q⟩
end
end MP
end MQc
section MQs
set_option Elab.async false
set_option linter.all false
set_option maxRecDepth 100000
/-! MQs: sorted(set(xs)), xs a list of ints. -/
namespace MP
open PySem PySem.Spec PyProof.Rows L2
/-- an empty set, as it is born -/
abbrev bornS (w : World) : Obj := { cls := .type "set", dict := none, data := .set #[] 0 (.fresh 0 0 (!w.params.followText "set-order")) }
section
variable {P : Program} {w : World} {A : Around} {E : Value → Shared → Prop} {s : Shared}
set_option maxRecDepth 100000 in
set_option maxHeartbeats 3200000 in
/-- set(xs): its members -/
theorem set_of_list {b : Addr} {its : Array Value} (ms : List Int) {Q : Value → Shared → Prop} (calm : A.handled = none) (isl : s.heap.IsList b its) (inl : IntsAre its.toList ms) (few : ms.length + 1 < scanBound)
    (k : ∀ (h' : Heap) (t n : Nat), SetR w h' s.heap.objs.size (fun j => decide (j ∈ ms)) n → n ≤ ms.length → (∀ a o, s.heap.get? a = some o → h'.get? a = some o) → Q (.ref s.heap.objs.size) { s with heap := h', toks := t }) :
    wpAny (model P w) A (call (.type "set") [.ref b]) Q E s := by
  have size : its.size = ms.length := by
    have z := IntsAre.length inl
    rwa [Array.length_toList] at z
  obtain ⟨_, _, ord⟩ := F.called_set.mro
  have f1 := F.called_set.made
  have f2 := F.called_set.sub
  have f3 := F.called_set.notType
  have f4 := F.called_set.canCreate
  have f5 := F.typeCall_set_1 (.ref b)
  refine wpAny_call (codeAny_of_tree (show wpAny _ _ (callAny (.type "set") _) _ _ _ from wpAny_pure ⟨Code.quiet_builtin _ (by decide +kernel), codeAny_builtin F.entry_type_call ?_⟩))
  rw [Around.under_plain (weight_type_call_type "set" [.ref b] []) rfl]
  repeat (any_goals (first | assumption | wp_step))
  refine codeAny_mono (code_set_led1 (.ref b) (E := E) (Q₁ := fun v s1 => v = .ref s.heap.objs.size ∧ s1 = { s with heap := s.heap.push (bornS w) }) ⟨rfl, rfl⟩) fun r1 s1 e1 => ?_
  match r1, e1 with
  | .error _, e1 => exact e1
  | .ok .next, e1 => exact e1.elim
  | .ok .brk, e1 => exact e1.elim
  | .ok .cont, e1 => exact e1.elim
  | .ok (.ret _), ⟨e2, e3⟩ =>
    subst e2 e3
    have born : (s.heap.push (bornS w)).get? s.heap.objs.size = some (bornS w) := Heap.get?_push_size _ rfl
    have ty : Shared.TypeIs { s with heap := s.heap.push (bornS w) } (.ref s.heap.objs.size) "set" := ⟨_, born, rfl⟩
    have i1 := F.called_set.init.lookup
    have i2 := F.called_set.init.bind (.ref s.heap.objs.size)
    repeat (any_goals (first | assumption | wp_step))
    refine codeAny_mono (codeAny_call_builtin (R := wants (fun v s2 => v = .none ∧ ∃ h' t n, s2 = { s with heap := h', toks := t } ∧ SetR w h' s.heap.objs.size (fun j => decide (j ∈ ms)) n ∧ n ≤ ms.length ∧ ∀ a o, s.heap.get? a = some o → h'.get? a = some o) E)
      F.called_set.init.plain F.entry_set_init (check_set_init_1 ty ?_)) fun r2 s2 e2 => ?_
    · obtain ⟨⟨cl, di, da, sl⟩, g1, g2, m, g3⟩ := isl
      simp only at g2 g3
      subst g2 g3
      have there : (s.heap.push (bornS w)).get? b = some { cls := .type "list", dict := di, data := .seq its m, slots := sl } := Heap.get?_push_of_some _ g1
      have s1 := F.sub_list_set
      have s2 := F.sub_list_frozenset
      have s3 : (Value.type "list" == Value.type "dict") = false := by decide
      have isl1 : (s.heap.push (bornS w)).IsList b its := ⟨_, there, rfl, m, rfl⟩
      have low := Heap.lt_size g1
      have up1 : (s.heap.push (bornS w)).objs.size = s.heap.objs.size + 1 := Heap.size_push ..
      unfold Builtin.«set.__init__» noKeywords Builtin.Frozenset.updateFrom
      generalize hG : pyIter = G
      wp_walk
      subst hG
      refine wpAny_pyIter_list isl1 (wpAny_bind (wpAny_runValue ?_))
      have d1 : b ≠ (s.heap.push (bornS w)).objs.size := by rw [up1]; exact Nat.ne_of_lt (Nat.lt_succ_of_lt low)
      have d2 : s.heap.objs.size ∉ [(s.heap.push (bornS w)).objs.size, b] := by
        rw [up1]
        simp only [List.mem_cons, List.not_mem_nil, or_false, not_or]
        exact ⟨Nat.ne_of_lt (Nat.lt_succ_self _), Nat.ne_of_gt low⟩
      refine set_update_ints ((Walks.list (by simp [calm]) _ b d1 its).toS) s.heap.objs.size d2 ms size few (fun i v hv => ?_) (its.size - 0) 0 _ (by omega) (Nat.zero_le _) ⟨⟨_, Heap.get?_push_size _ rfl, rfl, rfl⟩, isl1.push _⟩ ⟨0, Nat.le_refl 0, setR_new_at (Heap.get?_push_of_some _ born)⟩ fun s' n mv hn R => ?_
      · have li : i < ms.length := by rw [← size]; exact (Array.getElem?_eq_some_iff.mp hv).1
        obtain ⟨t, e⟩ := PyProof.Rows.IntsAre.int_at inl i v (by rw [Array.getElem?_toList]; exact hv)
        exact ⟨ms[i], t, List.getElem?_eq_getElem li, by rw [e, List.getD_eq_getElem?_getD, List.getElem?_eq_getElem li] <;> rfl⟩
      · obtain ⟨h', g', d', t', o'⟩ := s'
        obtain rfl : g' = s.gens := mv.gens
        obtain rfl : d' = s.drawn := mv.drawn
        obtain rfl : o' = s.os := mv.os
        show wpAny _ _ _ _ _ _
        refine wpAny_pure ?_
        show wpAny _ _ (ret Value.none) _ _ _
        refine wpAny_pure ⟨rfl, h', t', n, rfl, R, size ▸ hn, fun a o e => ?_⟩
        have la := Heap.lt_size e
        refine mv.heap a o ?_ (Heap.get?_push_of_some _ (Heap.get?_push_of_some _ e))
        simp only [List.mem_cons, List.not_mem_nil, or_false, not_or]
        exact ⟨Nat.ne_of_lt la, by rw [up1]; exact Nat.ne_of_lt (Nat.lt_succ_of_lt la)⟩
    · match r2, e2 with
      | .error _, e2 => exact e2
      | .ok .next, e2 => exact e2.elim
      | .ok .brk, e2 => exact e2.elim
      | .ok .cont, e2 => exact e2.elim
      | .ok (.ret _), ⟨e3, h', t, n, e4, R, hn, kp⟩ =>
        subst e3 e4
        repeat (any_goals (first | assumption | wp_step))
        exact k _ _ _ R hn kp
end
theorem nub_mem : ∀ (l : List Int) (k : Int), k ∈ nubI l ↔ k ∈ l
  | [], _ => Iff.rfl
  | i :: r, k => by
    unfold nubI
    rw [List.mem_cons, List.mem_cons, List.mem_filter, nub_mem r k]
    by_cases e : k = i
    · simp [e]
    · simp [e]
theorem nub_nodup : ∀ l : List Int, (nubI l).Nodup
  | [] => List.nodup_nil
  | i :: r => by
    unfold nubI
    exact List.nodup_cons.mpr ⟨fun z => by simp at z, (nub_nodup r).sublist List.filter_sublist⟩
section
variable {X : Cx} {T : Env1} {C : Cf} {cf : Nat → List D → Sto → Rs D} {W : WX} {p pos p2 pos2 : Pos} {e : Expr} {xo : Ex}
def rSetL (X : Cx) : List V → Hp → VK → Prop := fun xs H Q => ∃ (b : Addr) (ns : List Int), xs = [.ref b] ∧ SqL X.K H b (ns.map .int) ∧ ns.length ≤ 4000 ∧ ∀ q n, H q = none → n = (nubI ns).length → Q (.ref q) (upd H q (SetO X.w q (fun j => decide (j ∈ ns)) n))
theorem cr_setL (hc : X.calm = true) : CallR X (.type "set") (rSetL X) := by
  intro pins s σ H vs us Q I r h
  obtain ⟨b, ns, rfl, hs, hl, q⟩ := h
  obtain ⟨its, rv, pl, hz⟩ := I.list hs
  rw [Vals.ref1 r]
  refine set_of_list ns (I.ok.hd hc) pl.isList rv.ints (by unfold scanBound; omega) fun h' t n R hn kp => ?_
  have hn2 : n = (nubI ns).length := by
    obtain ⟨o, es, ep, t, _, _, _, _, nd, hm, _, _, hsz, _⟩ := R
    rw [← hsz, ← Array.length_toList, ← List.length_map (f := keyOf)]
    refine List.Perm.length_eq ((List.perm_ext_iff_of_nodup nd (nub_nodup ns)).mpr fun k => ?_)
    rw [nub_mem, ← hm k, decide_eq_true_eq]
  exact ⟨.ref _, _, I.laid (t' := t) kp (Nat.le_refl _) (setO_new R), rfl, q _ n (I.hok.fresh (Nat.le_refl _)) hn2⟩
theorem tL_imp {xs : Exs} {σ : L2.St} {H : Hp} {Q Q' : List V → Hp → Prop} (h : tL X.K T C cf W xs σ H Q) (q : ∀ vs H', Q vs H' → Q' vs H') : tL X.K T C cf W xs σ H Q' := by
  obtain ⟨A, ρ, S, R, r, p⟩ := h
  refine ⟨A, ρ, S, R, r, ?_⟩
  cases he : evL C cf xs ρ S with
  | ok ds S' =>
    rw [he] at p
    exact fun H' A' e R' vs rv => q vs H' (p H' A' e R' vs rv)
  | exc c w S' =>
    rw [he] at p
    exact p
  | bad =>
    rw [he] at p
    exact p
theorem dpe_sset (hc : X.calm = true) (hg : Gl X "sorted") (hm : X.mg "sorted" = none) (hgs : Gl X "set") (hms : X.mg "set" = none) (he : PE X e (tE X.K T C cf W xo)) (hs : nst e = true) :
    PE X (.Call (.Name "sorted" p) [.Call (.Name "set" p2) [e] [] pos2] [] pos) (tE X.K T C cf W (.blt .sset (.cons xo .nil))) := by
  have one : [e].all nst = true := by
    rw [List.all_cons, hs]
    rfl
  have c1 := pe_callTy (p := p2) (pos := pos2) (cr_setL hc) hgs hms PyProof.Rows.boot_set (dpa_cons he dpa_nil (star_ns hs)) (by decide) (by decide) (star_ns hs) rfl
  refine (pe_callB (p := p) (pos := pos) (cr_sortedSet hc) hg hm PyProof.Rows.boot_sorted (pa_cons c1 pa_nil (star_ns rfl)) (by decide) (by decide) (star_ns rfl) rfl).imp fun σ H Q h => ?_
  refine tL_imp (blt_run h) fun vs H1 ⟨A, S, ds, r, S', R, rds, hf, hQ⟩ => ?_
  cases rds with
  | nil => cases hf
  | cons rd rr =>
    cases rr with
    | cons r2 r3 => cases rd <;> cases r2 <;> simp [bltD] at hf
    | nil =>
      cases rd with
      | @ref n a ha =>
        simp only [bltD] at hf
        split at hf
        · rename_i ds h1
          split at hf
          · rename_i ns hns
            split at hf
            · rename_i hl
              simp only [new, Option.some.injEq, Prod.mk.injEq] at hf
              obtain ⟨rfl, rfl⟩ := hf
              obtain ⟨ws, g, rw'⟩ := R.lst h1 ha
              have hw := ints_rel rw' hns
              subst hw
              refine ⟨a, ns, rfl, SqL.of g, hl.2, fun q n hq hn => ?_⟩
              refine ⟨q, _, n, rfl, upd_same, by omega, fun ms p k1 k2 k3 hp => ?_⟩
              have e : ms = sortI (nubI ns) := sort_unique ((List.perm_ext_iff_of_nodup (k1.imp fun h => Int.ne_of_lt h) (nub_nodup ns)).mpr fun k => by rw [k2, nub_mem, decide_eq_true_eq]) (k1.imp fun h => Int.le_of_lt h)
              subst e
              obtain ⟨R1, e1⟩ := R.laid0 (o := SetO X.w q (fun j => decide (j ∈ ns)) n) hq
              exact OkD.lst R1 (reps_int _) (hQ.ext e1) p hp
            · cases hf
          · cases hf
        · cases hf
      | _ => simp [bltD] at hf
end
end MP
end MQs
section MQd
set_option Elab.async false
set_option linter.all false
set_option maxRecDepth 100000
/-! MQd: the translator from the program's form to the intermediate form. -/
namespace MP
open PySem PySem.Spec PyProof.Rows L2
/-- what a global name stands for -/
inductive Gk where
  | fn (i : Nat) | cls (c : Nat) | exc (c : Nat) | cst (d : D) | imp (b : Bt) | blt | heard | tells (f : Nat) | refuses (f : Nat)
/-- the names of a context -/
structure Kx where
  N : List Str
  names : List (Str × NameKind)
  own : List (Str × NameKind)
  isDef : Bool
  gl : List (Str × Gk)
  dicts : List Str
  flds : List Str
  mths : List (Str × Nat)
structure Tr where
  e : Kx → Expr → Option Ex
  b : Kx → Expr → Option Ex
  g : Kx → Expr → Option Tg
  s : Kx → Stmt → Option Sm
def nix (x : Str) : List Str → Option Nat
  | [] => none
  | y :: r => if y = x then some 0 else (nix x r).map (· + 1)
theorem nix_at {x : Str} : ∀ {N : List Str} {i : Nat}, nix x N = some i → N[i]? = some x
  | y :: r, i, h => by
    unfold nix at h
    split at h
    · rename_i e
      cases h
      rw [e]
      rfl
    · rw [Option.map_eq_some_iff] at h
      obtain ⟨j, h1, rfl⟩ := h
      have q := nix_at h1
      simpa using q
def okn (x : Str) : Bool := !(x == ("__debug__" : Str)) && !(x == ("__classdict__" : Str)) && !(x == ("__name__" : Str))
def seen (κ : Kx) (x : Str) : Bool := match κ.names.lookup x with
  | some .local => true
  | some .cell => true
  | some .free => true
  | _ => false
def stored (κ : Kx) (x : Str) : Bool := match κ.names.lookup x with
  | some .local => true
  | some .cell => κ.isDef || decide (κ.own.lookup x = some .cell)
  | _ => false
def vix (κ : Kx) (x : Str) : Option Nat := if seen κ x && okn x then nix x κ.N else none
def gk (κ : Kx) (x : Str) : Option Gk := if decide (κ.names.lookup x = some .globalImplicit) && okn x then κ.gl.lookup x else none
def cD : Const → Option D
  | .none => some .non
  | .bool b => some (.bl b)
  | .int i => some (.int i)
  | .str x => some (.str x)
  | _ => none
/-- no set display -/
def nset : Expr → Bool
  | .Set _ _ _ => false
  | _ => true
/-- no comprehension of which the stores are swapped -/
def ncmp : Expr → Bool
  | .ListComp _ _ _ _ => false
  | .SetComp _ _ _ _ => false
  | .DictComp _ _ _ _ _ => false
  | _ => true
def nslc : Expr → Bool
  | .Slice _ _ _ _ => false
  | _ => true
def trL (t : Tr) (κ : Kx) : List Expr → Option Exs
  | [] => some .nil
  | e :: es => match e with
    | .Starred a _ => (t.e κ a).bind fun x => (trL t κ es).bind fun xs => some (.star x xs)
    | e => (t.e κ e).bind fun x => (trL t κ es).bind fun xs => some (.cons x xs)
def trO (t : Tr) (κ : Kx) : Option Expr → Option Exo
  | none => some .no
  | some e => (t.e κ e).map .so
def trBo (t : Tr) (κ : Kx) (op : BoolOp) : List Expr → Option Ex
  | [] => none
  | e :: es => match es with
    | [] => t.e κ e
    | _ :: _ => (t.e κ e).bind fun x => (trBo t κ op es).bind fun y => some (match op with
      | .And => .and x y
      | .Or => .or x y)
def trWo (t : Tr) (κ : Kx) (op : BoolOp) : List Expr → Option Ex
  | [] => none
  | e :: es => match es with
    | [] => t.b κ e
    | _ :: _ => (t.b κ e).bind fun x => (trWo t κ op es).bind fun y => some (match op with
      | .And => .and x y
      | .Or => .or x y)
def trGs (t : Tr) (κ : Kx) : List Expr → Option Tgs
  | [] => some .nil
  | e :: es => if nst e then (t.g κ e).bind fun x => (trGs t κ es).bind fun xs => some (.cons x xs) else none
def scp (κ : Kx) : Scope := { kind := .function, names := κ.names, isGenerator := false, isCoroutine := false }
def blkK (κ : Kx) (scope : Scope) : Kx := { κ with names := (relS scope (scp κ)).names, own := scope.names, isDef := false }
def lamK (κ : Kx) (scope : Scope) : Kx := { κ with names := scope.names, own := [], isDef := false }
def ownOf (κ : Kx) (scope : Scope) : List (Str × Nat) := scope.names.filterMap fun p => if p.2 == .local || p.2 == .cell then (nix p.1 κ.N).map fun i => (p.1, i) else none
/-- what is walked, and the dict to be locked -/
def trI (t : Tr) (κ : Kx) (tg : Expr) (it : Expr) : Option (Itx × Option Nat) := match it with
  | .Call (.Name x _) [a] [] _ => if x = "range" then match gk κ x with
      | some .blt => if nst a then (t.e κ a).map fun y => (.rng y, none) else none
      | _ => none
    else if x = "enumerate" then match gk κ x, tg with
      | some .blt, .Tuple _ _ _ => if nst a then (t.e κ a).map fun y => (.enum y, none) else none
      | _, _ => none
    else (t.e κ it).map fun y => (.seq y, none)
  | .Call (.Name x _) [a, b] [] _ => if x = "range" then match gk κ x with
      | some .blt => if nst a && nst b then (t.e κ a).bind fun y => (t.e κ b).map fun z => (.rng2 y z, none) else none
      | _ => none
    else (t.e κ it).map fun y => (.seq y, none)
  | .Call (.Attribute (.Name d _) m apos) [] [] pos => if m = "items" && decide (d ∈ κ.dicts) && (apos.endLine == pos.line) then match tg with
      | .Tuple _ _ _ => (vix κ d).map fun i => (.items i, some i)
      | _ => none
    else (t.e κ it).map fun y => (.seq y, none)
  | .Name d _ => if decide (d ∈ κ.dicts) then (vix κ d).map fun i => (.keys i, some i) else (t.e κ it).map fun y => (.seq y, none)
  | _ => if nset it then (t.e κ it).map fun y => (.seq y, none) else none
def trIf (t : Tr) (κ : Kx) : List Expr → Option Exs
  | [] => some .nil
  | [c] => (t.b κ c).map fun x => .cons x .nil
  | _ => none
/-- a comprehension and the dict to be locked -/
def trC (t : Tr) (κ : Kx) (elt : Expr) (c : Comprehension) (scope : Scope) : Option (Ex × Option Nat) :=
  if blkC κ.N (scp κ) scope (ownOf κ scope) && decide (c.is_async = 0) && decide ((scp κ).kind = .function) then
    (trI t κ c.target c.iter).bind fun it => (t.g (blkK κ scope) c.target).bind fun g => (trIf t (blkK κ scope) c.ifs).bind fun fs => (t.e (blkK κ scope) elt).bind fun x =>
      if (tgv g).all fun j => decide (j ∈ (ownOf κ scope).map (·.2)) then some (.comp ((ownOf κ scope).map (·.2)) g it.1 fs x, it.2) else none
  else none
def lk : Option Nat → Ex → Ex
  | none, x => x
  | some i, x => .lock i x
def lkS : Option Nat → Sm → Sm
  | none, x => x
  | some i, x => .lock i x
def lamOk (κ : Kx) (params : Arguments) (scope : Scope) : Bool := κ.isDef && lamSB (scp κ) scope && (match params with
  | ⟨[], [], none, [], [], none, []⟩ => true
  | _ => false) where
  lamSB := LamX.lamSB
def bltN (x : Str) : Option Bt :=
  if x = "len" then some .len else if x = "int" then some .int else if x = "abs" then some .abs else if x = "max" then some .max else if x = "min" then some .min else if x = "sum" then some .sum else none
/-- a built-in function or type by its name, with its arguments -/
def trBlt (t : Tr) (κ : Kx) (x : Str) (es : List Expr) : Option Ex :=
  if x = "isinstance" then match es with
    | [e, .Name ty _] => match gk κ ty with
      | some .blt => if nst e then (t.e κ e).bind fun y => (["bool", "int", "str", "tuple", "list", "dict"].find? fun z => decide (ty = Str.ofString z)).map fun z => .blt (.isi z) (.cons y .nil) else none
      | _ => none
    | _ => none
  else if x = "tuple" then match es with
    | [.Call (.Name r _) [e] [] _] => if r = "range" then match gk κ r with
        | some .blt => if nst e then (t.e κ e).map fun y => .blt .tupR (.cons y .nil) else none
        | _ => none
      else if es.all nst then (trL t κ es).map (.blt .tuple) else none
    | _ => if es.all nst then (trL t κ es).map (.blt .tuple) else none
  else if x = "list" then match es with
    | [.Call (.Name r _) [e] [] _] => if r = "range" then match gk κ r with
        | some .blt => if nst e then (t.e κ e).map fun y => .blt .lstR (.cons y .nil) else none
        | _ => none
      else if es.all nst then (trL t κ es).map (.blt .list) else none
    | _ => if es.all nst then (trL t κ es).map (.blt .list) else none
  else if x = "sorted" then match es with
    | [.Call (.Name r _) [e] [] _] => if r = "set" then match gk κ r with
        | some .blt => if nst e then (t.e κ e).map fun y => .blt .sset (.cons y .nil) else none
        | _ => none
      else if es.all nst then (trL t κ es).map (.blt .sorted) else none
    | _ => if es.all nst then (trL t κ es).map (.blt .sorted) else none
  else if es.all nst && !es.isEmpty then (bltN x).bind fun b => (trL t κ es).map (.blt b)
  else none
def trMt (m : Str) : Option Mt :=
  if m = "append" then some .append else if m = "pop" then some .pop else if m = "extend" then some .extend else if m = "get" then some .get else if m = "setdefault" then some .setd else none
def stE (t : Tr) (κ : Kx) (ex : Expr) : Option Ex := match ex with
  | .Name x _ => match gk κ x with
    | some (.cst d) => some (.cst d)
    | _ => (vix κ x).map .var
  | .Constant c _ _ => (cD c).map .cst
  | .BinOp a op b _ => (t.e κ a).bind fun x => (t.e κ b).map fun y => .bin op x y
  | .UnaryOp .USub a _ => (t.e κ a).map .neg
  | .UnaryOp .Not a _ => (t.e κ a).map .not
  | .Compare a [op] [b] _ => if nset b then (t.e κ a).bind fun x => (t.e κ b).map fun y => .cmp op x y else none
  | .Compare a [o1, o2] [b, c] _ => if nset c then (t.e κ a).bind fun x => (t.e κ b).bind fun y => (t.e κ c).map fun z => .chain o1 o2 x y z else none
  | .BoolOp op es _ => trBo t κ op es
  | .IfExp c a b _ => (t.b κ c).bind fun x => (t.e κ a).bind fun y => (t.e κ b).map fun z => .ife x y z
  | .Tuple es _ _ => (trL t κ es).map .tup
  | .List es _ => (trL t κ es).map .lst
  | .Dict [] [] _ => some .dct
  | .Subscript a i _ => match i with
    | .Slice lo hi none _ => (t.e κ a).bind fun x => (trO t κ lo).bind fun l => (trO t κ hi).map fun h => .slc x l h
    | i => if nslc i then (t.e κ a).bind fun x => (t.e κ i).map fun y => .idx x y else none
  | .Attribute o f _ => if decide (f ∈ κ.flds) && ncl o then (t.e κ o).map fun x => .fld f x else none
  | .ListComp elt [c] scope _ => (trC t κ elt c scope).map fun p => lk p.2 p.1
  | .Call (.Name x _) es [] _ => match gk κ x with
    | some (.fn i) => if es.all nst then (trL t κ es).map (.call i) else none
    | some (.cls c) => if es.all nst then (trL t κ es).map (.mk c) else none
    | some (.imp b) => if es.all nst && !es.isEmpty then (trL t κ es).map (.blt b) else none
    | some .blt => if es.isEmpty then none else trBlt t κ x es
    | some .heard => match es with
      | [.Lambda params body scope _] => if lamOk κ params scope then (t.e (lamK κ scope) body).map .heard else none
      | _ => none
    | some (.tells f) => match es with
      | [.Lambda params body scope _, a] => if lamOk κ params scope && nst a then (t.e (lamK κ scope) body).bind fun x => (t.e κ a).map fun y => .tells f "told" x y else none
      | _ => none
    | some (.refuses f) => match es with
      | [.Lambda params body scope _, a, b] => if lamOk κ params scope && nst a && nst b then (t.e (lamK κ scope) body).bind fun x => (t.e κ a).bind fun y => (t.e κ b).map fun z => .refuses f x y z else none
      | _ => none
    | _ => none
  | .Call (.Attribute o m apos) es [] pos => if ncl o && es.all nst && decide (es.length < 30) && (apos.endLine == pos.line) then
      match κ.mths.lookup m with
      | some _ => (t.e κ o).bind fun x => (trL t κ es).map fun ys => .omt m x ys
      | none => (trMt m).bind fun q => (t.e κ o).bind fun x => (trL t κ es).map fun ys => .mth q x ys
    else none
  | _ => none
/-- a test -/
def stB (t : Tr) (κ : Kx) (ex : Expr) : Option Ex := match ex with
  | .UnaryOp .Not a _ => (t.b κ a).map .not
  | .BoolOp op es _ => trWo t κ op es
  | .Compare a [op] [b] _ => if nset b then (t.e κ a).bind fun x => (t.e κ b).map fun y => .cmp op x y else none
  | .Compare _ _ _ _ => none
  | .IfExp _ _ _ _ => none
  | e => t.e κ e
def stG (t : Tr) (κ : Kx) (ex : Expr) : Option Tg := match ex with
  | .Name x _ => if stored κ x then (vix κ x).map .name else none
  | .Tuple es _ _ => (trGs t κ es).map .tup
  | .Subscript o i _ => if nslc i then (t.e κ o).bind fun x => (t.e κ i).map fun y => .sub x y else none
  | _ => none
def trSs (t : Tr) (κ : Kx) : List Stmt → Option (List Sm)
  | [] => some []
  | s :: ss => (t.s κ s).bind fun x => (trSs t κ ss).map fun xs => x :: xs
/-- the stores of a, b = x, y are swapped; none: it is not told -/
def swp (names : List (Str × NameKind)) (ts vs : List Expr) : Option Bool :=
  if !(ts.length == 2 || ts.length == 3) || vs.length != ts.length then some false
  else if vs.any fun | .Starred .. => true | _ => false then some false
  else
    let line := (ts.head?.map (·.pos.line)).getD 0
    let nms := ts.filterMap fun
      | .Name id pos => if names.lookup id == some .local && pos.line == line then some id else none
      | _ => none
    if nms.length != ts.length || nms.eraseDups.length != nms.length then some false
    else if vs.all (foldedForSure 8) then some false
    else if vs.all (constantsAlone 8) then none
    else some true
def stS (t : Tr) (κ : Kx) (st : Stmt) : Option Sm := match st with
  | .Expr e _ => if ncmp e then (t.e κ e).map .expr else none
  | .Assign [tg] e pos => match tg with
    | .Name y py => if stored κ y then match e with
        | .ListComp elt [c] scope cpos =>
          if decide (κ.names.lookup y = some .local) && (py.line == cpos.line) && !(scope.names.any fun (n, k) => n == y && (k == .local || k == .cell)) then
            (vix κ y).bind fun i => (trC t κ elt c scope).map fun p => lkS p.2 (.asg (.name i) p.1)
          else (vix κ y).bind fun i => (t.e κ e).map fun x => .asg (.name i) x
        | e => if ncmp e then (vix κ y).bind fun i => (t.e κ e).map fun x => .asg (.name i) x else none
      else none
    | .Attribute o f _ => if decide (f ∈ κ.flds) && ncmp e then (t.e κ o).bind fun x => (t.e κ e).map fun y => .asg (.fld f x) y else none
    | .Tuple ts _ _ => match e with
      | .Tuple es _ _ => match swp κ.names ts es with
        | some true => match ts, es with
          | [.Name x _, .Name y _], [a, b] => (vix κ x).bind fun i => (vix κ y).bind fun j => if i ≠ j ∧ nst a ∧ nst b then (t.e κ a).bind fun u => (t.e κ b).map fun v => .par i j u v else none
          | _, _ => none
        | some false => (t.g κ tg).bind fun g => (t.e κ e).map fun x => .asg g x
        | none => none
      | e => if ncmp e then (t.g κ tg).bind fun g => (t.e κ e).map fun x => .asg g x else none
    | .Subscript _ _ _ => (t.g κ tg).bind fun g => (t.e κ e).map fun x => .asg g x
    | _ => none
  | .Return none _ => some .retN
  | .Return (some e) _ => (t.e κ e).map .ret
  | .If c a b _ => (t.b κ c).bind fun x => (trSs t κ a).bind fun y => (trSs t κ b).map fun z => .ife x y z
  | .For tg it b [] _ => (trI t κ tg it).bind fun p => (t.g κ tg).bind fun g => (trSs t κ b).map fun y => lkS p.2 (.for_ g p.1 y)
  | .While c b [] _ => (t.b κ c).bind fun x => (trSs t κ b).map fun y => .while_ x y
  | .Raise (some (.Call (.Name x _) [e] [] _)) none _ => match gk κ x with
    | some (.exc c) => if nst e then (t.e κ e).map fun y => .raise c y else none
    | _ => none
  | .Pass _ => some .pass
  | .Break _ => some .brk
  | .Continue _ => some .cnt
  | _ => none
def tr0 : Tr := ⟨fun _ _ => none, fun _ _ => none, fun _ _ => none, fun _ _ => none⟩
def tr : Nat → Tr
  | 0 => tr0
  | n + 1 => ⟨stE (tr n), stB (tr n), stG (tr n), stS (tr n)⟩
end MP
end MQd
section MQe
set_option Elab.async false
set_option linter.all false
set_option maxRecDepth 100000
/-! MQe: the translator is sound: contexts. -/
namespace MP
open PySem PySem.Spec PyProof.Rows L2
/-- the context of a lambda's body -/
def lamCx (X : Cx) (A : Around) (outer : List Env) (s : Shared) (H : Hp) (E : XK) (scope : Scope) (f c' : Addr) : Cx :=
  { LamX.lamCx X A outer s H E scope f c' with
    xe := fun e s' => wpAny (model X.prog X.w) (A.deeper (LamX.lamEnv X scope s.heap.objs.size f c')) (leaving (LamX.lamEnv X scope s.heap.objs.size f c') e) (fun _ s'' => L2N.CX X.prog X.w outer H s E e s'') (fun e' s'' => L2N.CX X.prog X.w outer H s E e' s'') s' }
theorem takes0N {X : Cx} : L2N.Takes X (fun _ _ _ _ => False) := fun _ _ x => by
  obtain ⟨_, _, _, _, _, _, _, _, _, _, _, _, _, _, _, _, z⟩ := x
  exact z.elim
def impId : Bt → Option String
  | .gcd => some "math.gcd"
  | .lcm => some "math.lcm"
  | _ => none
def GlOk (X : Cx) (T : Env1) (C : Cf) (cf : Nat → List D → Sto → Rs D) (lv : Nat) (x : Str) : Gk → Prop
  | .fn i => ∃ f, X.mg x = some (.ref f) ∧ FnK X T cf lv i f
  | .cls c => ∃ i a f, T.cls[c]? = some a ∧ C.ini c = some i ∧ Mk X.K a f ∧ FnK X T cf lv i f ∧ X.mg x = some (.ref a)
  | .cst d => ∃ v u, X.mg x = some u ∧ RelV v u ∧ ∀ A H, Rep T A H d v
  | .imp b => ∃ id, impId b = some id ∧ X.mg x = some (.builtin id)
  | .blt => X.mg x = none
  | _ => True
/-- a lambda handed on: its body is told in the lambda's own context -/
def LamIn (X : Cx) (T : Env1) (C : Cf) (cf : Nat → List D → Sto → Rs D) (lv : Nat) (scope : Scope) (body : Expr) (xb : Ex) : Prop :=
  ∀ (A : Around) (outer : List Env) (s : Shared) (H : Hp) (E : XK) (f c' : Addr), Room (lv + 1) (A.deeper (LamX.lamEnv X scope s.heap.objs.size f c')) → PE (lamCx X A outer s H E scope f c') body (tE X.K T C cf (WK E) xb)
structure HeardOk (X : Cx) (T : Env1) (C : Cf) (cf : Nat → List D → Sto → Rs D) (κ : Kx) (lv : Nat) : Prop where
  heard : ∀ (E : XK) (x : Str) (params : Arguments) (body : Expr) (scope : Scope) (xb : Ex) (p lpos pos : Pos), L2N.Takes X (WK E) → κ.gl.lookup x = some .heard → Gl X x → lamOk κ params scope = true → LamIn X T C cf lv scope body xb →
    PE X (.Call (.Name x p) [.Lambda params body scope lpos] [] pos) (tE X.K T C cf (WK E) (.heard xb))
  tells : ∀ (E : XK) (x : Str) (fi : Nat) (params : Arguments) (body a : Expr) (scope : Scope) (xb xa : Ex) (p lpos pos : Pos), L2N.Takes X (WK E) → κ.gl.lookup x = some (.tells fi) → Gl X x → lamOk κ params scope = true → nst a = true → LamIn X T C cf lv scope body xb → PE X a (tE X.K T C cf (WK E) xa) →
    PE X (.Call (.Name x p) [.Lambda params body scope lpos, a] [] pos) (tE X.K T C cf (WK E) (.tells fi "told" xb xa))
  refuses : ∀ (E : XK) (x : Str) (fi : Nat) (params : Arguments) (body a b : Expr) (scope : Scope) (xb xa xc : Ex) (p lpos pos : Pos), L2N.Takes X (WK E) → κ.gl.lookup x = some (.refuses fi) → Gl X x → lamOk κ params scope = true → nst a = true → nst b = true → LamIn X T C cf lv scope body xb → PE X a (tE X.K T C cf (WK E) xa) → PE X b (tE X.K T C cf (WK E) xc) →
    PE X (.Call (.Name x p) [.Lambda params body scope lpos, a, b] [] pos) (tE X.K T C cf (WK E) (.refuses fi xb xa xc))
structure CtxOk (X : Cx) (T : Env1) (C : Cf) (cf : Nat → List D → Sto → Rs D) (E : XK) (κ : Kx) (lv : Nat) : Prop where
  bas : Bas X T C
  N : X.N = κ.N
  nm : X.env.scope.names = κ.names
  kind : X.env.scope.kind = .function
  fn : κ.isDef = true → ∀ x, X.fn x = true
  fn2 : ∀ x, κ.own.lookup x = some .cell → X.fn x = true
  gl : ∀ x g, κ.gl.lookup x = some g → GlOk X T C cf lv x g
  room : Room (lv + 1) X.A
  tk : L2N.Takes X (WK E)
  cls : ClsOk X.K T (fun _ => κ.flds)
  mth : ∀ m k, κ.mths.lookup m = some k → ∃ i c a f, T.cls[c]? = some a ∧ Meth X.K a m f ∧ (∀ c' i', C.mt c' m = some i' → c' = c ∧ i' = i) ∧ FnK X T cf lv i f
  hrd : κ.isDef = true → HeardOk X T C cf κ lv
abbrev EF : XK := fun _ _ _ => False
section
variable {X : Cx} {T : Env1} {C : Cf} {cf : Nat → List D → Sto → Rs D} {E : XK} {κ : Kx} {lv : Nat}
theorem CtxOk.ef (c : CtxOk X T C cf E κ lv) : CtxOk X T C cf EF κ lv := ⟨c.bas, c.N, c.nm, c.kind, c.fn, c.fn2, c.gl, c.room, takes0N, c.cls, c.mth, c.hrd⟩
theorem CtxOk.hx (c : CtxOk X T C cf E κ lv) : Passes (L2N.CX X.prog X.w) X E := L2N.passes_call c.tk fun _ _ _ _ h => h
theorem relS_eq (c : CtxOk X T C cf E κ lv) (scope : Scope) : (relS scope X.env.scope).names = (relS scope (scp κ)).names := by
  unfold relS scp
  simp only [c.nm, c.kind]
theorem CtxOk.blk (c : CtxOk X T C cf E κ lv) (s : Shared) (H : Hp) (scope : Scope) (hk : scope.kind = .function) (B : Addr) (cl : List (Str × Addr)) (fp : List Addr) : CtxOk (X.blk s H scope (compEnvC scope cl B X.env) fp) T C cf EF (blkK κ scope) lv where
  bas := ⟨c.bas.hc, c.bas.nd, c.bas.hs, c.bas.hu⟩
  N := c.N
  nm := relS_eq c scope
  kind := hk
  fn := fun h => nomatch h
  fn2 := fun x h => by
    show (scope.names.lookup x == some .cell) = true
    rw [show scope.names.lookup x = some .cell from h]
    rfl
  gl := fun x g h => by
    have q := c.gl x g h
    cases g with
    | fn i => obtain ⟨f, h1, h2⟩ := q; exact ⟨f, h1, ⟨h2.ok, h2.kp⟩⟩
    | cls c0 => obtain ⟨i, a, f, h1, h2, h3, h4, h5⟩ := q; exact ⟨i, a, f, h1, h2, h3, ⟨h4.ok, h4.kp⟩, h5⟩
    | _ => exact q
  room := c.room
  tk := takes0N
  cls := c.cls
  mth := fun m k h => by
    obtain ⟨i, c', a, f, h1, h2, h3, h4⟩ := c.mth m k h
    exact ⟨i, c', a, f, h1, h2, h3, ⟨h4.ok, h4.kp⟩⟩
  hrd := fun h => nomatch h
theorem CtxOk.lam (c : CtxOk X T C cf E κ lv) {A : Around} {outer : List Env} {s : Shared} {H : Hp} {E' : XK} {scope : Scope} {f c' : Addr} (hk : scope.kind = .function) (hr : Room (lv + 1) (A.deeper (LamX.lamEnv X scope s.heap.objs.size f c'))) :
    CtxOk (lamCx X A outer s H E' scope f c') T C cf E' (lamK κ scope) lv where
  bas := ⟨rfl, c.bas.nd, c.bas.hs, by
    have := hr.un
    show (A.deeper (LamX.lamEnv X scope s.heap.objs.size f c')).units + 64 < cLine
    omega⟩
  N := c.N
  nm := rfl
  kind := hk
  fn := fun h => nomatch h
  fn2 := fun x h => nomatch h
  gl := fun x g h => by
    have q := c.gl x g h
    cases g with
    | fn i => obtain ⟨f, h1, h2⟩ := q; exact ⟨f, h1, ⟨h2.ok, h2.kp⟩⟩
    | cls c0 => obtain ⟨i, a, f, h1, h2, h3, h4, h5⟩ := q; exact ⟨i, a, f, h1, h2, h3, ⟨h4.ok, h4.kp⟩, h5⟩
    | _ => exact q
  room := hr
  tk := L2N.takes_of rfl rfl rfl rfl
  cls := c.cls
  mth := fun m k h => by
    obtain ⟨i, c', a, f, h1, h2, h3, h4⟩ := c.mth m k h
    exact ⟨i, c', a, f, h1, h2, h3, ⟨h4.ok, h4.kp⟩⟩
  hrd := fun h => nomatch h
/-! ### names -/
theorem okn_db {x : Str} (h : okn x = true) : (x == ("__debug__" : Str)) = false ∧ (x == ("__classdict__" : Str)) = false ∧ x ≠ "__name__" := by
  unfold okn at h
  simp only [Bool.and_eq_true, Bool.not_eq_true'] at h
  exact ⟨h.1.1, h.1.2, fun z => by rw [z] at h; simp at h⟩
theorem CtxOk.vis (c : CtxOk X T C cf E κ lv) {x : Str} (h : seen κ x = true) : Vis X.env.scope x := by
  unfold Vis
  rw [c.nm]
  unfold seen at h
  split at h <;> first | exact .inl ‹_› | exact .inr (.inl ‹_›) | exact .inr (.inr ‹_›) | cases h
theorem CtxOk.var (c : CtxOk X T C cf E κ lv) {x : Str} {i : Nat} {pos : Pos} (h : vix κ x = some i) : PE X (.Name x pos) (tVar i) := by
  unfold vix at h
  split at h
  · rename_i hs
    rw [Bool.and_eq_true] at hs
    obtain ⟨h1, h2, h3⟩ := okn_db hs.2
    exact pe_var (by rw [c.N]; exact nix_at h) (c.vis hs.1) h1 h2
  · cases h
theorem CtxOk.loc (c : CtxOk X T C cf E κ lv) {x : Str} {i : Nat} (h : vix κ x = some i) (hs : stored κ x = true) : X.N[i]? = some x ∧ L2.Loc X.env.scope x ∧ (X.fn x = true ∨ X.env.scope.names.lookup x = some .local) := by
  unfold vix at h
  split at h
  · refine ⟨by rw [c.N]; exact nix_at h, ?_⟩
    unfold L2.Loc
    rw [c.nm]
    unfold stored at hs
    split at hs
    · exact ⟨.inl ‹_›, .inr ‹_›⟩
    · refine ⟨.inr ‹_›, .inl ?_⟩
      rw [Bool.or_eq_true] at hs
      rcases hs with z | z
      · exact c.fn z x
      · exact c.fn2 x (of_decide_eq_true z)
    · cases hs
  · cases h
theorem CtxOk.gk (c : CtxOk X T C cf E κ lv) {x : Str} {g : Gk} (h : gk κ x = some g) : Gl X x ∧ GlOk X T C cf lv x g ∧ κ.gl.lookup x = some g ∧ (x == ("__debug__" : Str)) = false ∧ x ≠ "__name__" := by
  unfold MP.gk at h
  split at h
  · rename_i hs
    rw [Bool.and_eq_true] at hs
    obtain ⟨h1, h2, h3⟩ := okn_db hs.2
    refine ⟨?_, c.gl x g h, h, h1, h3⟩
    show X.env.scope.names.lookup x = some .globalImplicit
    rw [c.nm]
    exact of_decide_eq_true hs.1
  · cases h
end
end MP
end MQe
section MQf
set_option Elab.async false
set_option linter.all false
set_option maxRecDepth 100000
/-! MQf: the translator is sound: its parts. -/
namespace MP
open PySem PySem.Spec PyProof.Rows L2
structure StOk (X : Cx) (T : Env1) (C : Cf) (cf : Nat → List D → Sto → Rs D) (E : XK) (κ : Kx) (lv : Nat) : Prop where
  ctx : CtxOk X T C cf E κ lv
  own : PassesOwn (model X.prog X.w) X.A X.env X.xe
  def_ : κ.isDef = true
  raise : ∀ (E : XK) (x : Str) (c : Nat) (e : Expr) (xe : Ex) (p pos rpos : Pos), L2N.Takes X (WK E) → κ.gl.lookup x = some (.exc c) → Gl X x → nst e = true → PE X e (tE X.K T C cf (WK E) xe) →
    PS X (.Raise (some (.Call (.Name x p) [e] [] pos)) none rpos) (tS X.K T C cf (WK E) (.raise c xe))
theorem StOk.ef {X : Cx} {T : Env1} {C : Cf} {cf : Nat → List D → Sto → Rs D} {E : XK} {κ : Kx} {lv : Nat} (c : StOk X T C cf E κ lv) : StOk X T C cf EF κ lv := ⟨c.ctx.ef, c.own, c.def_, c.raise⟩
structure TrOk (t : Tr) : Prop where
  e : ∀ {X : Cx} {T : Env1} {C : Cf} {cf : Nat → List D → Sto → Rs D} {E : XK} {κ : Kx} {lv : Nat}, CtxOk X T C cf E κ lv → ∀ {e : Expr} {x : Ex}, t.e κ e = some x → PE X e (tE X.K T C cf (WK E) x)
  b : ∀ {X : Cx} {T : Env1} {C : Cf} {cf : Nat → List D → Sto → Rs D} {E : XK} {κ : Kx} {lv : Nat}, CtxOk X T C cf E κ lv → ∀ {e : Expr} {x : Ex}, t.b κ e = some x → PT X e (tB_ X.K T C cf (WK E) x)
  g : ∀ {X : Cx} {T : Env1} {C : Cf} {cf : Nat → List D → Sto → Rs D} {E : XK} {κ : Kx} {lv : Nat}, CtxOk X T C cf E κ lv → ∀ {e : Expr} {x : Tg}, t.g κ e = some x → PG X e (gT X.K T C cf x)
  s : ∀ {X : Cx} {T : Env1} {C : Cf} {cf : Nat → List D → Sto → Rs D} {E : XK} {κ : Kx} {lv : Nat}, StOk X T C cf E κ lv → ∀ {e : Stmt} {x : Sm}, t.s κ e = some x → PS X e (tS X.K T C cf (WK E) x)
theorem trOk0 : TrOk tr0 := ⟨fun _ _ _ h => (nomatch h), fun _ _ _ h => (nomatch h), fun _ _ _ h => (nomatch h), fun _ _ _ h => (nomatch h)⟩
section
variable {X : Cx} {T : Env1} {C : Cf} {cf : Nat → List D → Sto → Rs D} {E : XK} {κ : Kx} {lv : Nat} {t : Tr}
theorem trL_ok (h : TrOk t) (c : CtxOk X T C cf E κ lv) : ∀ {es : List Expr} {xs : Exs}, trL t κ es = some xs → PA X es (tL X.K T C cf (WK E) xs)
  | [], xs, q => by
    cases q
    exact dpa_nil
  | e :: es, xs, q => by
    unfold trL at q
    split at q
    · rename_i a p
      simp only [Option.bind_eq_some_iff, Option.some.injEq] at q
      obtain ⟨x, h1, ys, h2, rfl⟩ := q
      exact dpa_star c.bas (h.e c h1) (trL_ok h c h2)
    · rename_i hn
      simp only [Option.bind_eq_some_iff, Option.some.injEq] at q
      obtain ⟨x, h1, ys, h2, rfl⟩ := q
      refine dpa_cons (h.e c h1) (trL_ok h c h2) (star_ns ?_)
      cases e <;> first | rfl | exact absurd rfl (hn _ _)
theorem trO_ok (h : TrOk t) (c : CtxOk X T C cf E κ lv) {e : Option Expr} {x : Exo} (q : trO t κ e = some x) : PO X e (tO X.K T C cf (WK E) x) := by
  cases e with
  | none =>
    cases q
    exact dpo_none
  | some e =>
    simp only [trO, Option.map_eq_some_iff] at q
    obtain ⟨y, h1, rfl⟩ := q
    exact dpo_some (h.e c h1)
theorem trBo_ok (h : TrOk t) (c : CtxOk X T C cf E κ lv) {op : BoolOp} {pos : Pos} : ∀ {es : List Expr} {x : Ex}, trBo t κ op es = some x → PE X (.BoolOp op es pos) (tE X.K T C cf (WK E) x)
  | [], x, q => nomatch q
  | [e], x, q => pe_one (h.e c q)
  | e :: e2 :: es, x, q => by
    unfold trBo at q
    simp only [Option.bind_eq_some_iff, Option.some.injEq] at q
    obtain ⟨a, h1, b, h2, rfl⟩ := q
    cases op with
    | And => exact dpe_and c.bas (h.e c h1) (trBo_ok h c h2)
    | Or => exact dpe_or c.bas (h.e c h1) (trBo_ok h c h2)
theorem trWo_ok (h : TrOk t) (c : CtxOk X T C cf E κ lv) {op : BoolOp} {pos : Pos} : ∀ {es : List Expr} {x : Ex}, trWo t κ op es = some x → PW X (.BoolOp op es pos) (tB_ X.K T C cf (WK E) x)
  | [], x, q => nomatch q
  | [e], x, q => by
    cases op with
    | And => exact dpw_and1 (h.b c q)
    | Or => exact dpw_or1 (h.b c q)
  | e :: e2 :: es, x, q => by
    unfold trWo at q
    simp only [Option.bind_eq_some_iff, Option.some.injEq] at q
    obtain ⟨a, h1, b, h2, rfl⟩ := q
    cases op with
    | And => exact dpw_and (h.b c h1) (trWo_ok h c h2)
    | Or => exact dpw_or (h.b c h1) (trWo_ok h c h2)
theorem asg_ns {e : Expr} {es : List Expr} {env : Env} (h : nst e = true) : assignEach (e :: es) env = (false, assign e env) :: assignEach es env := by
  cases e <;> first | rfl | cases h
theorem trGs_ok (h : TrOk t) (c : CtxOk X T C cf E κ lv) : ∀ {es : List Expr} {xs : Tgs}, trGs t κ es = some xs → PGs X es (gTs X.K T C cf xs) ∧ (assignEach es X.env).length = tgn xs ∧ (assignEach es X.env).findIdx? (·.1) = none
  | [], xs, q => by
    cases q
    exact ⟨dpgs_nil, rfl, rfl⟩
  | e :: es, xs, q => by
    unfold trGs at q
    split at q
    · rename_i hn
      simp only [Option.bind_eq_some_iff, Option.some.injEq] at q
      obtain ⟨x, h1, ys, h2, rfl⟩ := q
      obtain ⟨p1, p2, p3⟩ := trGs_ok h c h2
      refine ⟨dpgs_cons (h.g c h1) p1 (by rw [asg_ns hn]; rfl), by rw [asg_ns hn, List.length_cons, p2]; rfl, ?_⟩
      rw [asg_ns hn, List.findIdx?_cons, p3]
      rfl
    · cases q
theorem asg_sub {o i : Expr} {pos : Pos} {env : Env} (h : nslc i = true) (v : Value) : assign (.Subscript o i pos) env v = (do
      let ov ← holding [v] (eval o env)
      let iv ← holding [v, ov] (eval i env)
      standAt pos
      holding [v, ov, iv] (setItem ov iv v)
      release [v, ov, iv] []) := by
  cases i <;> first | rfl | cases h
theorem plainIx_of {i : Expr} (h : nslc i = true) : PlainIx i := by
  intro o v
  cases i <;> first | rfl | cases h
theorem nobeh {op : CmpOp} {b : Expr} (h : nset b = true) : behindInMarks op b = false := by
  cases b <;> first | rfl | cases h
theorem stG_ok (h : TrOk t) (c : CtxOk X T C cf E κ lv) {ex : Expr} {x : Tg} (q : stG t κ ex = some x) : PG X ex (gT X.K T C cf x) := by
  unfold stG at q
  split at q
  · rename_i y pos
    split at q
    · rename_i hs
      rw [Option.map_eq_some_iff] at q
      obtain ⟨i, h1, rfl⟩ := q
      obtain ⟨h2, h3, h4⟩ := c.loc h1 hs
      exact dpg_name c.bas.nd h2 h3 h4
    · cases q
  · rename_i es k pos
    rw [Option.map_eq_some_iff] at q
    obtain ⟨ts, h1, rfl⟩ := q
    obtain ⟨p1, p2, p3⟩ := trGs_ok h c h1
    exact dpg_tup c.bas.hc p1 p2 p3
  · rename_i o i pos
    split at q
    · rename_i hn
      simp only [Option.bind_eq_some_iff, Option.map_eq_some_iff] at q
      obtain ⟨a, h1, b, h2, rfl⟩ := q
      exact dpg_sub (by have := c.bas.hu; omega) (h.e c h1) (h.e c h2) (asg_sub hn)
    · cases q
  · cases q
theorem chain_nb {o1 o2 : CmpOp} {b e : Expr} (h : nset e = true) : lastMarks [o1, o2] [b, e] = false := nobeh (op := o2) h
theorem stB_ok (h : TrOk t) (c : CtxOk X T C cf E κ lv) {ex : Expr} {x : Ex} (q : stB t κ ex = some x) : PT X ex (tB_ X.K T C cf (WK E) x) := by
  unfold stB at q
  split at q
  · rw [Option.map_eq_some_iff] at q
    obtain ⟨a, h1, rfl⟩ := q
    exact dpt_not (h.b c h1)
  · exact (trWo_ok h c q).pt
  · split at q
    · rename_i hn
      simp only [Option.bind_eq_some_iff, Option.map_eq_some_iff] at q
      obtain ⟨a, h1, b, h2, rfl⟩ := q
      exact dpt_cmp c.bas (h.e c h1) (h.e c h2) (nobeh hn)
    · cases q
  · cases q
  · cases q
  · rename_i n1 n2 n3 n4 n5
    refine dpt_truth c.bas (h.e c q) fun whole => ?_
    cases ex with
    | UnaryOp op a p => cases op <;> first | rfl | exact absurd rfl (n1 _ _)
    | BoolOp op es p => exact absurd rfl (n2 _ _ _)
    | Compare a o b p => exact absurd rfl (n4 _ _ _ _)
    | IfExp a b d p => exact absurd rfl (n5 _ _ _ _)
    | _ => rfl
end
end MP
end MQf
section MQg
set_option Elab.async false
set_option linter.all false
set_option maxRecDepth 100000
/-! MQg: the translator is sound: what is walked, comprehensions, built-in calls. -/
namespace MP
open PySem PySem.Spec PyProof.Rows L2
section
variable {X : Cx} {T : Env1} {C : Cf} {cf : Nat → List D → Sto → Rs D} {E : XK} {κ : Kx} {lv : Nat} {t : Tr}
theorem fold_ns {e : Expr} {env : Env} (h : nset e = true) (x : Value) : foldedSetIterable e env x = pure x := by
  cases e <;> first | rfl | cases h
theorem star_one {a : Expr} {env : Env} (h : nst a = true) : starEach [a] env = [(false, eval a env)] := by
  rw [star_ns h]
  rfl
theorem trI_ok (h : TrOk t) (c : CtxOk X T C cf E κ lv) {tg it : Expr} {ix : Itx} {l : Option Nat} (q : trI t κ tg it = some (ix, l)) : PI X tg it (tI X.K T C cf (WK E) ix) ∧ nset it = true := by
  have seq : ∀ {it : Expr}, nset it = true → (t.e κ it).map (fun y => (Itx.seq y, (none : Option Nat))) = some (ix, l) → PI X tg it (tI X.K T C cf (WK E) ix) ∧ nset it = true := fun {it} hn q => by
    simp only [Option.map_eq_some_iff, Prod.mk.injEq] at q
    obtain ⟨y, h1, rfl, rfl⟩ := q
    exact ⟨dpi_seq c.bas (h.e c h1), hn⟩
  unfold trI at q
  split at q
  · rename_i x p a pos
    split at q
    · rename_i hx
      subst hx
      split at q
      · rename_i hg
        obtain ⟨g1, g2, _⟩ := c.gk hg
        split at q
        · rename_i hn
          simp only [Option.map_eq_some_iff, Prod.mk.injEq] at q
          obtain ⟨y, h1, rfl, rfl⟩ := q
          exact ⟨dpi_rng g1 g2 (h.e c h1) (star_one hn), rfl⟩
        · cases q
      · cases q
    · split at q
      · rename_i hx
        subst hx
        split at q
        · rename_i es k tp hg
          obtain ⟨g1, g2, _⟩ := c.gk hg
          split at q
          · rename_i hn
            simp only [Option.map_eq_some_iff, Prod.mk.injEq] at q
            obtain ⟨y, h1, rfl, rfl⟩ := q
            exact ⟨dpi_enum g1 g2 (h.e c h1) (star_one hn), rfl⟩
          · cases q
        · cases q
      · exact seq rfl q
  · rename_i x p a b pos
    split at q
    · rename_i hx
      subst hx
      split at q
      · rename_i hg
        obtain ⟨g1, g2, _⟩ := c.gk hg
        split at q
        · rename_i hn
          rw [Bool.and_eq_true] at hn
          simp only [Option.bind_eq_some_iff, Option.map_eq_some_iff, Prod.mk.injEq] at q
          obtain ⟨y, h1, z, h2, rfl, rfl⟩ := q
          exact ⟨dpi_rng2 g1 g2 (h.e c h1) (h.e c h2) hn.1 hn.2, rfl⟩
        · cases q
      · cases q
    · exact seq rfl q
  · rename_i d p m apos pos
    split at q
    · rename_i hc
      simp only [Bool.and_eq_true, decide_eq_true_eq] at hc
      obtain ⟨⟨rfl, hd⟩, hl⟩ := hc
      split at q
      · simp only [Option.map_eq_some_iff, Prod.mk.injEq] at q
        obtain ⟨i, h1, rfl, rfl⟩ := q
        exact ⟨dpi_items (c.var h1) rfl hl, rfl⟩
      · cases q
    · exact seq rfl q
  · split at q
    · simp only [Option.map_eq_some_iff, Prod.mk.injEq] at q
      obtain ⟨i, h1, rfl, rfl⟩ := q
      exact ⟨dpi_keys (c.var h1), rfl⟩
    · exact seq rfl q
  · split at q
    · exact seq ‹_› q
    · cases q
theorem trIf_ok (h : TrOk t) (c : CtxOk X T C cf E κ lv) {es : List Expr} {xs : Exs} (q : trIf t κ es = some xs) : PTs X es (tIf X.K T C cf (WK E) xs) := by
  unfold trIf at q
  split at q
  · cases q
    exact dpts_nil
  · simp only [Option.map_eq_some_iff] at q
    obtain ⟨x, h1, rfl⟩ := q
    exact dpts_one (h.b c h1)
  · cases q
theorem blk_of (c : CtxOk X T C cf E κ lv) {scope : Scope} {own : List (Str × Nat)} (h : blkC κ.N (scp κ) scope own = true) : BlkOk X.N X.env.scope scope own := by
  have b := blkOk_by h
  rw [c.N]
  exact ⟨b.kind, b.uniq, b.ix, fun y hy e => by rw [c.nm]; exact b.free y hy e, b.own⟩
/-- a comprehension's parts -/
theorem trC_ok (h : TrOk t) (c : CtxOk X T C cf E κ lv) {elt : Expr} {g : Comprehension} {scope : Scope} {x : Ex} {l : Option Nat} (q : trC t κ elt g scope = some (x, l)) :
    ∃ (vs : List Nat) (tg : Tg) (it : Itx) (xi : Exs) (xe : Ex) (own : List (Str × Nat)), x = .comp vs tg it xi xe ∧ g.is_async = 0 ∧ own.map (·.2) = vs ∧ (∀ E, CtxOk X T C cf E κ lv → PI X g.target g.iter (tI X.K T C cf (WK E) it)) ∧ BlkOk X.N X.env.scope scope own ∧
    (∀ (s : Shared) (H : Hp) (B : Addr) (cl : List (Str × Addr)) (fp : List Addr), PG (X.blk s H scope (compEnvC scope cl B X.env) fp) g.target (gT X.K T C cf tg)) ∧
    (∀ (s : Shared) (H : Hp) (B : Addr) (cl : List (Str × Addr)) (fp : List Addr), PTs (X.blk s H scope (compEnvC scope cl B X.env) fp) g.ifs (tIf X.K T C cf WF xi)) ∧
    (∀ (s : Shared) (H : Hp) (B : Addr) (cl : List (Str × Addr)) (fp : List Addr), PE (X.blk s H scope (compEnvC scope cl B X.env) fp) elt (tE X.K T C cf WF xe)) ∧ (∀ x, foldedSetIterable g.iter X.env x = pure x) ∧ ∀ j ∈ tgv tg, j ∈ vs := by
  unfold trC at q
  split at q
  · rename_i hb
    simp only [Bool.and_eq_true, decide_eq_true_eq] at hb
    have hB := blk_of c hb.1.1
    simp only [Option.bind_eq_some_iff] at q
    obtain ⟨⟨it, l'⟩, h1, tg, h2, fs, h3, xe, h4, q⟩ := q
    split at q
    · rename_i ha
      simp only [Option.some.injEq, Prod.mk.injEq] at q
      obtain ⟨rfl, rfl⟩ := q
      refine ⟨_, tg, it, fs, xe, _, rfl, hb.1.2, rfl, fun E' c' => (trI_ok h c' h1).1, hB, fun s H B cl fp => h.g (c.blk s H scope hB.kind B cl fp) h2, fun s H B cl fp => trIf_ok h (c.blk s H scope hB.kind B cl fp) h3, fun s H B cl fp => h.e (c.blk s H scope hB.kind B cl fp) h4, fold_ns (trI_ok h c h1).2, fun j hj => ?_⟩
      exact of_decide_eq_true (List.all_eq_true.mp ha j hj)
    · cases q
  · cases q
theorem lk_ok {e : Expr} {x : Ex} {l : Option Nat} (c : CtxOk X T C cf E κ lv) (h : ∀ E, CtxOk X T C cf E κ lv → PE X e (tE X.K T C cf (WK E) x)) : PE X e (tE X.K T C cf (WK E) (lk l x)) := by
  cases l with
  | none => exact h E c
  | some i => exact dpe_lock (h EF c.ef)
theorem comp_ok (h : TrOk t) (c : CtxOk X T C cf E κ lv) {elt : Expr} {g : Comprehension} {scope : Scope} {pos : Pos} {x : Ex} {l : Option Nat} (q : trC t κ elt g scope = some (x, l)) : PE X (.ListComp elt [g] scope pos) (tE X.K T C cf (WK E) (lk l x)) := by
  obtain ⟨vs, tg, it, xi, xe, own, rfl, ha, hv, p1, p2, p3, p4, p5, p6, p7⟩ := trC_ok h c q
  obtain ⟨g1, g2, g3, g4⟩ := g
  cases ha
  exact lk_ok c fun E' c' => dpe_comp c'.bas hv (p1 E' c') p2 p3 p4 p5 p6 p7
end
end MP
end MQg
section MQh
set_option Elab.async false
set_option linter.all false
set_option maxRecDepth 100000
/-! MQh: the translator is sound: expressions. -/
namespace MP
open PySem PySem.Spec PyProof.Rows L2
section
variable {X : Cx} {T : Env1} {C : Cf} {cf : Nat → List D → Sto → Rs D} {E : XK} {κ : Kx} {lv : Nat} {t : Tr}
theorem boot_len' : bootBuiltins "len" = some (.builtin "len") := by decide +kernel
theorem boot_max' : bootBuiltins "max" = some (.builtin "max") := by decide +kernel
theorem boot_min' : bootBuiltins "min" = some (.builtin "min") := by decide +kernel
theorem boot_sum' : bootBuiltins "sum" = some (.builtin "sum") := by decide +kernel
theorem argF (h : TrOk t) (c : CtxOk X T C cf E κ lv) {x : Str} {id : String} {b : Bt} {es : List Expr} {ys : Exs} {p pos : Pos} (hc : CallR X (.builtin id) (rCl X.K T fun S ds => bltD C b S ds)) (hv : bootBuiltins x = some (.builtin id)) (hg : gk κ x = some .blt) (hs : es.all nst = true) (hne : es.isEmpty = false) (q : trL t κ es = some ys) :
    PE X (.Call (.Name x p) es [] pos) (tE X.K T C cf (WK E) (.blt b ys)) := by
  obtain ⟨g1, g2, _, g3, g4⟩ := c.gk hg
  cases es with
  | nil => cases hne
  | cons e es => exact dpe_bltF hc g1 g2 hv (trL_ok h c q) g4 g3 hs
theorem argT (h : TrOk t) (c : CtxOk X T C cf E κ lv) {x : Str} {ty : String} {b : Bt} {es : List Expr} {ys : Exs} {p pos : Pos} (hc : CallR X (.type ty) (rCl X.K T fun S ds => bltD C b S ds)) (hv : bootBuiltins x = some (.type ty)) (hg : gk κ x = some .blt) (hs : es.all nst = true) (hne : es.isEmpty = false) (q : trL t κ es = some ys) :
    PE X (.Call (.Name x p) es [] pos) (tE X.K T C cf (WK E) (.blt b ys)) := by
  obtain ⟨g1, g2, _, g3, g4⟩ := c.gk hg
  cases es with
  | nil => cases hne
  | cons e es => exact dpe_bltT hc g1 g2 hv (trL_ok h c q) g4 g3 hs
theorem isi_ok (h : TrOk t) (c : CtxOk X T C cf E κ lv) {e : Expr} {ty : Str} {z : String} {y : Ex} {p p2 pos : Pos} (hg : gk κ "isinstance" = some .blt) (hg2 : gk κ ty = some .blt) (hn : nst e = true) (q : t.e κ e = some y) (hz : (["bool", "int", "str", "tuple", "list", "dict"].find? fun z => decide (ty = Str.ofString z)) = some z) :
    PE X (.Call (.Name "isinstance" p) [e, .Name ty p2] [] pos) (tE X.K T C cf (WK E) (.blt (.isi z) (.cons y .nil))) := by
  obtain ⟨g1, g2, _, g3, g4⟩ := c.gk hg
  obtain ⟨k1, k2, _, k3, k4⟩ := c.gk hg2
  have hm : z ∈ ["bool", "int", "str", "tuple", "list", "dict"] := List.mem_of_find?_eq_some hz
  have he : ty = Str.ofString z := of_decide_eq_true (List.find?_some (p := fun z => decide (ty = Str.ofString z)) hz)
  subst he
  have hb : bootBuiltins (Str.ofString z) = some (.type z) := by
    simp only [List.mem_cons, List.not_mem_nil, or_false] at hm
    rcases hm with rfl | rfl | rfl | rfl | rfl | rfl
    · exact boot_bool
    · exact boot_int
    · exact boot_str
    · exact boot_tuple
    · exact boot_list
    · exact boot_dict
  exact dpe_isi hm g1 g2 k1 k2 hb k4 k3 (h.e c q) hn
theorem trBlt_ok (h : TrOk t) (c : CtxOk X T C cf E κ lv) {x : Str} {es : List Expr} {y : Ex} {p pos : Pos} (hg : gk κ x = some .blt) (hne : es.isEmpty = false) (q : trBlt t κ x es = some y) : PE X (.Call (.Name x p) es [] pos) (tE X.K T C cf (WK E) y) := by
  unfold trBlt at q
  split at q
  · rename_i hx
    subst hx
    split at q
    · split at q
      · rename_i hg2
        split at q
        · rename_i hn
          simp only [Option.bind_eq_some_iff, Option.map_eq_some_iff] at q
          obtain ⟨y, h1, z, hz, rfl⟩ := q
          exact isi_ok h c hg hg2 hn h1 hz
        · cases q
      · cases q
    · cases q
  · split at q
    · rename_i hx
      subst hx
      have plain : es.all nst = true → (trL t κ es).map (Ex.blt .tuple) = some y → PE X (.Call (.Name "tuple" p) es [] pos) (tE X.K T C cf (WK E) y) := fun hs q => by
        simp only [Option.map_eq_some_iff] at q
        obtain ⟨ys, h1, rfl⟩ := q
        exact argT h c (clr_tuple c.bas.hs) boot_tuple hg hs hne h1
      split at q
      · split at q
        · rename_i hr
          subst hr
          split at q
          · rename_i hg2
            split at q
            · rename_i hn
              simp only [Option.map_eq_some_iff] at q
              obtain ⟨y, h1, rfl⟩ := q
              obtain ⟨g1, g2, _⟩ := c.gk hg
              obtain ⟨k1, k2, _⟩ := c.gk hg2
              exact dpe_tupR c.bas.hc g1 g2 k1 k2 (h.e c h1) hn
            · cases q
          · cases q
        · split at q
          · exact plain ‹_› q
          · cases q
      · split at q
        · exact plain ‹_› q
        · cases q
    · split at q
      · rename_i hx
        subst hx
        have plain : es.all nst = true → (trL t κ es).map (Ex.blt .list) = some y → PE X (.Call (.Name "list" p) es [] pos) (tE X.K T C cf (WK E) y) := fun hs q => by
          simp only [Option.map_eq_some_iff] at q
          obtain ⟨ys, h1, rfl⟩ := q
          exact argT h c (clr_list c.bas.hs) boot_list hg hs hne h1
        split at q
        · split at q
          · rename_i hr
            subst hr
            split at q
            · rename_i hg2
              split at q
              · rename_i hn
                simp only [Option.map_eq_some_iff] at q
                obtain ⟨y, h1, rfl⟩ := q
                obtain ⟨g1, g2, _⟩ := c.gk hg
                obtain ⟨k1, k2, _⟩ := c.gk hg2
                exact dpe_lstR c.bas.hc g1 g2 k1 k2 (h.e c h1) hn
              · cases q
            · cases q
          · split at q
            · exact plain ‹_› q
            · cases q
        · split at q
          · exact plain ‹_› q
          · cases q
      · split at q
        · rename_i hx
          subst hx
          have plain : es.all nst = true → (trL t κ es).map (Ex.blt .sorted) = some y → PE X (.Call (.Name "sorted" p) es [] pos) (tE X.K T C cf (WK E) y) := fun hs q => by
            simp only [Option.map_eq_some_iff] at q
            obtain ⟨ys, h1, rfl⟩ := q
            exact argF h c (clr_sorted c.bas.hc) PyProof.Rows.boot_sorted hg hs hne h1
          split at q
          · split at q
            · rename_i hr
              subst hr
              split at q
              · rename_i hg2
                split at q
                · rename_i hn
                  simp only [Option.map_eq_some_iff] at q
                  obtain ⟨y, h1, rfl⟩ := q
                  obtain ⟨g1, g2, _⟩ := c.gk hg
                  obtain ⟨k1, k2, _⟩ := c.gk hg2
                  exact dpe_sset c.bas.hc g1 g2 k1 k2 (h.e c h1) hn
                · cases q
              · cases q
            · split at q
              · exact plain ‹_› q
              · cases q
          · split at q
            · exact plain ‹_› q
            · cases q
        · split at q
          · rename_i hs
            rw [Bool.and_eq_true] at hs
            have hne' := hs.2
            cases hb : bltN x with
            | none => rw [hb] at q; cases q
            | some b =>
              rw [hb] at q
              have q : (trL t κ es).map (Ex.blt b) = some y := q
              rw [Option.map_eq_some_iff] at q
              obtain ⟨ys, h1, rfl⟩ := q
              unfold bltN at hb
              split at hb
              · rename_i hx; subst hx; cases hb
                exact argF h c (clr_len c.bas.hs) boot_len' hg hs.1 hne h1
              · split at hb
                · rename_i hx; subst hx; cases hb
                  exact argT h c clr_int boot_int hg hs.1 hne h1
                · split at hb
                  · rename_i hx; subst hx; cases hb
                    exact argF h c clr_abs boot_abs hg hs.1 hne h1
                  · split at hb
                    · rename_i hx; subst hx; cases hb
                      exact argF h c (clr_max c.bas.hc) boot_max' hg hs.1 hne h1
                    · split at hb
                      · rename_i hx; subst hx; cases hb
                        exact argF h c (clr_min c.bas.hc) boot_min' hg hs.1 hne h1
                      · split at hb
                        · rename_i hx; subst hx; cases hb
                          exact argF h c (clr_sum c.bas.hc) boot_sum' hg hs.1 hne h1
                        · cases hb
          · cases q
end
end MP
end MQh
section MQi
set_option Elab.async false
set_option linter.all false
set_option maxRecDepth 100000
/-! MQi: the translator is sound: expressions, whole. -/
namespace MP
open PySem PySem.Spec PyProof.Rows L2
section
variable {X : Cx} {T : Env1} {C : Cf} {cf : Nat → List D → Sto → Rs D} {E : XK} {κ : Kx} {lv : Nat} {t : Tr}
theorem cst_ok {k : Const} {j : Nat} {pos : Pos} {d : D} (q : cD k = some d) : PE X (.Constant k j pos) (tE X.K T C cf (WK E) (.cst d)) := by
  cases k with
  | none => cases q; exact dpe_cst pe_non fun _ _ => .non
  | bool b => cases q; exact dpe_cst pe_bl fun _ _ => .bl b
  | int i => cases q; exact dpe_cst pe_int fun _ _ => .int i
  | str x => cases q; exact dpe_cst pe_str fun _ _ => .str x
  | _ => cases q
theorem call_ok (h : TrOk t) (c : CtxOk X T C cf E κ lv) {x : Str} {i : Nat} {es : List Expr} {ys : Exs} {p pos : Pos} (hg : gk κ x = some (.fn i)) (hs : es.all nst = true) (q : trL t κ es = some ys) : PE X (.Call (.Name x p) es [] pos) (tE X.K T C cf (WK E) (.call i ys)) := by
  obtain ⟨g1, ⟨f, g2, g3⟩, _, g4, g5⟩ := c.gk hg
  cases es with
  | nil =>
    cases q
    exact dpe_call0 g3 (c.room.mono (Nat.le_succ _)) g1 g2 c.hx g4
  | cons e es => exact dpe_call g3 (c.room.mono (Nat.le_succ _)) g1 g2 c.hx (trL_ok h c q) g4 hs
theorem mk_ok (h : TrOk t) (c : CtxOk X T C cf E κ lv) {x : Str} {i : Nat} {es : List Expr} {ys : Exs} {p pos : Pos} (hg : gk κ x = some (.cls i)) (hs : es.all nst = true) (q : trL t κ es = some ys) : PE X (.Call (.Name x p) es [] pos) (tE X.K T C cf (WK E) (.mk i ys)) := by
  obtain ⟨g1, ⟨j, a, f, k1, k2, k3, k4, k5⟩, _, g4, g5⟩ := c.gk hg
  cases es with
  | nil =>
    cases q
    exact dpe_mk0 k1 k2 k3 k4 c.room g1 k5 c.hx g4
  | cons e es => exact dpe_mk k1 k2 k3 k4 c.room g1 k5 c.hx (trL_ok h c q) g4 hs
theorem imp_ok (h : TrOk t) (c : CtxOk X T C cf E κ lv) {x : Str} {b : Bt} {es : List Expr} {ys : Exs} {p pos : Pos} (hg : gk κ x = some (.imp b)) (hs : es.all nst = true) (hne : es.isEmpty = false) (q : trL t κ es = some ys) : PE X (.Call (.Name x p) es [] pos) (tE X.K T C cf (WK E) (.blt b ys)) := by
  obtain ⟨g1, ⟨id, k1, k2⟩, _, g4, g5⟩ := c.gk hg
  cases es with
  | nil => cases hne
  | cons e es =>
    cases b with
    | gcd => cases k1; exact dpe_bltM clr_gcd g1 k2 (trL_ok h c q) g4 hs
    | lcm => cases k1; exact dpe_bltM clr_lcm g1 k2 (trL_ok h c q) g4 hs
    | _ => cases k1
theorem lamS_of (c : CtxOk X T C cf E κ lv) {params : Arguments} {scope : Scope} (h : lamOk κ params scope = true) : κ.isDef = true ∧ scope.kind = .function := by
  unfold lamOk at h
  simp only [Bool.and_eq_true] at h
  exact ⟨h.1.1, (LamX.lamS_by h.1.2).kind⟩
theorem lamIn_of (h : TrOk t) (c : CtxOk X T C cf E κ lv) {scope : Scope} {body : Expr} {xb : Ex} (hk : scope.kind = .function) (q : t.e (lamK κ scope) body = some xb) : LamIn X T C cf lv scope body xb := fun A outer s H E' f c' hr => h.e (c.lam hk hr) q
theorem mthd_ok (h : TrOk t) (c : CtxOk X T C cf E κ lv) {o : Expr} {m : Str} {apos pos : Pos} {es : List Expr} {q : Mt} {x : Ex} {ys : Exs} (hb : ncl o = true) (hs : es.all nst = true) (hl : es.length < 30) (hline : (apos.endLine == pos.line) = true) (hm : trMt m = some q) (h1 : t.e κ o = some x) (h2 : trL t κ es = some ys) :
    PE X (.Call (.Attribute o m apos) es [] pos) (tE X.K T C cf (WK E) (.mth q x ys)) := by
  have go : ∀ {id : String}, PlainAttrs q.ty → Slot q.ty m id → typeOf (.builtin id) = pure (.type "method_descriptor") → MtR X id (rMt X.K T fun S d ds => mthD C q S d ds) → PE X (.Call (.Attribute o m apos) es [] pos) (tE X.K T C cf (WK E) (.mth q x ys)) := fun {id} pa sl ty mt => by
    cases es with
    | nil =>
      cases h2
      exact dpe_mth0 pa sl ty mt (h.e c h1) hb hline
    | cons e es => exact dpe_mth pa sl ty mt (h.e c h1) (trL_ok h c h2) hb hs hl hline
  have hu : X.A.units + 1 < cLine := by have := c.bas.hu; omega
  unfold trMt at hm
  split at hm
  · rename_i e; subst e; cases hm
    exact go PySem.F.plainAttrs_list PySem.F.slot_list_append PySem.F.type_list_append mtr_append
  · split at hm
    · rename_i e; subst e; cases hm
      exact go PySem.F.plainAttrs_list PySem.F.slot_list_pop PySem.F.type_list_pop mtr_pop
    · split at hm
      · rename_i e; subst e; cases hm
        exact go PySem.F.plainAttrs_list PySem.F.slot_list_extend PySem.F.type_list_extend mtr_extend
      · split at hm
        · rename_i e; subst e; cases hm
          exact go PySem.F.plainAttrs_dict PySem.F.slot_dict_get PySem.F.type_dict_get (mtr_get hu)
        · split at hm
          · rename_i e; subst e; cases hm
            exact go PySem.F.plainAttrs_dict PySem.F.slot_dict_setdefault PySem.F.type_dict_setdefault mtr_setd
          · cases hm
theorem own_ok (h : TrOk t) (c : CtxOk X T C cf E κ lv) {o : Expr} {m : Str} {k : Nat} {apos pos : Pos} {es : List Expr} {x : Ex} {ys : Exs} (hb : ncl o = true) (hs : es.all nst = true) (hl : es.length < 30) (hline : (apos.endLine == pos.line) = true) (hm : κ.mths.lookup m = some k) (h1 : t.e κ o = some x) (h2 : trL t κ es = some ys) :
    PE X (.Call (.Attribute o m apos) es [] pos) (tE X.K T C cf (WK E) (.omt m x ys)) := by
  obtain ⟨i, c', a, f, k1, k2, k3, k4⟩ := c.mth m k hm
  cases es with
  | nil =>
    cases h2
    exact dpe_omt0 k1 (c.cls.cls c' a k1) k2 k3 k4 (c.room.mono (Nat.le_succ _)) c.hx (h.e c h1) hb hline
  | cons e es => exact dpe_omt k1 (c.cls.cls c' a k1) k2 k3 k4 (c.room.mono (Nat.le_succ _)) c.hx (h.e c h1) (trL_ok h c h2) hb hs hl hline
theorem stE_ok (h : TrOk t) (c : CtxOk X T C cf E κ lv) {ex : Expr} {x : Ex} (q : stE t κ ex = some x) : PE X ex (tE X.K T C cf (WK E) x) := by
  unfold stE at q
  split at q
  -- a name
  · split at q
    · rename_i d hg
      cases q
      obtain ⟨g1, ⟨v, u, k1, k2, k3⟩, _, g4, g5⟩ := c.gk hg
      exact dpe_cst (pe_glob g1 k1 k2 g4) k3
    · rw [Option.map_eq_some_iff] at q
      obtain ⟨i, h1, rfl⟩ := q
      exact dpe_var (c.var h1)
  · rw [Option.map_eq_some_iff] at q
    obtain ⟨d, h1, rfl⟩ := q
    exact cst_ok h1
  · simp only [Option.bind_eq_some_iff, Option.map_eq_some_iff] at q
    obtain ⟨a, h1, b, h2, rfl⟩ := q
    exact dpe_bin (h.e c h1) (h.e c h2)
  · rw [Option.map_eq_some_iff] at q
    obtain ⟨a, h1, rfl⟩ := q
    exact dpe_neg (h.e c h1)
  · rw [Option.map_eq_some_iff] at q
    obtain ⟨a, h1, rfl⟩ := q
    exact dpe_not c.bas (h.e c h1)
  · split at q
    · rename_i hn
      simp only [Option.bind_eq_some_iff, Option.map_eq_some_iff] at q
      obtain ⟨a, h1, b, h2, rfl⟩ := q
      exact dpe_cmp c.bas (h.e c h1) (h.e c h2) (nobeh hn)
    · cases q
  · split at q
    · rename_i hn
      simp only [Option.bind_eq_some_iff, Option.map_eq_some_iff] at q
      obtain ⟨a, h1, b, h2, d, h3, rfl⟩ := q
      exact dpe_chain c.bas (h.e c h1) (h.e c h2) (h.e c h3) (chain_nb hn)
    · cases q
  · exact trBo_ok h c q
  · simp only [Option.bind_eq_some_iff, Option.map_eq_some_iff] at q
    obtain ⟨a, h1, b, h2, d, h3, rfl⟩ := q
    exact dpe_ife (h.b c h1) (h.e c h2) (h.e c h3)
  · rw [Option.map_eq_some_iff] at q
    obtain ⟨a, h1, rfl⟩ := q
    exact dpe_tup (trL_ok h c h1)
  · rw [Option.map_eq_some_iff] at q
    obtain ⟨a, h1, rfl⟩ := q
    exact dpe_lst (trL_ok h c h1)
  · cases q
    exact dpe_dct
  -- [..]
  · split at q
    · simp only [Option.bind_eq_some_iff, Option.map_eq_some_iff] at q
      obtain ⟨a, h1, b, h2, d, h3, rfl⟩ := q
      exact dpe_slc (h.e c h1) (trO_ok h c h2) (trO_ok h c h3)
    · split at q
      · rename_i hn
        simp only [Option.bind_eq_some_iff, Option.map_eq_some_iff] at q
        obtain ⟨a, h1, b, h2, rfl⟩ := q
        exact dpe_idx c.bas (h.e c h1) (h.e c h2) (plainIx_of hn)
      · cases q
  · split at q
    · rename_i hn
      rw [Bool.and_eq_true] at hn
      rw [Option.map_eq_some_iff] at q
      obtain ⟨a, h1, rfl⟩ := q
      exact dpe_fld c.cls (fun _ => of_decide_eq_true hn.1) (h.e c h1) hn.2
    · cases q
  · rw [Option.map_eq_some_iff] at q
    obtain ⟨⟨a, l⟩, h1, rfl⟩ := q
    exact comp_ok h c h1
  -- a call by name
  · split at q
    · rename_i i hg
      split at q
      · rename_i hs
        rw [Option.map_eq_some_iff] at q
        obtain ⟨a, h1, rfl⟩ := q
        exact call_ok h c hg hs h1
      · cases q
    · rename_i i hg
      split at q
      · rename_i hs
        rw [Option.map_eq_some_iff] at q
        obtain ⟨a, h1, rfl⟩ := q
        exact mk_ok h c hg hs h1
      · cases q
    · rename_i b hg
      split at q
      · rename_i hs
        rw [Bool.and_eq_true, Bool.not_eq_true'] at hs
        rw [Option.map_eq_some_iff] at q
        obtain ⟨a, h1, rfl⟩ := q
        exact imp_ok h c hg hs.1 hs.2 h1
      · cases q
    · rename_i hg
      split at q
      · cases q
      · rename_i hne
        exact trBlt_ok h c hg (by simpa using hne) q
    · rename_i hg
      split at q
      · split at q
        · rename_i hl
          rw [Option.map_eq_some_iff] at q
          obtain ⟨a, h1, rfl⟩ := q
          obtain ⟨hd, hk⟩ := lamS_of c hl
          obtain ⟨g1, _, g3, _⟩ := c.gk hg
          exact (c.hrd hd).heard E _ _ _ _ _ _ _ _ c.tk g3 g1 hl (lamIn_of h c hk h1)
        · cases q
      · cases q
    · rename_i fi hg
      split at q
      · split at q
        · rename_i hl
          rw [Bool.and_eq_true] at hl
          simp only [Option.bind_eq_some_iff, Option.map_eq_some_iff] at q
          obtain ⟨a, h1, b, h2, rfl⟩ := q
          obtain ⟨hd, hk⟩ := lamS_of c hl.1
          obtain ⟨g1, _, g3, _⟩ := c.gk hg
          exact (c.hrd hd).tells E _ _ _ _ _ _ _ _ _ _ _ c.tk g3 g1 hl.1 hl.2 (lamIn_of h c hk h1) (h.e c h2)
        · cases q
      · cases q
    · rename_i fi hg
      split at q
      · split at q
        · rename_i hl
          simp only [Bool.and_eq_true] at hl
          simp only [Option.bind_eq_some_iff, Option.map_eq_some_iff] at q
          obtain ⟨a, h1, b, h2, d, h3, rfl⟩ := q
          obtain ⟨hd, hk⟩ := lamS_of c hl.1.1
          obtain ⟨g1, _, g3, _⟩ := c.gk hg
          exact (c.hrd hd).refuses E _ _ _ _ _ _ _ _ _ _ _ _ _ c.tk g3 g1 hl.1.1 hl.1.2 hl.2 (lamIn_of h c hk h1) (h.e c h2) (h.e c h3)
        · cases q
      · cases q
    · cases q
  -- a method
  · split at q
    · rename_i hs
      simp only [Bool.and_eq_true, decide_eq_true_eq] at hs
      split at q
      · rename_i k hm
        simp only [Option.bind_eq_some_iff, Option.map_eq_some_iff] at q
        obtain ⟨a, h1, b, h2, rfl⟩ := q
        exact own_ok h c hs.1.1.1 hs.1.1.2 hs.1.2 hs.2 hm h1 h2
      · simp only [Option.bind_eq_some_iff, Option.map_eq_some_iff] at q
        obtain ⟨m', h0, a, h1, b, h2, rfl⟩ := q
        exact mthd_ok h c hs.1.1.1 hs.1.1.2 hs.1.2 hs.2 h0 h1 h2
    · cases q
  · cases q
end
end MP
end MQi
section MQj
set_option Elab.async false
set_option linter.all false
set_option maxRecDepth 100000
/-! MQj: the translator is sound: statements; the whole. -/
namespace MP
open PySem PySem.Spec PyProof.Rows L2
section
variable {X : Cx} {T : Env1} {C : Cf} {cf : Nat → List D → Sto → Rs D} {E : XK} {κ : Kx} {lv : Nat} {t : Tr}
def keepN (names : List (Str × NameKind)) (line : Nat) : Expr → Option Str
  | .Name id pos => if names.lookup id == some .local && pos.line == line then some id else none
  | _ => none
def nmsOf (names : List (Str × NameKind)) (ts : List Expr) : List Str := ts.filterMap (keepN names ((ts.head?.map (·.pos.line)).getD 0))
theorem keepN_name {names : List (Str × NameKind)} {line : Nat} {x : Str} {p : Pos} : keepN names line (.Name x p) = if names.lookup x == some .local && p.line == line then some x else none := rfl
theorem swp_ok (c : CtxOk X T C cf E κ lv) {ts vs : List Expr} {k k2 : Nat} {p p2 : Pos} {b : Bool} (q : swp κ.names ts vs = some b) : swappedStores [.Tuple ts k p] (.Tuple vs k2 p2) X.env = pure (if b then some (nmsOf κ.names ts) else none) := by
  have hb : (X.env.blockKind != .function) = false := by
    unfold Env.blockKind
    rw [c.kind]
    rfl
  have hn : X.env.kindOf = fun x => κ.names.lookup x := by
    funext x
    show X.env.scope.names.lookup x = _
    rw [c.nm]
  unfold swappedStores
  dsimp only
  rw [hb, hn, Bool.or_false]
  unfold swp at q
  split at q
  · rename_i h1
    cases q
    rw [if_pos h1]
    rfl
  · rename_i h1
    rw [if_neg h1]
    split at q
    · rename_i h2
      cases q
      refine (if_pos h2).trans rfl
    · rename_i h2
      refine (if_neg h2).trans ?_
      dsimp only at q
      split at q
      · rename_i h3
        cases q
        exact (if_pos h3).trans rfl
      · rename_i h3
        refine (if_neg h3).trans ?_
        split at q
        · rename_i h4
          cases q
          exact (if_pos h4).trans rfl
        · rename_i h4
          refine (if_neg h4).trans ?_
          split at q
          · cases q
          · rename_i h5
            cases q
            exact (if_neg h5).trans rfl
theorem beq_kind {o : Option NameKind} (h : (o == some NameKind.local) = true) : o = some .local := by
  cases o with
  | none => cases h
  | some k => cases k <;> first | rfl | cases h
theorem swp_two {names : List (Str × NameKind)} {x y : Str} {px py : Pos} {a b : Expr} (q : swp names [.Name x px, .Name y py] [a, b] = some true) :
    nmsOf names [.Name x px, .Name y py] = [x, y] ∧ names.lookup x = some .local ∧ names.lookup y = some .local := by
  unfold swp at q
  split at q
  · cases q
  · split at q
    · cases q
    · dsimp only at q
      split at q
      · cases q
      · rename_i h3
        clear q
        have h4 : ((nmsOf names [.Name x px, .Name y py]).length != 2) = false := by
          have h5 := (Bool.or_eq_false_iff.mp (Bool.not_eq_true _ ▸ h3)).1
          exact h5
        have e : nmsOf names [.Name x px, .Name y py] = (if names.lookup x == some .local && px.line == px.line then [x] else []) ++ (if names.lookup y == some .local && py.line == px.line then [y] else []) := by
          show List.filterMap (keepN names px.line) [.Name x px, .Name y py] = _
          simp only [List.filterMap_cons, List.filterMap_nil, keepN_name]
          cases h1 : (names.lookup x == some NameKind.local && px.line == px.line) <;> cases h2 : (names.lookup y == some NameKind.local && py.line == px.line) <;> rfl
        rw [e] at h4 ⊢
        by_cases h1 : (names.lookup x == some NameKind.local && px.line == px.line) = true
        · by_cases h2 : (names.lookup y == some NameKind.local && py.line == px.line) = true
          · rw [if_pos h1, if_pos h2]
            exact ⟨rfl, beq_kind (Bool.and_eq_true_iff.mp h1).1, beq_kind (Bool.and_eq_true_iff.mp h2).1⟩
          · rw [if_pos h1, if_neg h2] at h4
            cases h4
        · rw [if_neg h1] at h4
          by_cases h2 : (names.lookup y == some NameKind.local && py.line == px.line) = true
          · rw [if_pos h2] at h4
            cases h4
          · rw [if_neg h2] at h4
            cases h4
theorem sw_nc {e : Expr} {o : Option Expr} {l : Nat} {env : Env} (h : ncmp e = true) : swapsWith e o l env = pure false := by
  cases e <;> first | rfl | cases h
def nnm : Expr → Bool
  | .Name _ _ => false
  | _ => true
theorem sw_nn {e tg : Expr} {l : Nat} {env : Env} (h : nnm tg = true) : swapsWithSole [tg] e l env = pure false := by
  show swapsWith e (some tg) l env = pure false
  cases e <;> first | rfl | (cases tg <;> first | rfl | cases h)
theorem sw_lc (c : CtxOk X T C cf E κ lv) {elt : Expr} {gs : List Comprehension} {scope : Scope} {cpos py : Pos} {y : Str} {l : Nat} :
    swapsWith (.ListComp elt gs scope cpos) (some (.Name y py)) l X.env = pure (decide (κ.names.lookup y = some .local) && (py.line == cpos.line) && !(scope.names.any fun (n, k) => n == y && (k == .local || k == .cell))) := by
  have hb : (X.env.blockKind == .function) = true := by
    unfold Env.blockKind
    rw [c.kind]
    rfl
  have hn : (X.env.kindOf y == some .local) = decide (κ.names.lookup y = some .local) := by
    show (X.env.scope.names.lookup y == some .local) = _
    rw [c.nm]
    cases κ.names.lookup y with
    | none => rfl
    | some k => cases k <;> rfl
  show pure (X.env.blockKind == .function && X.env.kindOf y == some .local && py.line == cpos.line && !(scope.names.any fun (n, k) => n == y && (k == .local || k == .cell))) = _
  rw [hb, hn, Bool.true_and]
theorem trSs_ok (h : TrOk t) (c : StOk X T C cf E κ lv) : ∀ {ss : List Stmt} {xs : List Sm}, trSs t κ ss = some xs → PSs X ss (tSs X.K T C cf (WK E) xs)
  | [], xs, q => by
    cases q
    exact dpss_nil
  | s :: ss, xs, q => by
    unfold trSs at q
    simp only [Option.bind_eq_some_iff, Option.map_eq_some_iff] at q
    obtain ⟨x, h1, ys, h2, rfl⟩ := q
    exact dpss_cons (h.s c h1) (trSs_ok h c h2)
theorem lkS_ok {st : Stmt} {x : Sm} {l : Option Nat} (c : StOk X T C cf E κ lv) (h : ∀ E, StOk X T C cf E κ lv → PS X st (tS X.K T C cf (WK E) x)) : PS X st (tS X.K T C cf (WK E) (lkS l x)) := by
  cases l with
  | none => exact h E c
  | some i => exact dps_lock (h EF c.ef)
theorem sw_none {tg e : Expr} {env : Env} (h : ∀ ts k p vs k2 p2, tg = .Tuple ts k p → e ≠ .Tuple vs k2 p2) (hl : ∀ ts p, tg ≠ .List ts p) : swappedStores [tg] e env = pure none := by
  cases tg with
  | Tuple ts k p =>
    cases e with
    | Tuple vs k2 p2 => exact absurd rfl (h _ _ _ _ _ _ rfl)
    | _ => rfl
  | List ts p => exact absurd rfl (hl _ _)
  | _ => cases e <;> rfl
theorem asg_one {tg : Expr} {env : Env} (h : nst tg = true) : (assignEach [tg] env).map (·.2) = [assign tg env] := by
  rw [asg_ns h]
  rfl
theorem asg1_ok (h : TrOk t) (c : StOk X T C cf E κ lv) {tg e : Expr} {pos : Pos} {x : Sm} (q : stS t κ (.Assign [tg] e pos) = some x) : PS X (.Assign [tg] e pos) (tS X.K T C cf (WK E) x) := by
  unfold stS at q
  dsimp only at q
  split at q
  · rename_i y py
    split at q
    · rename_i hs
      split at q
      · rename_i elt g scope cpos
        split at q
        · rename_i hw
          simp only [Option.bind_eq_some_iff, Option.map_eq_some_iff] at q
          obtain ⟨i, h1, ⟨xc, l⟩, h2, rfl⟩ := q
          obtain ⟨k1, k2, k3⟩ := c.ctx.loc h1 hs
          have hw' := hw
          simp only [Bool.and_eq_true, decide_eq_true_eq] at hw'
          obtain ⟨vs, tg, it, xi, xe, own, rfl, ha, hv, p1, p2, p3, p4, p5, p6, p7⟩ := trC_ok h c.ctx h2
          obtain ⟨g1, g2, g3, g4⟩ := g
          cases ha
          exact lkS_ok c fun E' c' => dps_setLc c'.ctx.bas k1 (by rw [c.ctx.nm]; exact hw'.1.1) ((sw_lc c.ctx).trans (by rw [hw])) hv (p1 E' c'.ctx) p2 p3 p4 p5 p6 p7
        · rename_i hw
          simp only [Option.bind_eq_some_iff, Option.map_eq_some_iff] at q
          obtain ⟨i, h1, xv, h2, rfl⟩ := q
          obtain ⟨k1, k2, k3⟩ := c.ctx.loc h1 hs
          exact dps_set c.ctx.bas.nd k1 k2 (h.e c.ctx h2) ((sw_lc c.ctx).trans (by rw [Bool.eq_false_iff.mpr hw])) k3
      · split at q
        · rename_i hn
          simp only [Option.bind_eq_some_iff, Option.map_eq_some_iff] at q
          obtain ⟨i, h1, xv, h2, rfl⟩ := q
          obtain ⟨k1, k2, k3⟩ := c.ctx.loc h1 hs
          exact dps_set c.ctx.bas.nd k1 k2 (h.e c.ctx h2) (sw_nc hn) k3
        · cases q
    · cases q
  · rename_i o f p
    split at q
    · rename_i hn
      rw [Bool.and_eq_true] at hn
      simp only [Option.bind_eq_some_iff, Option.map_eq_some_iff] at q
      obtain ⟨xo, h1, xv, h2, rfl⟩ := q
      exact dps_fld c.ctx.cls (fun _ => of_decide_eq_true hn.1) (h.e c.ctx h1) (h.e c.ctx h2) (sw_nc hn.2)
    · cases q
  · rename_i ts k p
    split at q
    · rename_i es k2 p2
      split at q
      · rename_i hsw
        split at q
        · rename_i x px y py a b
          simp only [Option.bind_eq_some_iff] at q
          obtain ⟨i, h1, j, h2, q⟩ := q
          split at q
          · rename_i hc
            simp only [Option.bind_eq_some_iff, Option.map_eq_some_iff] at q
            obtain ⟨u, h3, v, h4, rfl⟩ := q
            obtain ⟨e1, e2, e3⟩ := swp_two hsw
            have n1 : X.N[i]? = some x := by
              unfold vix at h1
              split at h1
              · rw [c.ctx.N]; exact nix_at h1
              · cases h1
            have n2 : X.N[j]? = some y := by
              unfold vix at h2
              split at h2
              · rw [c.ctx.N]; exact nix_at h2
              · cases h2
            exact dps_par c.ctx.bas.hc c.ctx.bas.nd n1 n2 hc.1 (by rw [c.ctx.nm]; exact e2) (by rw [c.ctx.nm]; exact e3) (dpa_cons (h.e c.ctx h3) (dpa_cons (h.e c.ctx h4) dpa_nil (star_ns hc.2.2)) (star_ns hc.2.1)) (by rw [swp_ok c.ctx hsw, if_pos rfl, e1]) rfl
          · cases q
        · cases q
      · rename_i hsw
        simp only [Option.bind_eq_some_iff, Option.map_eq_some_iff] at q
        obtain ⟨g, h1, v, h2, rfl⟩ := q
        exact dps_asg (h.e c.ctx h2) (h.g c.ctx h1) rfl (by rw [swp_ok c.ctx hsw]; rfl) rfl
      · cases q
    · rename_i hne
      split at q
      · rename_i hn
        simp only [Option.bind_eq_some_iff, Option.map_eq_some_iff] at q
        obtain ⟨g, h1, v, h2, rfl⟩ := q
        exact dps_asg (h.e c.ctx h2) (h.g c.ctx h1) (sw_nn rfl) (sw_none (fun _ _ _ vs k2 p2 _ z => hne vs k2 p2 z) fun _ _ z => nomatch z) rfl
      · cases q
  · rename_i o i p
    simp only [Option.bind_eq_some_iff, Option.map_eq_some_iff] at q
    obtain ⟨g, h1, v, h2, rfl⟩ := q
    exact dps_asg (h.e c.ctx h2) (h.g c.ctx h1) (sw_nn rfl) (sw_none (fun _ _ _ _ _ _ z => nomatch z) fun _ _ z => nomatch z) rfl
  · cases q
theorem stS_ok (h : TrOk t) (c : StOk X T C cf E κ lv) {st : Stmt} {x : Sm} (q : stS t κ st = some x) : PS X st (tS X.K T C cf (WK E) x) := by
  have q0 := q
  unfold stS at q
  split at q
  · split at q
    · rename_i hn
      rw [Option.map_eq_some_iff] at q
      obtain ⟨y, h1, rfl⟩ := q
      exact dps_expr (h.e c.ctx h1) (sw_nc hn)
    · cases q
  · exact asg1_ok h c q0
  · cases q
    exact dps_retN
  · rw [Option.map_eq_some_iff] at q
    obtain ⟨y, h1, rfl⟩ := q
    exact dps_ret (h.e c.ctx h1)
  · simp only [Option.bind_eq_some_iff, Option.map_eq_some_iff] at q
    obtain ⟨a, h1, b, h2, d, h3, rfl⟩ := q
    exact dps_if (h.b c.ctx h1) (trSs_ok h c h2) (trSs_ok h c h3)
  · simp only [Option.bind_eq_some_iff, Option.map_eq_some_iff] at q
    obtain ⟨⟨it, l⟩, h1, g, h2, ys, h3, rfl⟩ := q
    exact lkS_ok c fun E' c' => dps_for c'.own c'.ctx.bas.hc (trI_ok h c'.ctx h1).1 (h.g c'.ctx h2) (trSs_ok h c' h3) (fold_ns (trI_ok h c'.ctx h1).2)
  · simp only [Option.bind_eq_some_iff, Option.map_eq_some_iff] at q
    obtain ⟨a, h1, ys, h3, rfl⟩ := q
    exact dps_while c.own (h.b c.ctx h1) (trSs_ok h c h3)
  · split at q
    · rename_i k hg
      split at q
      · rename_i hn
        rw [Option.map_eq_some_iff] at q
        obtain ⟨y, h1, rfl⟩ := q
        obtain ⟨g1, _, g3, _⟩ := c.ctx.gk hg
        exact c.raise E _ _ _ _ _ _ _ c.ctx.tk g3 g1 hn (h.e c.ctx h1)
      · cases q
    · cases q
  · cases q
    exact dps_pass
  · cases q
    exact dps_break
  · cases q
    exact dps_continue
  · cases q
end
theorem tr_ok : ∀ n : Nat, TrOk (tr n)
  | 0 => trOk0
  | n + 1 => ⟨fun c _ _ q => stE_ok (tr_ok n) c q, fun c _ _ q => stB_ok (tr_ok n) c q, fun c _ _ q => stG_ok (tr_ok n) c q, fun c _ _ q => stS_ok (tr_ok n) c q⟩
end MP
end MQj
section MQk
set_option Elab.async false
set_option linter.all false
set_option maxRecDepth 100000
/-! MQk: all defs keep what the interpreter tells of them. -/
namespace MP
open PySem PySem.Spec PyProof.Rows L2
/-- a def: where it stands, its parameters, its slots, its form -/
structure Dt where
  d : He.DefD
  ps : List Str
  N : List Str
  ir : List Sm
structure DefOk (K : PySem.W.Frag) (C : Cf) (κ0 : List Str → Scope → Kx) (i : Nat) (t : Dt) (f : Addr) (fd : FuncData) : Prop where
  fun_ : FunD K t.d.name t.d.qual t.d.params t.d.body t.d.scope [] [] f fd
  sc : FnScope t.N t.ps t.d.scope
  ir : trSs (tr 40) (κ0 t.N t.d.scope) t.d.body = some t.ir
  bnd : Binds K fd t.ps []
  P : C.P i = some ⟨t.ps.length, t.N.length, t.ir⟩
/-- what stands behind the top -/
structure WldOk (K : PySem.W.Frag) (mg : Str → Option Value) (T : Env1) (C : Cf) (gl : List (Str × Gk)) (dicts flds : List Str) (mths : List (Str × Nat)) (ds : Nat → Option Dt) (fa : Nat → Addr) (fdt : Nat → FuncData) : Prop where
  defs : ∀ i t, ds i = some t → DefOk K C (fun N sc => ⟨N, sc.names, [], true, gl, dicts, flds, mths⟩) i t (fa i) (fdt i)
  gl : ∀ x g, gl.lookup x = some g → match g with
    | .fn i => ∃ t, ds i = some t ∧ mg x = some (.ref (fa i))
    | .cls c => ∃ i t a, T.cls[c]? = some a ∧ C.ini c = some i ∧ Mk K a (fa i) ∧ ds i = some t ∧ mg x = some (.ref a)
    | .cst d => ∃ v u, mg x = some u ∧ RelV v u ∧ ∀ A H, Rep T A H d v
    | .imp b => ∃ id, impId b = some id ∧ mg x = some (.builtin id)
    | .blt => mg x = none
    | _ => True
  cls : ClsOk K T (fun _ => flds)
  mth : ∀ m k, mths.lookup m = some k → ∃ i t c a, T.cls[c]? = some a ∧ Meth K a m (fa i) ∧ (∀ c' i', C.mt c' m = some i' → c' = c ∧ i' = i) ∧ ds i = some t
  hs : C.sns = T.sns
abbrev kap0 (gl : List (Str × Gk)) (dicts flds : List Str) (mths : List (Str × Nat)) (N : List Str) (sc : Scope) : Kx := ⟨N, sc.names, [], true, gl, dicts, flds, mths⟩
section
variable {P : Program} {w : World} {K : PySem.W.Frag} {mg : Str → Option Value} {base : Heap} {T : Env1} {C : Cf} {gl : List (Str × Gk)} {dicts flds : List Str} {mths : List (Str × Nat)} {ds : Nat → Option Dt} {fa : Nat → Addr} {fdt : Nat → FuncData}
/-- the rule of a def, its code object told -/
theorem funD_ok {CX : CXT} {x qual : Str} {params : Arguments} {body : List Stmt} {scope : Scope} {dvs : List V} {kws : List (Str × V)} {f : Addr} {fd : FuncData} {N ps : List Str} {k : Nat} {sp : Sp} (F : FunD K x qual params body scope dvs kws f fd) (S : FnScope N ps scope) (len : ∀ vs H Q E, sp vs H Q E → vs.length = ps.length)
    (hbody : ∀ (cdv : Value) (A : Around) (outer : List Env) (s : Shared) (H : Hp) (vs : List V) (Q : VK) (E : XK), fd.code = cdv → Room k (A.deeper (envOfC qual scope s.heap.objs.size f cdv)) → sp vs H Q E →
      ∃ t, PSs (cxOf CX P w K mg base N qual scope f cdv A outer s H E) body t ∧ t { nx := fun _ H' => Q .non H', rt := Q } (L2.start N vs) H) : FnOk P w K mg base CX (k + 1) f fd ps sp := by
  obtain ⟨oc, od, dV, kV, doc, pm, an, cdv, ct, osl, rfl, lk, hcd, _, _⟩ := F.ex
  exact fn_of lk hcd S len fun A outer s H vs Q E hr hsp => hbody cdv A outer s H vs Q E rfl hr hsp
theorem rho_start {A : List Addr} {H : Hp} {ds : List D} {vs : List V} {N : List Str} {ns np : Nat} (r : Reps T A H ds vs) (h1 : ds.length = np) (h2 : ns = N.length) : RhoR T A H (ds.map some ++ List.replicate (ns - np) none) (L2.start N vs) := by
  have hl := r.length
  unfold L2.start
  refine ⟨by simp only [List.length_append, List.length_map, List.length_replicate]; omega, fun i d h => ?_⟩
  by_cases hi : i < ds.length
  · rw [List.getElem?_append_left (by simpa using hi), List.getElem?_map, Option.map_eq_some_iff] at h
    obtain ⟨d', h3, h4⟩ := h
    cases h4
    obtain ⟨v, h5, h6⟩ := r.get h3
    exact ⟨v, by rw [List.getElem?_append_left (by simp; omega), List.getElem?_map, h5]; rfl, h6⟩
  · rw [List.getElem?_append_right (by simp; omega), List.getElem?_replicate] at h
    split at h <;> cases h
/-- the facts that the context of a body wants of the callees -/
theorem ctx_of (W0 : WldOk K mg T C gl dicts flds mths ds fa fdt) {n : Nat} (ih : ∀ i t, ds i = some t → FnOk P w K mg base (L2N.CX P w) (8 * n) (fa i) (fdt i) t.ps (spD K T (callF C n) i)) {X : Cx} (e1 : X.prog = P) (e2 : X.w = w) (e3 : X.K = K) (e4 : X.mg = mg) (e5 : X.base = base) :
    (∀ x g, gl.lookup x = some g → GlOk X T C (callF C n) (8 * n) x g) ∧ ∀ m k, mths.lookup m = some k → ∃ i c a f, T.cls[c]? = some a ∧ Meth X.K a m f ∧ (∀ c' i', C.mt c' m = some i' → c' = c ∧ i' = i) ∧ FnK X T (callF C n) (8 * n) i f := by
  subst e1 e2 e3 e4 e5
  have fk : ∀ {i t}, ds i = some t → FnK X T (callF C n) (8 * n) i (fa i) := fun {i t} h => ⟨⟨_, _, ih i t h, (W0.defs i t h).bnd⟩, (W0.defs i t h).fun_.kp⟩
  refine ⟨fun x g h => ?_, fun m k h => ?_⟩
  · have q := W0.gl x g h
    cases g with
    | fn i => obtain ⟨t, h1, h2⟩ := q; exact ⟨_, h2, fk h1⟩
    | cls c => obtain ⟨i, t, a, h1, h2, h3, h4, h5⟩ := q; exact ⟨i, a, _, h1, h2, h3, fk h4, h5⟩
    | _ => exact q
  · obtain ⟨i, t, c, a, h1, h2, h3, h4⟩ := W0.mth m k h
    exact ⟨i, c, a, _, h1, h2, h3, fk h4⟩
theorem post_call {A : List Addr} {H : Hp} {r : Fr} {Q : VK} {E : XK} (h : PostD K T A H (match r with
    | .nx _ S' => .ok .non S'
    | .rt d S' => .ok d S'
    | .ex c w _ S' => .exc c w S'
    | _ => .bad) (fun cv dx _ H' => E cv dx H') [] Q) : PostF K T (WK E) A H r { nx := fun _ H' => Q .non H', rt := Q } := by
  cases r with
  | nx ρ S' => exact fun H' A' σ' e R _ => h _ _ _ e R .non
  | rt d S' => exact h
  | ex c w ρ S' => exact fun cv dx H' A' σ' e R x _ => h cv dx H' A' e R x
  | _ => exact h.elim
/-- THE DEFS -/
theorem all_ok (W0 : WldOk K mg T C gl dicts flds mths ds fa fdt)
    (Hh : ∀ n i t, ds i = some t → (∀ i t, ds i = some t → FnOk P w K mg base (L2N.CX P w) (8 * n) (fa i) (fdt i) t.ps (spD K T (callF C n) i)) → ∀ (cdv : Value) (A : Around) (outer : List Env) (s : Shared) (H : Hp) (E : XK), (fdt i).code = cdv → Room (8 * n + 7) (A.deeper (envOfC t.d.qual t.d.scope s.heap.objs.size (fa i) cdv)) →
      HeardOk (cxOf (L2N.CX P w) P w K mg base t.N t.d.qual t.d.scope (fa i) cdv A outer s H E) T C (callF C n) (kap0 gl dicts flds mths t.N t.d.scope) (8 * n))
    (Hr : ∀ n i t, ds i = some t → ∀ (cdv : Value) (A : Around) (outer : List Env) (s : Shared) (H : Hp) (E0 : XK), Room (8 * n + 7) (A.deeper (envOfC t.d.qual t.d.scope s.heap.objs.size (fa i) cdv)) →
      let X := cxOf (L2N.CX P w) P w K mg base t.N t.d.qual t.d.scope (fa i) cdv A outer s H E0
      ∀ (E : XK) (x : Str) (c : Nat) (e : Expr) (xe : Ex) (p pos rpos : Pos), L2N.Takes X (WK E) → gl.lookup x = some (.exc c) → Gl X x → nst e = true → PE X e (tE X.K T C (callF C n) (WK E) xe) → PS X (.Raise (some (.Call (.Name x p) [e] [] pos)) none rpos) (tS X.K T C (callF C n) (WK E) (.raise c xe))) :
    ∀ n i t, ds i = some t → FnOk P w K mg base (L2N.CX P w) (8 * n) (fa i) (fdt i) t.ps (spD K T (callF C n) i)
  | 0, i, t, _ => ⟨fun vs H Q E ⟨_, _, _, _, _, h⟩ => h.elim, fun A outer s H args us vs Q E _ _ _ _ ⟨_, _, _, _, _, h⟩ => h.elim⟩
  | n + 1, i, t, hi => by
    have ih := all_ok W0 Hh Hr n
    have Dk := W0.defs i t hi
    have inn : ∀ {vs : List V} {H : Hp} {Q : VK} {E : XK}, spD K T (callF C (n + 1)) i vs H Q E → ∃ A S ds', Rl K T A S H ∧ Reps T A H ds' vs ∧ ds'.length = t.ps.length ∧ PostF K T (WK E) A H (evSs C (callF C n) t.ir (ds'.map some ++ List.replicate (t.N.length - t.ps.length) none) S) { nx := fun _ H' => Q .non H', rt := Q } := fun {vs H Q E} ⟨A, S, ds', R, r, p⟩ => by
      simp only [callF, Dk.P] at p
      split at p
      · rename_i hc
        exact ⟨A, S, ds', R, r, hc.1, post_call p⟩
      · exact p.elim
    have hk : 8 * (n + 1) = (8 * n + 7) + 1 := by omega
    rw [hk]
    refine funD_ok Dk.fun_ Dk.sc (fun vs H Q E h => ?_) fun cdv A outer s H vs Q E hcd hr h => ?_
    · obtain ⟨A, S, ds', R, r, hl, _⟩ := inn h
      rw [← r.length]
      exact hl
    · obtain ⟨A1, S, ds', R, r, hl, p⟩ := inn h
      have hctx := ctx_of (P := P) (w := w) (base := base) W0 ih (X := cxOf (L2N.CX P w) P w K mg base t.N t.d.qual t.d.scope (fa i) cdv A outer s H E) rfl rfl rfl rfl rfl
      have c : StOk (cxOf (L2N.CX P w) P w K mg base t.N t.d.qual t.d.scope (fa i) cdv A outer s H E) T C (callF C n) E (kap0 gl dicts flds mths t.N t.d.scope) (8 * n) :=
        { ctx := { bas := ⟨rfl, Dk.sc.nd, W0.hs, by have := hr.un; show (A.deeper (envOfC t.d.qual t.d.scope s.heap.objs.size (fa i) cdv)).units + 64 < cLine; omega⟩
                   N := rfl
                   nm := rfl
                   kind := Dk.sc.kind
                   fn := fun _ _ => rfl
                   fn2 := fun x h => nomatch h
                   gl := hctx.1
                   room := hr.mono (by omega)
                   tk := L2N.takes_of rfl rfl rfl rfl
                   cls := W0.cls
                   mth := hctx.2
                   hrd := fun _ => Hh n i t hi ih cdv A outer s H E hcd hr }
          own := passes_of rfl
          def_ := rfl
          raise := Hr n i t hi cdv A outer s H E hr }
      exact ⟨_, trSs_ok (tr_ok 40) c Dk.ir, A1, _, S, R, rho_start r hl rfl, p⟩
end
end MP
end MQk
section MRa
set_option Elab.async false
set_option linter.all false
set_option maxRecDepth 100000
set_option maxHeartbeats 1000000
/-! MRa: super().__init__(..) in the maker of an own exception. -/
namespace MP
open PySem PySem.W PySem.Calls PyProof.Rows
/-- the ground: what the names super and its like stand for -/
structure Gnd (K : Frag) (mg mb : Str → Option Value) (h : Heap) : Prop where
  X : K.In h
  ng : h.Ns mainGlobals mg
  nb : h.Ns builtinsNs mb
  lim : h.NoLimit
  sup : mg "super" = none
  bsup : mb "super" = some (.type "super")
theorem Gnd.keeps {K : Frag} {mg mb : Str → Option Value} {h h' : Heap} (G : Gnd K mg mb h) (k : ∀ b o, h.get? b = some o → h'.get? b = some o) : Gnd K mg mb h' := ⟨G.X.keeps k, G.ng.keeps k, G.nb.keeps k, G.lim.keeps k, G.sup, G.bsup⟩
/-- a def of the class at D that says super() -/
structure SupFn (K : Frag) (prog : Program) (D f cda cc : Addr) (qual : Str) (params : Arguments) (body : List Stmt) (scope : Scope) (fd : FuncData) : Prop where
  lk : ∃ oc od dV kV doc pm an ct osl, fd = ksFn "__init__" qual params body scope dV kV doc pm an (.ref cda) ct cc ∧ K.lookup f = some ⟨oc, od, .func fd, osl⟩
  cdi : codeIn K (.ref cda) qual = true
  code : ∃ ccl cdd vs ccs file tf, K.lookup cda = some ⟨ccl, cdd, .fields vs, ccs⟩ ∧ vs[2]? = some (.str file tf) ∧ ((prog.main.file : Str) == file) = true
  cell : ∃ cl cld csl, K.lookup cc = some ⟨cl, cld, .cell (some (.ref D)), csl⟩
  cls : ∃ cd, clsIn K D = some cd
  top : (prog.main.scope.names.lookup ("super" : Str)).isSome = false
  ks : scope.names.lookup ("super" : Str) = some .globalImplicit
  kc : scope.names.lookup ("__class__" : Str) = some .free
  kself : scope.names.lookup ("self" : Str) = some .local
  kind : scope.kind = .function
  co : scope.isCoroutine = false
  gen : scope.isGenerator = false
  nocell : ∀ x ∈ scope.names, x.2 ≠ .cell
  par : ∃ ar, (params.posonlyargs ++ params.args).head? = some ar ∧ ar.arg = "self"
section
variable {prog : Program} {w : World} {A : Around} {E : Value → Shared → Prop} {K : Frag} {mg mb : Str → Option Value} {h₀ h : Heap} {g : Array GenState} {d : Drawn} {t : Nat} {os : OsState} {D f cda cc C e L : Addr} {qual : Str} {params : Arguments} {body : List Stmt} {scope : Scope} {fd : FuncData}
/-- super() -/
theorem sup_obj (G : Gnd K mg mb h₀) (k0 : ∀ b o, h₀.get? b = some o → h.get? b = some o) (S : SupFn K prog D f cda cc qual params body scope fd) {m : Str → Option Value} (hn : h.Ns L m) (hs : m "self" = some (.ref e)) {oe : Obj} (he : h.get? e = some oe) (hc : oe.cls = .ref C) (hnc : ∀ c, oe.data ≠ .cls c)
    (hsub : mroIn K C (.ref D) = some true) {p0 p1 : Pos} {attr : Str} {whole : Sem Value} {Q : Value → Shared → Prop} (hat : (attr == ("__class__" : Str)) = false)
    (hq : ∀ h', h'.get? h.objs.size = some (ks_superObj D e C) → (∀ y o, h.get? y = some o → h'.get? y = some o) → Q (.ref h.objs.size) ⟨h', g, d, t, os⟩) :
    _root_.PySem.wpAt (model prog w) A (.func body (ksEnv qual scope L f (.ref cda) cc)) (attributeBase (.Call (.Name "super" p0) [] [] p1) attr (ksEnv qual scope L f (.ref cda) cc) whole) Q E ⟨h, g, d, t, os⟩ := by
  have G := G.keeps k0
  obtain ⟨oc, od, dV, kV, doc, pm, an, ct, osl, rfl, lk⟩ := S.lk
  obtain ⟨ccl, cdd, vs, ccs, file, tf, lc, lv, lf⟩ := S.code
  obtain ⟨cl, cld, csl, lcc⟩ := S.cell
  obtain ⟨cdD, hD⟩ := S.cls
  obtain ⟨ar, hp, har⟩ := S.par
  obtain ⟨oD, hD1, hD2⟩ : ∃ oD, h.get? D = some oD ∧ oD.data = .cls cdD := by
    unfold clsIn at hD
    split at hD
    · rename_i c d cd' sl ho
      cases hD
      exact ⟨_, G.X _ _ ho, rfl⟩
    · cases hD
  refine ks_wpAt_super_base (env := ksEnv qual scope L f (.ref cda) cc) S.ks S.kc hat rfl (G.X _ _ lk) rfl hp rfl (G.X _ _ lc) rfl lv lf S.top ?_
  refine ks_loadName_global S.kind S.ks (loadGlobal_builtin (env := ksEnv qual scope L f (.ref cda) cc) G.ng G.sup G.nb G.bsup ⟨rfl, ?_⟩)
  refine wpAny_loadName_free S.kind S.kc rfl ⟨_, G.X _ _ lcc, rfl⟩ ?_
  rw [har]
  refine wpAny_loadName_local S.kind S.kself hn hs ?_
  refine ks_wpAny_isType_cls hD1 hD2 ⟨rfl, ?_⟩
  exact ks_wpAny_call_super hD1 hD2 he hc hnc (looks_mroIn G.X hsub) (fun h' e k => hq h' e k)
end
end MP
end MRa
section MRb
set_option Elab.async false
set_option linter.all false
set_option maxRecDepth 100000
set_option maxHeartbeats 1000000
/-! MRb: the base exception's own maker: super().__init__(what), self.what, self.word. -/
namespace MP
open PySem PySem.W PySem.Calls PyProof.Rows
/-- what is known of the class C of the thing made: it lies over the class at R, which lies over ValueError -/
structure ExcC (K : Frag) (R C : Addr) : Prop where
  oex : L2.OexC K C
  subR : mroIn K C (.ref R) = some true
  along : ∃ cd, clsIn K C = some cd ∧ alongIn K "__init__" ((cd.mro.dropWhile (· != .ref R)).drop 1) = some (some (.builtin "ValueError.__init__"))
  subV : subIn K (.ref C) (.type "ValueError") = some true
  opq : nsIn K cStatics "thirdparty.any" = some none
  what : findIn K (.ref C) "what" = some none
  word : findIn K (.ref C) "word" = some none
abbrev exW (C t : Addr) (dd : Option Addr) : Obj := { cls := .ref C, dict := dd, data := .fields #[.ref t, .none, .none, .none, .bool false, .none] }
theorem call_sup_eq {o : Expr} {m : Str} {apos pos : Pos} {es : List Expr} {env : Env} (hs : es.all nst = true) (hl : es.length < 30) (hline : (apos.endLine == pos.line) = true) :
    eval (.Call (.Attribute o m apos) es [] pos) env = (do
      let ov ← attributeBase o m env (eval o env)
      standAt apos.atName
      let (f, first) ← holding [ov] (getMethod ov m (L2.plainOf o env))
      callWith pos f first (backTo pos (starEach es env)) []) := by
  show (do
    let ov ← attributeBase o m env (eval o env)
    standAt apos.atName
    methodCall o m apos pos env ov (es.length + ([] : List Keyword).length) (backTo pos (starEach es env)) (backToKw pos (keywordEach [] env))) = _
  congr 1
  funext ov
  congr 1
  funext _
  exact L2.mcall_line (few_of (cpos := pos) (env := env) hs hl) hline
section
variable {prog : Program} {w : World} {A : Around} {E : Value → Shared → Prop} {K : Frag} {mg mb : Str → Option Value} {h₀ h : Heap} {g : Array GenState} {d : Drawn} {t : Nat} {os : OsState} {R f cda cc C e t0 : Addr} {qual : Str} {params : Arguments} {scope : Scope} {fd : FuncData}
/-- ValueError.__init__ bound to the thing, called -/
theorem call_mw {u : Addr} {rest : List Value} {Q : Value → Shared → Prop} (X : K.In h) (T : ExcC K R C) (hu : h.get? u = some (kxs_mw "ValueError.__init__" e)) (he : h.get? e = some (exW C t0 none)) (hz : rest.length ≤ sizeLine)
    (hq : ∀ h' t1, (∀ b o, b ≠ e → h.get? b = some o → h'.get? b = some o) → h'.get? e = some (exW C t1 none) → Q .none ⟨h', g, d, t, os⟩) : wpAny (model prog w) A (call (.ref u) rest) Q E ⟨h, g, d, t, os⟩ := by
  obtain ⟨nm, q, N, bs, bm, sn, sub, ab, col, dd, k0, k1, k2, k3, k5, hC, hbm⟩ := T.oex.cls
  refine wpAny_call (codeAny_of_tree ?_)
  show wpAny _ A.in1 (callAny (.ref u) ⟨rest, []⟩) _ _ _
  simp only [callAny]
  refine wpAny_bind (wpAny_load hu ?_)
  simp only [kxs_mw, show (Value.type "method-wrapper" == Value.type "method" || Value.type "method-wrapper" == Value.type "builtin_function_or_method" || Value.type "method-wrapper" == Value.type "method-wrapper") = true by decide, if_true]
  refine KFB.if_so (by decide) ?_
  refine wpAny_bind (check_bound_init F.excBase_ValueError.toExcCallFacts (X _ _ hC) he rfl ?_)
  refine wpAny_bind (wpAny_pure (wpAny_pure ?_))
  refine ⟨plainId_quiet F.excBase_ValueError.init.plain _, codeAny_builtin F.excBase_ValueError.initEntry ?_⟩
  exact exc_init_tree (cls := .ref C) (t0 := t0) (dv := none) (c2 := .none) (c3 := .none) (b4 := .bool false) he hz fun h' k1 k2 _ => hq h' _ k1 k2
theorem ne_new (ne : h₀.get? e = none) {b : Addr} {o : Obj} (hb : h₀.get? b = some o) : b ≠ e := fun z => by rw [z, ne] at hb; cases hb
abbrev bRef (p0 p1 p2 p3 p4 p5 p6 p7 p8 p9 p10 p11 p12 p13 : Pos) : List Stmt := [.Expr (.Call (.Attribute (.Call (.Name "super" p0) [] [] p1) "__init__" p2) [.Name "what" p3] [] p4) p5,
  .Assign [.Attribute (.Name "self" p6) "what" p7] (.Name "what" p8) p9, .Assign [.Attribute (.Name "self" p10) "word" p11] (.Name "word" p12) p13]
abbrev bindsRef (e : Addr) (u v : Value) : List (Str × Value) := [("self", .ref e), ("what", u), ("word", v)]
theorem ref_init {p0 p1 p2 p3 p4 p5 p6 p7 p8 p9 p10 p11 p12 p13 : Pos} {u v : Value} {Rz : Result → Shared → Prop} (G : Gnd K mg mb h₀) (k0 : ∀ b o, h₀.get? b = some o → h.get? b = some o) (ne : h₀.get? e = none)
    (S : SupFn K prog R f cda cc qual params (bRef p0 p1 p2 p3 p4 p5 p6 p7 p8 p9 p10 p11 p12 p13) scope fd) (T : ExcC K R C) (hlw : scope.names.lookup ("what" : Str) = some .local) (hlo : scope.names.lookup ("word" : Str) = some .local) (hline : (p2.endLine == p4.line) = true)
    (hbind : BindsTo ⟨h, g, d, t, os⟩ fd ⟨[.ref e, u, v], []⟩ (bindsRef e u v)) (hd : A.depth < recursionLimit) (he : h.get? e = some (exW C t0 none))
    (hq : ∀ h' t' dx t1, (∀ b o, b ≠ e → h.get? b = some o → h'.get? b = some o) → h.objs.size ≤ dx → h'.get? e = some (exW C t1 (some dx)) → h'.Ns1 dx (fun y => if y = "word" then some v else if y = "what" then some u else none) → Rz (.ok (.ret .none)) ⟨h', g, d, t', os⟩) :
    codeAny (model prog w) A (.call (.ref f) ⟨[.ref e, u, v], []⟩) Rz ⟨h, g, d, t, os⟩ := by
  have Gh := G.keeps k0
  obtain ⟨oc, od, dV, kV, doc, pm, an, ct, osl, rfl, lk⟩ := id S.lk
  obtain ⟨cd, hcd, hal⟩ := T.along
  refine ks_codeAny_call_defAt (s := ⟨h, g, d, t, os⟩) hd (Gh.X _ _ lk) rfl Gh.lim (codeRec_of Gh.X S.cdi) rfl hbind S.nocell (fun x hx => ?_) (fun h1 hn hk => ?_) S.co S.gen S.kind
  · rcases List.mem_cons.mp hx with rfl | hx
    · exact S.kself
    · rcases List.mem_cons.mp hx with rfl | hx
      · exact hlw
      · rcases List.mem_cons.mp hx with rfl | hx
        · exact hlo
        · cases hx
  · have hL : h.objs.size ≠ e := Nat.ne_of_gt (Heap.lt_size he)
    have e1 := hk _ _ he
    have k1 : ∀ b o, h₀.get? b = some o → h1.get? b = some o := fun b o z => hk b o (k0 b o z)
    have ms : (fun x : Str => (bindsRef e u v).reverse.lookup x) "self" = some (.ref e) := rfl
    have mw : (fun x : Str => (bindsRef e u v).reverse.lookup x) "what" = some u := rfl
    have mo : (fun x : Str => (bindsRef e u v).reverse.lookup x) "word" = some v := rfl
    generalize (fun x : Str => (bindsRef e u v).reverse.lookup x) = m at hn ms mw mo
    show _root_.PySem.wpAt (model prog w) _ (.func (bRef p0 p1 p2 p3 p4 p5 p6 p7 p8 p9 p10 p11 p12 p13) (ksEnv qual scope h.objs.size f (.ref cda) cc)) (execs (bRef p0 p1 p2 p3 p4 p5 p6 p7 p8 p9 p10 p11 p12 p13) (ksEnv qual scope h.objs.size f (.ref cda) cc)) _ _ _
    have Ke : ∃ oC, K.lookup C = some oC := by
      obtain ⟨nm, q, N, bs, bm, sn, sub, ab, col, dd, k0', k1', k2', k3', k5', hC, hbm⟩ := T.oex.cls
      exact ⟨_, hC⟩
    obtain ⟨oC, hC⟩ := Ke
    have neC : e ≠ C := fun z => (ne_new ne (G.X _ _ hC)) z.symm
    obtain ⟨nm, q, N, bs, bm, sn, sub, ab, col, dd, x0, x1, x2, x3, x5, hC2, hbm⟩ := T.oex.cls
    have hcl : PySem.W.clsIn K C = some { name := nm, bases := bs, mro := .ref C :: bm, ns := N, qualname := q, hasDict := true, slotNames := sn, subclasses := sub, abstract := ab, collection := col, hasDel := false } := by unfold PySem.W.clsIn; rw [hC2] <;> rfl
    refine ks_wpAt_execs_cons (ks_wpAt_Expr_any (ks_wpAt_MethodCall (pl := L2.plainOf _ _) (sup_obj G k1 S hn ms e1 rfl (fun c z => nomatch z) T.subR rfl fun h2 hso hk2 => ?_) (call_sup_eq rfl (Nat.lt_of_sub_eq_succ rfl) hline)) (by simp [interactive, S.kind]) rfl)
    have k2 : ∀ b o, h₀.get? b = some o → h2.get? b = some o := fun b o z => hk2 b o (k1 b o z)
    have G2 := G.keeps k2
    have e2 := hk2 _ _ e1
    have I2 : InstAt h2 e (exW C t0 none) C none := ⟨e2, rfl, rfl, trivial⟩
    refine kxs_getMethod kxs_ValueError hso (looks_opaque G2.X T.opq) (l₀ := cd.mro) ((looks_clsIn G2.X hcd).andThen .now) rfl G2.X hal (I2.type.andThen (looks_subIn G2.X T.subV)) neC (by decide) ?_
    have k3 : ∀ b o, h2.get? b = some o → (h2.push (kxs_mw "ValueError.__init__" e)).get? b = some o := fun b o z => Heap.get?_push_of_some _ z
    have hu3 : (h2.push (kxs_mw "ValueError.__init__" e)).get? h2.objs.size = some (kxs_mw "ValueError.__init__" e) := Heap.get?_push_size _ rfl
    have G3 := G2.keeps k3
    have e3 := k3 _ _ e2
    have hn3 := (hn.keeps hk2).keeps k3
    generalize h2.push (kxs_mw "ValueError.__init__" e) = h3 at k3 hu3 G3 e3 hn3
    refine kxs_callWith (i := "ValueError.__init__") (x := e) (u := h2.objs.size) rfl (evalArgs_plain (Calls.spliced_cons (wpAny_Name (wpAny_loadName_local S.kind hlw hn3 mw (Calls.spliced_nil ⟨hu3, ?_⟩)) (by decide))))
    refine call_mw (rest := [u]) G3.X T hu3 e3 (by show 1 ≤ sizeLine; decide) fun h4 t1 k4 e4 => ?_
    have k04 : ∀ b o, h₀.get? b = some o → h4.get? b = some o := fun b o z => k4 b o (ne_new ne z) (k3 b o (k2 b o z))
    have G4 := G.keeps k04
    have hn4 : h4.Ns h.objs.size m := hn3.at fun o z => k4 _ _ hL z
    -- self.what = what
    refine ks_wpAt_execs_cons (ks_wpAt_Assign_Attr (wpAt_of_wpAny (wpAny_Name (wpAny_loadName_local S.kind hlw hn4 mw (wpAny_Name (wpAny_loadName_local S.kind S.kself hn4 ms ?_) (by decide))) (by decide))) rfl)
    refine set_plain G4.X (ox := exW C t1 none) (od := none) ⟨e4, rfl, rfl, trivial⟩ T.oex.sa ?_
    refine PySem.HandSPX.exc_osa G4.X e4 hcl (show PySem.HandSPX.refsVE (.ref C :: bm) = true from hbm) rfl T.what (fun h5 t5 dx k5 dn dne e5 hx5 => ?_)
    have k05 : ∀ b o, h₀.get? b = some o → h5.get? b = some o := fun b o z => k5 b o (ne_new ne z) (k04 b o z)
    have G5 := G.keeps k05
    have hn5 : h5.Ns h.objs.size m := hn4.at fun o z => k5 _ _ hL z
    have sz4 : h.objs.size < h4.objs.size := by
      obtain ⟨oL, _, _, q, _⟩ := hn4
      exact Heap.lt_size q
    have hL5 : h.objs.size ≠ dx := Nat.ne_of_lt (Nat.lt_of_lt_of_le sz4 dn)
    -- self.word = word
    refine ks_wpAt_execs_cons (ks_wpAt_Assign_Attr (wpAt_of_wpAny (wpAny_Name (wpAny_loadName_local S.kind hlo hn5 mo (wpAny_Name (wpAny_loadName_local S.kind S.kself hn5 ms ?_) (by decide))) (by decide))) rfl)
    have hw5 : Within (fun y : Str => if y = ("what" : Str) then some u else none) [("what" : Str)] := Within.cons "what" u Within.nil
    obtain ⟨oD, _, _, hoD, _, _⟩ := hx5.count hw5
    refine set_plain G5.X (ox := exW C t1 (some dx)) (od := some oD) ⟨e5, rfl, rfl, hoD⟩ T.oex.sa ?_
    refine PySem.OEX.osa_old G5.X e5 hx5 hw5 (by decide) hcl (show PySem.HandSPX.refsVE (.ref C :: bm) = true from hbm) rfl T.word (fun h6 t6 k6 hx6 => ?_)
    refine wpAt_of_wpAny (wpAny_execs_nil ?_)
    refine hq h6 _ dx t1 (fun b o hb z => ?_) (Nat.le_trans (Nat.le_of_lt sz4) dn) (k6 _ _ (Ne.symm dne) e5) hx6
    have z5 := k5 b o hb (k4 b o hb (k3 b o (hk2 b o (hk b o z))))
    exact k6 b o (Nat.ne_of_lt (Nat.lt_of_lt_of_le (Heap.lt_size z) (Nat.le_trans (Nat.le_of_lt sz4) dn))) z5
end
end MP
end MRb
section MRc
set_option Elab.async false
set_option linter.all false
set_option maxRecDepth 100000
set_option maxHeartbeats 1000000
/-! MRc: an own exception is made: C(what), C's maker says super().__init__(what, word). -/
namespace MP
open PySem PySem.W PySem.Calls PyProof.Rows
section
variable {prog : Program} {w : World} {A : Around} {E : Value → Shared → Prop} {K : Frag} {mg mb : Str → Option Value} {h₀ h : Heap} {g : Array GenState} {d : Drawn} {t : Nat} {os : OsState} {R f fR cda cdaR cc ccR C e t0 : Addr} {qual qualR : Str} {params paramsR : Arguments} {scope scopeR : Scope} {fd fdR : FuncData}
/-- the base's maker -/
structure RefOk (K : Frag) (prog : Program) (R fR : Addr) : Prop where
  ex : ∃ (cdaR ccR : Addr) (qualR : Str) (paramsR : Arguments) (scopeR : Scope) (fdR : FuncData) (p0 p1 p2 p3 p4 p5 p6 p7 p8 p9 p10 p11 p12 p13 : Pos), SupFn K prog R fR cdaR ccR qualR paramsR (bRef p0 p1 p2 p3 p4 p5 p6 p7 p8 p9 p10 p11 p12 p13) scopeR fdR ∧
    scopeR.names.lookup ("what" : Str) = some .local ∧ scopeR.names.lookup ("word" : Str) = some .local ∧ (p2.endLine == p4.line) = true ∧ ∀ (s : Shared) (e : Addr) (u v : Value), K.In s.heap → BindsTo s fdR ⟨[.ref e, u, v], []⟩ (bindsRef e u v)
abbrev bBad (x : Str) (j : Nat) (p0 p1 p2 p3 p4 p5 p6 : Pos) : List Stmt := [.Expr (.Call (.Attribute (.Call (.Name "super" p0) [] [] p1) "__init__" p2) [.Name "what" p3, .Constant (.str x) j p6] [] p4) p5]
abbrev bindsBad (e : Addr) (u : Value) : List (Str × Value) := [("self", .ref e), ("what", u)]
structure BadOk (K : Frag) (prog : Program) (R fR C f : Addr) (x : Str) : Prop where
  ex : ∃ (cda cc : Addr) (qual : Str) (params : Arguments) (scope : Scope) (fd : FuncData) (j : Nat) (p0 p1 p2 p3 p4 p5 p6 : Pos), SupFn K prog C f cda cc qual params (bBad x j p0 p1 p2 p3 p4 p5 p6) scope fd ∧
    scope.names.lookup ("what" : Str) = some .local ∧ (p2.endLine == p4.line) = true ∧ ∀ e u, bindArgs fd ⟨[.ref e, u], []⟩ = pure (bindsBad e u)
  exc : ExcC K R C
  ref : RefOk K prog R fR
  subC : mroIn K C (.ref C) = some true
  along : ∃ cd, clsIn K C = some cd ∧ alongIn K "__init__" ((cd.mro.dropWhile (· != .ref C)).drop 1) = some (some (.ref fR))
  fnR : fnIn K fR = true
  tyR : typeIn K (.ref fR) = some (.type "function")
  init : findIn K (.ref C) "__init__" = some (some (.ref f))
  tyF : typeIn K (.ref f) = some (.type "function")
/-- what the makers leave -/
def Made (K : Frag) (h : Heap) (C e : Addr) (x : Str) (u : Value) (h' : Heap) : Prop := ∃ (dx t1 : Addr) (tk : Tok), (∀ b o, b ≠ e → h.get? b = some o → h'.get? b = some o) ∧ h.objs.size ≤ dx ∧ h'.get? e = some (exW C t1 (some dx)) ∧
  h'.Ns1 dx (fun y => if y = "word" then some (.str x tk) else if y = "what" then some u else none)
theorem bad_init {x : Str} {u : Value} {Rz : Result → Shared → Prop} (G : Gnd K mg mb h₀) (k0 : ∀ b o, h₀.get? b = some o → h.get? b = some o) (ne : h₀.get? e = none) (B : BadOk K prog R fR C f x) (hd : A.depth + 1 < recursionLimit) (he : h.get? e = some (exW C t0 none))
    (hq : ∀ h' t', Made K h C e x u h' → Rz (.ok (.ret .none)) ⟨h', g, d, t', os⟩) :
    codeAny (model prog w) A (.call (.ref f) ⟨[.ref e, u], []⟩) Rz ⟨h, g, d, t, os⟩ := by
  have Gh := G.keeps k0
  obtain ⟨cda, cc, qual, params, scope, fd, j, p0, p1, p2, p3, p4, p5, p6, S, hlw, hline, hbind⟩ := B.ex
  obtain ⟨cdaR, ccR, qualR, paramsR, scopeR, fdR, q0, q1, q2, q3, q4, q5, q6, q7, q8, q9, q10, q11, q12, q13, SR, rlw, rlo, rline, rbind⟩ := B.ref.ex
  have T := B.exc
  obtain ⟨oc, od, dV, kV, doc, pm, an, ct, osl, rfl, lk⟩ := id S.lk
  obtain ⟨cd, hcd, hal⟩ := B.along
  refine ks_codeAny_call_defAt (s := ⟨h, g, d, t, os⟩) (by omega) (Gh.X _ _ lk) rfl Gh.lim (codeRec_of Gh.X S.cdi) rfl (.of_eq (hbind e u)) S.nocell (fun x hx => ?_) (fun h1 hn hk => ?_) S.co S.gen S.kind
  · rcases List.mem_cons.mp hx with rfl | hx
    · exact S.kself
    · rcases List.mem_cons.mp hx with rfl | hx
      · exact hlw
      · cases hx
  · have hL : h.objs.size ≠ e := Nat.ne_of_gt (Heap.lt_size he)
    have e1 := hk _ _ he
    have k1 : ∀ b o, h₀.get? b = some o → h1.get? b = some o := fun b o z => hk b o (k0 b o z)
    have ms : (fun x : Str => (bindsBad e u).reverse.lookup x) "self" = some (.ref e) := rfl
    have mw : (fun x : Str => (bindsBad e u).reverse.lookup x) "what" = some u := rfl
    generalize (fun x : Str => (bindsBad e u).reverse.lookup x) = m at hn ms mw
    show _root_.PySem.wpAt (model prog w) _ (.func (bBad x j p0 p1 p2 p3 p4 p5 p6) (ksEnv qual scope h.objs.size f (.ref cda) cc)) (execs (bBad x j p0 p1 p2 p3 p4 p5 p6) (ksEnv qual scope h.objs.size f (.ref cda) cc)) _ _ _
    have Ke : ∃ oC, K.lookup C = some oC := by
      obtain ⟨nm, q, N, bs, bm, sn, sub, ab, col, dd, k0', k1', k2', k3', k5', hC, hbm⟩ := T.oex.cls
      exact ⟨_, hC⟩
    obtain ⟨oC, hC⟩ := Ke
    have neC : e ≠ C := fun z => (ne_new ne (G.X _ _ hC)) z.symm
    refine ks_wpAt_execs_cons (ks_wpAt_Expr_any (ks_wpAt_MethodCall (pl := L2.plainOf _ _) (sup_obj G k1 S hn ms e1 rfl (fun c z => nomatch z) B.subC rfl fun h2 hso hk2 => ?_) (call_sup_eq rfl (Nat.lt_of_sub_eq_succ rfl) hline)) (by simp [interactive, S.kind]) rfl)
    have k2 : ∀ b o, h₀.get? b = some o → h2.get? b = some o := fun b o z => hk2 b o (k1 b o z)
    have G2 := G.keeps k2
    have e2 := hk2 _ _ e1
    obtain ⟨of, hof, hofc⟩ : ∃ of, h2.get? fR = some of ∧ of.cls = .type "function" := by
      have ht' : (K.lookup fR).map (·.cls) = some (.type "function") := B.tyR
      cases z : K.lookup fR with
      | none => rw [z] at ht'; cases ht'
      | some of => rw [z] at ht'; exact ⟨of, G2.X _ _ z, Option.some.inj ht'⟩
    refine ks_wpAny_getMethod_super hso (looks_opaque G2.X T.opq) (l₀ := cd.mro) ((looks_clsIn G2.X hcd).andThen .now) rfl G2.X hal hof hofc neC (by decide) ?_
    have k3 : ∀ b o, h2.get? b = some o → (h2.push (methodObj (.ref fR) (.ref e))).get? b = some o := fun b o z => Heap.get?_push_of_some _ z
    have hu3 : (h2.push (methodObj (.ref fR) (.ref e))).get? h2.objs.size = some (methodObj (.ref fR) (.ref e)) := Heap.get?_push_size _ rfl
    have G3 := G2.keeps k3
    have e3 := k3 _ _ e2
    have hn3 := (hn.keeps hk2).keeps k3
    have hle : h.objs.size ≤ (h2.push (methodObj (.ref fR) (.ref e))).objs.size := by
      obtain ⟨oL, _, _, q, _⟩ := hn3
      exact Nat.le_of_lt (Heap.lt_size q)
    show wpAny _ _ (callWith p4 (.ref h2.objs.size) [] _ []) _ _ ⟨h2.push (methodObj (.ref fR) (.ref e)), g, d, _, os⟩
    generalize h2.push (methodObj (.ref fR) (.ref e)) = h3 at k3 hu3 G3 e3 hn3 hle
    refine callWith_of (P := MethP K h2.objs.size fR (.ref e)) rfl (keeps_M B.fnR) (evalArgs_plain (Calls.spliced_cons (wpAny_Name (wpAny_loadName_local S.kind hlw hn3 mw (Calls.spliced_cons (Calls.Constant_str (k := j) (pos := p6) (Calls.spliced_nil ⟨⟨hu3, G3.X⟩, ?_⟩)))) (by decide))))
    refine wpAny_call (ks_codeAny_call_bound hu3 ?_)
    refine ref_init G (fun b o z => k3 b o (k2 b o z)) ne SR T rlw rlo rline (rbind _ e u _ (G.X.keeps fun b o z => k3 b o (k2 b o z))) (by show A.depth + 1 < _; exact hd) e3 fun h4 t4 dx t1 k4 sz e4 n4 => ?_
    refine wpAt_of_wpAny (wpAny_execs_nil ?_)
    exact hq h4 t4 ⟨dx, t1, _, fun b o hb z => k4 b o hb (k3 b o (hk2 b o (hk b o z))), Nat.le_trans hle sz, e4, n4⟩
end
end MP
end MRc
section MRd
set_option Elab.async false
set_option linter.all false
set_option maxRecDepth 100000
set_option maxHeartbeats 1000000
/-! MRd: raise C(what). -/
namespace MP
open PySem PySem.Spec PyProof.Rows L2
section
variable {X : Cx} {T : Env1} {C : Cf} {cf : Nat → List D → Sto → Rs D}
abbrev xdf (x : Str) (v : V) : List (Str × V) := [("word", .str x), ("what", v)]
theorem pmk_bad {cx x : Str} {R fR CA f : Addr} {e : Expr} {te : TE} {p pos : Pos} (B : BadOk X.K X.prog R fR CA f x) (hr : Room 2 X.A) (hs : X.mg "super" = none) (hg : Gl X cx) (hm : X.mg cx = some (.ref CA)) (he : PE X e te) (hn : nst e = true) (hdb : (cx == ("__debug__" : Str)) = false) :
    L2N.PMk X (.Call (.Name cx p) [e] [] pos) (fun σ H Q => te σ H fun v H1 => ∀ dx, H1 dx = none → Q (.ref CA) (some dx) (upd H1 dx (.xd (xdf x v)))) := by
  intro pins s σ H Q I h
  have Te := B.exc.oex
  obtain ⟨nm, q, N, bs, bm, sn, sub, ab, col, dd, k0, k1, k2, k3, k5, hC, hbm⟩ := id Te.cls
  refine wpAny_Call_Name_kw (ld_glob I hg hm ?_ hdb)
  refine PySem.W.callWith_K (h₀ := X.base) I.ok.mod.kin Te.kC (thn ((pa_cons he pa_nil (star_ns hn)).run pos pins s σ H (fun vs H1 => match vs with | [v] => ∀ dx, H1 dx = none → Q (.ref CA) (some dx) (upd H1 dx (.xd (xdf x v))) | _ => False) I h) fun us s1 ⟨vs, H1, I1, r1, q1⟩ => ⟨I1.kIn, ?_⟩) (star_ns hn) rfl
  cases r1 with
  | nil => exact q1.elim
  | @cons v u _ _ rv rr =>
    cases rr with
    | cons _ _ => exact q1.elim
    | nil =>
      show wpAny _ _ (call (.ref CA) [u]) _ _ _
      obtain ⟨mb, hb1, hb2⟩ := I1.ok.mod.blt
      have Gd : Gnd X.K X.mg mb s1.heap := ⟨I1.kIn, I1.mod.glob.keeps I1.bk, hb1.keeps I1.bk, I1.nolimit, hs, (hb2 _ (by decide)).trans (by decide +kernel)⟩
      obtain ⟨hp, g, dr, tk, os⟩ := s1
      have kk : ∀ b o, hp.get? b = some o → ((hp.push (PySem.W.kdv_tup [u])).push (PySem.HandSPX.excO CA hp.objs.size)).get? b = some o := fun b o e => Heap.get?_push_of_some _ (Heap.get?_push_of_some _ e)
      have hget : ((hp.push (PySem.W.kdv_tup [u])).push (PySem.HandSPX.excO CA hp.objs.size)).get? (hp.objs.size + 1) = some (PySem.HandSPX.excO CA hp.objs.size) := by heap_get
      have ne : hp.get? (hp.objs.size + 1) = none := Heap.get?_none_of_le (Nat.le_succ _)
      refine wpAny_call (PySem.HandSPX.call_own F.excBase_ValueError (fun Y => PySem.HandSPX.refsVE_contains Y bm hbm) (I1.kIn _ _ hC) (PySem.W.looks_findIn I1.kIn B.init) (fun self => PySem.W.bind_fn I1.kIn self B.tyF) (by show 1 ≤ sizeLine; decide) ?_)
      refine bad_init Gd kk ne B ?_ hget fun h' t' hM => ⟨rfl, ?_⟩
      · have := hr.dp
        rw [make_depth]
        omega
      · obtain ⟨dx, t1, tk1, kb, hz, he2, hn2⟩ := hM
        have sz : ((hp.push (PySem.W.kdv_tup [u])).push (PySem.HandSPX.excO CA hp.objs.size)).objs.size = hp.objs.size + 2 := by rw [Heap.size_push, Heap.size_push]
        have hz : hp.objs.size + 2 ≤ dx := sz ▸ hz
        have nd : H1 dx = none := I1.hok.fresh (by show hp.objs.size ≤ dx; omega)
        have dne : dx ≠ hp.objs.size + 1 := Nat.ne_of_gt hz
        obtain ⟨Gh, g1, g2⟩ := restrict h' fun b => decide (b ≠ hp.objs.size + 1)
        have gk : ∀ b, b ≠ hp.objs.size + 1 → Gh.get? b = h'.get? b := fun b hb => g1 b (decide_eq_true hb)
        have kG : ∀ b o, hp.get? b = some o → Gh.get? b = some o := fun b o z => by
          have hb : b ≠ hp.objs.size + 1 := Nat.ne_of_lt (Nat.lt_succ_of_lt (Heap.lt_size z))
          rw [gk b hb]
          exact kb b o hb (kk b o z)
        have new : ObjOk X.prog X.w (upd H1 dx (.xd (xdf x v))) Gh dx (.xd (xdf x v)) := ⟨_, hn2.at fun o z => (gk dx dne).trans z, fun y => by
          show RelO (List.lookup y (("word", V.str x) :: ("what", v) :: [])) _
          rw [lookup_put, lookup_put]
          by_cases h1 : y = "word"
          · rw [if_pos h1, if_pos h1]
            exact ⟨tk1, rfl⟩
          · rw [if_neg h1, if_neg h1]
            by_cases h2 : y = "what"
            · rw [if_pos h2, if_pos h2]
              exact rv
            · rw [if_neg h2, if_neg h2]
              trivial⟩
        have J : Inv X pins σ (upd H1 dx (.xd (xdf x v))) { (⟨hp, g, dr, tk, os⟩ : Shared) with heap := Gh, toks := t' } := I1.laid kG (by show hp.objs.size ≤ dx; omega) new
        refine ⟨hp.objs.size + 1, _, _, _, _, .ref CA, some dx, rfl, J, fun b o z => ?_, g2 _ (by simp), he2, ⟨rfl, rfl, fun vs z => by cases z; rfl⟩, rfl, rfl, ?_, rfl, I1.bare, raises_own Te.exC Te.tyC, q1 dx nd⟩
        · by_cases hb : b = hp.objs.size + 1
          · rw [hb, g2 _ (by simp)] at z
            cases z
          · rw [← gk b hb]
            exact z
        · rw [upd_ne (Ne.symm dne)]
          exact I1.hok.fresh (Nat.le_succ _)
theorem dps_raise {E : XK} {c : Nat} {cx x : Str} {R fR CA f : Addr} {e : Expr} {xe : Ex} {p pos rpos : Pos} (hT : T.exc[c]? = some (CA, x)) (B : BadOk X.K X.prog R fR CA f x) (hc : X.calm = true) (hr : Room 2 X.A) (hs : X.mg "super" = none) (tk : L2N.Takes X (WK E)) (hg : Gl X cx) (hm : X.mg cx = some (.ref CA))
    (he : PE X e (tE X.K T C cf (WK E) xe)) (hn : nst e = true) (hdb : (cx == ("__debug__" : Str)) = false) : PS X (.Raise (some (.Call (.Name cx p) [e] [] pos)) none rpos) (tS X.K T C cf (WK E) (.raise c xe)) :=
  (L2N.ps_raise hc tk (pmk_bad B hr hs hg hm he hn hdb)).imp fun Z σ H ⟨A, ρ, S, R0, r, q⟩ => by
    simp only [evS] at q
    refine stepF R0 r q fun v H1 A1 S1 d e1 R1 r1 rd q => ?_
    intro dx hdx
    obtain ⟨R2, e2⟩ := R1.laid0 (o := .xd (xdf x v)) hdx
    exact q (.ref CA) (some dx) _ A1 σ e2 R2 ⟨CA, x, dx, xdf x v, v, hT, rfl, rfl, upd_same, rfl, rd.ext e2, rfl⟩ (r1.ext e2)
end
end MP
end MRd
section MHa
set_option Elab.async false
set_option linter.all false
set_option maxRecDepth 100000
set_option maxHeartbeats 1000000
/-! MHa: a list's end while an exception is handled. -/
namespace MP
open PySem PySem.Spec PyProof.Rows L2
section
variable {prog : Program} {w : World} {A : Around} {E : Value → Shared → Prop} {s : Shared}
theorem list_end_hot {it l x1 : Addr} {i : Nat} {items : Array Value} {Q : Option Value → Shared → Prop} (hot : HotX.HotAt A x1 s.heap) (hne : it ≠ x1) (hit : s.heap.IsListIter it l i) (hl : s.heap.IsList l items) (hx : items[i]? = none)
    (hQ : ∀ h', Heap.ExtBut it s.heap h' → Q none { s with heap := h' }) : wpAny (model prog w) A (pyNext (.ref it)) Q E s := by
  obtain ⟨o, ho, hc, hd⟩ := id hit
  obtain ⟨ol, hol, _, nl, hdl⟩ := hl
  obtain ⟨hh, o1, vs1, h1, d1, c1⟩ := hot
  unfold pyNext
  refine wpAny_bind (wpAny_attempt (wpAny_callSpecial?_slot (name := Str.ofString "__next__") hit.typeIs slot_listiter_next (wpAny_call_entry slot_listiter_next hit.typeIs entry_listiter_next ?_ (args_listiter_next _))))
  show wpAny _ _ (field (.ref it) 0 >>= _) _ _ s
  refine wpAny_bind (wpAny_field ho hd (x := .ref l) rfl ?_)
  show wpAny _ _ (if (Value.ref l == Value.none) = true then _ else _) _ _ s
  rw [if_neg (show ¬ ((Value.ref l == Value.none) = true) from Bool.false_ne_true)]
  show wpAny _ _ (field (.ref it) 1 >>= _) _ _ s
  refine wpAny_bind (wpAny_field ho hd (x := .int i 0) rfl ?_)
  show wpAny _ _ (seqItems? (.ref l) >>= _) _ _ s
  refine wpAny_bind (wpAny_seqItems hol hdl ?_)
  simp only [Int.toNat_natCast, hx]
  refine wpAny_bind (wpAny_rule (wpAny_bind (wpAny_setField ho hd (by simp) ?_)))
  show wpAny _ _ (newExc (.type "StopIteration") [] >>= _) _ _ _
  refine wpAny_bind ?_
  simp only [newExc, newTuple]
  refine wpAny_bind (wpAny_newObj_type ?_ (by size_fits))
  refine wpAny_bind (m := firstArgMember _ _) (wpAny_of_eq (a := Value.none) (by first | rfl | (simp only [firstArgMember]; rfl)) ?_)
  refine wpAny_newObj_type ?_ (by size_fits)
  have e1 : ∀ (k : Obj → Obj), (s.heap.update it k).get? x1 = some o1 := fun k => by rw [Heap.get?_update_other _ _ hne]; exact h1
  refine HotX.raiseNew_hot ⟨hh, o1, vs1, Heap.get?_push_of_some _ (Heap.get?_push_of_some _ (e1 _)), d1, c1⟩ (Nat.ne_of_lt (Heap.lt_size (Heap.get?_push_of_some _ (e1 _)))) (Heap.get?_push_size _ rfl) rfl (by first | (simp; done) | (simp; omega)) ?_
  refine wpAny_bind (wpAny_isInstance (T := "StopIteration") (b := true) ⟨_, Heap.get?_update_self _ (Heap.get?_push_size _ rfl) rfl, rfl⟩ isSubtype_stop ?_)
  refine wpAny_pure (hQ _ fun b u hb eu => ?_)
  have eb := Heap.SameBut.extBut (Heap.SameBut.update s.heap it (Obj.mapFields fun x => x.setIfInBounds 0 Value.none)) b u hb eu
  rw [Heap.get?_update_other _ _ (Nat.ne_of_gt (Heap.lt_size (Heap.get?_push_of_some _ eb)))]
  exact Heap.get?_push_of_some _ (Heap.get?_push_of_some _ eb)
end
end MP
end MHa
section MHb
set_option Elab.async false
set_option linter.all false
set_option maxRecDepth 100000
set_option maxHeartbeats 1000000
/-! MHb: a list comprehension over a list while an exception is handled. -/
namespace MP
open PySem PySem.Spec PyProof.Rows L2
def tLcH (K : PySem.W.Frag) (tl : TE) (tt : TT) (te : TE) (j : Nat) : TE := fun σ H Q => tl σ H fun x H1 => ∃ (a : Addr) (xs : List V) (pb : V → Bool) (qv : V → V), x = .ref a ∧ SqL K H1 a xs ∧ xs.length ≤ 1000 ∧
  (∀ D, H1 D = none → ∀ z ∈ xs, ∀ acc, (∀ Q' : Bool → Hp → Prop, Q' (pb z) (upd H1 D (.lst acc)) → tt ((wipe σ [j]).set j (some z)) (upd H1 D (.lst acc)) Q') ∧ ∀ Q' : VK, Q' (qv z) (upd H1 D (.lst acc)) → te ((wipe σ [j]).set j (some z)) (upd H1 D (.lst acc)) Q') ∧
  ∀ D, H1 D = none → Q (.ref D) (upd H1 D (.lst ((xs.filter pb).map qv)))
section
variable {X : Cx} {elt iter : Expr} {ifs : List Expr} {scope : Scope} {own : List (Str × Nat)} {pos yp : Pos} {y : Str} {j : Nat} {tl te : TE} {tt : TT}
theorem filt_snoc {pb : V → Bool} {qv : V → V} {xs : List V} {i : Nat} {z : V} (h : xs[i]? = some z) : ((xs.take (i + 1)).filter pb).map qv = ((xs.take i).filter pb).map qv ++ (if pb z then [qv z] else []) := by
  have e : xs.take (i + 1) = xs.take i ++ [z] := by
    rw [List.take_add_one, h]
    rfl
  rw [e, List.filter_append, List.map_append]
  congr 1
  by_cases hz : pb z = true
  · simp [List.filter, hz]
  · have hz' : pb z = false := by simpa using hz
    simp [List.filter, hz']
theorem pe_lcH (hot : L2H.HotC X) (hN : X.N.Nodup) (hi : PE X iter tl) (ok : BlkOk X.N X.env.scope scope own) (hj : X.N[j]? = some y) (hown : own.map (·.2) = [j]) (hloc : scope.names.lookup y = some .local)
    (ht : ∀ (s : Shared) (H : Hp) (B : Addr) (cl : List (Str × Addr)) (fp : List Addr), PTs (X.blk s H scope (compEnvC scope cl B X.env) fp) ifs tt) (he : ∀ (s : Shared) (H : Hp) (B : Addr) (cl : List (Str × Addr)) (fp : List Addr), PE (X.blk s H scope (compEnvC scope cl B X.env) fp) elt te)
    (hs : ∀ x, foldedSetIterable iter X.env x = pure x) : PE X (.ListComp elt [⟨.Name y yp, iter, ifs, 0⟩] scope pos) (tLcH X.K tl tt te j) := by
  refine ⟨fun pins s σ H Q I h => ?_⟩
  have frees : ∀ n ∈ scope.names, n.2 = .free → ∃ c, X.env.cells.lookup n.1 = some c := fun n hn e => (ok.free n hn e).elim (fun k => I.ok.has _ (.inl k)) fun k => I.ok.has _ (.inr k)
  obtain ⟨p, hp, hpm⟩ := hot
  rw [eval_ListComp]
  refine wpAny_comprehension_free (use := none) rfl hs (closure_ok frees) ok.kind (fun n hn e => by rw [ok.uniq n hn, e]) (thn (hi.run pins s σ H _ I h) fun v s1 hv => ?_)
  obtain ⟨x, H1, I1, r1, a, xs, pb, qv, ex, hq, hlen, hstep, hend⟩ := hv
  subst ex
  cases r1
  obtain ⟨its, rv, pl, hz⟩ := I1.list hq
  refine wpAny_pyIter_list pl.isList ?_
  obtain ⟨s2, hs2⟩ : ∃ s2 : Shared, s2 = { s1 with heap := s1.heap.push { cls := .type "list_iterator", data := .fields #[.ref a, .int 0 0] } } := ⟨_, rfl⟩
  have I2 : Inv X pins σ H1 s2 := by
    rw [hs2]
    exact I1.kept (t' := s1.toks) fun b o e => Heap.get?_push_of_some _ e
  obtain ⟨it, it2, f2, lt2, eit⟩ : ∃ it, s2.heap.IsListIter it a 0 ∧ FpOk X pins H1 it ∧ it < s2.heap.objs.size ∧ it = s1.heap.objs.size := ⟨s1.heap.objs.size, by rw [hs2]; exact ⟨_, Heap.get?_push_size _ rfl, rfl, rfl⟩, I1.fpOk (Nat.le_refl _) (I1.hok.fresh (Nat.le_refl _)), by rw [hs2]; show _ < (Heap.push _ _).objs.size; rw [Heap.size_push]; exact Nat.lt_succ_self _, rfl⟩
  rw [← eit, ← hs2]
  clear hs2 eit
  refine wpAny_newObj_type (newEnv_comp ?_) (by show 0 ≤ sizeLine; decide)
  -- the new list at B, the block's frame behind it
  obtain ⟨B, hB⟩ : ∃ B, B = s2.heap.objs.size := ⟨_, rfl⟩
  have nB : H1 B = none := I2.hok.fresh (Nat.le_of_eq hB.symm)
  obtain ⟨s3, hs3⟩ : ∃ s3 : Shared, s3 = { s2 with heap := s2.heap.push { cls := .type "list", data := .seq ([] : List Value).toArray } } := ⟨_, rfl⟩
  have I3 : Inv X pins σ (upd H1 B (.lst [])) s3 := by
    rw [hs3]
    refine I2.laid (t' := s2.toks) (fun b o e => Heap.get?_push_of_some _ e) (Nat.le_of_eq hB.symm) ⟨Nat.zero_le _, [], 0, .nil, ?_⟩
    rw [hB]
    exact Heap.get?_push_size _ rfl
  have hp3 : s3.heap = s2.heap.push { cls := .type "list", data := .seq ([] : List Value).toArray } := by rw [hs3]
  have it3 : s3.heap.IsListIter it a 0 := it2.at fun o e => by rw [hp3]; exact Heap.get?_push_of_some _ e
  have neB : it ≠ B := by rw [hB]; exact Nat.ne_of_lt lt2
  have f3 : ∀ b ∈ [it], FpOk X pins (upd H1 B (.lst [])) b ∧ b < s3.heap.objs.size := fun b hb => by
    obtain rfl : b = it := by simpa using hb
    exact ⟨⟨by rw [upd_ne neB]; exact f2.1, f2.2⟩, by rw [hp3, Heap.size_push]; exact Nat.lt_succ_of_lt lt2⟩
  have I4 := block_start I3 ok hN f3
  rw [← hB, ← hs3]
  have pt := ht s3 (upd H1 B (.lst [])) s3.heap.objs.size (cellsFrom (s3.heap.objs.size + 1) scope.names (cloFrom X.env.cells scope.names [])) [it]
  have pe := he s3 (upd H1 B (.lst [])) s3.heap.objs.size (cellsFrom (s3.heap.objs.size + 1) scope.names (cloFrom X.env.cells scope.names [])) [it]
  show codeAny _ _ (.compStart _ 0 (.ref it) (.ref B) (compEnvC scope (cellsFrom (s3.heap.objs.size + 1) scope.names (cloFrom X.env.cells scope.names [])) s3.heap.objs.size X.env)) _ _
  have kc : (compEnvC scope (cellsFrom (s3.heap.objs.size + 1) scope.names (cloFrom X.env.cells scope.names [])) s3.heap.objs.size X.env).scope.names.lookup y = some .local := lookup_relabel_local hloc
  have cL : (compEnvC scope (cellsFrom (s3.heap.objs.size + 1) scope.names (cloFrom X.env.cells scope.names [])) s3.heap.objs.size X.env).locals = s3.heap.objs.size := rfl
  generalize compEnvC scope (cellsFrom (s3.heap.objs.size + 1) scope.names (cloFrom X.env.cells scope.names [])) s3.heap.objs.size X.env = ce at I4 pt pe kc cL ⊢
  have pk : ∀ {σ' : L2.St} {H' : Hp} {s' : Shared}, Inv (X.blk s3 (upd H1 B (.lst [])) scope ce [it]) [] σ' H' s' → HotX.HotAt X.A p.1 s'.heap ∧ it ≠ p.1 := fun {σ' H' s'} J => by
    obtain ⟨c1, c2, c3, c4, _⟩ := I3.pin p (List.mem_append_left _ hpm)
    have nit : p.1 ≠ it := (f3 it (by simp)).1.2.2.2.2.2 p (List.mem_append_left _ hpm)
    have nst : p.1 ∉ frs X.stack := fun z => by
      rcases List.mem_cons.mp (I3.stkSub _ z) with e | e
      · exact c3 e
      · exact c4 e
    obtain ⟨h1, vs, h2, h3⟩ := hp
    exact ⟨⟨h1, p.2, vs, J.base.keep p.1 p.2 c1 c2 nst (by simpa using nit), h2, h3⟩, Ne.symm nit⟩
  have fpk : ∀ {σ' : L2.St} {H' : Hp} {s' : Shared}, Inv (X.blk s3 (upd H1 B (.lst [])) scope ce [it]) [] σ' H' s' → H' it = none → FpOk (X.blk s3 (upd H1 B (.lst [])) scope ce [it]) [] H' it := fun {σ' H' s'} J n =>
    ⟨n, (J.ok.exf it (by simp)).1, J.ok.exfs it (by simp), .inl (by simp), fun x c e => (J.ok.exf it (by simp)).2 x c e, fun q hq => absurd (show q ∈ ([] : List (Addr × Obj)) ++ [] from hq) (by simp)⟩
  have nItD : ∀ acc : List V, (upd H1 B (.lst acc)) it = none := fun acc => by rw [upd_ne neB]; exact f2.1
  have hqD : ∀ acc : List V, SqL X.K (upd H1 B (.lst acc)) a xs := fun acc => hq.elim (fun r => .inl (r.elim (fun e => .inl (by rw [upd_ne (ne_of_none e nB)]; exact e)) fun ⟨o, e⟩ => .inr ⟨o, by rw [upd_ne (ne_of_none e nB)]; exact e⟩)) .inr
  obtain ⟨s4, hs4⟩ : ∃ s4 : Shared, s4 = { s3 with heap := pushCells (s3.heap.push { cls := .type "dict", data := .dict #[] }) scope.names } := ⟨_, rfl⟩
  rw [← hs4] at I4 ⊢
  have it4 : s4.heap.IsListIter it a 0 := it3.at fun o e => by rw [hs4]; exact pushCells_keeps _ _ _ _ (Heap.get?_push_of_some _ e)
  rw [hown] at I4
  have walk : codeAny (model X.prog X.w) X.A (.compLoop (.ListComp elt [⟨.Name y yp, iter, ifs, 0⟩] scope pos) 0 (.ref it) (.ref B) ce) (compPost (model X.prog X.w) X.A X.xe none (EP X pins σ Q) (.ref B) s3.heap.objs.size) s4 := by
    refine compLoop_any (fun n s' => ∃ i, n = xs.length - i ∧ i ≤ xs.length ∧ Inv (X.blk s3 (upd H1 B (.lst [])) scope ce [it]) [] (wipe σ [j]) (upd H1 B (.lst (((xs.take i).filter pb).map qv))) s' ∧ s'.heap.IsListIter it a i) ?_ xs.length ⟨0, by simp, Nat.zero_le _, I4, it4⟩
    rintro n s5 ⟨i, hn, hi, I5, it5⟩
    obtain ⟨vs5, rv5, pl5, _⟩ := I5.list (hqD _)
    have hl5 := rv5.length
    obtain ⟨g0, g1, g2, g3, g4, g5⟩ := fpk I5 (nItD _)
    by_cases hlt : i < xs.length
    · have hz : xs[i]? = some xs[i] := List.getElem?_eq_getElem hlt
      generalize xs[i] = z at hz
      obtain ⟨u, hu, ru⟩ := rv5.get hz
      refine wpAny_pyNext_list_item it5 pl5.isList (x := u) (by simpa using hu) fun h6 it6 sb6 => ?_
      have I6 : Inv (X.blk s3 (upd H1 B (.lst [])) scope ce [it]) [] (wipe σ [j]) (upd H1 B (.lst (((xs.take i).filter pb).map qv))) { s5 with heap := h6 } := I5.turned (t' := s5.toks) (fun b o hb e => (sb6.2 b hb).trans e) g0 g1 g3 g4 g5
      obtain ⟨o6, eo, ec, ed⟩ := id it6
      refine go_of (s := { s5 with heap := h6 }) eo ec ed (by decide) ?_
      have I7 := I6.pinned (fp := [it]) (fun b hb => by obtain rfl : b = it := (by simpa using hb); exact fpk I6 (nItD _)) (fun b hb => by obtain rfl : b = it := (by simpa using hb); exact ⟨o6, eo, fun v q => by rw [ed] at q; cases q⟩)
      refine wpAny_assign_Name (store_ok I7 hN hj (.inl kc) ru (fun s7 I8 => ?_) (.inr kc))
      obtain ⟨st1, st2⟩ := hstep B nB z (List.mem_of_getElem? hz) (((xs.take i).filter pb).map qv)
      have done : ∀ {s' : Shared} {acc : List V}, acc = ((xs.take (i + 1)).filter pb).map qv → Inv (X.blk s3 (upd H1 B (.lst [])) scope ce [it]) ([] ++ pinsAt [it] h6) ((wipe σ [j]).set j (some z)) (upd H1 B (.lst acc)) s' →
          ∃ m, m < n ∧ ∃ i, m = xs.length - i ∧ i ≤ xs.length ∧ Inv (X.blk s3 (upd H1 B (.lst [])) scope ce [it]) [] (wipe σ [j]) (upd H1 B (.lst (((xs.take i).filter pb).map qv))) s' ∧ s'.heap.IsListIter it a i := fun {s' acc} ea J => by
        subst ea
        have ep := (J.pin (it, o6) (List.mem_append_right _ (List.mem_append_right _ (mem_pinsAt (by simp) eo)))).1
        refine ⟨xs.length - (i + 1), by omega, i + 1, rfl, hlt, (J.unpinned (pins := [])).weak (by rw [List.length_set]) (fun k v e => ?_), it6.at fun o e => by rw [eo] at e; cases e; exact ep⟩
        by_cases hk : k = j
        · rw [hk] at e
          exact absurd (wipe_some e).2 (by simp)
        · rw [List.getElem?_set_ne (Ne.symm hk)]
          exact e
      refine thnF (pt.run _ s7 _ _ (fun b H' => b = pb z ∧ H' = upd H1 B (.lst (((xs.take i).filter pb).map qv))) I8 (st1 _ ⟨rfl, rfl⟩)) fun b s9 ⟨H9, I9, eb, eH⟩ => ?_
      subst eb eH
      have fs := filt_snoc (pb := pb) (qv := qv) hz
      by_cases hpz : pb z = true
      · rw [hpz] at fs ⊢
        simp only [if_true] at fs ⊢
        refine thnF (pe.run _ s9 _ _ (fun v H' => v = qv z ∧ H' = upd H1 B (.lst (((xs.take i).filter pb).map qv))) I9 (st2 _ ⟨rfl, rfl⟩)) fun v s10 ⟨yv, H10, I10, r10, ey, eH⟩ => ?_
        subst ey eH
        refine app_ok (X := X.blk s3 (upd H1 B (.lst [])) scope ce [it]) I10 (D := B) upd_same (Nat.lt_of_le_of_lt (Nat.le_trans (by rw [List.length_map]; exact List.length_filter_le _ _) (List.length_take_le _ _)) (by rw [sizeLine_eq]; omega)) r10 fun s11 I11 => ?_
        rw [upd_upd] at I11
        exact done fs.symm I11
      · have hpz' : pb z = false := by simpa using hpz
        rw [hpz'] at fs ⊢
        simp only [Bool.false_eq_true, if_false, List.append_nil] at fs ⊢
        exact done fs.symm I9
    · have hi' : i = xs.length := by omega
      refine list_end_hot (pk I5).1 (pk I5).2 it5 pl5.isList (by simp; omega) fun h6 eb => ?_
      have I6 : Inv (X.blk s3 (upd H1 B (.lst [])) scope ce [it]) [] (wipe σ [j]) (upd H1 B (.lst (((xs.take i).filter pb).map qv))) { s5 with heap := h6 } := I5.turned (t' := s5.toks) (fun b o hb e => eb b o hb e) g0 g1 g3 g4 g5
      have I7 : Inv X pins σ (upd H1 B (.lst (((xs.take i).filter pb).map qv))) { s5 with heap := h6 } := I3.call' (ch := [it]) I6.os I6.base I6.hok I6.bare fun b hb => ⟨(f3 b hb).1.2.2.2.1, (f3 b hb).1.2.1, (f3 b hb).1.2.2.2.2.1, (f3 b hb).1.2.2.2.2.2⟩
      have nC : (upd H1 B (.lst (((xs.take i).filter pb).map qv))) s3.heap.objs.size = none := by
        have q : (upd H1 B (.lst (((xs.take i).filter pb).map qv))) ce.locals = none := I6.free
        rw [cL] at q
        exact q
      obtain ⟨m, hm, _⟩ := I6.loc
      have hm : h6.Ns ce.locals m := hm
      rw [cL] at hm
      obtain ⟨e0, e1, e2, e3, e4, e5⟩ := I3.fpOk (b := s3.heap.objs.size) (Nat.le_refl _) nC
      refine ⟨m, hm, fun h7 sb7 => ⟨.ref B, _, I7.turned (t' := s5.toks) (fun b o hb e => (sb7.2 b hb).trans e) e0 e1 e3 e4 e5, rfl, ?_⟩⟩
      rw [hi', List.take_length]
      exact hend B nB
  exact codeAny_compStart_list walk (wpAny_pyIter_listiter it4 walk)
end
end MP
end MHb
section MHc
set_option Elab.async false
set_option linter.all false
set_option maxRecDepth 100000
set_option maxHeartbeats 1000000
/-! MHc: a def called while an exception is handled; isinstance of it; the list of its classes. -/
namespace MP
open PySem PySem.Spec PyProof.Rows L2 L2H
/-- a def runs while p is handled -/
theorem run_hot {CX : CXT} {P : Program} {w : World} {K : PySem.W.Frag} {mg : Str → Option Value} {base : Heap} {k : Nat} {x qual : Str} {params : Arguments} {body : List Stmt} {scope : Scope} {dvs : List V} {kws : List (Str × V)} {f : Addr} {fd : FuncData} {N ps : List Str} {A : Around} {outer : List Env} {s : Shared} {H : Hp} {args : Args} {us : List Value} {vs : List V} {Q : VK} {E : XK} {p : Addr × Obj}
    (F : FunD K x qual params body scope dvs kws f fd) (S : FnScope N ps scope) (hr : RoomH (k + 1) A) (hpin : PinOk outer H s p) (e0 : Env0 P w K mg base A outer s H) (hb : BindsTo s fd args (ps.zip us)) (r : Vals vs us) (hl : vs.length = ps.length)
    (hbody : ∀ cdv, RoomH k (A.deeper (envOfC qual scope s.heap.objs.size f cdv)) → ∃ t, PSs (cxH CX P w K mg base N qual scope f cdv A outer s H E p) body t ∧ t { nx := fun _ H' => Q .non H', rt := Q } (L2.start N vs) H) :
    codeAny (model P w) A (.call (.ref f) args) (CR CX outer P w H s Q E) s := by
  obtain ⟨oc, od, dV, kV, doc, pm, an, cdv, ct, osl, rfl, lk, hcd, _, _⟩ := F.ex
  have kin : K.In s.heap := e0.mod.kin.keeps fun b o e => (e0.bs b o e).1
  have nolim : s.heap.NoLimit := e0.mod.nolimit.keeps fun b o e => (e0.bs b o e).1
  refine codeAny_call_function hr.depth (kin _ _ lk) rfl S.co S.gen rfl (PySem.W.codeRec_of kin hcd) (hb _ _ _ _ ?_)
  refine wpAny_newFunctionEnv_cells S.kind (fun ⟨n, v⟩ hn => (S.par n (List.of_mem_zip hn).1).elim .inl fun q => .inr ⟨q, PySem.W.cellsFrom_some _ _ _ (.inl q)⟩) fun env he s1 x1 => ?_
  subst he
  refine ⟨nolim.keeps x1.toInCall.keep, codeAny_func ?_⟩
  obtain ⟨t, ht, hq⟩ := hbody cdv (hr.deeper _)
  have I : Inv (cxH CX P w K mg base N qual scope f cdv A outer s H E p) [] (L2.start N vs) H s1 := inv_startH S hpin e0 hl r x1
  refine wpAny_mono (ht.run [] s1 (L2.start N vs) H _ I hq) (fun fl s2 hs => ?_) fun _ _ z => z
  have out : ∀ {σ' : L2.St} {H' : Hp} {v : V} {u : Value}, Inv (cxH CX P w K mg base N qual scope f cdv A outer s H E p) [] σ' H' s2 → RelV v u → Q v H' → CE outer P w H s Q u s2 := fun {σ' H' v u} J rv q => ⟨v, H', J.os, J.bare, J.base, J.hok, rv, q⟩
  match fl, hs with
  | .ret u, ⟨v, σ', H', J, rv, q⟩ => exact out J rv q
  | .next, ⟨σ', H', J, q⟩ => exact out (v := .non) (u := .none) J rfl q
  | .brk, ⟨_, _, _, q⟩ => exact q.elim
  | .cont, ⟨_, _, _, q⟩ => exact q.elim
/-- what an exception's class must say for isinstance and for its fields -/
structure IsC (K : PySem.W.Frag) (D : Addr) : Prop where
  cl : (PySem.W.clsIn K D).isSome = true
  ga : PySem.W.findIn K (.ref D) "__getattribute__" = some (some (.builtin "BaseException.__getattribute__"))
  gg : PySem.W.findIn K (.ref D) "__getattr__" = some none
  ex : PySem.W.subIn K (.ref D) (.type "BaseException") = some true
  hd : PySem.W.hasDictIn K D = true
  ac : PySem.W.findIn K (.ref D) "__class__" = some (some (.builtin "object.__class__"))
  gt : PySem.W.specialIn K (.builtin "object.__class__") "__get__" = some (some (.builtin "getset_descriptor.__get__"))
  tk : PySem.W.takesIn K (.builtin "object.__class__") = some true
  ob : PySem.W.mroIn K D (.type "object") = some true
  wh : PySem.W.findIn K (.ref D) "what" = some none
/-- isinstance(e, C), e pinned, its dict tracked -/
theorem clr_isX {X : Cx} {a D d : Addr} {oe : Obj} (C : IsC X.K D) (hz : Zc (.ref D) (some d) oe) (hf : ∃ vs, oe.data = .fields vs) (hp : (a, oe) ∈ X.pn) :
    CallR X (.builtin "isinstance") (fun xs H Q => ∃ (Ck : Addr) (b : Bool) (fs : List (Str × V)), xs = [.ref a, .ref Ck] ∧ H d = some (.xd fs) ∧ PySem.W.kitOne X.K (.ref D) (.ref Ck) = some b ∧ Q (.bl b) H) := by
  intro pins s σ H xs us Q I r h
  obtain ⟨Ck, b, fs, rfl, hd, e, q⟩ := h
  cases r with
  | cons rx rr =>
    cases rr with
    | cons rt rr =>
      cases rr
      cases rx
      cases rt
      obtain ⟨hget, _⟩ := I.pin (a, oe) (List.mem_append_left _ hp)
      obtain ⟨vs, hv⟩ := hf
      have hx : ObjOk X.prog X.w H s.heap d (.xd fs) := I.hok d _ hd
      obtain ⟨mA, hns, hr⟩ := hx
      obtain ⟨od, ho, hl⟩ := lookIn_ns hns
      have J : PySem.W.InstAt s.heap a oe D (some od) := ⟨hget, hz.1, by unfold PySem.W.notCls; rw [hv] <;> rfl, by rw [hz.2]; exact ho⟩
      exact PySem.W.kia_one (PySem.W.kitx_exc C.cl C.ga C.gg C.ex C.ac C.gt C.tk C.ob) I.kIn J e (fun z => nomatch z) fun tk => ⟨.bl b, H, I.kept (t' := tk) fun _ _ z => z, rfl, q⟩
end MP
end MHc
section MHd
set_option Elab.async false
set_option linter.all false
set_option maxRecDepth 100000
set_option maxHeartbeats 1000000
/-! MHd: the list of an error's classes by name, what an except suite makes of it. -/
namespace MP
open PySem PySem.Spec PyProof.Rows L2
/-- one line of the class list: (name, class) -/
def lineOf (v : Str) : Expr → Option (Str × Str)
  | .Tuple [.Constant (.str n) _ _, .Call (.Name f _) [.Name x _, .Name c _] [] _] _ _ => if f = ("isinstance" : Str) ∧ x = v ∧ okn c = true then some (n, c) else none
  | _ => none
def linesOf (v : Str) : List Expr → Option (List (Str × Str))
  | [] => some []
  | e :: es => match lineOf v e, linesOf v es with
    | some p, some ps => some (p :: ps)
    | _, _ => none
def Grow (H H' : Hp) : Prop := ∀ b o, H b = some o → H' b = some o
inductive Lines (H : Hp) : List (Str × Bool) → List V → Prop
  | nil : Lines H [] []
  | cons {n : Str} {k : Bool} {b : Addr} {ps : List (Str × Bool)} {zs : List V} (h : H b = some (.tup [.str n, .bl k])) (r : Lines H ps zs) : Lines H ((n, k) :: ps) (.ref b :: zs)
theorem Lines.grow {H H' : Hp} {ps : List (Str × Bool)} {zs : List V} (l : Lines H ps zs) (g : Grow H H') : Lines H' ps zs := by
  induction l with
  | nil => exact .nil
  | cons h r ih => exact .cons (g _ _ h) ih
theorem Grow.laid {H : Hp} {b : Addr} {o : HO} (h : H b = none) : Grow H (upd H b o) := fun c u e => by
  rw [upd_ne (ne_of_none e h)]
  exact e
theorem Grow.trans {H H1 H2 : Hp} (a : Grow H H1) (b : Grow H1 H2) : Grow H H2 := fun c o h => b c o (a c o h)
theorem Grow.refl (H : Hp) : Grow H H := fun _ _ h => h
section
variable {Y : Cx} {a D d : Addr} {oe : Obj} {v : Str} {r : Str → Bool}
/-- the names of the list, in the context Y -/
structure LnOk (Y : Cx) (D : Addr) (r : Str → Bool) (ls : List (Str × Str)) : Prop where
  fn : Gl Y "isinstance"
  no : Y.mg "isinstance" = none
  cl : ∀ p ∈ ls, Gl Y p.2 ∧ ∃ Ck, Y.mg p.2 = some (.ref Ck) ∧ PySem.W.kitOne Y.K (.ref D) (.ref Ck) = some (r p.2)
def tLine (a d : Addr) (n : Str) (k : Bool) : TE := fun σ H Q => σ[0]? = some (some (.ref a)) ∧ (∃ fs, H d = some (.xd fs)) ∧ ∀ b, H b = none → Q (.ref b) (upd H b (.tup [.str n, .bl k]))
def tLines (a d : Addr) (ps : List (Str × Bool)) : TA := fun σ H Q => σ[0]? = some (some (.ref a)) ∧ (∃ fs, H d = some (.xd fs)) ∧ ∀ zs H', Grow H H' → Lines H' ps zs → Q zs H'
theorem pe_line (C : IsC Y.K D) (hz : Zc (.ref D) (some d) oe) (hf : ∃ vs, oe.data = .fields vs) (hp : (a, oe) ∈ Y.pn) (hN : Y.N[0]? = some v) (hv : Vis Y.env.scope v) (hdb : (v == ("__debug__" : Str)) = false) (hcd : (v == ("__classdict__" : Str)) = false)
    {n c : Str} {j k : Nat} {p0 p1 p2 p3 p4 p5 : Pos} (hi : Gl Y "isinstance") (hm : Y.mg "isinstance" = none) (hc : Gl Y c) {Ck : Addr} (hmc : Y.mg c = some (.ref Ck)) (hk : PySem.W.kitOne Y.K (.ref D) (.ref Ck) = some (r c)) (ho : okn c = true) :
    PE Y (.Tuple [.Constant (.str n) j p0, .Call (.Name "isinstance" p1) [.Name v p2, .Name c p3] [] p4] k p5) (tLine a d n (r c)) := by
  have q := pe_tup (x1 := k) (pos := p5) (pa_cons (pe_str (X := Y) (x := n) (j := j) (pos := p0)) (pa_cons (pe_callB (p := p1) (pos := p4) (clr_isX C hz hf hp) hi hm rfl (pa_cons (pe_var (pos := p2) hN hv hdb hcd) (pa_cons (pe_glob (v := .ref Ck) (pos := p3) hc hmc rfl (okn_db ho).1) pa_nil))) pa_nil))
  refine q.imp fun σ H Q ⟨h1, ⟨fs, h2⟩, h3⟩ => ?_
  exact ⟨.ref a, h1, Ck, r c, fs, rfl, h2, hk, by rw [sizeLine_eq]; show 2 ≤ 16777216; decide, h3⟩
theorem pa_lines (C : IsC Y.K D) (hz : Zc (.ref D) (some d) oe) (hf : ∃ vs, oe.data = .fields vs) (hp : (a, oe) ∈ Y.pn) (hN : Y.N[0]? = some v) (hv : Vis Y.env.scope v) (hdb : (v == ("__debug__" : Str)) = false) (hcd : (v == ("__classdict__" : Str)) = false) :
    ∀ (es : List Expr) (ls : List (Str × Str)), linesOf v es = some ls → LnOk Y D r ls → PA Y es (tLines a d (ls.map fun p => (p.1, r p.2)))
  | [], ls, h, _ => by
    cases h
    exact pa_nil.imp fun σ H Q ⟨_, _, h⟩ => h [] H (Grow.refl H) .nil
  | e :: es, ls, h, L => by
    unfold linesOf at h
    split at h
    · rename_i p ps h1 h2
      cases h
      have L' : LnOk Y D r ps := ⟨L.fn, L.no, fun q hq => L.cl q (List.mem_cons_of_mem _ hq)⟩
      have ih := pa_lines C hz hf hp hN hv hdb hcd es ps h2 L'
      obtain ⟨hc, Ck, hmc, hk⟩ := L.cl p List.mem_cons_self
      unfold lineOf at h1
      split at h1
      · split at h1
        · rename_i h3
          obtain ⟨e1, e2, e3⟩ := h3
          subst e1 e2
          cases h1
          refine (pa_cons (pe_line C hz hf hp hN hv hdb hcd L.fn L.no hc hmc hk e3) ih (star_ns rfl)).imp fun σ H Q ⟨a1, ⟨fs, a2⟩, a3⟩ => ?_
          refine ⟨a1, ⟨fs, a2⟩, fun b hb => ⟨a1, ⟨fs, (Grow.laid hb) _ _ a2⟩, fun zs H' g l => ?_⟩⟩
          exact a3 _ _ ((Grow.laid hb).trans g) (.cons (g _ _ upd_same) l)
        · cases h1
      · cases h1
    · cases h
end
/-- what a def of the top is, its body told by f -/
theorem Lines.filt {H : Hp} {pb : V → Bool} {qv : V → V} (h1 : ∀ b n k, H b = some (.tup [.str n, .bl k]) → pb (.ref b) = k ∧ qv (.ref b) = .str n) {ps : List (Str × Bool)} {zs : List V} (l : Lines H ps zs) :
    (zs.filter pb).map qv = ((ps.filter (·.2)).map (·.1)).map V.str := by
  induction l with
  | nil => rfl
  | @cons n k b ps zs h r ih =>
    obtain ⟨e1, e2⟩ := h1 b n k h
    cases k with
    | true =>
      rw [List.filter_cons_of_pos e1, List.filter_cons_of_pos rfl, List.map_cons, List.map_cons, List.map_cons, ih, e2]
    | false =>
      rw [List.filter_cons_of_neg (by rw [e1]; decide), List.filter_cons_of_neg (by simp), ih]
theorem Lines.len {H : Hp} {ps : List (Str × Bool)} {zs : List V} (l : Lines H ps zs) : zs.length = ps.length := by
  induction l with
  | nil => rfl
  | cons h r ih => rw [List.length_cons, List.length_cons, ih]
theorem Lines.mem {H : Hp} {ps : List (Str × Bool)} {zs : List V} (l : Lines H ps zs) {z : V} (hz : z ∈ zs) : ∃ b n k, z = .ref b ∧ H b = some (.tup [.str n, .bl k]) := by
  induction l with
  | nil => cases hz
  | @cons n k b ps zs h r ih =>
    rcases List.mem_cons.mp hz with e | e
    · exact ⟨b, n, k, e, h⟩
    · exact ih e
section
variable {X : Cx} {a D d : Addr} {oe : Obj}
/-- the def of the class list, called in the suite -/
def tCls (j : Nat) (a d : Addr) (ps : List (Str × Bool)) : TE := fun σ H Q => σ[j]? = some (some (.ref a)) ∧ (∃ fs, H d = some (.xd fs)) ∧ ∀ zs H' b, Grow H H' → H' b = none → Lines H' ps zs → Q (.ref b) (upd H' b (.lst zs))
theorem pe_classes {S : Cx} {x v y qual : Str} {params : Arguments} {scope : Scope} {f : Addr} {fd : FuncData} {N : List Str} {es : List Expr} {ls : List (Str × Str)} {r : Str → Bool} {k j : Nat} {p1 p2 p3 p4 p5 : Pos}
    (F : FunD S.K x qual params [.Return (some (.List es p4)) p5] scope [] [] f fd) (Sc : FnScope N [v] scope) (hb : Binds S.K fd [v] []) (hr : L2H.RoomH (k + 1) S.A) (hpn : (a, oe) ∈ S.pn) (C : IsC S.K D) (hz : Zc (.ref D) (some d) oe) (hf : ∃ vs, oe.data = .fields vs)
    (hg : Gl S x) (hm : S.mg x = some (.ref f)) (hdx : (x == ("__debug__" : Str)) = false) (hj : S.N[j]? = some y) (hy : Vis S.env.scope y) (hdy : (y == ("__debug__" : Str)) = false) (hcy : (y == ("__classdict__" : Str)) = false)
    (hN : N[0]? = some v) (hv : Vis scope v) (hdb : (v == ("__debug__" : Str)) = false) (hcd : (v == ("__classdict__" : Str)) = false)
    (hl : linesOf v es = some ls) (hlen : ls.length ≤ 1000) (gls : ∀ n, n = ("isinstance" : Str) ∨ n ∈ ls.map (·.2) → scope.names.lookup n = some .globalImplicit) (no : S.mg "isinstance" = none) (cl : ∀ p ∈ ls, ∃ Ck, S.mg p.2 = some (.ref Ck) ∧ PySem.W.kitOne S.K (.ref D) (.ref Ck) = some (r p.2)) :
    PE S (.Call (.Name x p1) [.Name y p2] [] p3) (tCls j a d (ls.map fun p => (p.1, r p.2))) := by
  refine ⟨fun pins s σ H Q I ⟨h1, ⟨fs, h2⟩, h3⟩ => ?_⟩
  refine wpAny_Call_Name_kw (ld_glob I hg hm ?_ hdx)
  refine PySem.W.callWith_K (h₀ := S.base) I.ok.mod.kin F.kp (thn ((pa_cons (pe_var hj hy hdy hcy) pa_nil (star_ns rfl)).run p3 pins s σ H (fun vs H1 => vs = [.ref a] ∧ H1 = H) I ⟨.ref a, h1, rfl, rfl⟩) fun us s1 ⟨vs, H1, I1, r1, q1⟩ => ⟨I1.kIn, ?_⟩) (star_ns rfl) rfl
  obtain ⟨q1, q2⟩ := q1
  subst q1 q2
  have P1 := I1.pin (a, oe) (List.mem_append_left _ hpn)
  have hpin : L2H.PinOk S.stack H1 s1 (a, oe) := ⟨P1.1, P1.2.1, fun hm => (List.mem_cons.mp (I1.stkSub a hm)).elim P1.2.2.1 P1.2.2.2.1, P1.2.2.2.2⟩
  have hl1 : us.length = 1 := by rw [← r1.length]; rfl
  have bnd := hb s1 us I1.kIn (by simpa using hl1)
  rw [List.append_nil] at bnd
  refine wpAny_call (codeAny_mono (run_hot (CX := L2N.CX S.prog S.w) (E := fun _ _ _ => False) (Q := Q) F Sc hr hpin I1.env0 bnd r1 rfl fun cdv hr2 => ?_) fun r s' hq => ?_)
  · refine ⟨_, pss_one (ps_ret (pe_lst (pa_lines (Y := L2H.cxH (L2N.CX S.prog S.w) S.prog S.w S.K S.mg S.base N qual scope f cdv S.A S.stack s1 H1 (fun _ _ _ => False) (a, oe)) C hz hf (List.mem_singleton.mpr rfl) hN hv hdb hcd es ls hl ⟨gls _ (.inl rfl), no, fun p hp => ⟨gls _ (.inr (List.mem_map.mpr ⟨p, hp, rfl⟩)), cl p hp⟩⟩))), ?_⟩
    refine ⟨rfl, ⟨fs, h2⟩, fun zs H' g l => ⟨?_, fun p hp => h3 zs H' p g hp l⟩⟩
    rw [l.len, List.length_map, sizeLine_eq]
    omega
  · cases r with
    | error e =>
      obtain ⟨_, _, _, _, _, _, _, _, _, _, _, _, z⟩ := hq
      exact z.elim
    | ok fl =>
      cases fl with
      | ret u => exact I1.after hq
      | next => exact False.elim hq
      | brk => exact False.elim hq
      | cont => exact False.elim hq
end
end MP
end MHd
section MHe
set_option Elab.async false
set_option linter.all false
set_option maxRecDepth 100000
set_option maxHeartbeats 1000000
/-! MHe: the except suite that tells a refusal by name. -/
namespace MP
open PySem PySem.Spec PyProof.Rows L2
/-- what is known of a class of refusal -/
structure RefC (K : PySem.W.Frag) (mg : Str → Option Value) (ls : List (Str × Str)) (D : Addr) (wd : Str) : Prop where
  is : IsC K D
  xf : XfC K D
  no : PySem.W.findIn K (.ref D) "what" = some none
  r : ∃ r : Str → Bool, (∀ p ∈ ls, ∃ Ck, mg p.2 = some (.ref Ck) ∧ PySem.W.kitOne K (.ref D) (.ref Ck) = some (r p.2)) ∧ ((ls.map fun p => (p.1, r p.2)).filter (·.2)).map (·.1) = [wd]
  len : wd.length ≤ 1000
def lnB (H : Hp) (z : V) : Bool := match z with
  | .ref b => match H b with
    | some (.tup [.str _, .bl k]) => k
    | _ => false
  | _ => false
def lnV (H : Hp) (z : V) : V := match z with
  | .ref b => match H b with
    | some (.tup [.str n, .bl _]) => .str n
    | _ => .non
  | _ => .non
theorem ln_of {H : Hp} (b : Addr) (n : Str) (k : Bool) (h : H b = some (.tup [.str n, .bl k])) : lnB H (.ref b) = k ∧ lnV H (.ref b) = .str n := by
  show (match H b with | some (.tup [.str _, .bl k]) => k | _ => false) = k ∧ (match H b with | some (.tup [.str n, .bl _]) => V.str n | _ => .non) = .str n
  rw [h]
  exact ⟨rfl, rfl⟩
theorem join_one (a w : Str) : Txt.join a [w] = w := by
  first
  | rfl
  | simp [Txt.join]
theorem pt_one_at {Y : Cx} {lx : Str} {j j3 : Nat} {i : Int} {pd pe pf : Pos} (hN : Y.N[j]? = some lx) (hv : Vis Y.env.scope lx) (hdl : (lx == ("__debug__" : Str)) = false) (hcl : (lx == ("__classdict__" : Str)) = false) :
    PTs Y [.Subscript (.Name lx pd) (.Constant (.int i) j3 pe) pf] (fun σ H Q => tOp (rIx Y.K) (tVar j) (tC (.int i)) σ H fun x H' => ∃ k, TruV Y.K x H' k ∧ Q k H') :=
  pts_one (pt_truth (pe_ix ix_seq (pe_var hN hv hdl hcl) pe_int (fun _ _ => rfl)) (fun _ => rfl))
theorem pe_one_at {Y : Cx} {lx : Str} {j j3 : Nat} {i : Int} {pd pe pf : Pos} (hN : Y.N[j]? = some lx) (hv : Vis Y.env.scope lx) (hdl : (lx == ("__debug__" : Str)) = false) (hcl : (lx == ("__classdict__" : Str)) = false) :
    PE Y (.Subscript (.Name lx pd) (.Constant (.int i) j3 pe) pf) (tOp (rIx Y.K) (tVar j) (tC (.int i))) :=
  pe_ix ix_seq (pe_var hN hv hdl hcl) pe_int (fun _ _ => rfl)
section
variable {X : Cx} {a D dd : Addr} {oe : Obj} {pn : List (Addr × Obj)} {ls : List (Str × Str)} {wd : Str}
def tSui (a dd : Addr) (wd : Str) : TE := fun σ H Q => 2 < σ.length ∧ σ[1]? = some (some (.ref a)) ∧ ∃ fs w, H dd = some (.xd fs) ∧ fs.lookup ("what" : Str) = some w ∧ ∀ p H', Grow H H' → H' p = none → Q (.ref p) (upd H' p (.tup [.str wd, w]))
theorem pe_suite {x v y lx qual : Str} {params : Arguments} {scope bs : Scope} {f : Addr} {fd : FuncData} {N : List Str} {es : List Expr} {k kt j1 j2 j3 : Nat} {p5' p1 p2 p3 p4 p5 p6 p7 p8 p9 pa pb pc pd pe pf pg ph pi : Pos}
    (F : FunD X.K x qual params [.Return (some (.List es p4)) p5'] scope [] [] f fd) (Sc : FnScope N [v] scope) (hb : Binds X.K fd [v] []) (hr : L2H.RoomH (k + 1) (X.suite a ((a, oe) :: pn)).A) (C : RefC X.K X.mg ls D wd) (hz : L2N.Zn (.ref D) (some dd) oe) (hf : ∃ vs, oe.data = .fields vs)
    (hg : Gl X x) (hm : X.mg x = some (.ref f)) (hdx : (x == ("__debug__" : Str)) = false) (hXN : X.N.Nodup) (hj : X.N[1]? = some y) (hy : Vis X.env.scope y) (hdy : (y == ("__debug__" : Str)) = false) (hcy : (y == ("__classdict__" : Str)) = false)
    (hN : N[0]? = some v) (hv : Vis scope v) (hdb : (v == ("__debug__" : Str)) = false) (hcd : (v == ("__classdict__" : Str)) = false)
    (hl : linesOf v es = some ls) (hlen : ls.length ≤ 1000) (gls : ∀ n, n = ("isinstance" : Str) ∨ n ∈ ls.map (·.2) → scope.names.lookup n = some .globalImplicit) (no : X.mg "isinstance" = none)
    (hj2 : X.N[2]? = some lx) (hdl : (lx == ("__debug__" : Str)) = false) (hcl : (lx == ("__classdict__" : Str)) = false) (ok : BlkOk X.N X.env.scope bs [(lx, 2)]) (hloc : bs.names.lookup lx = some .local) (hline : (pb.endLine == pc.line) = true) :
    PE (X.suite a ((a, oe) :: pn)) (.Tuple [.Call (.Attribute (.Constant (.str " ") j1 pa) "join" pb) [.ListComp (.Subscript (.Name lx p6) (.Constant (.int 0) j2 p7) p8) [⟨.Name lx p9, .Call (.Name x p1) [.Name y p2] [] p3, [.Subscript (.Name lx pd) (.Constant (.int 1) j3 pe) pf], 0⟩] bs pg] [] pc, .Attribute (.Name y ph) "what" pi] kt p5) (tSui a dd wd) := by
  obtain ⟨vs, hvs⟩ := hf
  obtain ⟨r, cl, hwd⟩ := C.r
  have hot : L2H.HotC (X.suite a ((a, oe) :: pn)) := ⟨(a, oe), ⟨rfl, vs, hvs, hz.2.2 vs hvs⟩, List.mem_cons_self⟩
  have c1 := pe_classes (S := X.suite a ((a, oe) :: pn)) (p1 := p1) (p2 := p2) (p3 := p3) F Sc hb hr List.mem_cons_self C.is hz.zc ⟨vs, hvs⟩ hg hm hdx hj hy hdy hcy hN hv hdb hcd hl hlen gls no cl
  have vb : ∀ (s : Shared) (H : Hp) (B : Addr) (cl : List (Str × Addr)) (fp : List Addr), Vis ((X.suite a ((a, oe) :: pn)).blk s H bs (compEnvC bs cl B X.env) fp).env.scope lx := fun s H B cl fp => .inl (lookup_relabel_local hloc)
  have lc := pe_lcH (X := X.suite a ((a, oe) :: pn)) (tt := fun σ H Q => tOp (rIx X.K) (tVar 2) (tC (.int 1)) σ H fun x H' => ∃ k, TruV X.K x H' k ∧ Q k H') (te := tOp (rIx X.K) (tVar 2) (tC (.int 0))) (pos := pg) (yp := p9) hot hXN c1 ok hj2 rfl hloc (fun s H B cl fp => pt_one_at (Y := (X.suite a ((a, oe) :: pn)).blk s H bs (compEnvC bs cl B X.env) fp) (j3 := j3) (i := 1) (pd := pd) (pe := pe) (pf := pf) hj2 (vb s H B cl fp) hdl hcl)
    (fun s H B cl fp => pe_one_at (Y := (X.suite a ((a, oe) :: pn)).blk s H bs (compEnvC bs cl B X.env) fp) (j3 := j2) (i := 0) (pd := p6) (pe := p7) (pf := p8) hj2 (vb s H B cl fp) hdl hcl) (fun _ => rfl)
  have jn := pe_join (apos := pb) (pos := pc) (pe_str (x := " ") (j := j1) (pos := pa)) lc (by rfl) (by rfl) hline
  have xf := pe_xf (pos := pi) C.xf C.no hz.zc ⟨vs, hvs⟩ (pe_var (X := X.suite a ((a, oe) :: pn)) (pos := ph) hj hy hdy hcy) rfl
  refine (pe_tup (pa_cons jn (pa_cons xf pa_nil))).imp fun σ H Q ⟨h0, h1, fs, w, h2, h3, h4⟩ => ?_
  refine ⟨⟨_, rfl⟩, h1, ⟨fs, h2⟩, fun zs H' b g nb l => ?_⟩
  have gb : Grow H' (upd H' b (.lst zs)) := Grow.laid nb
  have lb := l.grow gb
  refine ⟨b, zs, lnB H', lnV H', rfl, .inl (.inl upd_same), by rw [l.len, List.length_map]; exact hlen, fun E nE z hz acc => ?_, fun E nE => ?_⟩
  · obtain ⟨c, n, kk, e1, e2⟩ := l.mem hz
    subst e1
    obtain ⟨e3, e4⟩ := ln_of c n kk e2
    have e5 : upd (upd H' b (.lst zs)) E (.lst acc) c = some (.tup [.str n, .bl kk]) := Grow.laid nE _ _ (gb _ _ e2)
    have e6 : ((wipe σ [2]).set 2 (some (V.ref c)))[2]? = some (some (V.ref c)) := List.getElem?_set_self (by rw [show (wipe σ [2]).length = σ.length from by simp [wipe]]; exact h0)
    refine ⟨fun Q' q => ⟨.ref c, e6, .inr (.inl ⟨c, _, 1, .bl kk, rfl, rfl, SqT.of e5, rfl, kk, rfl, by rw [← e3]; exact q⟩)⟩, fun Q' q => ⟨.ref c, e6, .inr (.inl ⟨c, _, 0, .str n, rfl, rfl, SqT.of e5, rfl, by rw [← e4]; exact q⟩)⟩⟩
  · have gE : Grow (upd H' b (.lst zs)) (upd (upd H' b (.lst zs)) E (.lst ((zs.filter (lnB H')).map (lnV H')))) := Grow.laid nE
    refine ⟨" ", E, [wd], rfl, rfl, .inl (.inl (.inl (by rw [upd_same, l.filt (fun b n k h => ln_of b n k h), hwd]))), ?_, ?_⟩
    · have := C.len
      show (wd.length + 0) + 1 * (Str.length " ") ≤ 16777216
      have e : Str.length " " = 1 := rfl
      omega
    · rw [join_one]
      have g2 := (g.trans gb).trans gE
      refine ⟨.ref a, h1, rfl, rfl, dd, fs, w, rfl, g2 _ _ h2, h3, by rw [sizeLine_eq]; show 2 ≤ 16777216; decide, fun p hp => h4 p _ g2 hp⟩
end
end MP
end MHe
section MHf
set_option Elab.async false
set_option linter.all false
set_option maxRecDepth 100000
set_option maxHeartbeats 1000000
/-! MHf: the lambda is called where it was handed to. -/
namespace MP
open PySem PySem.Spec PyProof.Rows L2
/-- a longer stretch, through a frame that is newer than what it began with -/
theorem un_shrink {fs fs' : List Addr} {H H1 H2 : Hp} {h h1 h2 : Heap} (a : Un fs [] H H1 h h1) (b : Un fs' [] H1 H2 h1 h2) (ho : ∀ c o, h.get? c = some o → c ∈ fs' → c ∈ fs) (hs : ∀ c ∈ fs, c ∈ fs') : Un fs [] H H2 h h2 where
  keep := fun c o q n hc hx => b.keep c o (a.keep c o q n hc hx) (a.free c o q n hx) (fun z => hc (ho c o q z)) hx
  slot := fun c o q n hc hx => by
    obtain ⟨l1, e1⟩ := a.slot c o q n hc hx
    obtain ⟨l2, e2⟩ := b.slot c _ e1 (a.free c o q n hx) (hs c hc) hx
    exact ⟨l2, e2⟩
  free := fun c o q n hx => by
    obtain ⟨o', e⟩ := a.there c o q hx
    exact b.free c o' e (a.free c o q n hx) hx
  there := fun c o q hx => by
    obtain ⟨o', e⟩ := a.there c o q hx
    exact b.there c o' e hx
  tups := fun c xs q => b.tups c xs (a.tups c xs q)
  frzs := fun c o u q => b.frzs c o u (a.frzs c o u q)
  tbls := fun c ps q => by
    obtain ⟨m1, e1⟩ := a.tbls c ps q
    obtain ⟨m2, e2⟩ := b.tbls c _ e1
    exact ⟨m1 ++ m2, by rw [e2, Array.append_assoc]⟩
abbrev lamQ (X : Cx) : Str := X.env.qual ++ "<lambda>"
abbrev lamO (X : Cx) (params : Arguments) (body : Expr) (scope : Scope) (pm : Value) (c' : Addr) (ctv : Value) : Obj := PySem.W.kla_obj "<lambda>" (lamQ X) params body scope (cloFrom X.env.cells scope.names []) pm c' ctv
/-- what is known of a lambda without parameters, handed on -/
structure LamAt (X : Cx) (params : Arguments) (body : Expr) (scope : Scope) (pins : List (Addr × Obj)) (σ : L2.St) (H : Hp) (s : Shared) (f c' : Addr) : Prop where
  inv : Inv X pins σ H s
  sc : LamX.LamS X.env.scope scope
  obj : ∃ pm ctv, (f, lamO X params body scope pm c' ctv) ∈ pins
  nfr : f ∉ frs X.stack
  bnd : params = ⟨[], [], none, [], [], none, []⟩
theorem bind_none {q : Str} {body : Expr} {scope : Scope} {cl : List (Str × Addr)} {pm cv ctv : Value} : bindArgs (PySem.W.kla_fn "<lambda>" q ⟨[], [], none, [], [], none, []⟩ body scope cl pm cv ctv) ⟨[], []⟩ = pure [] := by
  first
  | rfl
  | (unfold bindArgs; rfl)
section
variable {X : Cx} {T : Env1} {C : Cf} {cf : Nat → List D → Sto → Rs D} {params : Arguments} {body : Expr} {scope : Scope} {pins : List (Addr × Obj)} {σ : L2.St} {Hm H1 : Hp} {sm s1 : Shared} {f c' : Addr}
theorem pe_deed {Nh : List Str} {qh a : Str} {sh : Scope} {g : Addr} {cdg : Value} {A : Around} {outer : List Env} {Eg : XK} {pn : List (Addr × Obj)} {xe : Value → Shared → Prop} {W : WX} {lv i : Nat} {xb : Ex} {p1 p2 : Pos}
    (L : LamAt X params body scope pins σ Hm sm f c') (un0 : Un (frs X.stack) [] Hm H1 sm.heap s1.heap) (hout : ∀ b o, sm.heap.get? b = some o → b ∈ frs outer → b ∈ frs X.stack) (hsub : ∀ b ∈ frs X.stack, b ∈ frs outer)
    (tk : L2N.Takes ((cxOf (L2N.CX X.prog X.w) X.prog X.w X.K X.mg X.base Nh qh sh g cdg A outer s1 H1 Eg).tr pn xe) W) (hr : Room (lv + 2) (A.deeper (envOfC qh sh s1.heap.objs.size g cdg))) (hbody : LamIn X T C cf lv scope body xb)
    (hN : Nh[i]? = some a) (hv : Vis sh a) (hd : (a == ("__debug__" : Str)) = false) (hcd : (a == ("__classdict__" : Str)) = false) :
    PE ((cxOf (L2N.CX X.prog X.w) X.prog X.w X.K X.mg X.base Nh qh sh g cdg A outer s1 H1 Eg).tr pn xe) (.Call (.Name a p1) [] [] p2)
      (fun σZ HZ Q => σZ[i]? = some (some (.ref f)) ∧ HZ c' = some (LamX.CodeO c' (lamQ X)) ∧ tE X.K T C cf (WK (WE W σZ)) xb σ HZ Q) := by
  refine ⟨fun pinsZ sZ σZ HZ Q IZ ⟨hs, hc, ht⟩ => ?_⟩
  refine wpAny_Call_Name_kw (thn ((pe_var (pos := p1) (i := i) hN hv hd hcd).run pinsZ sZ σZ HZ (fun v H' => v = .ref f ∧ H' = HZ) IZ ⟨.ref f, hs, rfl, rfl⟩) fun u s2 ⟨v, H2, I2, r2, q2⟩ => ?_)
  obtain ⟨ev, eH⟩ := q2
  subst ev eH
  obtain rfl : u = Value.ref f := r2
  obtain ⟨pm, ctv, hp⟩ := L.obj
  have un : Un (frs X.stack) [] Hm H2 sm.heap s2.heap := un_shrink un0 I2.base hout hsub
  have PF := L.inv.pin _ (List.mem_append_right _ hp)
  have of2 : s2.heap.get? f = some (lamO X params body scope pm c' ctv) := un.keep f _ PF.1 PF.2.1 L.nfr (by simp)
  refine PySem.W.callWith_F0 ⟨_, _, _, _, of2⟩ ?_
  obtain ⟨⟨oc, vs, t, hoc, hdc, hvc⟩, _, _⟩ := I2.hok c' _ hc
  have rc : codeAny (model X.prog X.w) (A.deeper (envOfC qh sh s1.heap.objs.size g cdg)) (.call (.ref f) ⟨[], []⟩) (CR (L2N.CX X.prog X.w) (envOfC qh sh s1.heap.objs.size g cdg :: outer) X.prog X.w H2 s2 Q (WE W σZ)) s2 := by
    refine PySem.W.kla_callFunE hr.depth of2 rfl L.sc.co L.sc.gen rfl ⟨c', oc, vs, t, rfl, hoc, hdc, hvc⟩ ?_
    rw [L.bnd, bind_none]
    refine wpAny_pure (wpAny_newFunctionEnv (fun y hy => (L.sc.own y hy).2) (fun y hy => absurd hy (by simp)) (fun h₁ hns hsb => ⟨I2.nolimit.fresh _ hsb, ?_⟩) L.sc.kind)
    show codeAny _ _ (.expr body (LamX.lamEnv X scope s2.heap.objs.size f c')) _ _
    have kp : ∀ b o, s2.heap.get? b = some o → h₁.get? b = some o := fun b o e => hsb.extBut b o (Nat.ne_of_lt (Heap.lt_size e)) (Heap.get?_push_of_some _ e)
    have J0 := LamX.lam_start2 (E := WE W σZ) (f := f) (c' := c') (tk := s2.toks + ([] : List (Str × Value)).length) L.inv L.sc I2.env0 hr.hd un hns kp
    have J : Inv (lamCx X (A.deeper (envOfC qh sh s1.heap.objs.size g cdg)) (envOfC qh sh s1.heap.objs.size g cdg :: outer) s2 H2 (WE W σZ) scope f c') [] σ H2 { s2 with heap := h₁, toks := s2.toks + ([] : List (Str × Value)).length } := J0.toTry _
    refine PySem.W.kla_codeExpr (wpAny_mono ((hbody _ _ s2 H2 (WE W σZ) f c' (hr.deeper _)).run [] _ _ H2 Q J ht) (fun v s' ⟨w', H', J', rv, q⟩ => ?_) fun e s' hq => hq)
    exact ⟨w', H', J'.os, J'.bare, J'.base, J'.hok, rv, q⟩
  refine wpAny_call (codeAny_mono rc fun r s' hq => ?_)
  cases r with
  | error e => exact L2N.passAt tk σZ pinsZ H2 s2 e s' I2 hq
  | ok fl =>
    cases fl with
    | ret u => exact I2.after hq
    | next => exact False.elim hq
    | brk => exact False.elim hq
    | cont => exact False.elim hq
end
end MP
end MHf
section MHg
set_option Elab.async false
set_option linter.all false
set_option maxRecDepth 100000
set_option maxHeartbeats 1000000
/-! MHg: the def that hears. -/
namespace MP
open PySem PySem.Spec PyProof.Rows L2
theorem Rl.grow {K : PySem.W.Frag} {T : Env1} {A : List Addr} {S : Sto} {H H' : Hp} (R : Rl K T A S H) (g : Grow H H') : Rl K T A S H' ∧ Ext A H A H' := by
  have e : Ext A H A H' := ⟨⟨[], by simp⟩, fun a xs h => g _ _ h, fun a o u h => g _ _ h, fun a q h => g _ _ h⟩
  refine ⟨⟨R.nd, R.len, fun n o a h h' => ?_, R.scr.imp (fun ⟨o, z⟩ => ⟨o, g _ _ z⟩) (Or.imp id fun ⟨z, hn⟩ => ⟨g _ _ z, hn⟩), R.tab.ext g⟩, e⟩
  obtain ⟨u, hu, _⟩ := (R.obj n o a h h').some
  exact (R.obj n o a h h').keep e ((g _ _ hu).trans hu.symm)
/-- the classes of refusal, as the interpreter names them -/
def ExcsOk (K : PySem.W.Frag) (mg : Str → Option Value) (T : Env1) (C : Cf) (ls : List (Str × Str)) (CR : Addr) : Prop :=
  ∀ c CA x, T.exc[c]? = some (CA, x) → RefC K mg ls CA x ∧ C.wd c = x ∧ PySem.W.exmOne K (.ref CA) (.ref CR) = some true
/-- the def that hears, as it is called with a lambda -/
def HeardFn (P : Program) (w : World) (K : PySem.W.Frag) (mg : Str → Option Value) (base : Heap) (T : Env1) (C : Cf) (g : Addr) : Prop :=
  ∀ (X : Cx), X.prog = P → X.w = w → X.K = K → X.mg = mg → X.base = base → ∀ (cf : Nat → List D → Sto → Rs D) (params : Arguments) (body : Expr) (scope : Scope) (pins : List (Addr × Obj)) (σ : L2.St) (Hm H1 : Hp) (sm s1 : Shared) (f c' : Addr) (A : Around) (outer : List Env) (lv : Nat) (xb : Ex) (Q : VK) (E : XK) (W : WX) (σ0 : L2.St),
    LamAt X params body scope pins σ Hm sm f c' → Un (frs X.stack) [] Hm H1 sm.heap s1.heap → (∀ b o, sm.heap.get? b = some o → b ∈ frs outer → b ∈ frs X.stack) → (∀ b ∈ frs X.stack, b ∈ frs outer) → Env0 X.prog X.w X.K X.mg X.base A outer s1 H1 → Room (lv + 3) A → LamIn X T C cf lv scope body xb →
    H1 c' = some (LamX.CodeO c' (lamQ X)) → (∃ Am ρ S, Rl X.K T Am S H1 ∧ RhoR T Am H1 ρ σ ∧ PostD X.K T Am H1 (heardR C (evE C cf xb ρ S)) W σ0 Q) →
    codeAny (model X.prog X.w) A (.call (.ref g) ⟨[.ref f], []⟩) (CR (L2N.CX X.prog X.w) outer X.prog X.w H1 s1 Q E) s1
theorem heard_fn {P : Program} {w : World} {K : PySem.W.Frag} {mg : Str → Option Value} {base : Heap} {T : Env1} {C : Cf} {xh qh ah cr y xc v lx qual : Str} {hpar cpar : Arguments} {sh scope bs : Scope} {g fc CRf : Addr} {gd fd : FuncData} {Nh N : List Str} {es : List Expr} {ls : List (Str × Str)} {k kt k0 j0 j1 j2 j3 : Nat}
    {p1 p2 p3 p4 p5 p6 p7 p8 p9 pa pb pc pd pe pf pg ph pi q1 q2 q3 q4 q5 q6 q7 q8 q9 p5' : Pos}
    (G : FunD K xh qh hpar [.Try [.Return (some (.Tuple [.Constant (.str C.told) j0 q1, .Call (.Name ah q2) [] [] q3] k0 q4)) q5] [.ExceptHandler (some (.Name cr q6)) (some y) [.Return (some (.Tuple [.Call (.Attribute (.Constant (.str " ") j1 pa) "join" pb)
      [.ListComp (.Subscript (.Name lx p6) (.Constant (.int 0) j2 p7) p8) [⟨.Name lx p9, .Call (.Name xc p1) [.Name y p2] [] p3, [.Subscript (.Name lx pd) (.Constant (.int 1) j3 pe) pf], 0⟩] bs pg] [] pc, .Attribute (.Name y ph) "what" pi] kt p5)) q7] q8] [] [] q9] sh [] [] g gd)
    (Gs : FnScope Nh [ah] sh) (Gb : Binds K gd [ah] []) (h0 : Nh[0]? = some ah) (h1 : Nh[1]? = some y) (h2 : Nh[2]? = some lx) (hva : Vis sh ah) (hvy : sh.names.lookup y = some .local)
    (da : (ah == ("__debug__" : Str)) = false ∧ (ah == ("__classdict__" : Str)) = false) (dy : (y == ("__debug__" : Str)) = false ∧ (y == ("__classdict__" : Str)) = false) (dl : (lx == ("__debug__" : Str)) = false ∧ (lx == ("__classdict__" : Str)) = false) (dv : (v == ("__debug__" : Str)) = false ∧ (v == ("__classdict__" : Str)) = false)
    (hcr : sh.names.lookup cr = some .globalImplicit) (mcr : mg cr = some (.ref CRf)) (dcr : (cr == ("__debug__" : Str)) = false) (hxc : sh.names.lookup xc = some .globalImplicit) (mxc : mg xc = some (.ref fc)) (dxc : (xc == ("__debug__" : Str)) = false)
    (F : FunD K xc qual cpar [.Return (some (.List es p4)) p5'] scope [] [] fc fd) (Sc : FnScope N [v] scope) (Fb : Binds K fd [v] []) (hN : N[0]? = some v) (hv : Vis scope v) (hl : linesOf v es = some ls) (hlen : ls.length ≤ 1000)
    (gls : ∀ n, n = ("isinstance" : Str) ∨ n ∈ ls.map (·.2) → scope.names.lookup n = some .globalImplicit) (no : mg "isinstance" = none) (blk : BlkOk Nh sh bs [(lx, 2)]) (hloc : bs.names.lookup lx = some .local) (hline : (pb.endLine == pc.line) = true)
    (ex : ExcsOk K mg T C ls CRf) : HeardFn P w K mg base T C g := by
  intro X e1 e2 e3 e4 e5 cf params body lsc pins σ Hm H1 sm s1 f c' A outer lv xb Q E W σ0 L un0 hout hsub e0 hr hbody hco ⟨Am, ρ, S, R, r, post⟩
  subst e1 e2 e3 e4 e5
  obtain ⟨oc, od, dV, kV, doc, pm, an, cdv, ct, osl, rfl, lk, hcd, _, _⟩ := G.ex
  refine LamX.run_ofS (k := lv + 2) (N := Nh) (ps := [ah]) (us := [.ref f]) (vs := [.ref f]) lk hcd Gs hr e0 (Gb s1 [.ref f] (e0.mod.kin.keeps fun b o e => (e0.bs b o e).1) rfl) (.cons rfl .nil) rfl fun hr' => ?_
  let ts : Addr → Value → Option Addr → TS := fun a cls d Z σ H => ∃ D0 dd x, cls = .ref D0 ∧ d = some dd ∧ RefC X.K X.mg ls D0 x ∧ tSui a dd x σ H Z.rt
  refine ⟨_, pss_one (L2N.ps_try_as (X := cxOf (L2N.CX X.prog X.w) X.prog X.w X.K X.mg X.base Nh qh sh g cdv A outer s1 H1 E) (i := 1) (c := .ref CRf) (n := y) (Wout := fun _ _ _ _ => False) (ts := ts)
    (tb := fun W D σZ HZ => σZ[0]? = some (some (.ref f)) ∧ HZ c' = some (LamX.CodeO c' (lamQ X)) ∧ tE X.K T C cf (WK (WE W σZ)) xb σ HZ fun v H' => ∀ p, H' p = none → D.rt (.ref p) (upd H' p (.tup [.str C.told, v])))
    rfl rfl Gs.nd h1 hvy ⟨hcr, dcr, .inl mcr⟩ takes0N (fun W pn xe tk _ => ?_) (fun a oe cls d pn hz hf => ⟨fun pins s σ H Z I h => ?_⟩)), ?_⟩
  · refine (pss_one (ps_ret (pe_tup (pa_cons pe_str (pa_cons (pe_deed L un0 hout hsub tk hr' hbody h0 hva da.1 da.2) pa_nil))))).imp fun Z σZ HZ ⟨a1, a2, a3⟩ => ?_
    refine ⟨a1, a2, ?_⟩
    obtain ⟨A', ρ', S', R', r', p'⟩ := a3
    exact ⟨A', ρ', S', R', r', p'.imp fun v H' q => ⟨by rw [sizeLine_eq]; show 2 ≤ 16777216; decide, q⟩⟩
  · obtain ⟨D0, dd, x, ec, ed, rc, h⟩ := h
    subst ec ed
    exact (pss_one (ps_ret (pos := q7) (pe_suite (kt := kt) (p5 := p5) (X := cxOf (L2N.CX X.prog X.w) X.prog X.w X.K X.mg X.base Nh qh sh g cdv A outer s1 H1 E) (k := 0) F Sc Fb ⟨by have := hr'.dp; show (A.deeper (envOfC qh sh s1.heap.objs.size g cdv)).depth + 3 * 1 + 5 < _; omega, by have := hr'.un; show (A.deeper (envOfC qh sh s1.heap.objs.size g cdv)).units + 16 * 1 + 200 < _; omega⟩ rc hz hf hxc mxc dxc Gs.nd h1 (.inl hvy) dy.1 dy.2 hN hv dv.1 dv.2 hl hlen gls no h2 dl.1 dl.2 blk hloc hline))).run pins s σ H Z I h
  · refine ⟨rfl, hco, Am, ρ, S, R, r, ?_⟩
    cases he : evE C cf xb ρ S with
    | ok d S' =>
      rw [he] at post
      intro v H2 A2 e2 R2 r2 p hp
      have post : OkD X.K T Am H1 (.tup [.str C.told, d]) S' Q := post
      exact OkD.tup (ds := [.str C.told, d]) R2 (.cons (.str _) (.cons r2 .nil)) (post.ext e2) p hp
    | exc c x S' =>
      rw [he] at post
      have post : OkD X.K T Am H1 (.tup [.str (C.wd c), x]) S' Q := post
      intro cv dx H2 A2 e2 R2 xr
      obtain ⟨CA, wd, q, fs, v, hT, ec, ed, hq, hw, rv, _⟩ := xr
      obtain ⟨rc, hwd, hexm⟩ := ex c CA wd hT
      refine ⟨true, by rw [ec]; exact hexm, fun _ a _ => ⟨CA, q, wd, ec, ed, rc, ?_, ?_, fs, v, hq, hw, fun p H3 g3 hp => ?_⟩, fun z => nomatch z⟩
      · have hl3 : 2 < Nh.length := (List.getElem?_eq_some_iff.mp h2).1
        have : (L2.start Nh [V.ref f]).length = Nh.length := by
          unfold L2.start
          rw [List.length_append, List.length_map, List.length_replicate]
          show 1 + (Nh.length - 1) = _
          omega
        rw [List.length_set, this]
        exact hl3
      · refine List.getElem?_set_self ?_
        have hl3 : 1 < Nh.length := (List.getElem?_eq_some_iff.mp h1).1
        unfold L2.start
        rw [List.length_append, List.length_map, List.length_replicate]
        show 1 < 1 + (Nh.length - 1)
        omega
      · obtain ⟨R3, e3⟩ := R2.grow g3
        rw [hwd] at post
        exact OkD.tup (ds := [.str wd, x]) R3 (.cons (.str _) (.cons (rv.ext e3) .nil)) (post.ext (e2.trans e3)) p hp
    | bad =>
      rw [he] at post
      exact post.elim
end MP
end MHg
section MHh
set_option Elab.async false
set_option linter.all false
set_option maxRecDepth 100000
set_option maxHeartbeats 1000000
/-! MHh: what hears, tells, refuses; called with a lambda. -/
namespace MP
open PySem PySem.Spec PyProof.Rows L2
/-- the maker's code object and its table -/
structure LamT (base : Heap) (mg : Str → Option Value) (T : Env1) (cdv : Value) (qual : Str) : Prop where
  ex : ∃ c P, cdv = .ref c ∧ LamX.TabB base mg c P ∧ (P, qual ++ "<lambda>") ∈ T.tabs ∧ ∀ p ∈ T.tabs, p.1 = P → p.2 = qual ++ "<lambda>"
theorem Rl.lam {K : PySem.W.Frag} {T : Env1} {A : List Addr} {S : Sto} {H H' : Hp} (R : Rl K T A S H) (g : LamX.ExtN H H') (t : LamX.Tabs T.tabs H') : Rl K T A S H' ∧ Ext A H A H' := by
  have e : Ext A H A H' := ⟨⟨[], by simp⟩, fun a xs h => g _ _ h fun _ z => (nomatch z), fun a o u h => g _ _ h fun _ z => (nomatch z), fun a q h => g _ _ h LamX.codeO_ne⟩
  refine ⟨⟨R.nd, R.len, fun n o a h h' => ?_, R.scr.imp (fun ⟨o, z⟩ => ⟨o, g _ _ z fun _ z => (nomatch z)⟩) (Or.imp id fun ⟨z, hn⟩ => ⟨g _ _ z fun _ z => (nomatch z), hn⟩), t⟩, e⟩
  obtain ⟨u, hu, _, _, _, ht, _⟩ := (R.obj n o a h h').some
  exact (R.obj n o a h h').keep e ((g _ _ hu ht).trans hu.symm)
section
variable {X : Cx} {T : Env1} {C : Cf} {cf : Nat → List D → Sto → Rs D} {params : Arguments} {body : Expr} {scope : Scope} {pins : List (Addr × Obj)} {σ : L2.St} {H : Hp} {s : Shared} {κ : Kx}
/-- the lambda is made -/
theorem lam_arg {A : List Addr} {S : Sto} {lpos : Pos} {Q E : Value → Shared → Prop} (hs : X.stack = X.env :: X.outer) (hf : X.env.frame = some X.env.locals) (hn : X.env.scope.names = κ.names) (hk : X.env.scope.kind = .function) (LT : LamT X.base X.mg T X.env.code X.env.qual) (lo : lamOk κ params scope = true)
    (I : Inv X pins σ H s) (R : Rl X.K T A S H)
    (h : ∀ (f c' : Addr) (o : Obj) (H1 : Hp) (s1 : Shared), LamAt X params body scope (pins ++ [(f, o)]) σ H1 s1 f c' → Rl X.K T A S H1 → Ext A H A H1 → H1 c' = some (LamX.CodeO c' (lamQ X)) → Q (.ref f) s1) :
    wpAny (model X.prog X.w) X.A (eval (.Lambda params body scope lpos) X.env) Q E s := by
  obtain ⟨c, P, hc, TB, hm, hu⟩ := LT.ex
  unfold lamOk at lo
  simp only [Bool.and_eq_true] at lo
  obtain ⟨⟨_, l2⟩, l3⟩ := lo
  have Ls : LamX.LamS X.env.scope scope := by
    have q := LamX.lamS_by (show LamX.lamSB (scp κ) scope = true from l2)
    exact ⟨q.kind, q.co, q.gen, q.own, fun y hy e => by rw [hn]; exact q.free y hy e⟩
  have hp : params = ⟨[], [], none, [], [], none, []⟩ := by
    split at l3
    · rfl
    · cases l3
  refine LamX.lam_make2 I TB hc hm hu R.tab (by rw [hp]; rfl) (Ls.has I.ok) fun f c' pm ctv H1 s1 I1 eN T1 hg hfn hfr hco => ?_
  obtain ⟨R1, e1⟩ := R.lam eN T1
  have nf : f ≠ X.env.locals ∧ f ∉ X.fs := by
    rw [hs] at hfr
    have := hfr
    refine ⟨fun z => hfr (List.mem_filterMap.mpr ⟨X.env, List.mem_cons_self, by rw [hf, z]⟩), fun z => ?_⟩
    obtain ⟨e, he, q⟩ := List.mem_filterMap.mp z
    exact hfr (List.mem_filterMap.mpr ⟨e, List.mem_cons_of_mem _ he, q⟩)
  refine h f c' _ H1 s1 ⟨I1.pins_of fun p hp => ?_, Ls, ⟨pm, ctv, List.mem_append_right _ (List.mem_singleton.mpr rfl)⟩, hfr, hp⟩ R1 e1 hco
  rcases List.mem_append.mp hp with z | z
  · exact I1.pin p (List.mem_append_right _ z)
  · rw [List.mem_singleton] at z
    subst z
    exact ⟨hg, hfn, nf.1, nf.2, fun v z => nomatch z⟩
theorem drop_pin {p : Addr × Obj} {Q : VK} {u : Value} (h : EP X (pins ++ [p]) σ Q u s) : EP X pins σ Q u s := by
  obtain ⟨v, H', I, r, q⟩ := h
  exact ⟨v, H', I.unpinned, r, q⟩
end
section
variable {P : Program} {w : World} {K : PySem.W.Frag} {mg : Str → Option Value} {base : Heap} {T : Env1} {C : Cf} {cf : Nat → List D → Sto → Rs D}
/-- a def that asks the one that hears, and compares -/
def JudgeFn (P : Program) (w : World) (K : PySem.W.Frag) (mg : Str → Option Value) (base : Heap) (T : Env1) (C : Cf) (cf : Nat → List D → Sto → Rs D) (lv fi : Nat) (tp : List V → List V) (n : Nat) (g : Addr) : Prop :=
  ∀ (X : Cx), X.prog = P → X.w = w → X.K = K → X.mg = mg → X.base = base → ∀ (params : Arguments) (body : Expr) (scope : Scope) (pins : List (Addr × Obj)) (σ : L2.St) (H : Hp) (s : Shared) (f c' : Addr) (xb : Ex) (Q : VK) (E : XK) (us : List Value) (vs : List V),
    LamAt X params body scope pins σ H s f c' → Room (lv + 4) X.A → LamIn X T C cf lv scope body xb → H c' = some (LamX.CodeO c' (lamQ X)) → Vals vs us → vs.length = n →
    (∃ A ρ S dt, Rl X.K T A S H ∧ RhoR T A H ρ σ ∧ Reps T A H dt (tp vs) ∧ PostD X.K T A H ((heardR C (evE C cf xb ρ S)).bind fun x S' => cf fi [x, .tup dt] S') (WK E) [] Q) →
    codeAny (model X.prog X.w) X.A (.call (.ref g) ⟨.ref f :: us, []⟩) (CR (L2N.CX X.prog X.w) X.stack X.prog X.w H s Q E) s
theorem judge_fn {x qual ah xh xs : Str} {par : Arguments} {sh : Scope} {g gh gs : Addr} {gd fs : FuncData} {Nt ps sp : List Str} {tupE : Expr} {tp : List V → List V} {lv fi n : Nat} {p1 p2 p3 p4 p5 p6 : Pos}
    (G : FunD K x qual par [.Return (some (.Call (.Name xs p1) [.Call (.Name xh p2) [.Name ah p3] [] p4, tupE] [] p5)) p6] sh [] [] g gd) (Gs : FnScope Nt (ah :: ps) sh) (Gb : Binds K gd (ah :: ps) []) (hn : ps.length = n) (h0 : Nt[0]? = some ah) (hva : Vis sh ah) (da : (ah == ("__debug__" : Str)) = false ∧ (ah == ("__classdict__" : Str)) = false)
    (hxh : sh.names.lookup xh = some .globalImplicit) (mxh : mg xh = some (.ref gh)) (dxh : (xh == ("__debug__" : Str)) = false) (kh : PySem.W.keepIn K (.ref gh) = true) (HF : HeardFn P w K mg base T C gh)
    (hxs : sh.names.lookup xs = some .globalImplicit) (mxs : mg xs = some (.ref gs)) (dxs : (xs == ("__debug__" : Str)) = false) (ks : PySem.W.keepIn K (.ref gs) = true) (Fs : FnOk P w K mg base (L2N.CX P w) lv gs fs sp (spD K T cf fi)) (bs : Binds K fs sp []) (ht : nst tupE = true)
    (hT : ∀ (Z : Cx) (f : Addr) (vs : List V), vs.length = n → Z.N = Nt → Z.env.scope = sh → PE Z tupE (fun σ H Q => σ = L2.start Nt (.ref f :: vs) ∧ ∀ p, H p = none → Q (.ref p) (upd H p (.tup (tp vs))))) :
    JudgeFn P w K mg base T C cf lv fi tp n g := by
  intro X e1 e2 e3 e4 e5 params body scope pins σ H s f c' xb Q E us vs L hr hbody hco rv hl ⟨A, ρ, S, dt, R, r, rd, post⟩
  subst e1 e2 e3 e4 e5
  obtain ⟨oc, od, dV, kV, doc, pm, an, cdv, ct, osl, rfl, lk, hcd, _, _⟩ := G.ex
  have I := L.inv
  have hul : (Value.ref f :: us).length = (ah :: ps).length := by rw [List.length_cons, List.length_cons, ← rv.length, hl, hn]
  have bnd := Gb s (.ref f :: us) I.kIn (by rw [List.append_nil]; exact hul)
  rw [List.append_nil] at bnd
  refine LamX.run_ofS (k := lv + 3) (N := Nt) (ps := ah :: ps) (us := .ref f :: us) (vs := .ref f :: vs) lk hcd Gs hr I.env0 bnd (.cons rfl rv) (by rw [List.length_cons, List.length_cons, hl, hn]) fun hr' => ?_
  let Z := cxOf (L2N.CX X.prog X.w) X.prog X.w X.K X.mg X.base Nt qual sh g cdv X.A X.stack s H E
  have hearing : PE Z (.Call (.Name xh p2) [.Name ah p3] [] p4) (fun σZ HZ Q' => σZ[0]? = some (some (.ref f)) ∧ HZ c' = some (LamX.CodeO c' (lamQ X)) ∧ ∃ A ρ S, Rl X.K T A S HZ ∧ RhoR T A HZ ρ σ ∧ PostD X.K T A HZ (heardR C (evE C cf xb ρ S)) (WK E) [] Q') := by
    refine ⟨fun pz sz σz Hz Qz Iz ⟨a1, a2, a3⟩ => ?_⟩
    refine wpAny_Call_Name_kw (ld_glob Iz hxh mxh ?_ dxh)
    refine PySem.W.callWith_K (h₀ := X.base) I.ok.mod.kin kh (thn ((pa_cons (pe_var (X := Z) h0 hva da.1 da.2) pa_nil (star_ns rfl)).run p4 pz sz σz Hz (fun vs H1 => vs = [.ref f] ∧ H1 = Hz) Iz ⟨.ref f, a1, rfl, rfl⟩) fun us1 s1 ⟨vs1, H1, I1, r1, q1⟩ => ⟨I1.kIn, ?_⟩) (star_ns rfl) rfl
    obtain ⟨q1, q2⟩ := q1
    subst q1 q2
    cases r1 with
    | cons ra rr =>
      cases rr
      cases ra
      refine wpAny_call (codeAny_mono (HF X rfl rfl rfl rfl rfl cf params body scope pins σ H H1 s s1 f c' Z.A Z.stack lv xb Qz E (WK E) [] L I1.base (fun b o e hb => ?_) (fun b hb => List.mem_filterMap.mpr (by obtain ⟨e, he, q⟩ := List.mem_filterMap.mp hb; exact ⟨e, List.mem_cons_of_mem _ he, q⟩)) I1.env0 hr' hbody a2 a3) fun rr s' hq => ?_)
      · obtain ⟨e1, he, q⟩ := List.mem_filterMap.mp hb
        rcases List.mem_cons.mp he with z | z
        · subst z
          have q : some s.heap.objs.size = some b := q
          cases q
          exact absurd (Heap.lt_size e) (Nat.lt_irrefl _)
        · exact List.mem_filterMap.mpr ⟨e1, z, q⟩
      · cases rr with
        | error e => exact L2N.passes_call (X := Z) (L2N.takes_of (E := E) rfl rfl rfl rfl) (fun _ _ _ _ h => h) pz σz H1 s1 e s' I1 hq
        | ok fl =>
          cases fl with
          | ret u => exact I1.after hq
          | next => exact False.elim hq
          | brk => exact False.elim hq
          | cont => exact False.elim hq
  have hx : Passes (L2N.CX Z.prog Z.w) Z E := L2N.passes_call (L2N.takes_of (E := E) rfl rfl rfl rfl) fun _ _ _ _ h => h
  have two : (Expr.Call (.Name xh p2) [.Name ah p3] [] p4 :: [tupE]).all nst = true := by
    show (true && (nst tupE && true)) = true
    rw [ht]
    rfl
  have call := pe_call (X := Z) (x := xs) (p := p1) (pos := p5) (dvs := []) (Fs.mono (Nat.le_refl _)) (hr'.mono (by omega)) hxs mxs ks bs .nil hx (pa_cons hearing (pa_cons (hT Z f vs hl rfl rfl) pa_nil (star_ns ht))) dxs (star_ns rfl) (plain_ns two)
  refine ⟨_, pss_one (ps_ret call), ?_⟩
  refine ⟨rfl, hco, A, ρ, S, R, r, ?_⟩
  cases hh : heardR C (evE C cf xb ρ S) with
  | ok d S1 =>
    rw [hh] at post
    intro v H2 A2 e2 R2 r2
    refine ⟨rfl, fun p hp => ?_⟩
    obtain ⟨R3, e3⟩ := R2.laid0 (o := .tup (tp vs)) hp
    have post : PostD X.K T A H (cf fi [d, .tup dt] S1) (WK E) [] Q := post
    exact ⟨A2, S1, [d, .tup dt], R3, .cons (r2.ext e3) (.cons (.tup upd_same ((rd.ext e2).ext e3)) .nil), (post.ext (e2.trans e3)).wk⟩
  | exc c x S1 =>
    unfold heardR at hh
    split at hh <;> cases hh
  | bad =>
    rw [hh] at post
    exact post.elim
end
end MP
end MHh
section MHi
set_option Elab.async false
set_option linter.all false
set_option maxRecDepth 100000
set_option maxHeartbeats 1000000
/-! MHi: HeardOk of each def. -/
namespace MP
open PySem PySem.Spec PyProof.Rows L2
section
variable {X : Cx} {T : Env1} {C : Cf} {cf : Nat → List D → Sto → Rs D} {κ : Kx} {lv : Nat}
/-- what the context must be for a lambda to be made and handed on -/
structure MkOk (X : Cx) (T : Env1) (κ : Kx) (lv : Nat) : Prop where
  hs : X.stack = X.env :: X.outer
  hf : X.env.frame = some X.env.locals
  hn : X.env.scope.names = κ.names
  hk : X.env.scope.kind = .function
  lt : LamT X.base X.mg T X.env.code X.env.qual
  hr : Room (lv + 4) X.A
theorem dpe_heard (M : MkOk X T κ lv) {x : Str} {g : Addr} {params : Arguments} {body : Expr} {scope : Scope} {xb : Ex} {p lpos pos : Pos} {E : XK} (tk : L2N.Takes X (WK E)) (hg : Gl X x) (hm : X.mg x = some (.ref g)) (hdb : (x == ("__debug__" : Str)) = false) (kg : PySem.W.keepIn X.K (.ref g) = true)
    (HF : HeardFn X.prog X.w X.K X.mg X.base T C g) (lo : lamOk κ params scope = true) (hb : LamIn X T C cf lv scope body xb) : PE X (.Call (.Name x p) [.Lambda params body scope lpos] [] pos) (tE X.K T C cf (WK E) (.heard xb)) := by
  refine ⟨fun pins s σ H Q I ⟨A, ρ, S, R, r, post⟩ => ?_⟩
  simp only [evE] at post
  refine wpAny_Call_Name_kw (ld_glob I hg hm ?_ hdb)
  refine PySem.W.callWith_K (h₀ := X.base) I.ok.mod.kin kg ?_ (by rfl) (by rfl)
  show wpAny _ _ (spliced ((false, eval (.Lambda params body scope lpos) X.env) :: backTo pos (starEach [] X.env))) _ _ s
  refine Calls.spliced_cons (lam_arg M.hs M.hf M.hn M.hk M.lt lo I R fun f c' o H1 s1 L R1 e1 hco => ?_)
  refine Calls.spliced_nil ⟨L.inv.kIn, ?_⟩
  refine wpAny_call (codeAny_mono (HF X rfl rfl rfl rfl rfl cf params body scope _ σ H1 H1 s1 s1 f c' X.A X.stack lv xb Q E (WK E) σ L Un.refl (fun _ _ _ h => h) (fun _ h => h) L.inv.env0 (M.hr.mono (by omega)) hb hco ⟨A, ρ, S, R1, r.ext e1, post.ext e1⟩) fun rr s' hq => ?_)
  cases rr with
  | error e => exact L2N.passes_call tk (fun _ _ _ _ h => h) _ σ H1 s1 e s' L.inv hq
  | ok fl =>
    cases fl with
    | ret u => exact drop_pin (L.inv.after hq)
    | next => exact False.elim hq
    | brk => exact False.elim hq
    | cont => exact False.elim hq
/-- one that is handed the lambda and n values more -/
theorem judged (M : MkOk X T κ lv) {x : Str} {g : Addr} {params : Arguments} {body : Expr} {scope : Scope} {xb : Ex} {es : List Expr} {p lpos pos : Pos} {E : XK} {fi n : Nat} {tp : List V → List V} {ta : TA} (tk : L2N.Takes X (WK E)) (hg : Gl X x) (hm : X.mg x = some (.ref g)) (hdb : (x == ("__debug__" : Str)) = false) (kg : PySem.W.keepIn X.K (.ref g) = true)
    (JF : JudgeFn X.prog X.w X.K X.mg X.base T C cf lv fi tp n g) (lo : lamOk κ params scope = true) (hb : LamIn X T C cf lv scope body xb) (ha : PA X es ta) (hns : es.all nst = true) :
    PE X (.Call (.Name x p) (.Lambda params body scope lpos :: es) [] pos) (fun σ H Q => ∃ A ρ S, Rl X.K T A S H ∧ RhoR T A H ρ σ ∧ ∀ H1, Ext A H A H1 → Rl X.K T A S H1 → ta σ H1 fun vs H2 => vs.length = n ∧ ∃ A2 S2 dt, Ext A H1 A2 H2 ∧ Rl X.K T A2 S2 H2 ∧ Reps T A2 H2 dt (tp vs) ∧
      PostD X.K T A2 H2 ((heardR C (evE C cf xb ρ S2)).bind fun x S' => cf fi [x, .tup dt] S') (WK E) [] Q) := by
  refine ⟨fun pins s σ H Q I ⟨A, ρ, S, R, r, post⟩ => ?_⟩
  refine wpAny_Call_Name_kw (ld_glob I hg hm ?_ hdb)
  refine PySem.W.callWith_K (h₀ := X.base) I.ok.mod.kin kg ?_ (by rfl) (plain_ns (es := .Lambda params body scope lpos :: es) (by show (true && es.all nst) = true; rw [hns]; rfl))
  show wpAny _ _ (spliced ((false, eval (.Lambda params body scope lpos) X.env) :: backTo pos (starEach es X.env))) _ _ s
  refine Calls.spliced_cons (lam_arg M.hs M.hf M.hn M.hk M.lt lo I R fun f c' o H1 s1 L R1 e1 hco => ?_)
  refine thn (ha.run pos _ s1 σ H1 _ L.inv (post H1 e1 R1)) fun us s2 ⟨vs, H2, I2, rv, hl, A2, S2, dt, e2, R2, rd, post2⟩ => ⟨I2.kIn, ?_⟩
  have L2 : LamAt X params body scope (pins ++ [(f, o)]) σ H2 s2 f c' := ⟨I2, L.sc, L.obj, L.nfr, L.bnd⟩
  refine wpAny_call (codeAny_mono (JF X rfl rfl rfl rfl rfl params body scope _ σ H2 s2 f c' xb Q E us vs L2 M.hr hb (e2.cod _ _ hco) rv hl ⟨A2, ρ, S2, dt, R2, (r.ext e1).ext e2, rd, post2⟩) fun rr s' hq => ?_)
  cases rr with
  | error e => exact L2N.passes_call tk (fun _ _ _ _ h => h) _ σ H2 s2 e s' I2 hq
  | ok fl =>
    cases fl with
    | ret u => exact drop_pin (I2.after hq)
    | next => exact False.elim hq
    | brk => exact False.elim hq
    | cont => exact False.elim hq
abbrev tpT (vs : List V) : List V := .str "told" :: vs
abbrev tpR (vs : List V) : List V := vs
theorem heard_ok (M : MkOk X T κ lv)
    (hh : ∀ x, κ.gl.lookup x = some .heard → (x == ("__debug__" : Str)) = false ∧ ∃ g, X.mg x = some (.ref g) ∧ PySem.W.keepIn X.K (.ref g) = true ∧ HeardFn X.prog X.w X.K X.mg X.base T C g)
    (ht : ∀ x fi, κ.gl.lookup x = some (.tells fi) → (x == ("__debug__" : Str)) = false ∧ ∃ g, X.mg x = some (.ref g) ∧ PySem.W.keepIn X.K (.ref g) = true ∧ JudgeFn X.prog X.w X.K X.mg X.base T C cf lv fi tpT 1 g)
    (hr : ∀ x fi, κ.gl.lookup x = some (.refuses fi) → (x == ("__debug__" : Str)) = false ∧ ∃ g, X.mg x = some (.ref g) ∧ PySem.W.keepIn X.K (.ref g) = true ∧ JudgeFn X.prog X.w X.K X.mg X.base T C cf lv fi tpR 2 g) : HeardOk X T C cf κ lv where
  heard := fun E x params body scope xb p lpos pos tk hl hg lo hb => by
    obtain ⟨hdb, g, hm, kg, HF⟩ := hh x hl
    exact dpe_heard M tk hg hm hdb kg HF lo hb
  tells := fun E x fi params body a scope xb xa p lpos pos tk hl hg lo hn hb ha => by
    obtain ⟨hdb, g, hm, kg, JF⟩ := ht x fi hl
    refine (judged M tk hg hm hdb kg JF lo hb (pa_cons ha pa_nil (star_ns hn)) (by show (nst a && true) = true; rw [hn]; rfl)).imp fun σ H Q ⟨A, ρ, S, R, r, q⟩ => ?_
    simp only [evE] at q
    refine ⟨A, ρ, S, R, r, fun H1 e1 R1 => ?_⟩
    refine stepE R1 (r.ext e1) (q.ext e1) fun v H2 A2 S2 d e2 R2 r2 rd q => ?_
    exact ⟨rfl, A2, S2, [.str "told", d], e2, R2, .cons (.str _) (.cons rd .nil), q⟩
  refuses := fun E x fi params body a b scope xb xa xc p lpos pos tk hl hg lo hn hn2 hb ha hc => by
    obtain ⟨hdb, g, hm, kg, JF⟩ := hr x fi hl
    refine (judged M tk hg hm hdb kg JF lo hb (pa_cons ha (pa_cons hc pa_nil (star_ns hn2)) (star_ns hn)) (by show (nst a && (nst b && true)) = true; rw [hn, hn2]; rfl)).imp fun σ H Q ⟨A, ρ, S, R, r, q⟩ => ?_
    simp only [evE] at q
    refine ⟨A, ρ, S, R, r, fun H1 e1 R1 => ?_⟩
    refine stepE R1 (r.ext e1) (q.ext e1) fun v H2 A2 S2 d e2 R2 r2 rd q => ?_
    refine stepE R2 r2 q fun v2 H3 A3 S3 d2 e3 R3 r3 rd2 q => ?_
    exact ⟨rfl, A3, S3, [d, d2], e2.trans e3, R3, .cons (rd.ext e3) (.cons rd2 .nil), q⟩
end
end MP
end MHi
section HDa
set_option Elab.async false
set_option linter.all false
set_option maxRecDepth 100000
set_option maxHeartbeats 0
/-! HDa: what a top lays, told by a list of its statements' kinds; the run cut into pieces, each piece's end told. -/
namespace HD
open PySem PySem.W PySem.Calls PyProof.Rows HandSHeadRun
/-! ### values and objects -/
def sv (x : Str) (t : Nat) : Value := .str x t
def iv (n : Int) (t : Nat) : Value := .int n t
def tupO (vs : List Value) : Obj := ⟨.type "tuple", none, .seq ⟨vs⟩ 0, ⟨[]⟩⟩
def fldO (c : Value) (vs : List Value) : Obj := ⟨c, none, .fields ⟨vs⟩, ⟨[]⟩⟩
def bmO (f : String) (x : Value) : Obj := fldO (.type "builtin_function_or_method") [.builtin f, x]
def en (P : Params) (x : Str) (t : Nat) (v : Value) : DictEntry := ⟨PyData.keyHash P x, .str x t, v⟩
def dctO (es : List DictEntry) (n : Nat) : Obj := ⟨.type "dict", none, .dict ⟨es⟩ n, ⟨[]⟩⟩
def frmO (c d : Addr) (md : Value) : Obj := ⟨.type "frame", none, .plain, ⟨[some (.ref c), some (.ref 3), some (.ref d), none, some md, none, some (.ref 0)]⟩⟩
def file : Str := "/claim/cut.py"
/-- a code object: its tokens from t on, then t2 and t2 + 1; T0: the file's token -/
def codeO (T0 : Nat) (name qual : Str) (t line : Nat) (argc flags : Nat) (fv : Addr) (isf : Bool) (tab : Addr) (lo lo2 fd : Value) (t2 : Nat) : Obj :=
  fldO (.type "code") [sv name t, sv qual (t + 1), sv file (t + 2), iv line 0, iv argc 0, iv 0 0, iv 0 0, iv flags 0, .ref fv, .bool isf, iv T0 0, .ref tab, .none, lo, lo2, fd, iv t2 0, iv line 0, sv file (t2 + 1)]
def txts : List Str → Nat → List Value
  | [], _ => []
  | x :: r, t => sv x t :: txts r (t + 1)
def isSm {α : Type} : Option α → Nat
  | none => 0
  | some _ => 1
/-- the names of a def's table: the locals, the cells -/
abbrev Lo : Type := List Str × List Str
def lenO : Option Lo → Nat
  | none => 0
  | some l => l.1.length + l.2.length
/-- what a def is -/
def dName : Stmt → Str
  | .FunctionDef n .. => n
  | .ClassDef n .. => n
  | _ => file
def dLine : Stmt → Nat
  | .FunctionDef (pos := p) .. => p.line
  | .ClassDef (pos := p) .. => p.line
  | _ => 0
def dCol : Stmt → Nat
  | .FunctionDef (pos := p) .. => p.col
  | .ClassDef (pos := p) .. => p.col
  | _ => 0
def dArgs : Stmt → Arguments
  | .FunctionDef _ a .. => a
  | _ => ⟨[], [], none, [], [], none, []⟩
def dBody : Stmt → List Stmt
  | .FunctionDef _ _ b .. => b
  | .ClassDef _ _ _ b .. => b
  | _ => []
def dScope : Stmt → Scope
  | .FunctionDef _ _ _ _ _ _ s .. => s
  | _ => ⟨.module, [], false, false, []⟩
/-- a def's parts: where its code object and its function object lie, the tokens behind it, what it lays -/
structure FnL where
  code : Addr
  fn : Addr
  t : Nat
  os : List Obj
/-- n, t: the next address and token; dv: the default of the last parameter; fr: the cell of __class__; lo: the names of its table -/
def fnL (T0 n t : Nat) (qual : Str) (st : Stmt) (dv : Option Str) (fr : Option Addr) (lo : Option Lo) (md : Value) : FnL :=
  let n1 := n + isSm dv
  let n2 := n1 + isSm fr
  let n3 := n2 + 2
  let n4 := n3 + 2 * isSm lo
  let t1 := t + isSm dv
  let t3 := t1 + 3 + isSm fr
  let t4 := t3 + lenO lo
  let nm := dName st
  ⟨n4 + 1, n4 + 2, t4 + 2,
    (match dv with
      | some d => [tupO [sv d t]]
      | none => []) ++
    (match fr with
      | some c => [tupO [.ref c]]
      | none => []) ++
    [tupO (match fr with
      | some _ => [sv "__class__" (t1 + 3)]
      | none => []), fldO .none []] ++
    (match lo with
      | some l => [tupO (txts l.1 t3), tupO (txts l.2 (t3 + l.1.length))]
      | none => []) ++
    [⟨.none, none, .func ⟨nm, qual, dArgs st, .stmts (dBody st), dScope st, 0, [], .none, .none, .none, .none, none, .none, .none, 0⟩, ⟨[]⟩⟩,
     codeO T0 nm qual t1 (dLine st) (dArgs st).args.length 3 n2 true (n2 + 1) (match lo with
        | some _ => .ref n3
        | none => .none) (match lo with
        | some _ => .ref (n3 + 1)
        | none => .none) (.ref n4) t4,
     ⟨.type "function", none, .func ⟨nm, qual, dArgs st, .stmts (dBody st), dScope st, 3, (match fr with
        | some c => [("__class__", c)]
        | none => []), (match dv with
        | some _ => .ref n
        | none => .none), .none, .none, md, none, .ref (n4 + 1), (match fr with
        | some _ => .ref n1
        | none => .none), 0⟩, ⟨[]⟩⟩]⟩
/-- a class's methods -/
structure MtL where
  n : Addr
  t : Nat
  os : List Obj
  tab : List Value
  es : List DictEntry
def mtL (P : Params) (T0 : Nat) (cn : Str) (fr : Option Addr) (md : Value) : List Stmt → List (Option Str × Option Lo) → Nat → Nat → MtL
  | st :: r, (dv, lo) :: l, n, t =>
    let f := fnL T0 n t (cn ++ "." ++ dName st) st dv fr lo md
    let m := mtL P T0 cn fr md r l (f.fn + 1) (f.t + 1)
    ⟨m.n, m.t, f.os ++ m.os, iv (dLine st) 0 :: iv (dCol st) 0 :: .ref f.code :: m.tab, en P (dName st) f.t (.ref f.fn) :: m.es⟩
  | _, _, n, t => ⟨n, t, [], [], []⟩
/-- the kinds of a top's statements -/
inductive Kd where
  | nm                                                    -- __name__ = a text
  | num (v : Int) (more : Nat)                            -- X = a number, so many tokens of its parts
  | fn (lo : Option Lo)
  | base (dv : Str) (lo st : List Str)                    -- class Refused(ValueError)
  | err (lo : List Str)                                   -- class X(Refused)
  | obj (ms : List (Option Lo)) (st : List Str)   -- a class of objects
/-- a class's parts: where it lies, the tokens behind it, what it lays -/
structure ClL where
  cls : Addr
  t : Nat
  os : List Obj
/-- of Refused: subs its subclasses -/
def baseL (P : Params) (T0 n t : Nat) (st : Stmt) (md : Value) (dv : Str) (lo sts : List Str) (subs : List Value) : ClL :=
  let nm := dName st
  let m := mtL P T0 nm (some (n + 3)) md (dBody st) [(some dv, some (lo, []))] (n + 8) (t + 12)
  let ts := m.t + sts.length
  let c := m.n + 2
  let e1 := en P "__module__" (t + 7) md
  let e2 := en P "__firstlineno__" (t + 11) (iv (dLine st) (t + 10))
  let e3 := en P "__static_attributes__" ts (.ref m.n)
  ⟨c, ts + 6,
    [tupO [.type "ValueError"], bmO "type.__prepare__" (.type "type"),
     dctO ([e1, en P "__qualname__" (t + 9) (sv nm (t + 8)), e2] ++ m.es ++ [e3, en P "__classcell__" (ts + 1) (.ref (n + 3))]) 6,
     ⟨.type "cell", none, .cell (some (.ref c)), ⟨[]⟩⟩, tupO [], fldO .none m.tab,
     codeO T0 nm nm (t + 2) (dLine st) 0 0 (n + 4) false (n + 5) .none .none .none (t + 5), frmO (n + 6) (n + 2) md] ++ m.os ++
    [tupO (txts sts m.t), dctO ([e1, e2] ++ m.es ++ [e3, en P "__weakref__" (ts + 3) (.ref (c + 1)), en P "__doc__" (ts + 4) .none]) 4,
     ⟨.type "type", none, .cls ⟨nm, [.type "ValueError"], [.ref c, .type "ValueError", .type "Exception", .type "BaseException", .type "object"], c - 1, nm, true, [], subs, false, none, false⟩,
      ⟨[some (.ref n), none, some (sv nm t), some (sv nm (t + 8)), some (.builtin "ValueError.__new__"), some (.bool true)]⟩⟩,
     fldO (.type "getset_descriptor") [sv "__weakref__" (ts + 2), .ref c, .builtin "ExceptionGroup.__weakref__", .none],
     fldO (.type "super") [.ref c, .ref c, .ref c], bmO "object.__init_subclass__" (.ref c)]⟩
def errL (P : Params) (T0 n t : Nat) (st : Stmt) (md : Value) (b : Addr) (lo : List Str) : ClL :=
  let nm := dName st
  let m := mtL P T0 nm (some (n + 3)) md (dBody st) [(none, some (lo, []))] (n + 8) (t + 12)
  let c := m.n + 2
  let e1 := en P "__module__" (t + 7) md
  let e2 := en P "__firstlineno__" (t + 11) (iv (dLine st) (t + 10))
  let e3 := en P "__static_attributes__" m.t (.ref m.n)
  ⟨c, m.t + 4,
    [tupO [.ref b], bmO "type.__prepare__" (.type "type"),
     dctO ([e1, en P "__qualname__" (t + 9) (sv nm (t + 8)), e2] ++ m.es ++ [e3, en P "__classcell__" (m.t + 1) (.ref (n + 3))]) 6,
     ⟨.type "cell", none, .cell (some (.ref c)), ⟨[]⟩⟩, tupO [], fldO .none m.tab,
     codeO T0 nm nm (t + 2) (dLine st) 0 0 (n + 4) false (n + 5) .none .none .none (t + 5), frmO (n + 6) (n + 2) md] ++ m.os ++
    [tupO [], dctO ([e1, e2] ++ m.es ++ [e3, en P "__doc__" (m.t + 2) .none]) 3,
     ⟨.type "type", none, .cls ⟨nm, [.ref b], [.ref c, .ref b, .type "ValueError", .type "Exception", .type "BaseException", .type "object"], c - 1, nm, true, [], [], false, none, false⟩,
      ⟨[some (.ref n), none, some (sv nm t), some (sv nm (t + 8)), some (.builtin "ValueError.__new__"), some (.bool true)]⟩⟩,
     fldO (.type "super") [.ref c, .ref c, .ref c], bmO "object.__init_subclass__" (.ref c)]⟩
def objL (P : Params) (T0 n t : Nat) (st : Stmt) (md : Value) (ms : List (Option Lo)) (sts : List Str) : ClL :=
  let nm := dName st
  let m := mtL P T0 nm none md (dBody st) (ms.map fun l => (none, l)) (n + 7) (t + 12)
  let ts := m.t + sts.length
  let c := m.n + 2
  let e1 := en P "__module__" (t + 7) md
  let e2 := en P "__firstlineno__" (t + 11) (iv (dLine st) (t + 10))
  let e3 := en P "__static_attributes__" ts (.ref m.n)
  ⟨c, ts + 7,
    [tupO [], bmO "type.__prepare__" (.type "type"),
     dctO ([e1, en P "__qualname__" (t + 9) (sv nm (t + 8)), e2] ++ m.es ++ [e3]) (ms.length + 4),
     tupO [], fldO .none m.tab,
     codeO T0 nm nm (t + 2) (dLine st) 0 0 (n + 3) false (n + 4) .none .none .none (t + 5), frmO (n + 5) (n + 2) md] ++ m.os ++
    [tupO (txts sts m.t), dctO ([e1, e2] ++ m.es ++ [e3, en P "__dict__" (ts + 2) (.ref (c + 1)), en P "__weakref__" (ts + 4) (.ref (c + 2)), en P "__doc__" (ts + 5) .none]) 4,
     ⟨.type "type", none, .cls ⟨nm, [.type "object"], [.ref c, .type "object"], c - 1, nm, true, [], [], false, none, false⟩,
      ⟨[none, none, some (sv nm t), some (sv nm (t + 8)), some (.builtin "object.__new__"), some (.bool true)]⟩⟩,
     fldO (.type "getset_descriptor") [sv "__dict__" (ts + 1), .ref c, .builtin "function.__dict__", .builtin "function.__dict__#set"],
     fldO (.type "getset_descriptor") [sv "__weakref__" (ts + 3), .ref c, .builtin "ExceptionGroup.__weakref__", .none],
     fldO (.type "super") [.ref c, .ref c, .ref c], bmO "object.__init_subclass__" (.ref c)]⟩
/-! ### the top -/
/-- behind so many statements: the next address, the next token, what was laid (the last part first), the globals' new entries (the last first), the code's table, the module's name, Refused -/
structure FS where
  n : Nat
  t : Nat
  os : List (List Obj)
  es : List DictEntry
  tab : List Value
  md : Value
  b : Addr
/-- the subclasses among them -/
def subsOf : List Kd → List DictEntry → List Value
  | .nm :: r, es => subsOf r es
  | .err _ :: r, e :: es => e.val :: subsOf r es
  | _ :: r, _ :: es => subsOf r es
  | _, _ => []


def asTxt : Stmt → Str
  | .Assign _ (.Constant (.str x) _ _) _ => x
  | _ => file
def asName : Stmt → Str
  | .Assign [.Name x _] _ _ => x
  | _ => file
def stepK (P : Params) (T0 : Nat) (subs : List Value) (s : FS) (st : Stmt) : Kd → FS
  | .nm => { s with t := s.t + 2, md := sv (asTxt st) s.t }
  | .num v k => { s with t := s.t + k + 2, es := en P (asName st) (s.t + k + 1) (iv v (s.t + k)) :: s.es }
  | .fn lo =>
    let f := fnL T0 s.n s.t (dName st) st none none lo s.md
    { s with n := f.fn + 1, t := f.t + 1, os := f.os :: s.os, es := en P (dName st) f.t (.ref f.fn) :: s.es, tab := s.tab ++ [iv (dLine st) 0, iv (dCol st) 0, .ref f.code] }
  | .base dv lo sts =>
    let c := baseL P T0 s.n s.t st s.md dv lo sts subs
    { s with n := c.cls + 4, t := c.t + 1, os := c.os :: s.os, es := en P (dName st) c.t (.ref c.cls) :: s.es, tab := s.tab ++ [iv (dLine st) 0, iv (dCol st) 0, .ref (s.n + 6)], b := c.cls }
  | .err lo =>
    let c := errL P T0 s.n s.t st s.md s.b lo
    { s with n := c.cls + 3, t := c.t + 1, os := c.os :: s.os, es := en P (dName st) c.t (.ref c.cls) :: s.es, tab := s.tab ++ [iv (dLine st) 0, iv (dCol st) 0, .ref (s.n + 6)] }
  | .obj ms sts =>
    let c := objL P T0 s.n s.t st s.md ms sts
    { s with n := c.cls + 5, t := c.t + 1, os := c.os :: s.os, es := en P (dName st) c.t (.ref c.cls) :: s.es, tab := s.tab ++ [iv (dLine st) 0, iv (dCol st) 0, .ref (s.n + 5)] }
def runK (P : Params) (T0 : Nat) (subs : List Value) : List Kd → List Stmt → FS → FS
  | k :: ks, st :: sts, s => runK P T0 subs ks sts (stepK P T0 subs s st k)
  | _, _, s => s
def flat : List (List Obj) → List Obj → List Obj
  | [], a => a
  | l :: r, a => flat r (l ++ a)
def setO : List Obj → Nat → Obj → List Obj
  | [], _, _ => []
  | _ :: r, 0, o => o :: r
  | x :: r, n + 1, o => x :: setO r n o
/-- the tree of a list of objects -/
def evens : List Obj → List Obj × List Obj
  | [] => ([], [])
  | o :: r => match evens r with
    | (a, b) => (o :: b, a)
def mkT : Nat → List Obj → BT
  | 0, _ => .nil
  | _ + 1, [] => .nil
  | k + 1, o :: r => match evens r with
    | (a, b) => .node o (mkT k a) (mkT k b)
def life0 : Life := ⟨[], [], [], 0, [], [], false, ⟨[]⟩, [], 0, false, false, false, 0, [2000, 10, 10], false, 0, true, [], [], 0, false⟩
end HD
namespace HD
open PySem PySem.W PySem.Calls PyProof.Rows HandSHeadRun
/-! ### the run in pieces -/
noncomputable section
section
variable (st : SharedT → Thread → Option (SharedT × Thread)) (n0 : Nat) (ann : Option Value)
def segF : Nat → SharedT → Thread → Option (Flow × SharedT × Code × Pos)
  | 0, _, _ => none
  | m + 1, s, t => match endAt 1 t with
    | some f => some (f, s, t.code, t.pos)
    | none => match stepOk n0 ann t with
      | false => none
      | true => match st s t with
        | some (s', t') => frS s' fun s' => segF m s' t'
        | none => none
def goG : Nat → SharedT → Thread → Option (SharedT × Thread)
  | 0, s, t => some (s, t)
  | m + 1, s, t => match through t with
    | true => none
    | false => match stepOk n0 ann t with
      | false => none
      | true => match st s t with
        | some (s', t') => frS s' fun s' => goG m s' t'
        | none => none
end
section
variable {tb : String → Option Builtin} {p : Program} {w : World} {n0 : Nat} {ann : Option Value}
theorem segF_ok : ∀ {m : Nat} {s s' : SharedT} {t : Thread} {f : Flow} {c : Code} {q : Pos}, segF (stepT (denote tb) p w) n0 ann m s t = some (f, s', c, q) → segRun tb p w n0 ann 1 m s.abs t = some (f, s'.abs, c, q)
  | 0, _, _, _, _, _, _, h => by cases h
  | m + 1, s, s', t, f, c, q, h => by
    unfold segF at h
    unfold segRun
    cases he : endAt 1 t with
    | some x => rw [he] at h; cases h; rfl
    | none =>
      rw [he] at h
      cases hk : stepOk n0 ann t with
      | false => rw [hk] at h; cases h
      | true =>
        rw [hk] at h
        cases hs : stepT (denote tb) p w s t with
        | none => rw [hs] at h; cases h
        | some r =>
          obtain ⟨s2, t2⟩ := r
          rw [hs] at h
          rw [stepT_spec hs]
          have h3 : (frS s2 fun s' => segF (stepT (denote tb) p w) n0 ann m s' t2) = some (f, s', c, q) := h
          rw [frS_eq] at h3
          exact segF_ok h3
theorem goG_ok : ∀ {m : Nat} {s s' : SharedT} {t t' : Thread}, goG (stepT (denote tb) p w) n0 ann m s t = some (s', t') → topGo tb p w n0 ann m s.abs t = some (s'.abs, t')
  | 0, _, _, _, _, h => by cases h; rfl
  | m + 1, s, s', t, t', h => by
    unfold goG at h
    unfold topGo
    cases he : through t with
    | true => rw [he] at h; cases h
    | false =>
      rw [he] at h
      cases hk : stepOk n0 ann t with
      | false => rw [hk] at h; cases h
      | true =>
        rw [hk] at h
        cases hs : stepT (denote tb) p w s t with
        | none => rw [hs] at h; cases h
        | some r =>
          obtain ⟨s2, t2⟩ := r
          rw [hs] at h
          rw [stepT_spec hs]
          have h3 : (frS s2 fun s' => goG (stepT (denote tb) p w) n0 ann m s' t2) = some (s', t') := h
          rw [frS_eq] at h3
          exact goG_ok h3
/-- the state ahead of the top, off the boot and the imports -/
def openF (st : Program → SharedT → Thread → Option (SharedT × Thread)) (fence : Program → Shared → Option Shared) (M : Nat) (p : Program) : Option Shared := match impF (st (opening p)) M (startT (opening p)) (start (opening p)).2 with
  | some s => fence p s.abs
  | none => none
theorem openF_ok {M : Nat} {x : Shared} (h : openF (fun q => stepT (denote treeTable) q w) fenceModules? M p = some x) : fencedOpening treeTable p w M = some x := by
  unfold openF at h
  cases e1 : impF (stepT (denote treeTable) (opening p) w) M (startT (opening p)) (start (opening p)).2 with
  | none => rw [e1] at h; cases h
  | some s =>
    rw [e1] at h
    have h1 : fenceModules? p s.abs = some x := h
    have a1 := impF_ok e1
    rw [startT_eq] at a1
    unfold fencedOpening
    rw [a1]
    exact h1
theorem openQ_eq (M : Nat) (p : Program) (w : World) : openF (fun q => stepT (denote treeTable) q w) fenceModules? M p = openF (fun q => stepQ (denQ tabQ) q w) fenceQ M p := by
  rw [stepQ_eq, denQ_eq, tabQ_eq, fenceQ_eq]
theorem open_of {M : Nat} {w : World} {h : Heap} {g : Array GenState} {d : Drawn} {k : Nat} (e : (openF (fun q => stepQ (denQ tabQ) q w) fenceQ M p).map (fun s => (s.heap, s.gens, s.drawn, s.toks)) = some (h, g, d, k)) : (fencedOpening treeTable p w M).map (fun s => (s.heap, s.gens, s.drawn, s.toks)) = some (h, g, d, k) := by
  rw [← openQ_eq] at e
  obtain ⟨s, hs, hv⟩ := Option.map_eq_some_iff.mp e
  rw [openF_ok hs]
  exact congrArg some hv
/-- from a heap as it is -/
def onTree {α : Type} (s : Shared) (k : SharedT → Option α) : Option α := match treeOf s with
  | some x => frS x k
  | none => none
theorem onTree_ok {α : Type} {s : Shared} {k : SharedT → Option α} {r : α} (h : onTree s k = some r) : ∃ x, x.abs = s ∧ k x = some r := by
  unfold onTree at h
  cases e : treeOf s with
  | none => rw [e] at h; cases h
  | some x =>
    rw [e] at h
    have h1 : frS x k = some r := h
    rw [frS_eq] at h1
    exact ⟨x, (treeOf_eq e).1, h1⟩
/-- a piece of the body -/
theorem piece_d {env : Env} {q : Pos} {n N : Nat} {s s' r : Shared} {b : List Stmt} {a k : Nat} {c : Code} {pos p' : Pos} (h : segRun tb p w n0 ann 1 n s (piecesOf ((b.drop a).take k) env c pos [topFrame q]) = some (.next, s', c, p'))
    (k1 : topRun tb p w n0 ann N s' (restOf (b.drop (a + k)) env c p' [topFrame q]) = some r) : topRun tb p w n0 ann (n + N) s (restOf (b.drop a) env c pos [topFrame q]) = some r := by
  have e : b.drop a = (b.drop a).take k ++ b.drop (a + k) := by
    rw [show a + k = a + k from rfl, ← List.drop_drop, List.take_append_drop]
  have z := piece_app h k1
  rw [← e] at z
  exact z
end
end
end HD
end HDa
section HDg
set_option Elab.async false
set_option linter.all false
set_option maxRecDepth 100000
set_option maxHeartbeats 2000000
/-! HDg: a heap that is told by a list; its Hook; the head from its pieces. -/
namespace HD
open PySem PySem.W PySem.Calls PyProof.Rows HandSHeadRun
theorem evens_at : ∀ (l : List Obj) (j : Nat), (evens l).1[j]? = l[2 * j]? ∧ (evens l).2[j]? = l[2 * j + 1]?
  | [], j => ⟨by simp [evens], by simp [evens]⟩
  | o :: r, j => by
    have e : evens (o :: r) = (o :: (evens r).2, (evens r).1) := rfl
    rw [e]
    refine ⟨?_, ?_⟩
    · cases j with
      | zero => rfl
      | succ j =>
        show (evens r).2[j]? = _
        rw [(evens_at r j).2, show 2 * (j + 1) = (2 * j + 1) + 1 by omega]
        rfl
    · show (evens r).1[j]? = _
      rw [(evens_at r j).1]
      rfl
theorem evens_len : ∀ (l : List Obj), (evens l).1.length = (l.length + 1) / 2 ∧ (evens l).2.length = l.length / 2
  | [] => ⟨rfl, rfl⟩
  | o :: r => by
    have e : evens (o :: r) = (o :: (evens r).2, (evens r).1) := rfl
    rw [e]
    obtain ⟨h1, h2⟩ := evens_len r
    refine ⟨?_, ?_⟩
    · show (evens r).2.length + 1 = (r.length + 1 + 1) / 2
      omega
    · show (evens r).1.length = (r.length + 1) / 2
      omega
theorem mkT_get : ∀ (k : Nat) (l : List Obj) (i : Nat), l.length < 2 ^ k → (mkT k l).get i = l[i]?
  | 0, l, i, h => by
    have : l = [] := List.eq_nil_of_length_eq_zero (by omega)
    subst this
    simp [mkT, BT.get]
  | k + 1, [], i, h => by simp [mkT, BT.get]
  | k + 1, o :: r, i, h => by
    have e : mkT (k + 1) (o :: r) = .node o (mkT k (evens r).1) (mkT k (evens r).2) := rfl
    obtain ⟨h1, h2⟩ := evens_len r
    have hp : 2 ^ (k + 1) = 2 ^ k * 2 := Nat.pow_succ 2 k
    rw [hp, List.length_cons] at h
    rw [e, BT.get_node]
    split
    · rename_i z
      subst z
      rfl
    · split
      · rw [mkT_get k _ _ (by omega), (evens_at r _).1]
        obtain ⟨j, rfl⟩ : ∃ j, i = j + 1 := ⟨i - 1, by omega⟩
        rw [show 2 * ((j + 1) / 2) = j by omega]
        rfl
      · rw [mkT_get k _ _ (by omega), (evens_at r _).2]
        obtain ⟨j, rfl⟩ : ∃ j, i = j + 1 := ⟨i - 1, by omega⟩
        rw [show 2 * ((j + 1) / 2 - 1) + 1 = j by omega]
        rfl
/-- the heap of a list -/
def heapL (l : List Obj) (n : Nat) : Heap := absHeap (mkT 16 l) n life0
def isAlive : Obj → Bool
  | ⟨_, _, .freed, _⟩ => false
  | _ => true
theorem alive_of {o : Obj} (h : isAlive o = true) : alive o = some o := by
  obtain ⟨c, d, dt, sl⟩ := o
  cases dt <;> first | rfl | cases h
theorem heapL_get {l : List Obj} {n a : Nat} {o : Obj} (hl : l.length ≤ n) (hs : l.length < 65536) (h : l[a]? = some o) (al : isAlive o = true) : (heapL l n).get? a = some o := by
  have ha : a < l.length := (List.getElem?_eq_some_iff.mp h).1
  unfold heapL
  rw [abs_get (o := o) (by omega) (by rw [mkT_get 16 l a hs]; exact h)]
  exact alive_of al
/-- the Hook: the heap behind the top is this one -/
def hookL (l : Params → List Obj) (n : Params → Nat) : Hook where
  α := Heap
  obs := fun s => s.heap
  val := fun w => heapL (l w.params) (n w.params)
  says := fun w h => ∀ a o, (heapL (l w.params) (n w.params)).get? a = some o → h.get? a = some o
  of := fun w s e a o h => by
    have e : s.heap = heapL (l w.params) (n w.params) := e
    rw [e]
    exact h
  keeps := fun w h h' s k a o g => k a o (s a o g)
/-- a part of it -/
def partL (keep : Addr × Obj → Bool) (l : List Obj) : Frag := ((List.range l.length).zip l).filter fun q => keep q && isAlive q.2
theorem partL_in {keep : Addr × Obj → Bool} {l : List Obj} {n : Nat} {h : Heap} (hl : l.length ≤ n) (hs : l.length < 65536) (g : ∀ a o, (heapL l n).get? a = some o → h.get? a = some o) : (partL keep l).In h := fun a o e => by
  have m := He.lookup_mem e
  obtain ⟨h1, h2⟩ := List.mem_filter.mp m
  have al := (Bool.and_eq_true_iff.mp h2).2
  obtain ⟨i, hi, e2⟩ := List.mem_iff_getElem.mp h1
  rw [List.getElem_zip] at e2
  obtain ⟨e3, e4⟩ := Prod.mk.inj e2
  rw [List.length_zip, List.length_range, Nat.min_self] at hi
  rw [List.getElem_range] at e3
  refine g a o (heapL_get hl hs ?_ al)
  rw [← e3, List.getElem?_eq_getElem hi, e4]
/-! ### the head -/
theorem head_end {r : OpenRow} {q : Program} {H : Hook} {loose : List Str} {d : DefRec} {kwd : List (Str × Expr)} {N : Nat} (left : LeftO r.prog q loose (fun s => xlAt q [] s && recOk r.toRowW.records s) H.obs H.val N true)
    (hdef : defOf q r.name = some (d, kwd)) (hp : r.prog.theDef r.name = some (d.params, d.body, d.scope)) (hk : kwWritten? d.params.kwonlyargs d.params.kw_defaults = some kwd)
    (hwr : (!r.writes || r.records.isEmpty) = true) (k1 : r.wellSaid = true) (ok : (chainsOk q && opensWell r.prog && (frees r.toRowW && r.within.isEmpty)) = true) (hb : r.prog.bare) (hw : r.toRowW.promised)
    (call : WalkO q loose (XL q []) H.says r.toRowW d kwd fun f vs => PySem.call f vs) : r.Holds :=
  holds_open (r := r) (q := q) (loose := loose) (XP := XL q []) (YP := H.says) (d := d) (kwd := kwd) left H.of H.keeps (fun s z => xl_of s (Bool.and_eq_true_iff.mp z).1) XL.keeps hdef hp hk (fun s z => recFacts_of (Bool.and_eq_true_iff.mp z).2) hwr k1 ok hb hw call
end HD
end HDg
section HDb
set_option Elab.async false
set_option linter.all false
set_option maxRecDepth 100000
set_option maxHeartbeats 0
/-! HDb: the top of this law (printed by gentop.py) -/
namespace HB
open PySem PySem.W PySem.Calls PyProof.Rows HandSHeadRun HD
abbrev p : Program := PySem.Challenge.pw_pricesalone_k83_bills_months_and_account
abbrev bd : List Stmt := behindTheImports p
def o0 (P : Params) : Obj := dctO [en P "__name__" 1 (sv "builtins" 160), en P "__doc__" 2 (.builtin "builtins.__doc__:str#opaque"), 
    en P "__package__" 3 (.builtin "builtins.__package__:str#opaque"), en P "__loader__" 4 (.builtin "builtins.__loader__:shared#opaque"), 
    en P "__spec__" 5 (.builtin "builtins.__spec__#opaque"), en P "__build_class__" 6 (.builtin "__build_class__"), 
    en P "__import__" 7 (.builtin "__import__"), en P "abs" 8 (.builtin "abs"), en P "all" 9 (.builtin "all"), en P "any" 10 (.builtin "any"), 
    en P "ascii" 11 (.builtin "ascii"), en P "bin" 12 (.builtin "bin"), en P "breakpoint" 13 (.builtin "breakpoint"), en P "callable" 14 (.builtin "callable"), 
    en P "chr" 15 (.builtin "chr"), en P "compile" 16 (.builtin "compile"), en P "delattr" 17 (.builtin "delattr"), en P "dir" 18 (.builtin "dir"), 
    en P "divmod" 19 (.builtin "divmod"), en P "eval" 20 (.builtin "eval"), en P "exec" 21 (.builtin "exec"), en P "format" 22 (.builtin "format"), 
    en P "getattr" 23 (.builtin "getattr"), en P "globals" 24 (.builtin "globals"), en P "hasattr" 25 (.builtin "hasattr"), en P "hash" 26 (.builtin "hash"), 
    en P "hex" 27 (.builtin "hex"), en P "id" 28 (.builtin "id"), en P "input" 29 (.builtin "input"), en P "isinstance" 30 (.builtin "isinstance"), 
    en P "issubclass" 31 (.builtin "issubclass"), en P "iter" 32 (.builtin "iter"), en P "aiter" 33 (.builtin "aiter"), en P "len" 34 (.builtin "len"), 
    en P "locals" 35 (.builtin "locals"), en P "max" 36 (.builtin "max"), en P "min" 37 (.builtin "min"), en P "next" 38 (.builtin "next"), 
    en P "anext" 39 (.builtin "anext"), en P "oct" 40 (.builtin "oct"), en P "ord" 41 (.builtin "ord"), en P "pow" 42 (.builtin "pow"), 
    en P "print" 43 (.builtin "print"), en P "repr" 44 (.builtin "repr"), en P "round" 45 (.builtin "round"), en P "setattr" 46 (.builtin "setattr"), 
    en P "sorted" 47 (.builtin "sorted"), en P "sum" 48 (.builtin "sum"), en P "vars" 49 (.builtin "vars"), en P "None" 50 .none, en P "Ellipsis" 51 .ellipsis, 
    en P "NotImplemented" 52 .notImplemented, en P "False" 53 (.bool false), en P "True" 54 (.bool true), en P "bool" 55 (.type "bool"), 
    en P "memoryview" 56 (.type "memoryview"), en P "bytearray" 57 (.type "bytearray"), en P "bytes" 58 (.type "bytes"), 
    en P "classmethod" 59 (.type "classmethod"), en P "complex" 60 (.type "complex"), en P "dict" 61 (.type "dict"), en P "enumerate" 62 (.type "enumerate"), 
    en P "filter" 63 (.type "filter"), en P "float" 64 (.type "float"), en P "frozenset" 65 (.type "frozenset"), en P "property" 66 (.type "property"), 
    en P "int" 67 (.type "int"), en P "list" 68 (.type "list"), en P "map" 69 (.type "map"), en P "object" 70 (.type "object"), 
    en P "range" 71 (.type "range"), en P "reversed" 72 (.type "reversed"), en P "set" 73 (.type "set"), en P "slice" 74 (.type "slice"), 
    en P "staticmethod" 75 (.type "staticmethod"), en P "str" 76 (.type "str"), en P "super" 77 (.type "super"), en P "tuple" 78 (.type "tuple"), 
    en P "type" 79 (.type "type"), en P "zip" 80 (.type "zip"), en P "__debug__" 81 (.bool true), en P "BaseException" 82 (.type "BaseException"), 
    en P "BaseExceptionGroup" 83 (.type "BaseExceptionGroup"), en P "Exception" 84 (.type "Exception"), en P "GeneratorExit" 85 (.type "GeneratorExit"), 
    en P "KeyboardInterrupt" 86 (.type "KeyboardInterrupt"), en P "SystemExit" 87 (.type "SystemExit"), en P "ArithmeticError" 88 (.type "ArithmeticError"), 
    en P "AssertionError" 89 (.type "AssertionError"), en P "AttributeError" 90 (.type "AttributeError"), en P "BufferError" 91 (.type "BufferError"), 
    en P "EOFError" 92 (.type "EOFError"), en P "ImportError" 93 (.type "ImportError"), en P "LookupError" 94 (.type "LookupError"), 
    en P "MemoryError" 95 (.type "MemoryError"), en P "NameError" 96 (.type "NameError"), en P "OSError" 97 (.type "OSError"), 
    en P "ReferenceError" 98 (.type "ReferenceError"), en P "RuntimeError" 99 (.type "RuntimeError"), 
    en P "StopAsyncIteration" 100 (.type "StopAsyncIteration"), en P "StopIteration" 101 (.type "StopIteration"), en P "SyntaxError" 102 (.type "SyntaxError"), 
    en P "SystemError" 103 (.type "SystemError"), en P "TypeError" 104 (.type "TypeError"), en P "ValueError" 105 (.type "ValueError"), 
    en P "Warning" 106 (.type "Warning"), en P "FloatingPointError" 107 (.type "FloatingPointError"), en P "OverflowError" 108 (.type "OverflowError"), 
    en P "ZeroDivisionError" 109 (.type "ZeroDivisionError"), en P "BytesWarning" 110 (.type "BytesWarning"), 
    en P "DeprecationWarning" 111 (.type "DeprecationWarning"), en P "EncodingWarning" 112 (.type "EncodingWarning"), 
    en P "FutureWarning" 113 (.type "FutureWarning"), en P "ImportWarning" 114 (.type "ImportWarning"), 
    en P "PendingDeprecationWarning" 115 (.type "PendingDeprecationWarning"), en P "ResourceWarning" 116 (.type "ResourceWarning"), 
    en P "RuntimeWarning" 117 (.type "RuntimeWarning"), en P "SyntaxWarning" 118 (.type "SyntaxWarning"), en P "UnicodeWarning" 119 (.type "UnicodeWarning"), 
    en P "UserWarning" 120 (.type "UserWarning"), en P "BlockingIOError" 121 (.type "BlockingIOError"), 
    en P "ChildProcessError" 122 (.type "ChildProcessError"), en P "ConnectionError" 123 (.type "ConnectionError"), 
    en P "FileExistsError" 124 (.type "FileExistsError"), en P "FileNotFoundError" 125 (.type "FileNotFoundError"), 
    en P "InterruptedError" 126 (.type "InterruptedError"), en P "IsADirectoryError" 127 (.type "IsADirectoryError"), 
    en P "NotADirectoryError" 128 (.type "NotADirectoryError"), en P "PermissionError" 129 (.type "PermissionError"), 
    en P "ProcessLookupError" 130 (.type "ProcessLookupError"), en P "TimeoutError" 131 (.type "TimeoutError"), 
    en P "IndentationError" 132 (.type "IndentationError"), en P "_IncompleteInputError" 133 (.type "_IncompleteInputError"), 
    en P "IndexError" 134 (.type "IndexError"), en P "KeyError" 135 (.type "KeyError"), en P "ModuleNotFoundError" 136 (.type "ModuleNotFoundError"), 
    en P "NotImplementedError" 137 (.type "NotImplementedError"), en P "PythonFinalizationError" 138 (.type "PythonFinalizationError"), 
    en P "RecursionError" 139 (.type "RecursionError"), en P "UnboundLocalError" 140 (.type "UnboundLocalError"), 
    en P "UnicodeError" 141 (.type "UnicodeError"), en P "BrokenPipeError" 142 (.type "BrokenPipeError"), 
    en P "ConnectionAbortedError" 143 (.type "ConnectionAbortedError"), en P "ConnectionRefusedError" 144 (.type "ConnectionRefusedError"), 
    en P "ConnectionResetError" 145 (.type "ConnectionResetError"), en P "TabError" 146 (.type "TabError"), 
    en P "UnicodeDecodeError" 147 (.type "UnicodeDecodeError"), en P "UnicodeEncodeError" 148 (.type "UnicodeEncodeError"), 
    en P "UnicodeTranslateError" 149 (.type "UnicodeTranslateError"), en P "ExceptionGroup" 150 (.type "ExceptionGroup"), 
    en P "EnvironmentError" 151 (.type "OSError"), en P "IOError" 152 (.type "OSError"), en P "open" 153 (.builtin "open"), 
    en P "quit" 154 (.builtin "builtins.quit#opaque"), en P "exit" 155 (.builtin "builtins.exit#opaque"), 
    en P "copyright" 156 (.builtin "builtins.copyright#opaque"), en P "credits" 157 (.builtin "builtins.credits#opaque"), 
    en P "license" 158 (.builtin "builtins.license#opaque"), en P "help" 159 (.builtin "builtins.help#opaque")] 159
def o1 (P : Params) : Obj := dctO [en P "builtins" 162 (.ref 4), en P "__main__" 163 (.ref 5), en P "math" 285 (.ref 13)] 3
def o2 (P : Params) : Obj := Obj.mk .none none (Data.dict #[en P "import.loaded.math" 186 (.bool true), en P "class._frozen_importlib_external._LoaderBasics" 191 (.ref 16), 
    en P "watched.import" 207 (.ref 20), en P "class._frozen_importlib_external.FileLoader" 208 (.ref 22), 
    en P "class._frozen_importlib_external.ExtensionFileLoader" 229 (.ref 27), en P "class._frozen_importlib.ModuleSpec" 257 (.ref 33), 
    en P "sys.modules.booked-epoch" 286 (iv 3 0), en P "import.later-laid.math" 362 (.bool true), en P "watched.library" 364 (.ref 38), 
    en P "watched.library-objects" 0 (sv ⟨⟨[13]⟩⟩ 0)] 10) #[]
def o4 (P : Params) : Obj := Obj.mk (.type "module") (some 0) Data.plain #[]
def o5 (P : Params) : Obj := Obj.mk (.type "module") (some 3) Data.plain #[]
def o6 (P : Params) : Obj := dctO [] 0
def o7 (P : Params) : Obj := Obj.mk (.type "tuple") none (Data.seq #[]) #[]
def o8 (P : Params) : Obj := Obj.mk .none none (Data.fields #[]) #[]
def o9 (P : Params) : Obj := Obj.mk (.type "code") none (Data.fields #[sv "<module>" 176, sv "<module>" 177, sv "/claim/cut.py" 178, iv 1 0, iv 0 0, iv 0 0, iv 0 0, iv 0 0, .ref 7, 
    .bool false, iv 175 0, .ref 8, .none, .none, .none, .none, iv 179 0, iv 1 0, sv "/claim/cut.py" 180]) #[]
def o10 (P : Params) : Obj := Obj.mk (.type "frame") none Data.plain #[some (.ref 9), some (.ref 3), some (.ref 3), none, some (sv "__main__" 164), none, some (.ref 0)]
def o11 (P : Params) : Obj := Obj.mk (.type "tuple") none (Data.seq #[sv "gcd" 182, sv "lcm" 183]) #[]
def o12 (P : Params) : Obj := dctO [en P "__name__" 288 (sv "math" 287), en P "__doc__" 289 (.builtin "off-the-table:math.__doc__:shared#opaque"), en P "__package__" 291 (sv "" 290), 
    en P "__loader__" 292 (.builtin "off-the-table:math.__loader__:shared#opaque"), en P "__spec__" 293 (.builtin "off-the-table:math.__spec__:shared#opaque"), 
    en P "acos" 294 (.builtin "off-the-table:math.acos:shared#opaque"), en P "acosh" 295 (.builtin "off-the-table:math.acosh:shared#opaque"), 
    en P "asin" 296 (.builtin "off-the-table:math.asin:shared#opaque"), en P "asinh" 297 (.builtin "off-the-table:math.asinh:shared#opaque"), 
    en P "atan" 298 (.builtin "off-the-table:math.atan:shared#opaque"), en P "atan2" 299 (.builtin "off-the-table:math.atan2:shared#opaque"), 
    en P "atanh" 300 (.builtin "off-the-table:math.atanh:shared#opaque"), en P "cbrt" 301 (.builtin "off-the-table:math.cbrt:shared#opaque"), 
    en P "ceil" 302 (.builtin "math.ceil"), en P "copysign" 303 (.builtin "math.copysign"), en P "cos" 304 (.builtin "off-the-table:math.cos:shared#opaque"), 
    en P "cosh" 305 (.builtin "off-the-table:math.cosh:shared#opaque"), en P "degrees" 306 (.builtin "math.degrees"), en P "dist" 307 (.builtin "math.dist"), 
    en P "erf" 308 (.builtin "off-the-table:math.erf:shared#opaque"), en P "erfc" 309 (.builtin "off-the-table:math.erfc:shared#opaque"), 
    en P "exp" 310 (.builtin "off-the-table:math.exp:shared#opaque"), en P "exp2" 311 (.builtin "off-the-table:math.exp2:shared#opaque"), 
    en P "expm1" 312 (.builtin "off-the-table:math.expm1:shared#opaque"), en P "fabs" 313 (.builtin "math.fabs"), 
    en P "factorial" 314 (.builtin "math.factorial"), en P "floor" 315 (.builtin "math.floor"), en P "fma" 316 (.builtin "math.fma"), 
    en P "fmod" 317 (.builtin "math.fmod"), en P "frexp" 318 (.builtin "math.frexp"), en P "fsum" 319 (.builtin "math.fsum"), 
    en P "gamma" 320 (.builtin "off-the-table:math.gamma:shared#opaque"), en P "gcd" 321 (.builtin "math.gcd"), en P "hypot" 322 (.builtin "math.hypot"), 
    en P "isclose" 323 (.builtin "math.isclose"), en P "isfinite" 324 (.builtin "math.isfinite"), en P "isinf" 325 (.builtin "math.isinf"), 
    en P "isnan" 326 (.builtin "math.isnan"), en P "isqrt" 327 (.builtin "math.isqrt"), en P "lcm" 328 (.builtin "math.lcm"), 
    en P "ldexp" 329 (.builtin "math.ldexp"), en P "lgamma" 330 (.builtin "off-the-table:math.lgamma:shared#opaque"), 
    en P "log" 331 (.builtin "off-the-table:math.log:shared#opaque"), en P "log1p" 332 (.builtin "off-the-table:math.log1p:shared#opaque"), 
    en P "log10" 333 (.builtin "off-the-table:math.log10:shared#opaque"), en P "log2" 334 (.builtin "off-the-table:math.log2:shared#opaque"), 
    en P "modf" 335 (.builtin "math.modf"), en P "pow" 336 (.builtin "off-the-table:math.pow:shared#opaque"), en P "radians" 337 (.builtin "math.radians"), 
    en P "remainder" 338 (.builtin "math.remainder"), en P "sin" 339 (.builtin "off-the-table:math.sin:shared#opaque"), 
    en P "sinh" 340 (.builtin "off-the-table:math.sinh:shared#opaque"), en P "sqrt" 341 (.builtin "math.sqrt"), 
    en P "tan" 342 (.builtin "off-the-table:math.tan:shared#opaque"), en P "tanh" 343 (.builtin "off-the-table:math.tanh:shared#opaque"), 
    en P "sumprod" 344 (.builtin "math.sumprod"), en P "trunc" 345 (.builtin "math.trunc"), en P "prod" 346 (.builtin "math.prod"), 
    en P "perm" 347 (.builtin "math.perm"), en P "comb" 348 (.builtin "math.comb"), en P "nextafter" 349 (.builtin "math.nextafter"), 
    en P "ulp" 350 (.builtin "math.ulp"), 
    en P "__file__" 351 (sv "/nix/store/wj1f56qky4pmjc7l0r6b6l7whnnw7hp6-python3-3.13.15/lib/python3.13/lib-dynload/math.cpython-313-x86_64-linux-gnu.so" 187), 
    en P "pi" 353 (.float 4614256656552045848 352), en P "e" 355 (.float 4613303445314885481 354), en P "tau" 357 (.float 4618760256179416344 356), 
    en P "inf" 359 (.float 9218868437227405312 358), en P "nan" 361 (.float 9221120237041090560 360)] 68
def o13 (P : Params) : Obj := Obj.mk (.type "module") (some 12) Data.plain #[]
def o14 (P : Params) : Obj := dctO [en P "name" 189 (sv "math" 188), 
    en P "path" 190 (sv "/nix/store/wj1f56qky4pmjc7l0r6b6l7whnnw7hp6-python3-3.13.15/lib/python3.13/lib-dynload/math.cpython-313-x86_64-linux-gnu.so" 187)] 2
def o15 (P : Params) : Obj := dctO [en P "__module__" 194 (sv "_frozen_importlib_external" 192), en P "__firstlineno__" 195 (iv 1001 193), 
    en P "__doc__" 196 (.builtin "_frozen_importlib_external._LoaderBasics.__doc__:str#opaque"), 
    en P "is_package" 197 (.builtin "_frozen_importlib_external._LoaderBasics.is_package#opaque"), 
    en P "create_module" 198 (.builtin "_frozen_importlib_external._LoaderBasics.create_module#opaque"), 
    en P "exec_module" 199 (.builtin "_frozen_importlib_external._LoaderBasics.exec_module#opaque"), 
    en P "load_module" 200 (.builtin "_frozen_importlib_external._LoaderBasics.load_module#opaque"), en P "__static_attributes__" 201 (.ref 17), 
    en P "__dict__" 203 (.ref 18), en P "__weakref__" 205 (.ref 19)] 10
def o16 (P : Params) : Obj := Obj.mk (.type "type") none (Data.cls (ClassData.mk "_LoaderBasics" [.type "object"] [.ref 16, 
    .type "object"] 15 "_LoaderBasics" true [] [.ref 27] false none false)) #[]
def o17 (P : Params) : Obj := Obj.mk (.type "tuple") none (Data.seq #[]) #[]
def o18 (P : Params) : Obj := Obj.mk (.type "getset_descriptor") none (Data.fields #[sv "__dict__" 202, .ref 16, .builtin "function.__dict__", .builtin "function.__dict__#set"]) #[]
def o19 (P : Params) : Obj := Obj.mk (.type "getset_descriptor") none (Data.fields #[sv "__weakref__" 204, .ref 16, .builtin "ExceptionGroup.__weakref__", .none]) #[]
def o20 (P : Params) : Obj := Obj.mk .none none (Data.seq #[iv 15 0, sv ⟨⟨[6, 194, 10, 95, 95, 109, 111, 100, 117, 108, 101, 95, 95, 6, 192, 26, 95, 102, 114, 111, 122, 101, 110, 95, 105, 
    109, 112, 111, 114, 116, 108, 105, 98, 95, 101, 120, 116, 101, 114, 110, 97, 108, 6, 195, 15, 95, 95, 102, 105, 114, 115, 116, 108, 105, 110, 101, 110, 
    111, 95, 95, 4, 193, 0, 1001, 6, 196, 7, 95, 95, 100, 111, 99, 95, 95, 9, 59, 95, 102, 114, 111, 122, 101, 110, 95, 105, 109, 112, 111, 114, 116, 108, 105, 
    98, 95, 101, 120, 116, 101, 114, 110, 97, 108, 46, 95, 76, 111, 97, 100, 101, 114, 66, 97, 115, 105, 99, 115, 46, 95, 95, 100, 111, 99, 95, 95, 58, 115, 
    116, 114, 35, 111, 112, 97, 113, 117, 101, 6, 197, 10, 105, 115, 95, 112, 97, 99, 107, 97, 103, 101, 9, 58, 95, 102, 114, 111, 122, 101, 110, 95, 105, 109, 
    112, 111, 114, 116, 108, 105, 98, 95, 101, 120, 116, 101, 114, 110, 97, 108, 46, 95, 76, 111, 97, 100, 101, 114, 66, 97, 115, 105, 99, 115, 46, 105, 115, 
    95, 112, 97, 99, 107, 97, 103, 101, 35, 111, 112, 97, 113, 117, 101, 6, 198, 13, 99, 114, 101, 97, 116, 101, 95, 109, 111, 100, 117, 108, 101, 9, 61, 95, 
    102, 114, 111, 122, 101, 110, 95, 105, 109, 112, 111, 114, 116, 108, 105, 98, 95, 101, 120, 116, 101, 114, 110, 97, 108, 46, 95, 76, 111, 97, 100, 101, 
    114, 66, 97, 115, 105, 99, 115, 46, 99, 114, 101, 97, 116, 101, 95, 109, 111, 100, 117, 108, 101, 35, 111, 112, 97, 113, 117, 101, 6, 199, 11, 101, 120, 
    101, 99, 95, 109, 111, 100, 117, 108, 101, 9, 59, 95, 102, 114, 111, 122, 101, 110, 95, 105, 109, 112, 111, 114, 116, 108, 105, 98, 95, 101, 120, 116, 101, 
    114, 110, 97, 108, 46, 95, 76, 111, 97, 100, 101, 114, 66, 97, 115, 105, 99, 115, 46, 101, 120, 101, 99, 95, 109, 111, 100, 117, 108, 101, 35, 111, 112, 
    97, 113, 117, 101, 6, 200, 11, 108, 111, 97, 100, 95, 109, 111, 100, 117, 108, 101, 9, 59, 95, 102, 114, 111, 122, 101, 110, 95, 105, 109, 112, 111, 114, 
    116, 108, 105, 98, 95, 101, 120, 116, 101, 114, 110, 97, 108, 46, 95, 76, 111, 97, 100, 101, 114, 66, 97, 115, 105, 99, 115, 46, 108, 111, 97, 100, 95, 
    109, 111, 100, 117, 108, 101, 35, 111, 112, 97, 113, 117, 101, 6, 201, 21, 95, 95, 115, 116, 97, 116, 105, 99, 95, 97, 116, 116, 114, 105, 98, 117, 116, 
    101, 115, 95, 95, 4, 0, 0, 17, 6, 203, 8, 95, 95, 100, 105, 99, 116, 95, 95, 4, 0, 0, 18, 6, 205, 11, 95, 95, 119, 101, 97, 107, 114, 101, 102, 95, 95, 4, 
    0, 0, 19]⟩⟩ 0, .bool true, .bool true, sv "" 206, iv 21 0, sv ⟨⟨[6, 213, 10, 95, 95, 109, 111, 100, 117, 108, 101, 95, 95, 6, 209, 26, 95, 102, 114, 111, 
    122, 101, 110, 95, 105, 109, 112, 111, 114, 116, 108, 105, 98, 95, 101, 120, 116, 101, 114, 110, 97, 108, 6, 214, 15, 95, 95, 102, 105, 114, 115, 116, 108, 
    105, 110, 101, 110, 111, 95, 95, 4, 210, 0, 1176, 6, 215, 7, 95, 95, 100, 111, 99, 95, 95, 9, 56, 95, 102, 114, 111, 122, 101, 110, 95, 105, 109, 112, 111, 
    114, 116, 108, 105, 98, 95, 101, 120, 116, 101, 114, 110, 97, 108, 46, 70, 105, 108, 101, 76, 111, 97, 100, 101, 114, 46, 95, 95, 100, 111, 99, 95, 95, 58, 
    115, 116, 114, 35, 111, 112, 97, 113, 117, 101, 6, 216, 8, 95, 95, 105, 110, 105, 116, 95, 95, 9, 53, 95, 102, 114, 111, 122, 101, 110, 95, 105, 109, 112, 
    111, 114, 116, 108, 105, 98, 95, 101, 120, 116, 101, 114, 110, 97, 108, 46, 70, 105, 108, 101, 76, 111, 97, 100, 101, 114, 46, 95, 95, 105, 110, 105, 116, 
    95, 95, 35, 111, 112, 97, 113, 117, 101, 6, 217, 6, 95, 95, 101, 113, 95, 95, 9, 51, 95, 102, 114, 111, 122, 101, 110, 95, 105, 109, 112, 111, 114, 116, 
    108, 105, 98, 95, 101, 120, 116, 101, 114, 110, 97, 108, 46, 70, 105, 108, 101, 76, 111, 97, 100, 101, 114, 46, 95, 95, 101, 113, 95, 95, 35, 111, 112, 97, 
    113, 117, 101, 6, 218, 8, 95, 95, 104, 97, 115, 104, 95, 95, 9, 53, 95, 102, 114, 111, 122, 101, 110, 95, 105, 109, 112, 111, 114, 116, 108, 105, 98, 95, 
    101, 120, 116, 101, 114, 110, 97, 108, 46, 70, 105, 108, 101, 76, 111, 97, 100, 101, 114, 46, 95, 95, 104, 97, 115, 104, 95, 95, 35, 111, 112, 97, 113, 
    117, 101, 6, 219, 11, 108, 111, 97, 100, 95, 109, 111, 100, 117, 108, 101, 9, 56, 95, 102, 114, 111, 122, 101, 110, 95, 105, 109, 112, 111, 114, 116, 108, 
    105, 98, 95, 101, 120, 116, 101, 114, 110, 97, 108, 46, 70, 105, 108, 101, 76, 111, 97, 100, 101, 114, 46, 108, 111, 97, 100, 95, 109, 111, 100, 117, 108, 
    101, 35, 111, 112, 97, 113, 117, 101, 6, 220, 12, 103, 101, 116, 95, 102, 105, 108, 101, 110, 97, 109, 101, 9, 57, 95, 102, 114, 111, 122, 101, 110, 95, 
    105, 109, 112, 111, 114, 116, 108, 105, 98, 95, 101, 120, 116, 101, 114, 110, 97, 108, 46, 70, 105, 108, 101, 76, 111, 97, 100, 101, 114, 46, 103, 101, 
    116, 95, 102, 105, 108, 101, 110, 97, 109, 101, 35, 111, 112, 97, 113, 117, 101, 6, 221, 8, 103, 101, 116, 95, 100, 97, 116, 97, 9, 53, 95, 102, 114, 111, 
    122, 101, 110, 95, 105, 109, 112, 111, 114, 116, 108, 105, 98, 95, 101, 120, 116, 101, 114, 110, 97, 108, 46, 70, 105, 108, 101, 76, 111, 97, 100, 101, 
    114, 46, 103, 101, 116, 95, 100, 97, 116, 97, 35, 111, 112, 97, 113, 117, 101, 6, 222, 19, 103, 101, 116, 95, 114, 101, 115, 111, 117, 114, 99, 101, 95, 
    114, 101, 97, 100, 101, 114, 9, 64, 95, 102, 114, 111, 122, 101, 110, 95, 105, 109, 112, 111, 114, 116, 108, 105, 98, 95, 101, 120, 116, 101, 114, 110, 97, 
    108, 46, 70, 105, 108, 101, 76, 111, 97, 100, 101, 114, 46, 103, 101, 116, 95, 114, 101, 115, 111, 117, 114, 99, 101, 95, 114, 101, 97, 100, 101, 114, 35, 
    111, 112, 97, 113, 117, 101, 6, 223, 21, 95, 95, 115, 116, 97, 116, 105, 99, 95, 97, 116, 116, 114, 105, 98, 117, 116, 101, 115, 95, 95, 4, 0, 0, 23, 6, 
    225, 8, 95, 95, 100, 105, 99, 116, 95, 95, 4, 0, 0, 24, 6, 227, 11, 95, 95, 119, 101, 97, 107, 114, 101, 102, 95, 95, 4, 0, 0, 25]⟩⟩ 0, .bool true, 
    .bool true, sv "" 228, iv 26 0, sv ⟨⟨[6, 234, 10, 95, 95, 109, 111, 100, 117, 108, 101, 95, 95, 6, 230, 26, 95, 102, 114, 111, 122, 101, 110, 95, 105, 109, 
    112, 111, 114, 116, 108, 105, 98, 95, 101, 120, 116, 101, 114, 110, 97, 108, 6, 235, 15, 95, 95, 102, 105, 114, 115, 116, 108, 105, 110, 101, 110, 111, 95, 
    95, 4, 231, 0, 1296, 6, 236, 7, 95, 95, 100, 111, 99, 95, 95, 9, 65, 95, 102, 114, 111, 122, 101, 110, 95, 105, 109, 112, 111, 114, 116, 108, 105, 98, 95, 
    101, 120, 116, 101, 114, 110, 97, 108, 46, 69, 120, 116, 101, 110, 115, 105, 111, 110, 70, 105, 108, 101, 76, 111, 97, 100, 101, 114, 46, 95, 95, 100, 111, 
    99, 95, 95, 58, 115, 116, 114, 35, 111, 112, 97, 113, 117, 101, 6, 237, 8, 95, 95, 105, 110, 105, 116, 95, 95, 9, 62, 95, 102, 114, 111, 122, 101, 110, 95, 
    105, 109, 112, 111, 114, 116, 108, 105, 98, 95, 101, 120, 116, 101, 114, 110, 97, 108, 46, 69, 120, 116, 101, 110, 115, 105, 111, 110, 70, 105, 108, 101, 
    76, 111, 97, 100, 101, 114, 46, 95, 95, 105, 110, 105, 116, 95, 95, 35, 111, 112, 97, 113, 117, 101, 6, 238, 6, 95, 95, 101, 113, 95, 95, 9, 60, 95, 102, 
    114, 111, 122, 101, 110, 95, 105, 109, 112, 111, 114, 116, 108, 105, 98, 95, 101, 120, 116, 101, 114, 110, 97, 108, 46, 69, 120, 116, 101, 110, 115, 105, 
    111, 110, 70, 105, 108, 101, 76, 111, 97, 100, 101, 114, 46, 95, 95, 101, 113, 95, 95, 35, 111, 112, 97, 113, 117, 101, 6, 239, 8, 95, 95, 104, 97, 115, 
    104, 95, 95, 9, 62, 95, 102, 114, 111, 122, 101, 110, 95, 105, 109, 112, 111, 114, 116, 108, 105, 98, 95, 101, 120, 116, 101, 114, 110, 97, 108, 46, 69, 
    120, 116, 101, 110, 115, 105, 111, 110, 70, 105, 108, 101, 76, 111, 97, 100, 101, 114, 46, 95, 95, 104, 97, 115, 104, 95, 95, 35, 111, 112, 97, 113, 117, 
    101, 6, 240, 13, 99, 114, 101, 97, 116, 101, 95, 109, 111, 100, 117, 108, 101, 9, 67, 95, 102, 114, 111, 122, 101, 110, 95, 105, 109, 112, 111, 114, 116, 
    108, 105, 98, 95, 101, 120, 116, 101, 114, 110, 97, 108, 46, 69, 120, 116, 101, 110, 115, 105, 111, 110, 70, 105, 108, 101, 76, 111, 97, 100, 101, 114, 46, 
    99, 114, 101, 97, 116, 101, 95, 109, 111, 100, 117, 108, 101, 35, 111, 112, 97, 113, 117, 101, 6, 241, 11, 101, 120, 101, 99, 95, 109, 111, 100, 117, 108, 
    101, 9, 65, 95, 102, 114, 111, 122, 101, 110, 95, 105, 109, 112, 111, 114, 116, 108, 105, 98, 95, 101, 120, 116, 101, 114, 110, 97, 108, 46, 69, 120, 116, 
    101, 110, 115, 105, 111, 110, 70, 105, 108, 101, 76, 111, 97, 100, 101, 114, 46, 101, 120, 101, 99, 95, 109, 111, 100, 117, 108, 101, 35, 111, 112, 97, 
    113, 117, 101, 6, 242, 10, 105, 115, 95, 112, 97, 99, 107, 97, 103, 101, 9, 64, 95, 102, 114, 111, 122, 101, 110, 95, 105, 109, 112, 111, 114, 116, 108, 
    105, 98, 95, 101, 120, 116, 101, 114, 110, 97, 108, 46, 69, 120, 116, 101, 110, 115, 105, 111, 110, 70, 105, 108, 101, 76, 111, 97, 100, 101, 114, 46, 105, 
    115, 95, 112, 97, 99, 107, 97, 103, 101, 35, 111, 112, 97, 113, 117, 101, 6, 243, 8, 103, 101, 116, 95, 99, 111, 100, 101, 9, 62, 95, 102, 114, 111, 122, 
    101, 110, 95, 105, 109, 112, 111, 114, 116, 108, 105, 98, 95, 101, 120, 116, 101, 114, 110, 97, 108, 46, 69, 120, 116, 101, 110, 115, 105, 111, 110, 70, 
    105, 108, 101, 76, 111, 97, 100, 101, 114, 46, 103, 101, 116, 95, 99, 111, 100, 101, 35, 111, 112, 97, 113, 117, 101, 6, 244, 10, 103, 101, 116, 95, 115, 
    111, 117, 114, 99, 101, 9, 64, 95, 102, 114, 111, 122, 101, 110, 95, 105, 109, 112, 111, 114, 116, 108, 105, 98, 95, 101, 120, 116, 101, 114, 110, 97, 108, 
    46, 69, 120, 116, 101, 110, 115, 105, 111, 110, 70, 105, 108, 101, 76, 111, 97, 100, 101, 114, 46, 103, 101, 116, 95, 115, 111, 117, 114, 99, 101, 35, 111, 
    112, 97, 113, 117, 101, 6, 245, 12, 103, 101, 116, 95, 102, 105, 108, 101, 110, 97, 109, 101, 9, 66, 95, 102, 114, 111, 122, 101, 110, 95, 105, 109, 112, 
    111, 114, 116, 108, 105, 98, 95, 101, 120, 116, 101, 114, 110, 97, 108, 46, 69, 120, 116, 101, 110, 115, 105, 111, 110, 70, 105, 108, 101, 76, 111, 97, 
    100, 101, 114, 46, 103, 101, 116, 95, 102, 105, 108, 101, 110, 97, 109, 101, 35, 111, 112, 97, 113, 117, 101, 6, 246, 21, 95, 95, 115, 116, 97, 116, 105, 
    99, 95, 97, 116, 116, 114, 105, 98, 117, 116, 101, 115, 95, 95, 4, 0, 0, 28]⟩⟩ 0, .bool true, .bool true, sv "" 247, iv 32 0, sv ⟨⟨[6, 268, 10, 95, 95, 
    109, 111, 100, 117, 108, 101, 95, 95, 6, 258, 17, 95, 102, 114, 111, 122, 101, 110, 95, 105, 109, 112, 111, 114, 116, 108, 105, 98, 6, 269, 15, 95, 95, 
    102, 105, 114, 115, 116, 108, 105, 110, 101, 110, 111, 95, 95, 4, 259, 0, 562, 6, 270, 7, 95, 95, 100, 111, 99, 95, 95, 9, 47, 95, 102, 114, 111, 122, 101, 
    110, 95, 105, 109, 112, 111, 114, 116, 108, 105, 98, 46, 77, 111, 100, 117, 108, 101, 83, 112, 101, 99, 46, 95, 95, 100, 111, 99, 95, 95, 58, 115, 116, 
    114, 35, 111, 112, 97, 113, 117, 101, 6, 271, 8, 95, 95, 105, 110, 105, 116, 95, 95, 9, 44, 95, 102, 114, 111, 122, 101, 110, 95, 105, 109, 112, 111, 114, 
    116, 108, 105, 98, 46, 77, 111, 100, 117, 108, 101, 83, 112, 101, 99, 46, 95, 95, 105, 110, 105, 116, 95, 95, 35, 111, 112, 97, 113, 117, 101, 6, 272, 8, 
    95, 95, 114, 101, 112, 114, 95, 95, 9, 44, 95, 102, 114, 111, 122, 101, 110, 95, 105, 109, 112, 111, 114, 116, 108, 105, 98, 46, 77, 111, 100, 117, 108, 
    101, 83, 112, 101, 99, 46, 95, 95, 114, 101, 112, 114, 95, 95, 35, 111, 112, 97, 113, 117, 101, 6, 273, 6, 95, 95, 101, 113, 95, 95, 9, 42, 95, 102, 114, 
    111, 122, 101, 110, 95, 105, 109, 112, 111, 114, 116, 108, 105, 98, 46, 77, 111, 100, 117, 108, 101, 83, 112, 101, 99, 46, 95, 95, 101, 113, 95, 95, 35, 
    111, 112, 97, 113, 117, 101, 6, 274, 6, 99, 97, 99, 104, 101, 100, 9, 42, 95, 102, 114, 111, 122, 101, 110, 95, 105, 109, 112, 111, 114, 116, 108, 105, 98, 
    46, 77, 111, 100, 117, 108, 101, 83, 112, 101, 99, 46, 99, 97, 99, 104, 101, 100, 35, 111, 112, 97, 113, 117, 101, 6, 275, 6, 112, 97, 114, 101, 110, 116, 
    9, 42, 95, 102, 114, 111, 122, 101, 110, 95, 105, 109, 112, 111, 114, 116, 108, 105, 98, 46, 77, 111, 100, 117, 108, 101, 83, 112, 101, 99, 46, 112, 97, 
    114, 101, 110, 116, 35, 111, 112, 97, 113, 117, 101, 6, 276, 12, 104, 97, 115, 95, 108, 111, 99, 97, 116, 105, 111, 110, 9, 48, 95, 102, 114, 111, 122, 
    101, 110, 95, 105, 109, 112, 111, 114, 116, 108, 105, 98, 46, 77, 111, 100, 117, 108, 101, 83, 112, 101, 99, 46, 104, 97, 115, 95, 108, 111, 99, 97, 116, 
    105, 111, 110, 35, 111, 112, 97, 113, 117, 101, 6, 277, 21, 95, 95, 115, 116, 97, 116, 105, 99, 95, 97, 116, 116, 114, 105, 98, 117, 116, 101, 115, 95, 95, 
    4, 0, 0, 34, 6, 279, 8, 95, 95, 100, 105, 99, 116, 95, 95, 4, 0, 0, 35, 6, 281, 11, 95, 95, 119, 101, 97, 107, 114, 101, 102, 95, 95, 4, 0, 0, 36, 6, 282, 
    8, 95, 95, 104, 97, 115, 104, 95, 95, 0]⟩⟩ 0, .bool true, .bool true, sv "" 283] 3) #[]
def o21 (P : Params) : Obj := dctO [en P "__module__" 213 (sv "_frozen_importlib_external" 209), en P "__firstlineno__" 214 (iv 1176 210), 
    en P "__doc__" 215 (.builtin "_frozen_importlib_external.FileLoader.__doc__:str#opaque"), 
    en P "__init__" 216 (.builtin "_frozen_importlib_external.FileLoader.__init__#opaque"), 
    en P "__eq__" 217 (.builtin "_frozen_importlib_external.FileLoader.__eq__#opaque"), 
    en P "__hash__" 218 (.builtin "_frozen_importlib_external.FileLoader.__hash__#opaque"), 
    en P "load_module" 219 (.builtin "_frozen_importlib_external.FileLoader.load_module#opaque"), 
    en P "get_filename" 220 (.builtin "_frozen_importlib_external.FileLoader.get_filename#opaque"), 
    en P "get_data" 221 (.builtin "_frozen_importlib_external.FileLoader.get_data#opaque"), 
    en P "get_resource_reader" 222 (.builtin "_frozen_importlib_external.FileLoader.get_resource_reader#opaque"), en P "__static_attributes__" 223 (.ref 23), 
    en P "__dict__" 225 (.ref 24), en P "__weakref__" 227 (.ref 25)] 13
def o22 (P : Params) : Obj := Obj.mk (.type "type") none (Data.cls (ClassData.mk "FileLoader" [.type "object"] [.ref 22, 
    .type "object"] 21 "FileLoader" true [] [.ref 27] false none false)) #[]
def o23 (P : Params) : Obj := Obj.mk (.type "tuple") none (Data.seq #[sv "name" 211, sv "path" 212]) #[]
def o24 (P : Params) : Obj := Obj.mk (.type "getset_descriptor") none (Data.fields #[sv "__dict__" 224, .ref 22, .builtin "function.__dict__", .builtin "function.__dict__#set"]) #[]
def o25 (P : Params) : Obj := Obj.mk (.type "getset_descriptor") none (Data.fields #[sv "__weakref__" 226, .ref 22, .builtin "ExceptionGroup.__weakref__", .none]) #[]
def o26 (P : Params) : Obj := dctO [en P "__module__" 234 (sv "_frozen_importlib_external" 230), en P "__firstlineno__" 235 (iv 1296 231), 
    en P "__doc__" 236 (.builtin "_frozen_importlib_external.ExtensionFileLoader.__doc__:str#opaque"), 
    en P "__init__" 237 (.builtin "_frozen_importlib_external.ExtensionFileLoader.__init__#opaque"), 
    en P "__eq__" 238 (.builtin "_frozen_importlib_external.ExtensionFileLoader.__eq__#opaque"), 
    en P "__hash__" 239 (.builtin "_frozen_importlib_external.ExtensionFileLoader.__hash__#opaque"), 
    en P "create_module" 240 (.builtin "_frozen_importlib_external.ExtensionFileLoader.create_module#opaque"), 
    en P "exec_module" 241 (.builtin "_frozen_importlib_external.ExtensionFileLoader.exec_module#opaque"), 
    en P "is_package" 242 (.builtin "_frozen_importlib_external.ExtensionFileLoader.is_package#opaque"), 
    en P "get_code" 243 (.builtin "_frozen_importlib_external.ExtensionFileLoader.get_code#opaque"), 
    en P "get_source" 244 (.builtin "_frozen_importlib_external.ExtensionFileLoader.get_source#opaque"), 
    en P "get_filename" 245 (.builtin "_frozen_importlib_external.ExtensionFileLoader.get_filename#opaque"), en P "__static_attributes__" 246 (.ref 28)] 13
def o27 (P : Params) : Obj := Obj.mk (.type "type") none (Data.cls (ClassData.mk "ExtensionFileLoader" [.ref 22, .ref 16] [.ref 27, .ref 22, .ref 16, 
    .type "object"] 26 "ExtensionFileLoader" true [] [] false none false)) #[]
def o28 (P : Params) : Obj := Obj.mk (.type "tuple") none (Data.seq #[sv "name" 232, sv "path" 233]) #[]
def o29 (P : Params) : Obj := Obj.mk (.ref 27) (some 14) Data.plain #[]
def o30 (P : Params) : Obj := Obj.mk (.type "list") none (Data.seq #[]) #[]
def o31 (P : Params) : Obj := dctO [en P "name" 249 (sv "math" 248), en P "loader" 250 (.ref 29), 
    en P "origin" 251 (sv "/nix/store/wj1f56qky4pmjc7l0r6b6l7whnnw7hp6-python3-3.13.15/lib/python3.13/lib-dynload/math.cpython-313-x86_64-linux-gnu.so" 187), 
    en P "loader_state" 252 .none, en P "submodule_search_locations" 253 .none, en P "_uninitialized_submodules" 254 (.ref 30), 
    en P "_set_fileattr" 255 (.bool true), en P "_cached" 256 .none, en P "_initializing" 284 (.bool false)] 9
def o32 (P : Params) : Obj := dctO [en P "__module__" 268 (sv "_frozen_importlib" 258), en P "__firstlineno__" 269 (iv 562 259), 
    en P "__doc__" 270 (.builtin "_frozen_importlib.ModuleSpec.__doc__:str#opaque"), 
    en P "__init__" 271 (.builtin "_frozen_importlib.ModuleSpec.__init__#opaque"), 
    en P "__repr__" 272 (.builtin "_frozen_importlib.ModuleSpec.__repr__#opaque"), en P "__eq__" 273 (.builtin "_frozen_importlib.ModuleSpec.__eq__#opaque"), 
    en P "cached" 274 (.builtin "_frozen_importlib.ModuleSpec.cached#opaque"), en P "parent" 275 (.builtin "_frozen_importlib.ModuleSpec.parent#opaque"), 
    en P "has_location" 276 (.builtin "_frozen_importlib.ModuleSpec.has_location#opaque"), en P "__static_attributes__" 277 (.ref 34), 
    en P "__dict__" 279 (.ref 35), en P "__weakref__" 281 (.ref 36), en P "__hash__" 282 .none] 13
def o33 (P : Params) : Obj := Obj.mk (.type "type") none (Data.cls (ClassData.mk "ModuleSpec" [.type "object"] [.ref 33, .type "object"] 32 "ModuleSpec" true [] [] false none false)) #[]
def o34 (P : Params) : Obj := Obj.mk (.type "tuple") none (Data.seq #[sv "_cached" 260, sv "_set_fileattr" 261, sv "_uninitialized_submodules" 262, sv "loader" 263, sv "loader_state" 264, 
    sv "name" 265, sv "origin" 266, sv "submodule_search_locations" 267]) #[]
def o35 (P : Params) : Obj := Obj.mk (.type "getset_descriptor") none (Data.fields #[sv "__dict__" 278, .ref 33, .builtin "function.__dict__", .builtin "function.__dict__#set"]) #[]
def o36 (P : Params) : Obj := Obj.mk (.type "getset_descriptor") none (Data.fields #[sv "__weakref__" 280, .ref 33, .builtin "ExceptionGroup.__weakref__", .none]) #[]
def o37 (P : Params) : Obj := Obj.mk (.ref 33) (some 31) Data.plain #[]
def o38 (P : Params) : Obj := Obj.mk .none none (Data.seq #[iv 12 0, .str (Str.mk #[6, 288, 8, 95, 95, 110, 97, 109, 101, 95, 95, 6, 287, 4, 109, 97, 116, 104, 6, 289, 7, 95, 95, 100, 111, 
    99, 95, 95, 9, 23, 109, 97, 116, 104, 46, 95, 95, 100, 111, 99, 95, 95, 58, 115, 116, 114, 35, 111, 112, 97, 113, 117, 101, 6, 291, 11, 95, 95, 112, 97, 
    99, 107, 97, 103, 101, 95, 95, 6, 290, 0, 6, 292, 10, 95, 95, 108, 111, 97, 100, 101, 114, 95, 95, 4, 0, 0, 29, 6, 293, 8, 95, 95, 115, 112, 101, 99, 95, 
    95, 4, 0, 0, 37, 6, 294, 4, 97, 99, 111, 115, 9, 9, 109, 97, 116, 104, 46, 97, 99, 111, 115, 6, 295, 5, 97, 99, 111, 115, 104, 9, 10, 109, 97, 116, 104, 
    46, 97, 99, 111, 115, 104, 6, 296, 4, 97, 115, 105, 110, 9, 9, 109, 97, 116, 104, 46, 97, 115, 105, 110, 6, 297, 5, 97, 115, 105, 110, 104, 9, 10, 109, 97, 
    116, 104, 46, 97, 115, 105, 110, 104, 6, 298, 4, 97, 116, 97, 110, 9, 9, 109, 97, 116, 104, 46, 97, 116, 97, 110, 6, 299, 5, 97, 116, 97, 110, 50, 9, 10, 
    109, 97, 116, 104, 46, 97, 116, 97, 110, 50, 6, 300, 5, 97, 116, 97, 110, 104, 9, 10, 109, 97, 116, 104, 46, 97, 116, 97, 110, 104, 6, 301, 4, 99, 98, 114, 
    116, 9, 9, 109, 97, 116, 104, 46, 99, 98, 114, 116, 6, 302, 4, 99, 101, 105, 108, 9, 9, 109, 97, 116, 104, 46, 99, 101, 105, 108, 6, 303, 8, 99, 111, 112, 
    121, 115, 105, 103, 110, 9, 13, 109, 97, 116, 104, 46, 99, 111, 112, 121, 115, 105, 103, 110, 6, 304, 3, 99, 111, 115, 9, 8, 109, 97, 116, 104, 46, 99, 
    111, 115, 6, 305, 4, 99, 111, 115, 104, 9, 9, 109, 97, 116, 104, 46, 99, 111, 115, 104, 6, 306, 7, 100, 101, 103, 114, 101, 101, 115, 9, 12, 109, 97, 116, 
    104, 46, 100, 101, 103, 114, 101, 101, 115, 6, 307, 4, 100, 105, 115, 116, 9, 9, 109, 97, 116, 104, 46, 100, 105, 115, 116, 6, 308, 3, 101, 114, 102, 9, 8, 
    109, 97, 116, 104, 46, 101, 114, 102, 6, 309, 4, 101, 114, 102, 99, 9, 9, 109, 97, 116, 104, 46, 101, 114, 102, 99, 6, 310, 3, 101, 120, 112, 9, 8, 109, 
    97, 116, 104, 46, 101, 120, 112, 6, 311, 4, 101, 120, 112, 50, 9, 9, 109, 97, 116, 104, 46, 101, 120, 112, 50, 6, 312, 5, 101, 120, 112, 109, 49, 9, 10, 
    109, 97, 116, 104, 46, 101, 120, 112, 109, 49, 6, 313, 4, 102, 97, 98, 115, 9, 9, 109, 97, 116, 104, 46, 102, 97, 98, 115, 6, 314, 9, 102, 97, 99, 116, 
    111, 114, 105, 97, 108, 9, 14, 109, 97, 116, 104, 46, 102, 97, 99, 116, 111, 114, 105, 97, 108, 6, 315, 5, 102, 108, 111, 111, 114, 9, 10, 109, 97, 116, 
    104, 46, 102, 108, 111, 111, 114, 6, 316, 3, 102, 109, 97, 9, 8, 109, 97, 116, 104, 46, 102, 109, 97, 6, 317, 4, 102, 109, 111, 100, 9, 9, 109, 97, 116, 
    104, 46, 102, 109, 111, 100, 6, 318, 5, 102, 114, 101, 120, 112, 9, 10, 109, 97, 116, 104, 46, 102, 114, 101, 120, 112, 6, 319, 4, 102, 115, 117, 109, 9, 
    9, 109, 97, 116, 104, 46, 102, 115, 117, 109, 6, 320, 5, 103, 97, 109, 109, 97, 9, 10, 109, 97, 116, 104, 46, 103, 97, 109, 109, 97, 6, 321, 3, 103, 99, 
    100, 9, 8, 109, 97, 116, 104, 46, 103, 99, 100, 6, 322, 5, 104, 121, 112, 111, 116, 9, 10, 109, 97, 116, 104, 46, 104, 121, 112, 111, 116, 6, 323, 7, 105, 
    115, 99, 108, 111, 115, 101, 9, 12, 109, 97, 116, 104, 46, 105, 115, 99, 108, 111, 115, 101, 6, 324, 8, 105, 115, 102, 105, 110, 105, 116, 101, 9, 13, 109, 
    97, 116, 104, 46, 105, 115, 102, 105, 110, 105, 116, 101, 6, 325, 5, 105, 115, 105, 110, 102, 9, 10, 109, 97, 116, 104, 46, 105, 115, 105, 110, 102, 6, 
    326, 5, 105, 115, 110, 97, 110, 9, 10, 109, 97, 116, 104, 46, 105, 115, 110, 97, 110, 6, 327, 5, 105, 115, 113, 114, 116, 9, 10, 109, 97, 116, 104, 46, 
    105, 115, 113, 114, 116, 6, 328, 3, 108, 99, 109, 9, 8, 109, 97, 116, 104, 46, 108, 99, 109, 6, 329, 5, 108, 100, 101, 120, 112, 9, 10, 109, 97, 116, 104, 
    46, 108, 100, 101, 120, 112, 6, 330, 6, 108, 103, 97, 109, 109, 97, 9, 11, 109, 97, 116, 104, 46, 108, 103, 97, 109, 109, 97, 6, 331, 3, 108, 111, 103, 9, 
    8, 109, 97, 116, 104, 46, 108, 111, 103, 6, 332, 5, 108, 111, 103, 49, 112, 9, 10, 109, 97, 116, 104, 46, 108, 111, 103, 49, 112, 6, 333, 5, 108, 111, 103, 
    49, 48, 9, 10, 109, 97, 116, 104, 46, 108, 111, 103, 49, 48, 6, 334, 4, 108, 111, 103, 50, 9, 9, 109, 97, 116, 104, 46, 108, 111, 103, 50, 6, 335, 4, 109, 
    111, 100, 102, 9, 9, 109, 97, 116, 104, 46, 109, 111, 100, 102, 6, 336, 3, 112, 111, 119, 9, 8, 109, 97, 116, 104, 46, 112, 111, 119, 6, 337, 7, 114, 97, 
    100, 105, 97, 110, 115, 9, 12, 109, 97, 116, 104, 46, 114, 97, 100, 105, 97, 110, 115, 6, 338, 9, 114, 101, 109, 97, 105, 110, 100, 101, 114, 9, 14, 109, 
    97, 116, 104, 46, 114, 101, 109, 97, 105, 110, 100, 101, 114, 6, 339, 3, 115, 105, 110, 9, 8, 109, 97, 116, 104, 46, 115, 105, 110, 6, 340, 4, 115, 105, 
    110, 104, 9, 9, 109, 97, 116, 104, 46, 115, 105, 110, 104, 6, 341, 4, 115, 113, 114, 116, 9, 9, 109, 97, 116, 104, 46, 115, 113, 114, 116, 6, 342, 3, 116, 
    97, 110, 9, 8, 109, 97, 116, 104, 46, 116, 97, 110, 6, 343, 4, 116, 97, 110, 104, 9, 9, 109, 97, 116, 104, 46, 116, 97, 110, 104, 6, 344, 7, 115, 117, 109, 
    112, 114, 111, 100, 9, 12, 109, 97, 116, 104, 46, 115, 117, 109, 112, 114, 111, 100, 6, 345, 5, 116, 114, 117, 110, 99, 9, 10, 109, 97, 116, 104, 46, 116, 
    114, 117, 110, 99, 6, 346, 4, 112, 114, 111, 100, 9, 9, 109, 97, 116, 104, 46, 112, 114, 111, 100, 6, 347, 4, 112, 101, 114, 109, 9, 9, 109, 97, 116, 104, 
    46, 112, 101, 114, 109, 6, 348, 4, 99, 111, 109, 98, 9, 9, 109, 97, 116, 104, 46, 99, 111, 109, 98, 6, 349, 9, 110, 101, 120, 116, 97, 102, 116, 101, 114, 
    9, 14, 109, 97, 116, 104, 46, 110, 101, 120, 116, 97, 102, 116, 101, 114, 6, 350, 3, 117, 108, 112, 9, 8, 109, 97, 116, 104, 46, 117, 108, 112, 6, 351, 8, 
    95, 95, 102, 105, 108, 101, 95, 95, 6, 187, 123, 47, 110, 105, 120, 47, 115, 116, 111, 114, 101, 47, 119, 106, 49, 102, 53, 54, 113, 107, 121, 52, 112, 
    109, 106, 99, 55, 108, 48, 114, 54, 98, 54, 108, 55, 119, 104, 110, 110, 119, 55, 104, 112, 54, 45, 112, 121, 116, 104, 111, 110, 51, 45, 51, 46, 49, 51, 
    46, 49, 53, 47, 108, 105, 98, 47, 112, 121, 116, 104, 111, 110, 51, 46, 49, 51, 47, 108, 105, 98, 45, 100, 121, 110, 108, 111, 97, 100, 47, 109, 97, 116, 
    104, 46, 99, 112, 121, 116, 104, 111, 110, 45, 51, 49, 51, 45, 120, 56, 54, 95, 54, 52, 45, 108, 105, 110, 117, 120, 45, 103, 110, 117, 46, 115, 111, 6, 
    353, 2, 112, 105, 5, 352, 4614256656552045848, 6, 355, 1, 101, 5, 354, 4613303445314885481, 6, 357, 3, 116, 97, 117, 5, 356, 4618760256179416344, 6, 359, 
    3, 105, 110, 102, 5, 358, 9218868437227405312, 6, 361, 3, 110, 97, 110, 5, 360, 9221120237041090560]) 0, .bool true, .bool false, sv "math" 363]) #[]
def mainE (P : Params) : List DictEntry := [en P "__doc__" 166 .none, en P "__package__" 167 .none, en P "__loader__" 168 (.builtin "__main__.__loader__#opaque"), en P "__spec__" 169 .none, en P "__annotations__" 170 (.ref 6), en P "__builtins__" 171 (.ref 4), en P "__file__" 173 (sv "/claim/cut.py" 172), en P "__cached__" 174 .none, en P "gcd" 370 (.builtin "math.gcd"), en P "lcm" 373 (.builtin "math.lcm")]
def boot (P : Params) (o3 : Obj) : List Obj := [o0 P, o1 P, o2 P, o3, o4 P, o5 P, o6 P, o7 P, o8 P, o9 P, o10 P, o11 P, o12 P, o13 P, o14 P, o15 P, o16 P, o17 P, o18 P, o19 P, o20 P, o21 P, o22 P, o23 P, o24 P, o25 P, o26 P, o27 P, o28 P, o29 P, o30 P, o31 P, o32 P, o33 P, o34 P, o35 P, o36 P, o37 P, o38 P]
def T0 : Nat := 374
def ks0 : List Kd := [.nm,
    .base "Refused" ["self", "what", "word"] ["what", "word"],
    .err ["self", "what"],
    .err ["self", "what"],
    .err ["self", "what"],
    .err ["self", "what"],
    .err ["self", "what"],
    .err ["self", "what"],
    .err ["self", "what"],
    .err ["self", "what"],
    .err ["self", "what"],
    .err ["self", "what"],
    .err ["self", "what"],
    .err ["self", "what"],
    .err ["self", "what"],
    .err ["self", "what"],
    .err ["self", "what"],
    .err ["self", "what"],
    .err ["self", "what"],
    .err ["self", "what"]]
def ks1 : List Kd := [.err ["self", "what"],
    .err ["self", "what"],
    .err ["self", "what"],
    .err ["self", "what"],
    .err ["self", "what"],
    .err ["self", "what"],
    .err ["self", "what"],
    .err ["self", "what"],
    .err ["self", "what"],
    .err ["self", "what"],
    .err ["self", "what"],
    .err ["self", "what"],
    .err ["self", "what"],
    .err ["self", "what"],
    .err ["self", "what"],
    .err ["self", "what"],
    .err ["self", "what"],
    .err ["self", "what"],
    .err ["self", "what"],
    .err ["self", "what"]]
def ks2 : List Kd := [.err ["self", "what"],
    .err ["self", "what"],
    .err ["self", "what"],
    .err ["self", "what"],
    .err ["self", "what"],
    .err ["self", "what"],
    .err ["self", "what"],
    .err ["self", "what"],
    .err ["self", "what"],
    .err ["self", "what"],
    .err ["self", "what"],
    .err ["self", "what"],
    .err ["self", "what"],
    .err ["self", "what"],
    .fn (some (["thing", "low", "high"], [])),
    .nm,
    .num (1000000) 0,
    .num (1000000000000000) 2,
    .num (30) 0,
    .fn (some (["scale", "numbers", "index", "number"], []))]
def ks3 : List Kd := [.fn (some (["many", "thing", "scale", "numbers"], [])),
    .fn (some (["thing"], [])),
    .nm,
    .num (1000) 0,
    .num (99) 0,
    .num (29) 0,
    .num (29) 0,
    .fn (some (["thing"], [])),
    .fn (some (["thing"], [])),
    .fn none,
    .fn (some (["thing", "many"], [])),
    .fn (some (["many", "course", "index", "pair"], [])),
    .fn none,
    .fn (some (["top", "bottom", "common"], [])),
    .fn none,
    .fn none,
    .nm,
    .num (1000000000000) 2,
    .fn (some (["who"], [])),
    .obj [(some (["self"], [])), none, none, none, (some (["self", "bill", "who", "x", "number", "scale"], [])), (some (["self", "who", "amount"], [])), (some (["self"], [])), (some (["self", "who", "rows", "top", "bottom"], [])), none, (some (["self"], []))] ["_rows"]]
def ks4 : List Kd := [.nm,
    .fn (some (["script", "k", "cell", "big", "stirred"], [])),
    .fn (some (["jar", "top", "number"], [])),
    .fn (some (["jar", "things"], [])),
    .fn (some (["thing", "low", "high"], [])),
    .fn none,
    .fn (some (["top", "bottom", "high", "low"], [])),
    .fn (some (["first", "second"], [])),
    .fn (some (["thing", "who", "x", "number", "scale"], [])),
    .fn none,
    .fn none,
    .fn none,
    .fn (some (["kept", "deed"], [])),
    .fn (some (["store", "deed"], [])),
    .fn (some (["kept", "who", "found", "deed"], [])),
    .fn (some (["kept", "some", "booked_now", "paid_now", "deed"], [])),
    .fn (some (["kept", "who", "booked_now", "paid_now"], [])),
    .fn none,
    .fn (some (["jar", "number"], [])),
    .fn (some (["jar", "bill", "at", "odd"], []))]
def ks5 : List Kd := [.fn (some (["jar", "form", "bill"], [])),
    .fn (some (["thing"], [])),
    .fn (some (["told", "owed", "at"], [])),
    .fn (some (["refused_one"], [])),
    .fn none,
    .fn (some (["deed", "owed"], [])),
    .fn (some (["deed", "name", "what"], [])),
    .fn none,
    .fn (some (["jar", "some", "at", "bent", "wrong", "told", "owed"], ["some", "thing"])),
    .fn none,
    .fn (some (["jar", "day", "posted", "pairs", "who_of", "at", "by", "strange", "odd", "some", "prices_now"], [])),
    .fn (some (["jar", "day"], ["owed", "pairs", "posted", "who_of"])),
    .fn (some (["store", "kept", "deed", "owed", "behind"], ["store", "deed"])),
    .fn (some (["jar", "store"], ["store", "who"])),
    .fn (some (["jar", "stores", "kept", "turn", "at", "is_right"], [])),
    .fn (some (["script", "go", "jar"], ["wide"]))]
def ks : List Kd := ks0 ++ ks1 ++ ks2 ++ ks3 ++ ks4 ++ ks5
def md0 : Value := sv "__main__" 164
def f0 : FS := ⟨43, 380, [], [], [], md0, 0⟩
def fs (P : Params) (a : Nat) : FS := runK P T0 (subsOf (ks.take a) (runK P T0 [] (ks.take a) bd f0).es.reverse) (ks.take a) bd f0
def mainO (P : Params) (s : FS) : Obj := dctO (en P "__name__" 165 s.md :: (mainE P ++ s.es.reverse)) (11 + s.es.length)
def preO (s : FS) : List Obj := [tupO [], fldO .none s.tab, codeO T0 "<module>" "<module>" (T0 + 1) 1 0 0 39 false 40 .none .none .none (T0 + 4), frmO 41 3 md0]
def objs (P : Params) (s : FS) : List Obj := boot P (mainO P s) ++ (preO s ++ flat s.os [])
def stOf (P : Params) (os : OsState) (s : FS) : SharedT := ⟨mkT 16 (objs P s), s.n, life0, ⟨[]⟩, ⟨0, 0, 0, 0⟩, s.t, os⟩
def st (a : Nat) (w : World) (os : OsState) : SharedT := stOf w.params os (fs w.params a)
def H0 (P : Params) : Heap := ⟨⟨boot P (dctO (en P "__name__" 165 md0 :: mainE P) 11)⟩, life0⟩
def s0 (w : World) (os : OsState) : Shared := ⟨H0 w.params, ⟨[]⟩, ⟨0, 0, 0, 0⟩, T0, os⟩
def ev : Env := { scope := p.main.scope, locals := mainNs, globals := mainNs, cells := [], code := .ref 41, frame := some 42 }
abbrev q0 : Pos := ⟨0, 0, 0, 0⟩
abbrev cd : Code := .body bd ev
abbrev B0 : List Frame := [topFrame q0]
end HB
end HDb
section HDh
set_option Elab.async false
set_option linter.all false
set_option maxRecDepth 100000
set_option maxHeartbeats 0
namespace HB
open PySem PySem.W HD
def hl (P : Params) : List Obj := objs P (fs P 116)
def hn (P : Params) : Nat := (fs P 116).n
end HB
end HDh
section HDd
set_option Elab.async false
set_option linter.all false
set_option maxRecDepth 100000
set_option maxHeartbeats 0
namespace HB
open PySem PySem.W PySem.Calls PyProof.Rows HandSHeadRun HD
abbrev R : OpenRow := OpenLaw.row PySem.Challenge.rw_pricesalone_k83_bills_months_and_account
abbrev qv : Program := view R.prog [116]
def loose0 : List Str := ["gcd", "lcm", "__name__", "Refused", "BadRow", "BadTaker", "BadThing", "BadKind", "BadLot", "BadMany", "BadHall", "Unplaced"]
def loose1 : List Str := ["BadWorth", "BadEntries", "BadOrder", "NotIn", "HasCore", "BadIndex", "NotGood", "BadPrices", "BadCourse", "Served", "Sold", "NotBest"]
def loose2 : List Str := ["NothingToUndo", "NoCore", "BadShop", "BadMusts", "Unsold", "NoBar", "BadKinds", "BadWants", "NotFull", "BadTakers", "Here", "Nested"]
def loose3 : List Str := ["BadAssignment", "BadGiven", "BadCounter", "NoLook", "NotSeen", "BadEdit", "BadGuard", "Posted", "NotPosted", "BadNumber", "BadBills", "BadWho"]
def loose4 : List Str := ["BadAmount", "NothingToRedo", "BadText", "WrongLine", "BadNames", "BadPaper", "Same", "TooMany", "is_whole", "MOST_SCALE", "MOST_NUMBER", "MOST_THINGS"]
def loose5 : List Str := ["asked_numbers", "asked_prices", "asked_alone", "MOST_BILLS", "LAST_WHO", "LAST_THING", "LAST_TAKER", "is_who", "is_bill", "made_bills", "is_pair", "asked_pairs"]
def loose6 : List Str := ["bills_of", "lowest", "sum_of", "month", "MOST_AMOUNT", "asked_who", "Accounts", "_law_pool", "_law_take", "_law_one", "_law_is_number", "_law_wrong_prices"]
def loose7 : List Str := ["_law_lowest", "_law_added", "_law_is_bill", "_law_wrong_bills", "_law_month_of", "_law_bills_owed", "_law_book_did", "_law_book_did_on", "_law_statement_of", "_law_sums_of", "_law_balance_of", "_law_book_told"]
def loose8 : List Str := ["_law_drawn_bill", "_law_bent_bill", "_law_drawn_book", "_law_is_whole", "_law_same", "_law_classes", "_law_heard", "_law_tells", "_law_refuses", "_law_some_bills", "_law_bills_right", "_law_some_day"]
def loose9 : List Str := ["_law_bent_days", "_law_days_right", "_law_deed_right", "_law_odd_asked", "_law_accounts_right"]
def loose : List Str := loose0 ++ loose1 ++ loose2 ++ loose3 ++ loose4 ++ loose5 ++ loose6 ++ loose7 ++ loose8 ++ loose9
abbrev H1 (P : Params) : Heap := heapL (hl P) (hn P)
abbrev hk : Hook := hookL hl hn
theorem lk1 (w : World) (os : OsState) : staticsOk (importedModules p.main.body) (H0 w.params) (st 116 w os).abs.heap = true := by kernel_rfl
theorem lk2 (w : World) (os : OsState) : namesBound p (st 116 w os).abs.heap = true := by kernel_rfl
theorem lk3 (w : World) (os : OsState) : laidKept (H0 w.params) (st 116 w os).abs.heap = true := by kernel_rfl
theorem lk4 (w : World) (os : OsState) : seenQ qv loose (importedModules p.main.body) (fun s => xlAt qv [] s && recOk R.toRowW.records s) (st 116 w os).abs = openGood qv loose := by kernel_rfl
theorem size (w : World) : ((H0 w.params).isNs mainGlobals && (Array.mk [] : Array GenState).size == 0, (H0 w.params).objs.size, (H0 w.params).nsMap mainGlobals "__annotations__") = (true, 39, some (.ref 6)) := by kernel_rfl
theorem len_hl (P : Params) : (hl P).length = 1553 := by kernel_rfl
theorem hn_eq (P : Params) : hn P = 1553 := by kernel_rfl
end HB
end HDd
section HDc
set_option Elab.async false
set_option linter.all false
set_option maxRecDepth 100000
set_option maxHeartbeats 0
namespace HB
open PySem PySem.W PySem.Calls PyProof.Rows HandSHeadRun HD
theorem boot_run (w : World) : (openF (fun q => stepQ (denQ tabQ) q w) fenceQ 40000 p).map (fun s => (s.heap, s.gens, s.drawn, s.toks)) = some (H0 w.params, ⟨[]⟩, ⟨0, 0, 0, 0⟩, T0) := by
  kernel_rfl
theorem pre_run (w : World) (os : OsState) : onTree (s0 w os) (fun s => goG (stepQ (denQ tabQ) p w) 39 (some (.ref 6)) 12 s (topStub p)) = some (st 0 w os, ⟨denQ tabQ cd, cd, q0, B0⟩) := by
  kernel_rfl
theorem blk_run (w : World) (os : OsState) : frS (st 0 w os) (fun s => segF (stepQ (denQ tabQ) p w) 39 (some (.ref 6)) 1 s (blockOf bd ev cd q0 B0)) = some (.next, st 0 w os, cd, q0) := by
  kernel_rfl
theorem seg0 (w : World) (os : OsState) : frS (st 0 w os) (fun s => segF (stepQ (denQ tabQ) p w) 39 (some (.ref 6)) 2588 s (piecesOf ((bd.drop 0).take 11) ev cd ⟨0, 0, 0, 0⟩ B0)) = some (.next, st 11 w os, cd, ⟨41, 0, 44, 42⟩) := by
  kernel_rfl
theorem seg1 (w : World) (os : OsState) : frS (st 11 w os) (fun s => segF (stepQ (denQ tabQ) p w) 39 (some (.ref 6)) 2601 s (piecesOf ((bd.drop 11).take 10) ev cd ⟨41, 0, 44, 42⟩ B0)) = some (.next, st 21 w os, cd, ⟨81, 0, 84, 38⟩) := by
  kernel_rfl
theorem seg2 (w : World) (os : OsState) : frS (st 21 w os) (fun s => segF (stepQ (denQ tabQ) p w) 39 (some (.ref 6)) 2601 s (piecesOf ((bd.drop 21).take 10) ev cd ⟨81, 0, 84, 38⟩ B0)) = some (.next, st 31 w os, cd, ⟨121, 0, 124, 41⟩) := by
  kernel_rfl
theorem seg3 (w : World) (os : OsState) : frS (st 31 w os) (fun s => segF (stepQ (denQ tabQ) p w) 39 (some (.ref 6)) 2601 s (piecesOf ((bd.drop 31).take 10) ev cd ⟨121, 0, 124, 41⟩ B0)) = some (.next, st 41 w os, cd, ⟨161, 0, 164, 42⟩) := by
  kernel_rfl
theorem seg4 (w : World) (os : OsState) : frS (st 41 w os) (fun s => segF (stepQ (denQ tabQ) p w) 39 (some (.ref 6)) 2601 s (piecesOf ((bd.drop 41).take 10) ev cd ⟨161, 0, 164, 42⟩ B0)) = some (.next, st 51 w os, cd, ⟨201, 0, 204, 42⟩) := by
  kernel_rfl
theorem seg5 (w : World) (os : OsState) : frS (st 51 w os) (fun s => segF (stepQ (denQ tabQ) p w) 39 (some (.ref 6)) 2584 s (piecesOf ((bd.drop 51).take 56) ev cd ⟨201, 0, 204, 42⟩ B0)) = some (.next, st 107 w os, cd, ⟨513, 0, 514, 52⟩) := by
  kernel_rfl
theorem seg6 (w : World) (os : OsState) : frS (st 107 w os) (fun s => segF (stepQ (denQ tabQ) p w) 39 (some (.ref 6)) 296 s (piecesOf ((bd.drop 107).take 9) ev cd ⟨513, 0, 514, 52⟩ B0)) = some (.next, st 116 w os, cd, ⟨578, 0, 586, 79⟩) := by
  kernel_rfl
theorem fin_run (w : World) (os : OsState) : frS (st 116 w os) (fun s => goF (stepQ (denQ tabQ) p w) 39 (some (.ref 6)) 3 s ⟨doneF .next, cd, ⟨578, 0, 586, 79⟩, B0⟩) = some (st 116 w os) := by
  kernel_rfl
end HB
end HDc
section HDr
set_option Elab.async false
set_option linter.all false
set_option maxRecDepth 100000
set_option maxHeartbeats 0
namespace HB
open PySem PySem.W PySem.Calls PyProof.Rows HandSHeadRun HD
abbrev an : Option Value := some (.ref 6)
theorem toT : stepQ (denQ tabQ) = stepT (denote treeTable) := by rw [stepQ_eq, denQ_eq, tabQ_eq]
theorem segAt {w : World} {s s' : SharedT} {m : Nat} {t : Thread} {f : Flow} {c : Code} {q : Pos} (h : (frS s fun s => segF (stepQ (denQ tabQ) p w) 39 an m s t) = some (f, s', c, q)) : segRun treeTable p w 39 an 1 m s.abs t = some (f, s'.abs, c, q) := by
  rw [frS_eq, toT] at h
  exact segF_ok h
theorem drop_all : bd.drop 116 = [] := by kernel_rfl
theorem run_all (w : World) (os : OsState) : topRun treeTable p w 39 an (12 + (1 + (2588 + (2601 + (2601 + (2601 + (2601 + (2584 + (296 + (3)))))))))) (s0 w os) (topStub p) = some (st 116 w os).abs := by
  obtain ⟨x, ex, h⟩ := onTree_ok (pre_run w os)
  rw [toT, ← denQ_eq, ← tabQ_eq] at h
  have g := goG_ok h
  rw [ex] at g
  have f := fin_run w os
  rw [frS_eq, toT] at f
  have f := goF_ok f
  refine go_top g (piece_block (segAt (blk_run w os)) ?_)
  refine piece_d (a := 0) (k := 11) (segAt (seg0 w os)) ?_
  refine piece_d (a := 11) (k := 10) (segAt (seg1 w os)) ?_
  refine piece_d (a := 21) (k := 10) (segAt (seg2 w os)) ?_
  refine piece_d (a := 31) (k := 10) (segAt (seg3 w os)) ?_
  refine piece_d (a := 41) (k := 10) (segAt (seg4 w os)) ?_
  refine piece_d (a := 51) (k := 56) (segAt (seg5 w os)) ?_
  refine piece_d (a := 107) (k := 9) (segAt (seg6 w os)) ?_
  show topRun treeTable p w 39 an 3 _ (restOf (bd.drop 116) ev cd _ B0) = _
  rw [drop_all]
  exact piece_nil f
theorem left : LeftO p qv loose (fun s => xlAt qv [] s && recOk R.toRowW.records s) hk.obs hk.val 40000 true :=
  LeftO.of_pieces (H₀ := H0) (H₁ := H1) (gs₀ := ⟨[]⟩) (gs₁ := ⟨[]⟩) (d₀ := ⟨0, 0, 0, 0⟩) (d₁ := ⟨0, 0, 0, 0⟩) (k₀ := T0) (k₁ := 2317) (m₀ := 39) (ann := an) (M := 12 + (1 + (2588 + (2601 + (2601 + (2601 + (2601 + (2584 + (296 + (3))))))))))
    (fun w => open_of (M := 40000) (boot_run w)) size (fun w os => run_all w os) (by decide +kernel) fun w => funext fun os => by
      refine Prod.ext ?_ (Prod.ext ?_ rfl)
      · show (staticsOk _ (H0 w.params) (st 116 w os).abs.heap && namesBound p (st 116 w os).abs.heap && true && laidKept (H0 w.params) (st 116 w os).abs.heap) = true
        rw [lk1 w os, lk2 w os, lk3 w os]
        rfl
      · have z := lk4 w os
        rw [← seenQ_eq] at z
        exact z
end HB
end HDr
section HDi
set_option Elab.async false
set_option linter.all false
set_option maxRecDepth 100000
set_option maxHeartbeats 0
/-! HDi: the defs of this law and their forms (printed by genfact.py) -/
namespace HB
open PySem MP HD
def top (i : Nat) : Stmt := bd.getD i (.Pass ⟨0, 0, 0, 0⟩)
def mem (st : Stmt) (j : Nat) : Stmt := (dBody st).getD j (.Pass ⟨0, 0, 0, 0⟩)
def gl0 : List (Str × Gk) := [("is_whole", .fn 0), ("asked_numbers", .fn 1), ("asked_prices", .fn 2), ("asked_alone", .fn 3), ("is_who", .fn 4), ("is_bill", .fn 5), ("made_bills", .fn 6), ("is_pair", .fn 7), ("asked_pairs", .fn 8), ("bills_of", .fn 9), ("lowest", .fn 10), ("sum_of", .fn 11), ("month", .fn 12), ("asked_who", .fn 13), ("_law_pool", .fn 14), ("_law_take", .fn 15), ("_law_one", .fn 16), ("_law_is_number", .fn 17), ("_law_wrong_prices", .fn 18), ("_law_lowest", .fn 19), ("_law_added", .fn 20), ("_law_is_bill", .fn 21), ("_law_wrong_bills", .fn 22), ("_law_month_of", .fn 23), ("_law_bills_owed", .fn 24)]
def gl1 : List (Str × Gk) := [("_law_book_did", .fn 25), ("_law_book_did_on", .fn 26), ("_law_statement_of", .fn 27), ("_law_sums_of", .fn 28), ("_law_balance_of", .fn 29), ("_law_book_told", .fn 30), ("_law_drawn_bill", .fn 31), ("_law_bent_bill", .fn 32), ("_law_drawn_book", .fn 33), ("_law_is_whole", .fn 34), ("_law_same", .fn 35), ("_law_heard", .heard), ("_law_tells", .tells 35), ("_law_refuses", .refuses 35), ("_law_some_bills", .fn 40), ("_law_bills_right", .fn 41), ("_law_some_day", .fn 42), ("_law_bent_days", .fn 43), ("_law_days_right", .fn 44), ("_law_deed_right", .fn 45), ("_law_odd_asked", .fn 46), ("_law_accounts_right", .fn 47), ("law", .fn 48), ("Accounts", .cls 0), ("BadRow", .exc 0)]
def gl2 : List (Str × Gk) := [("BadTaker", .exc 1), ("BadThing", .exc 2), ("BadKind", .exc 3), ("BadLot", .exc 4), ("BadMany", .exc 5), ("BadHall", .exc 6), ("Unplaced", .exc 7), ("BadWorth", .exc 8), ("BadEntries", .exc 9), ("BadOrder", .exc 10), ("NotIn", .exc 11), ("HasCore", .exc 12), ("BadIndex", .exc 13), ("NotGood", .exc 14), ("BadPrices", .exc 15), ("BadCourse", .exc 16), ("Served", .exc 17), ("Sold", .exc 18), ("NotBest", .exc 19), ("NothingToUndo", .exc 20), ("NoCore", .exc 21), ("BadShop", .exc 22), ("BadMusts", .exc 23), ("Unsold", .exc 24), ("NoBar", .exc 25)]
def gl3 : List (Str × Gk) := [("BadKinds", .exc 26), ("BadWants", .exc 27), ("NotFull", .exc 28), ("BadTakers", .exc 29), ("Here", .exc 30), ("Nested", .exc 31), ("BadAssignment", .exc 32), ("BadGiven", .exc 33), ("BadCounter", .exc 34), ("NoLook", .exc 35), ("NotSeen", .exc 36), ("BadEdit", .exc 37), ("BadGuard", .exc 38), ("Posted", .exc 39), ("NotPosted", .exc 40), ("BadNumber", .exc 41), ("BadBills", .exc 42), ("BadWho", .exc 43), ("BadAmount", .exc 44), ("NothingToRedo", .exc 45), ("BadText", .exc 46), ("WrongLine", .exc 47), ("BadNames", .exc 48), ("BadPaper", .exc 49), ("Same", .exc 50)]
def gl4 : List (Str × Gk) := [("TooMany", .exc 51), ("MOST_SCALE", .cst (.int 1000000)), ("MOST_NUMBER", .cst (.int 1000000000000000)), ("MOST_THINGS", .cst (.int 30)), ("MOST_BILLS", .cst (.int 1000)), ("LAST_WHO", .cst (.int 99)), ("LAST_THING", .cst (.int 29)), ("LAST_TAKER", .cst (.int 29)), ("MOST_AMOUNT", .cst (.int 1000000000000)), ("gcd", .imp .gcd), ("lcm", .imp .lcm), ("len", .blt), ("int", .blt), ("abs", .blt), ("max", .blt), ("min", .blt), ("sum", .blt), ("tuple", .blt), ("list", .blt), ("sorted", .blt), ("isinstance", .blt), ("range", .blt), ("enumerate", .blt), ("set", .blt), ("bool", .blt)]
def gl5 : List (Str × Gk) := [("str", .blt), ("dict", .blt)]
def gl : List (Str × Gk) := gl0 ++ gl1 ++ gl2 ++ gl3 ++ gl4 ++ gl5
def dicts : List Str := ["tops"]
def flds : List Str := ["_rows"]
def mths : List (Str × Nat) := [("_bills", 50), ("_paid", 51), ("_own", 52), ("book", 53), ("pay", 54), ("undo", 55), ("balance", 56), ("statement", 57), ("total", 58)]
abbrev kap (N : List Str) (sc : Scope) : Kx := kap0 gl dicts flds mths N sc
def N0 : List Str := ["thing", "low", "high"]
def st0 : Stmt := top 54
def ir0 : List Sm := [.ife (.or (.not (.blt (.isi "int") (.cons (.var 0) .nil))) (.blt (.isi "bool") (.cons (.var 0) .nil))) [.ret (.cst (.bl false))] [], .ret (.and (.cmp .LtE (.var 1) (.var 0)) (.or (.cmp .Is (.var 2) (.cst .non)) (.cmp .LtE (.var 0) (.var 2))))]
def N1 : List Str := ["scale", "numbers", "index", "number"]
def st1 : Stmt := top 59
def ir1 : List Sm := [.ife (.not (.call 0 (.cons (.var 0) (.cons (.cst (.int 1)) (.cons (.cst (.int 1000000)) .nil))))) [.raise 15 (.neg (.cst (.int 2)))] [], .for_ (.tup (.cons (.name 2) (.cons (.name 3) .nil))) (.enum (.var 1)) [.ife (.not (.call 0 (.cons (.var 3) (.cons (.neg (.cst (.int 1000000000000000))) (.cons (.cst (.int 1000000000000000)) .nil))))) [.raise 15 (.var 2)] []]]
def N2 : List Str := ["many", "thing", "scale", "numbers"]
def st2 : Stmt := top 60
def ir2 : List Sm := [.ife (.or (.not (.blt (.isi "tuple") (.cons (.var 1) .nil))) (.cmp .NotEq (.blt .len (.cons (.var 1) .nil)) (.cst (.int 2)))) [.raise 15 (.neg (.cst (.int 1)))] [], .asg (.tup (.cons (.name 2) (.cons (.name 3) .nil))) (.var 1), .ife (.or (.not (.blt (.isi "tuple") (.cons (.var 3) .nil))) (.cmp .NotEq (.blt .len (.cons (.var 3) .nil)) (.var 0))) [.raise 15 (.neg (.cst (.int 1)))] [], .expr (.call 1 (.cons (.var 2) (.cons (.var 3) .nil)))]
def N3 : List Str := ["thing"]
def st3 : Stmt := top 61
def ir3 : List Sm := [.ife (.or (.not (.blt (.isi "tuple") (.cons (.var 0) .nil))) (.or (.cmp .NotEq (.blt .len (.cons (.var 0) .nil)) (.cst (.int 2))) (.not (.blt (.isi "tuple") (.cons (.idx (.var 0) (.cst (.int 1))) .nil))))) [.raise 15 (.neg (.cst (.int 1)))] [], .ife (.cmp .Gt (.blt .len (.cons (.idx (.var 0) (.cst (.int 1))) .nil)) (.cst (.int 30))) [.raise 15 (.neg (.cst (.int 1)))] [], .expr (.call 2 (.cons (.blt .len (.cons (.idx (.var 0) (.cst (.int 1))) .nil)) (.cons (.var 0) .nil)))]
def N4 : List Str := ["thing"]
def st4 : Stmt := top 67
def ir4 : List Sm := [.ret (.call 0 (.cons (.var 0) (.cons (.cst (.int 0)) (.cons (.cst (.int 99)) .nil))))]
def N5 : List Str := ["thing"]
def st5 : Stmt := top 68
def ir5 : List Sm := [.ife (.or (.not (.blt (.isi "tuple") (.cons (.var 0) .nil))) (.cmp .NotEq (.blt .len (.cons (.var 0) .nil)) (.cst (.int 4)))) [.ret (.cst (.bl false))] [], .ife (.or (.not (.call 4 (.cons (.idx (.var 0) (.cst (.int 0))) .nil))) (.not (.call 0 (.cons (.idx (.var 0) (.cst (.int 1))) (.cons (.cst (.int 0)) (.cons (.cst (.int 29)) .nil)))))) [.ret (.cst (.bl false))] [], .ret (.and (.call 0 (.cons (.idx (.var 0) (.cst (.int 2))) (.cons (.neg (.cst (.int 1000000000000000))) (.cons (.cst (.int 1000000000000000)) .nil)))) (.call 0 (.cons (.idx (.var 0) (.cst (.int 3))) (.cons (.cst (.int 1)) (.cons (.cst (.int 1000000)) .nil)))))]
def N6 : List Str := ["thing", "index", "bill", "who", "x", "number", "scale"]
def st6 : Stmt := top 69
def ir6 : List Sm := [.ife (.not (.blt (.isi "tuple") (.cons (.var 0) .nil))) [.raise 42 (.neg (.cst (.int 1)))] [], .ife (.cmp .Gt (.blt .len (.cons (.var 0) .nil)) (.cst (.int 1000))) [.raise 51 (.blt .len (.cons (.var 0) .nil))] [], .for_ (.tup (.cons (.name 1) (.cons (.name 2) .nil))) (.enum (.var 0)) [.ife (.not (.call 5 (.cons (.var 2) .nil))) [.raise 42 (.var 1)] []], .ret (.blt .tuple (.cons (.comp [3, 4, 5, 6] (.tup (.cons (.name 3) (.cons (.name 4) (.cons (.name 5) (.cons (.name 6) .nil))))) (.seq (.var 0)) .nil (.tup (.cons (.var 3) (.cons (.var 4) (.cons (.var 5) (.cons (.var 6) .nil)))))) .nil))]
def N7 : List Str := ["thing", "many"]
def st7 : Stmt := top 70
def ir7 : List Sm := [.ife (.or (.not (.blt (.isi "tuple") (.cons (.var 0) .nil))) (.cmp .NotEq (.blt .len (.cons (.var 0) .nil)) (.cst (.int 2)))) [.ret (.cst (.bl false))] [], .ret (.and (.call 0 (.cons (.idx (.var 0) (.cst (.int 0))) (.cons (.cst (.int 0)) (.cons (.cst (.int 29)) .nil)))) (.call 0 (.cons (.idx (.var 0) (.cst (.int 1))) (.cons (.cst (.int 0)) (.cons (.bin .Sub (.var 1) (.cst (.int 1))) .nil)))))]
def N8 : List Str := ["many", "course", "index", "pair"]
def st8 : Stmt := top 71
def ir8 : List Sm := [.ife (.or (.not (.blt (.isi "tuple") (.cons (.var 1) .nil))) (.cmp .Gt (.blt .len (.cons (.var 1) .nil)) (.cst (.int 1000)))) [.raise 16 (.neg (.cst (.int 1)))] [], .for_ (.tup (.cons (.name 2) (.cons (.name 3) .nil))) (.enum (.var 1)) [.ife (.not (.call 7 (.cons (.var 3) (.cons (.var 0) .nil)))) [.raise 16 (.var 2)] []]]
def N9 : List Str := ["prices", "course", "who_of", "scale", "numbers", "index", "who", "i", "_", "x"]
def st9 : Stmt := top 72
def ir9 : List Sm := [.expr (.call 3 (.cons (.var 0) .nil)), .asg (.tup (.cons (.name 3) (.cons (.name 4) .nil))) (.var 0), .expr (.call 8 (.cons (.blt .len (.cons (.var 4) .nil)) (.cons (.var 1) .nil))), .ife (.not (.blt (.isi "tuple") (.cons (.var 2) .nil))) [.raise 43 (.neg (.cst (.int 1)))] [], .for_ (.tup (.cons (.name 5) (.cons (.name 6) .nil))) (.enum (.var 2)) [.ife (.not (.call 4 (.cons (.var 6) .nil))) [.raise 43 (.var 5)] []], .for_ (.tup (.cons (.name 5) (.cons (.tup (.cons (.name 7) (.cons (.name 8) .nil))) .nil))) (.enum (.var 1)) [.ife (.cmp .GtE (.var 7) (.blt .len (.cons (.var 2) .nil))) [.raise 16 (.var 5)] []], .ret (.blt .tuple (.cons (.comp [7, 9] (.tup (.cons (.name 7) (.cons (.name 9) .nil))) (.seq (.var 1)) .nil (.tup (.cons (.idx (.var 2) (.var 7)) (.cons (.var 9) (.cons (.idx (.var 4) (.var 9)) (.cons (.var 3) .nil)))))) .nil))]
def N10 : List Str := ["top", "bottom", "common"]
def st10 : Stmt := top 73
def ir10 : List Sm := [.asg (.name 2) (.blt .gcd (.cons (.var 0) (.cons (.var 1) .nil))), .ret (.tup (.cons (.bin .FloorDiv (.var 0) (.var 2)) (.cons (.bin .FloorDiv (.var 1) (.var 2)) .nil)))]
def N11 : List Str := ["bills", "tops", "_", "number", "scale", "bottom", "top"]
def st11 : Stmt := top 74
def ir11 : List Sm := [.asg (.name 1) .dct, .for_ (.tup (.cons (.name 2) (.cons (.name 2) (.cons (.name 3) (.cons (.name 4) .nil))))) (.seq (.var 0)) [.asg (.sub (.var 1) (.var 4)) (.bin .Add (.mth .get (.var 1) (.cons (.var 4) (.cons (.cst (.int 0)) .nil))) (.var 3))], .asg (.name 5) (.cst (.int 1)), .lock 1 (.for_ (.name 4) (.keys 1) [.asg (.name 5) (.blt .lcm (.cons (.var 5) (.cons (.var 4) .nil)))]), .ret (.call 10 (.cons (.blt .sum (.cons (.lock 1 (.comp [4, 6] (.tup (.cons (.name 4) (.cons (.name 6) .nil))) (.items 1) .nil (.bin .Mult (.var 6) (.bin .FloorDiv (.var 5) (.var 4))))) .nil)) (.cons (.var 5) .nil)))]
def N12 : List Str := ["bills", "own", "bill", "who"]
def st12 : Stmt := top 75
def ir12 : List Sm := [.asg (.name 1) .dct, .for_ (.name 2) (.seq (.call 6 (.cons (.var 0) .nil))) [.expr (.mth .append (.mth .setd (.var 1) (.cons (.idx (.var 2) (.cst (.int 0))) (.cons (.lst .nil) .nil))) (.cons (.var 2) .nil))], .ret (.blt .tuple (.cons (.comp [3] (.name 3) (.seq (.blt .sorted (.cons (.var 1) .nil))) .nil (.tup (.cons (.var 3) (.cons (.blt .len (.cons (.idx (.var 1) (.var 3)) .nil)) (.star (.call 11 (.cons (.idx (.var 1) (.var 3)) .nil)) .nil))))) .nil))]
def N13 : List Str := ["who"]
def st13 : Stmt := top 78
def ir13 : List Sm := [.ife (.not (.call 4 (.cons (.var 0) .nil))) [.raise 43 (.var 0)] []]
def N14 : List Str := ["script", "k", "cell", "big", "stirred"]
def st14 : Stmt := top 81
def ir14 : List Sm := [.asg (.name 2) (.cst (.int 0)), .ife (.cmp .Lt (.var 1) (.blt .len (.cons (.var 0) .nil))) [.asg (.name 2) (.idx (.var 0) (.var 1))] [.ife (.cmp .NotEq (.var 0) (.lst .nil)) [.asg (.name 2) (.idx (.var 0) (.cst (.int 0)))] []], .asg (.name 3) (.blt .max (.cons (.blt .int (.cons (.var 2) .nil)) (.cons (.blt .int (.cons (.bin .Sub (.neg (.cst (.int 1))) (.var 2)) .nil)) .nil))), .asg (.name 4) (.bin .Mod (.blt .int (.cons (.bin .Mult (.bin .Add (.bin .Add (.bin .Add (.bin .Mod (.blt .int (.cons (.var 3) .nil)) (.cst (.int 2147483629))) (.bin .Mult (.bin .Mult (.cst (.int 7919)) (.var 1)) (.var 1))) (.bin .Mult (.cst (.int 31)) (.var 1))) (.cst (.int 17))) (.cst (.int 48271))) .nil)) (.cst (.int 2147483647))), .ret (.lst (.cons (.bin .Mult (.var 3) (.blt .int (.cons (.and (.cmp .GtE (.var 3) (.bin .Pow (.cst (.int 10)) (.cst (.int 18)))) (.cmp .Lt (.var 1) (.blt .len (.cons (.var 0) .nil)))) .nil))) (.cons (.var 4) .nil)))]
def N15 : List Str := ["jar", "top", "number"]
def st15 : Stmt := top 82
def ir15 : List Sm := [.ife (.cmp .Gt (.idx (.var 0) (.cst (.int 0))) (.cst (.int 0))) [.asg (.name 2) (.bin .Mod (.blt .int (.cons (.idx (.var 0) (.cst (.int 0))) .nil)) (.var 1)), .asg (.sub (.var 0) (.cst (.int 0))) (.bin .FloorDiv (.idx (.var 0) (.cst (.int 0))) (.var 1)), .ret (.var 2)] [], .asg (.sub (.var 0) (.cst (.int 1))) (.bin .Mod (.blt .int (.cons (.bin .Add (.bin .Mult (.idx (.var 0) (.cst (.int 1))) (.cst (.int 39373))) (.cst (.int 7))) .nil)) (.cst (.int 2147483647))), .ret (.bin .Mod (.blt .int (.cons (.bin .FloorDiv (.bin .Mod (.blt .int (.cons (.bin .Mult (.idx (.var 0) (.cst (.int 1))) (.idx (.var 0) (.cst (.int 1)))) .nil)) (.cst (.int 2147483629))) (.cst (.int 32))) .nil)) (.var 1))]
def N16 : List Str := ["jar", "things"]
def st16 : Stmt := top 83
def ir16 : List Sm := [.ret (.idx (.var 1) (.call 15 (.cons (.var 0) (.cons (.blt .len (.cons (.var 1) .nil)) .nil))))]
def N17 : List Str := ["thing", "low", "high"]
def st17 : Stmt := top 84
def ir17 : List Sm := [.ret (.and (.call 34 (.cons (.var 0) .nil)) (.and (.cmp .LtE (.var 1) (.var 0)) (.cmp .LtE (.var 0) (.var 2))))]
def N18 : List Str := ["many", "thing", "bad", "x"]
def st18 : Stmt := top 85
def ir18 : List Sm := [.ife (.or (.not (.blt (.isi "tuple") (.cons (.var 1) .nil))) (.or (.cmp .NotEq (.blt .len (.cons (.var 1) .nil)) (.cst (.int 2))) (.or (.not (.blt (.isi "tuple") (.cons (.idx (.var 1) (.cst (.int 1))) .nil))) (.cmp .NotEq (.blt .len (.cons (.idx (.var 1) (.cst (.int 1))) .nil)) (.var 0))))) [.ret (.tup (.cons (.cst (.str "BadPrices")) (.cons (.neg (.cst (.int 1))) .nil)))] [], .ife (.not (.call 17 (.cons (.idx (.var 1) (.cst (.int 0))) (.cons (.cst (.int 1)) (.cons (.bin .Pow (.cst (.int 10)) (.cst (.int 6))) .nil))))) [.ret (.tup (.cons (.cst (.str "BadPrices")) (.cons (.neg (.cst (.int 2))) .nil)))] [], .asg (.name 2) (.comp [3] (.name 3) (.rng (.var 0)) (.cons (.not (.call 17 (.cons (.idx (.idx (.var 1) (.cst (.int 1))) (.var 3)) (.cons (.neg (.bin .Pow (.cst (.int 10)) (.cst (.int 15)))) (.cons (.bin .Pow (.cst (.int 10)) (.cst (.int 15))) .nil))))) .nil) (.var 3)), .ret (.ife (.cmp .NotEq (.var 2) (.lst .nil)) (.tup (.cons (.cst (.str "BadPrices")) (.cons (.idx (.var 2) (.cst (.int 0))) .nil))) (.cst .non))]
def N19 : List Str := ["top", "bottom", "high", "low"]
def st19 : Stmt := top 86
def ir19 : List Sm := [.par 2 3 (.blt .abs (.cons (.var 0) .nil)) (.var 1), .while_ (.cmp .NotEq (.var 3) (.cst (.int 0))) [.par 2 3 (.var 3) (.bin .Mod (.var 2) (.var 3))], .ret (.tup (.cons (.bin .FloorDiv (.var 0) (.var 2)) (.cons (.bin .FloorDiv (.var 1) (.var 2)) .nil)))]
def N20 : List Str := ["first", "second"]
def st20 : Stmt := top 87
def ir20 : List Sm := [.ret (.call 19 (.cons (.bin .Add (.bin .Mult (.idx (.var 0) (.cst (.int 0))) (.idx (.var 1) (.cst (.int 1)))) (.bin .Mult (.idx (.var 1) (.cst (.int 0))) (.idx (.var 0) (.cst (.int 1))))) (.cons (.bin .Mult (.idx (.var 0) (.cst (.int 1))) (.idx (.var 1) (.cst (.int 1)))) .nil)))]
def N21 : List Str := ["thing", "who", "x", "number", "scale"]
def st21 : Stmt := top 88
def ir21 : List Sm := [.ife (.or (.not (.blt (.isi "tuple") (.cons (.var 0) .nil))) (.cmp .NotEq (.blt .len (.cons (.var 0) .nil)) (.cst (.int 4)))) [.ret (.cst (.bl false))] [], .asg (.tup (.cons (.name 1) (.cons (.name 2) (.cons (.name 3) (.cons (.name 4) .nil))))) (.var 0), .ife (.or (.not (.call 17 (.cons (.var 1) (.cons (.cst (.int 0)) (.cons (.cst (.int 99)) .nil))))) (.or (.not (.call 17 (.cons (.var 2) (.cons (.cst (.int 0)) (.cons (.cst (.int 29)) .nil))))) (.not (.call 17 (.cons (.var 4) (.cons (.cst (.int 1)) (.cons (.bin .Pow (.cst (.int 10)) (.cst (.int 6))) .nil))))))) [.ret (.cst (.bl false))] [], .ret (.call 17 (.cons (.var 3) (.cons (.neg (.bin .Pow (.cst (.int 10)) (.cst (.int 15)))) (.cons (.bin .Pow (.cst (.int 10)) (.cst (.int 15))) .nil))))]
def N22 : List Str := ["thing", "bad", "at"]
def st22 : Stmt := top 89
def ir22 : List Sm := [.ife (.not (.blt (.isi "tuple") (.cons (.var 0) .nil))) [.ret (.tup (.cons (.cst (.str "BadBills")) (.cons (.neg (.cst (.int 1))) .nil)))] [], .ife (.cmp .Gt (.blt .len (.cons (.var 0) .nil)) (.cst (.int 1000))) [.ret (.tup (.cons (.cst (.str "TooMany")) (.cons (.blt .len (.cons (.var 0) .nil)) .nil)))] [], .asg (.name 1) (.comp [2] (.name 2) (.rng (.blt .len (.cons (.var 0) .nil))) (.cons (.not (.call 21 (.cons (.idx (.var 0) (.var 2)) .nil))) .nil) (.var 2)), .ret (.ife (.cmp .NotEq (.var 1) (.lst .nil)) (.tup (.cons (.cst (.str "BadBills")) (.cons (.idx (.var 1) (.cst (.int 0))) .nil))) (.cst .non))]
def N23 : List Str := ["some", "found", "who", "bill", "mine", "total_now"]
def st23 : Stmt := top 90
def ir23 : List Sm := [.asg (.name 1) (.lst .nil), .for_ (.name 2) (.seq (.blt .sset (.cons (.comp [3] (.name 3) (.seq (.var 0)) .nil (.idx (.var 3) (.cst (.int 0)))) .nil))) [.par 4 5 (.comp [3] (.name 3) (.seq (.var 0)) (.cons (.cmp .Eq (.idx (.var 3) (.cst (.int 0))) (.var 2)) .nil) (.var 3)) (.tup (.cons (.cst (.int 0)) (.cons (.cst (.int 1)) .nil))), .for_ (.name 3) (.seq (.var 4)) [.asg (.name 5) (.call 20 (.cons (.var 5) (.cons (.tup (.cons (.idx (.var 3) (.cst (.int 2))) (.cons (.idx (.var 3) (.cst (.int 3))) .nil))) .nil)))], .expr (.mth .append (.var 1) (.cons (.bin .Add (.tup (.cons (.var 2) (.cons (.blt .len (.cons (.var 4) .nil)) .nil))) (.var 5)) .nil))], .ret (.blt .tuple (.cons (.var 1) .nil))]
def N24 : List Str := ["posted", "pairs", "who_of", "many", "wrong", "at", "pair", "i", "x"]
def st24 : Stmt := top 91
def ir24 : List Sm := [.ife (.or (.not (.blt (.isi "tuple") (.cons (.var 0) .nil))) (.or (.cmp .NotEq (.blt .len (.cons (.var 0) .nil)) (.cst (.int 2))) (.or (.not (.blt (.isi "tuple") (.cons (.idx (.var 0) (.cst (.int 1))) .nil))) (.cmp .Gt (.blt .len (.cons (.idx (.var 0) (.cst (.int 1))) .nil)) (.cst (.int 30)))))) [.ret (.tup (.cons (.cst (.str "BadPrices")) (.cons (.neg (.cst (.int 1))) .nil)))] [], .asg (.name 3) (.blt .len (.cons (.idx (.var 0) (.cst (.int 1))) .nil)), .asg (.name 4) (.call 18 (.cons (.var 3) (.cons (.var 0) .nil))), .ife (.cmp .IsNot (.var 4) (.cst .non)) [.ret (.var 4)] [], .ife (.or (.not (.blt (.isi "tuple") (.cons (.var 1) .nil))) (.cmp .Gt (.blt .len (.cons (.var 1) .nil)) (.cst (.int 1000)))) [.ret (.tup (.cons (.cst (.str "BadCourse")) (.cons (.neg (.cst (.int 1))) .nil)))] [], .for_ (.name 5) (.rng (.blt .len (.cons (.var 1) .nil))) [.asg (.name 6) (.idx (.var 1) (.var 5)), .ife (.or (.not (.blt (.isi "tuple") (.cons (.var 6) .nil))) (.or (.cmp .NotEq (.blt .len (.cons (.var 6) .nil)) (.cst (.int 2))) (.or (.not (.call 17 (.cons (.idx (.var 6) (.cst (.int 0))) (.cons (.cst (.int 0)) (.cons (.cst (.int 29)) .nil))))) (.not (.call 17 (.cons (.idx (.var 6) (.cst (.int 1))) (.cons (.cst (.int 0)) (.cons (.bin .Sub (.var 3) (.cst (.int 1))) .nil)))))))) [.ret (.tup (.cons (.cst (.str "BadCourse")) (.cons (.var 5) .nil)))] []], .ife (.not (.blt (.isi "tuple") (.cons (.var 2) .nil))) [.ret (.tup (.cons (.cst (.str "BadWho")) (.cons (.neg (.cst (.int 1))) .nil)))] [], .for_ (.name 5) (.rng (.blt .len (.cons (.var 2) .nil))) [.ife (.not (.call 17 (.cons (.idx (.var 2) (.var 5)) (.cons (.cst (.int 0)) (.cons (.cst (.int 99)) .nil))))) [.ret (.tup (.cons (.cst (.str "BadWho")) (.cons (.var 5) .nil)))] []], .for_ (.name 5) (.rng (.blt .len (.cons (.var 1) .nil))) [.ife (.cmp .GtE (.idx (.idx (.var 1) (.var 5)) (.cst (.int 0))) (.blt .len (.cons (.var 2) .nil))) [.ret (.tup (.cons (.cst (.str "BadCourse")) (.cons (.var 5) .nil)))] []], .ret (.tup (.cons (.cst (.str "told")) (.cons (.blt .tuple (.cons (.comp [7, 8] (.tup (.cons (.name 7) (.cons (.name 8) .nil))) (.seq (.var 1)) .nil (.tup (.cons (.idx (.var 2) (.var 7)) (.cons (.var 8) (.cons (.idx (.idx (.var 0) (.cst (.int 1))) (.var 8)) (.cons (.idx (.var 0) (.cst (.int 0))) .nil)))))) .nil)) .nil)))]
def N25 : List Str := ["kept", "deed"]
def st25 : Stmt := top 92
def ir25 : List Sm := [.ife (.cmp .Eq (.idx (.var 1) (.cst (.int 0))) (.cst (.str "undo"))) [.ret (.ife (.cmp .Eq (.var 0) (.tup .nil)) (.tup (.cons (.tup (.cons (.cst (.str "NothingToUndo")) (.cons (.cst (.int 0)) .nil))) (.cons (.var 0) .nil))) (.tup (.cons (.tup (.cons (.cst (.str "told")) (.cons (.cst .non) .nil))) (.cons (.slc (.var 0) .no (.so (.neg (.cst (.int 1))))) .nil))))] [], .ife (.cmp .Eq (.idx (.var 1) (.cst (.int 0))) (.cst (.str "book"))) [.ret (.ife (.call 21 (.cons (.idx (.var 1) (.cst (.int 1))) .nil)) (.tup (.cons (.tup (.cons (.cst (.str "told")) (.cons (.cst .non) .nil))) (.cons (.bin .Add (.var 0) (.tup (.cons (.var 1) .nil))) .nil))) (.tup (.cons (.tup (.cons (.cst (.str "BadBills")) (.cons (.cst (.int 0)) .nil))) (.cons (.var 0) .nil))))] [], .ife (.not (.call 17 (.cons (.idx (.var 1) (.cst (.int 1))) (.cons (.cst (.int 0)) (.cons (.cst (.int 99)) .nil))))) [.ret (.tup (.cons (.tup (.cons (.cst (.str "BadWho")) (.cons (.idx (.var 1) (.cst (.int 1))) .nil))) (.cons (.var 0) .nil)))] [], .ret (.ife (.call 17 (.cons (.idx (.var 1) (.cst (.int 2))) (.cons (.cst (.int 1)) (.cons (.bin .Pow (.cst (.int 10)) (.cst (.int 12))) .nil)))) (.tup (.cons (.tup (.cons (.cst (.str "told")) (.cons (.cst .non) .nil))) (.cons (.bin .Add (.var 0) (.tup (.cons (.var 1) .nil))) .nil))) (.tup (.cons (.tup (.cons (.cst (.str "BadAmount")) (.cons (.idx (.var 1) (.cst (.int 2))) .nil))) (.cons (.var 0) .nil))))]
def N26 : List Str := ["store", "deed"]
def st26 : Stmt := top 93
def ir26 : List Sm := [.ife (.cmp .Eq (.idx (.var 1) (.cst (.int 0))) (.cst (.str "undo"))) [.ret (.omt "undo" (.var 0) .nil)] [], .ret (.ife (.cmp .Eq (.idx (.var 1) (.cst (.int 0))) (.cst (.str "book"))) (.omt "book" (.var 0) (.cons (.idx (.var 1) (.cst (.int 1))) .nil)) (.omt "pay" (.var 0) (.cons (.idx (.var 1) (.cst (.int 1))) (.cons (.idx (.var 1) (.cst (.int 2))) .nil))))]
def N27 : List Str := ["kept", "who", "found", "deed"]
def st27 : Stmt := top 94
def ir27 : List Sm := [.asg (.name 2) (.lst .nil), .for_ (.name 3) (.seq (.var 0)) [.ife (.and (.cmp .Eq (.idx (.var 3) (.cst (.int 0))) (.cst (.str "book"))) (.cmp .Eq (.idx (.idx (.var 3) (.cst (.int 1))) (.cst (.int 0))) (.var 1))) [.expr (.mth .append (.var 2) (.cons (.bin .Add (.tup (.cons (.cst (.str "bill")) .nil)) (.slc (.idx (.var 3) (.cst (.int 1))) (.so (.cst (.int 1))) .no)) .nil))] [], .ife (.and (.cmp .Eq (.idx (.var 3) (.cst (.int 0))) (.cst (.str "pay"))) (.cmp .Eq (.idx (.var 3) (.cst (.int 1))) (.var 1))) [.expr (.mth .append (.var 2) (.cons (.tup (.cons (.cst (.str "pay")) (.cons (.idx (.var 3) (.cst (.int 2))) .nil))) .nil))] []], .ret (.blt .tuple (.cons (.var 2) .nil))]
def N28 : List Str := ["kept", "some", "booked_now", "paid_now", "deed"]
def st28 : Stmt := top 95
def ir28 : List Sm := [.asg (.tup (.cons (.name 2) (.cons (.name 3) .nil))) (.tup (.cons (.tup (.cons (.cst (.int 0)) (.cons (.cst (.int 1)) .nil))) (.cons (.tup (.cons (.cst (.int 0)) (.cons (.cst (.int 1)) .nil))) .nil))), .for_ (.name 4) (.seq (.var 0)) [.ife (.and (.cmp .Eq (.idx (.var 4) (.cst (.int 0))) (.cst (.str "book"))) (.cmp .In (.idx (.idx (.var 4) (.cst (.int 1))) (.cst (.int 0))) (.var 1))) [.asg (.name 2) (.call 20 (.cons (.var 2) (.cons (.slc (.idx (.var 4) (.cst (.int 1))) (.so (.cst (.int 2))) .no) .nil)))] [], .ife (.and (.cmp .Eq (.idx (.var 4) (.cst (.int 0))) (.cst (.str "pay"))) (.cmp .In (.idx (.var 4) (.cst (.int 1))) (.var 1))) [.asg (.name 3) (.call 20 (.cons (.var 3) (.cons (.tup (.cons (.idx (.var 4) (.cst (.int 2))) (.cons (.cst (.int 1)) .nil))) .nil)))] []], .ret (.tup (.cons (.var 2) (.cons (.var 3) .nil)))]
def N29 : List Str := ["kept", "who", "booked_now", "paid_now"]
def st29 : Stmt := top 96
def ir29 : List Sm := [.asg (.tup (.cons (.name 2) (.cons (.name 3) .nil))) (.call 28 (.cons (.var 0) (.cons (.tup (.cons (.var 1) .nil)) .nil))), .ret (.call 20 (.cons (.var 2) (.cons (.tup (.cons (.neg (.idx (.var 3) (.cst (.int 0)))) (.cons (.idx (.var 3) (.cst (.int 1))) .nil))) .nil)))]
def N30 : List Str := ["store", "kept", "some", "told", "who"]
def st30 : Stmt := top 97
def ir30 : List Sm := [.ife (.not (.call 35 (.cons (.omt "total" (.var 0) .nil) (.cons (.call 28 (.cons (.var 1) (.cons (.blt .tupR (.cons (.cst (.int 100)) .nil)) .nil))) .nil)))) [.ret (.cst (.bl false))] [], .asg (.name 3) (.comp [4] (.name 4) (.seq (.var 2)) .nil (.tup (.cons (.omt "balance" (.var 0) (.cons (.var 4) .nil)) (.cons (.omt "statement" (.var 0) (.cons (.var 4) .nil)) .nil)))), .ret (.call 35 (.cons (.var 3) (.cons (.comp [4] (.name 4) (.seq (.var 2)) .nil (.tup (.cons (.call 29 (.cons (.var 1) (.cons (.var 4) .nil))) (.cons (.call 27 (.cons (.var 1) (.cons (.var 4) .nil))) .nil)))) .nil)))]
def N31 : List Str := ["jar", "number"]
def st31 : Stmt := top 98
def ir31 : List Sm := [.asg (.name 1) (.call 16 (.cons (.var 0) (.cons (.lst (.cons (.cst (.int 0)) (.cons (.cst (.int 1)) (.cons (.cst (.int 5)) (.cons (.neg (.cst (.int 7))) (.cons (.bin .Pow (.cst (.int 10)) (.cst (.int 15))) (.cons (.neg (.bin .Pow (.cst (.int 10)) (.cst (.int 15)))) (.cons (.call 15 (.cons (.var 0) (.cons (.cst (.int 1000)) .nil))) (.cons (.neg (.call 15 (.cons (.var 0) (.cons (.cst (.int 50)) .nil)))) .nil))))))))) .nil))), .ret (.tup (.cons (.call 16 (.cons (.var 0) (.cons (.lst (.cons (.cst (.int 0)) (.cons (.cst (.int 1)) (.cons (.cst (.int 2)) (.cons (.cst (.int 2)) (.cons (.cst (.int 99)) .nil)))))) .nil))) (.cons (.call 15 (.cons (.var 0) (.cons (.cst (.int 30)) .nil))) (.cons (.var 1) (.cons (.call 16 (.cons (.var 0) (.cons (.lst (.cons (.cst (.int 1)) (.cons (.cst (.int 1)) (.cons (.cst (.int 2)) (.cons (.cst (.int 3)) (.cons (.cst (.int 10)) (.cons (.bin .Pow (.cst (.int 10)) (.cst (.int 6))) (.cons (.bin .Add (.cst (.int 1)) (.call 15 (.cons (.var 0) (.cons (.cst (.int 60)) .nil)))) .nil)))))))) .nil))) .nil)))))]
def N32 : List Str := ["jar", "bill", "at", "odd"]
def st32 : Stmt := top 99
def ir32 : List Sm := [.asg (.name 2) (.call 15 (.cons (.var 0) (.cons (.cst (.int 4)) .nil))), .asg (.name 3) (.call 16 (.cons (.var 0) (.cons (.lst (.cons (.neg (.cst (.int 1))) (.cons (.cst (.int 100)) (.cons (.cst (.int 30)) (.cons (.cst (.int 0)) (.cons (.bin .Add (.bin .Pow (.cst (.int 10)) (.cst (.int 15))) (.cst (.int 1))) (.cons (.bin .Sub (.neg (.bin .Pow (.cst (.int 10)) (.cst (.int 15)))) (.cst (.int 1))) (.cons (.bin .Add (.bin .Pow (.cst (.int 10)) (.cst (.int 6))) (.cst (.int 1))) (.cons (.cst (.bl true)) (.cons (.cst .non) (.cons (.cst (.str "1")) (.cons (.tup (.cons (.cst (.int 1)) .nil)) .nil)))))))))))) .nil))), .ret (.call 16 (.cons (.var 0) (.cons (.bin .Add (.bin .Mult (.lst (.cons (.bin .Add (.bin .Add (.slc (.var 1) .no (.so (.var 2))) (.tup (.cons (.var 3) .nil))) (.slc (.var 1) (.so (.bin .Add (.var 2) (.cst (.int 1)))) .no)) .nil)) (.cst (.int 4))) (.lst (.cons (.slc (.var 1) .no (.so (.cst (.int 3)))) (.cons (.bin .Add (.var 1) (.tup (.cons (.cst (.int 1)) .nil))) (.cons (.blt .list (.cons (.var 1) .nil)) (.cons (.cst .non) (.cons (.tup .nil) .nil))))))) .nil)))]
def N33 : List Str := ["jar", "form", "bill"]
def st33 : Stmt := top 100
def ir33 : List Sm := [.par 1 2 (.call 15 (.cons (.var 0) (.cons (.cst (.int 9)) .nil))) (.call 31 (.cons (.var 0) .nil)), .ife (.cmp .Lt (.var 1) (.cst (.int 4))) [.ret (.tup (.cons (.cst (.str "book")) (.cons (.var 2) .nil)))] [], .ife (.cmp .Lt (.var 1) (.cst (.int 6))) [.ret (.tup (.cons (.cst (.str "pay")) (.cons (.call 16 (.cons (.var 0) (.cons (.lst (.cons (.cst (.int 0)) (.cons (.cst (.int 1)) (.cons (.cst (.int 2)) (.cons (.cst (.int 99)) .nil))))) .nil))) (.cons (.call 16 (.cons (.var 0) (.cons (.lst (.cons (.cst (.int 1)) (.cons (.cst (.int 3)) (.cons (.bin .Pow (.cst (.int 10)) (.cst (.int 12))) (.cons (.bin .Add (.cst (.int 1)) (.call 15 (.cons (.var 0) (.cons (.cst (.int 99)) .nil)))) .nil))))) .nil))) .nil))))] [], .ife (.cmp .Eq (.var 1) (.cst (.int 6))) [.ret (.tup (.cons (.cst (.str "undo")) .nil))] [], .ife (.cmp .Eq (.var 1) (.cst (.int 7))) [.ret (.tup (.cons (.cst (.str "book")) (.cons (.call 32 (.cons (.var 0) (.cons (.var 2) .nil))) .nil)))] [], .ret (.tup (.cons (.cst (.str "pay")) (.cons (.call 16 (.cons (.var 0) (.cons (.lst (.cons (.cst (.int 0)) (.cons (.cst (.int 100)) (.cons (.neg (.cst (.int 1))) (.cons (.cst (.bl true)) (.cons (.cst .non) .nil)))))) .nil))) (.cons (.call 16 (.cons (.var 0) (.cons (.lst (.cons (.cst (.int 0)) (.cons (.bin .Add (.bin .Pow (.cst (.int 10)) (.cst (.int 12))) (.cst (.int 1))) (.cons (.cst (.bl true)) (.cons (.cst .non) (.cons (.cst (.int 5)) .nil)))))) .nil))) .nil))))]
def N34 : List Str := ["thing"]
def st34 : Stmt := top 101
def ir34 : List Sm := [.ret (.and (.blt (.isi "int") (.cons (.var 0) .nil)) (.not (.blt (.isi "bool") (.cons (.var 0) .nil))))]
def N35 : List Str := ["told", "owed", "at"]
def st35 : Stmt := top 102
def ir35 : List Sm := [.ife (.cmp .Is (.var 1) (.cst .non)) [.ret (.cmp .Is (.var 0) (.cst .non))] [], .ife (.blt (.isi "bool") (.cons (.var 1) .nil)) [.ret (.ife (.var 1) (.cmp .Is (.var 0) (.cst (.bl true))) (.cmp .Is (.var 0) (.cst (.bl false))))] [], .ife (.blt (.isi "int") (.cons (.var 1) .nil)) [.ret (.and (.call 34 (.cons (.var 0) .nil)) (.cmp .Eq (.var 0) (.var 1)))] [], .ife (.blt (.isi "str") (.cons (.var 1) .nil)) [.ret (.and (.blt (.isi "str") (.cons (.var 0) .nil)) (.cmp .Eq (.var 0) (.var 1)))] [], .ife (.or (.and (.blt (.isi "tuple") (.cons (.var 1) .nil)) (.not (.blt (.isi "tuple") (.cons (.var 0) .nil)))) (.and (.blt (.isi "list") (.cons (.var 1) .nil)) (.not (.blt (.isi "list") (.cons (.var 0) .nil))))) [.ret (.cst (.bl false))] [], .ife (.cmp .NotEq (.blt .len (.cons (.var 0) .nil)) (.blt .len (.cons (.var 1) .nil))) [.ret (.cst (.bl false))] [], .for_ (.name 2) (.rng (.blt .len (.cons (.var 1) .nil))) [.ife (.not (.call 35 (.cons (.idx (.var 0) (.var 2)) (.cons (.idx (.var 1) (.var 2)) .nil)))) [.ret (.cst (.bl false))] []], .ret (.cst (.bl true))]
def N40 : List Str := ["jar", "go"]
def st40 : Stmt := top 107
def ir40 : List Sm := [.ret (.blt .tuple (.cons (.comp [1] (.name 1) (.rng (.call 16 (.cons (.var 0) (.cons (.lst (.cons (.cst (.int 0)) (.cons (.cst (.int 1)) (.cons (.cst (.int 3)) (.cons (.cst (.int 8)) (.cons (.cst (.int 20)) .nil)))))) .nil)))) .nil (.call 31 (.cons (.var 0) .nil))) .nil))]
def N41 : List Str := ["jar", "some", "at", "bent", "thing", "wrong", "told", "owed"]
def st41 : Stmt := top 108
def ir41 : List Sm := [.ife (.not (.tells 35 "told" (.call 6 (.cons (.var 1) .nil)) (.var 1))) [.ret (.cst (.bl false))] [], .ife (.not (.tells 35 "told" (.call 12 (.cons (.var 1) .nil)) (.call 23 (.cons (.var 1) .nil)))) [.ret (.cst (.bl false))] [], .asg (.name 2) (.call 15 (.cons (.var 0) (.cons (.bin .Add (.blt .len (.cons (.var 1) .nil)) (.cst (.int 1))) .nil))), .asg (.name 3) (.call 32 (.cons (.var 0) (.cons (.call 31 (.cons (.var 0) .nil)) .nil))), .for_ (.name 4) (.seq (.lst (.cons (.bin .Add (.bin .Add (.slc (.var 1) .no (.so (.var 2))) (.tup (.cons (.var 3) .nil))) (.slc (.var 1) (.so (.var 2)) .no)) (.cons (.bin .Add (.bin .Add (.slc (.var 1) .no (.so (.var 2))) (.bin .Mult (.tup (.cons (.var 3) .nil)) (.cst (.int 2)))) (.slc (.var 1) (.so (.bin .Add (.var 2) (.cst (.int 1)))) .no)) (.cons (.blt .list (.cons (.var 1) .nil)) (.cons (.cst .non) (.cons (.bin .Mult (.tup (.cons (.cst .non) .nil)) (.cst (.int 1001))) .nil))))))) [.asg (.name 5) (.call 22 (.cons (.var 4) .nil)), .asg (.name 6) (.lst (.cons (.heard (.call 6 (.cons (.var 4) .nil))) .nil)), .expr (.mth .append (.var 6) (.cons (.heard (.call 12 (.cons (.var 4) .nil))) .nil)), .asg (.name 7) (.ife (.cmp .IsNot (.var 5) (.cst .non)) (.bin .Mult (.lst (.cons (.var 5) .nil)) (.cst (.int 2))) (.lst (.cons (.tup (.cons (.cst (.str "told")) (.cons (.var 4) .nil))) (.cons (.tup (.cons (.cst (.str "told")) (.cons (.call 23 (.cons (.var 4) .nil)) .nil))) .nil)))), .ife (.not (.call 35 (.cons (.var 6) (.cons (.var 7) .nil)))) [.ret (.cst (.bl false))] []], .ret (.cst (.bl true))]
def N42 : List Str := ["jar", "many", "posted", "x", "who_of", "i", "pairs", "go"]
def st42 : Stmt := top 109
def ir42 : List Sm := [.asg (.name 1) (.call 16 (.cons (.var 0) (.cons (.lst (.cons (.cst (.int 0)) (.cons (.cst (.int 1)) (.cons (.cst (.int 2)) (.cons (.cst (.int 5)) (.cons (.cst (.int 30)) .nil)))))) .nil))), .asg (.name 2) (.tup (.cons (.call 16 (.cons (.var 0) (.cons (.lst (.cons (.cst (.int 1)) (.cons (.cst (.int 2)) (.cons (.cst (.int 3)) (.cons (.bin .Pow (.cst (.int 10)) (.cst (.int 6))) .nil))))) .nil))) (.cons (.blt .tuple (.cons (.comp [3] (.name 3) (.rng (.var 1)) .nil (.call 16 (.cons (.var 0) (.cons (.lst (.cons (.cst (.int 0)) (.cons (.cst (.int 5)) (.cons (.neg (.cst (.int 7))) (.cons (.bin .Pow (.cst (.int 10)) (.cst (.int 15))) (.cons (.neg (.bin .Pow (.cst (.int 10)) (.cst (.int 15)))) (.cons (.call 15 (.cons (.var 0) (.cons (.cst (.int 100)) .nil))) .nil))))))) .nil)))) .nil)) .nil))), .asg (.name 4) (.blt .tuple (.cons (.comp [5] (.name 5) (.rng (.bin .Add (.cst (.int 1)) (.call 15 (.cons (.var 0) (.cons (.cst (.int 30)) .nil))))) .nil (.call 16 (.cons (.var 0) (.cons (.lst (.cons (.cst (.int 0)) (.cons (.cst (.int 1)) (.cons (.cst (.int 7)) (.cons (.cst (.int 99)) .nil))))) .nil)))) .nil)), .asg (.name 6) (.ife (.cmp .Gt (.var 1) (.cst (.int 0))) (.blt .tuple (.cons (.comp [7] (.name 7) (.rng (.call 15 (.cons (.var 0) (.cons (.cst (.int 8)) .nil)))) .nil (.tup (.cons (.call 15 (.cons (.var 0) (.cons (.blt .len (.cons (.var 4) .nil)) .nil))) (.cons (.call 15 (.cons (.var 0) (.cons (.var 1) .nil))) .nil)))) .nil)) (.tup .nil)), .ret (.tup (.cons (.var 2) (.cons (.var 6) (.cons (.var 4) .nil))))]
def N43 : List Str := ["jar", "day", "posted", "pairs", "who_of", "at", "by", "strange", "odd", "some", "prices_now"]
def st43 : Stmt := top 110
def ir43 : List Sm := [.asg (.tup (.cons (.name 2) (.cons (.name 3) (.cons (.name 4) .nil)))) (.var 1), .par 5 6 (.call 15 (.cons (.var 0) (.cons (.bin .Add (.blt .len (.cons (.var 3) .nil)) (.cst (.int 1))) .nil))) (.call 15 (.cons (.var 0) (.cons (.blt .len (.cons (.var 4) .nil)) .nil))), .asg (.name 7) (.call 16 (.cons (.var 0) (.cons (.lst (.cons (.tup (.cons (.cst (.int 30)) (.cons (.cst (.int 0)) .nil))) (.cons (.tup (.cons (.cst (.int 0)) (.cons (.blt .len (.cons (.idx (.var 2) (.cst (.int 1))) .nil)) .nil))) (.cons (.tup (.cons (.neg (.cst (.int 1))) (.cons (.cst (.int 0)) .nil))) (.cons (.tup (.cons (.cst (.int 0)) (.cons (.neg (.cst (.int 1))) .nil))) (.cons (.tup (.cons (.cst (.int 0)) .nil)) (.cons (.lst (.cons (.cst (.int 0)) (.cons (.cst (.int 0)) .nil))) (.cons (.tup (.cons (.cst (.bl true)) (.cons (.cst (.int 0)) .nil))) (.cons (.cst .non) (.cons (.tup (.cons (.cst (.int 0)) (.cons (.cst .non) .nil))) (.cons (.tup (.cons (.cst (.int 29)) (.cons (.cst (.int 0)) .nil))) .nil))))))))))) .nil))), .asg (.name 8) (.call 16 (.cons (.var 0) (.cons (.lst (.cons (.cst (.int 100)) (.cons (.neg (.cst (.int 1))) (.cons (.cst (.bl true)) (.cons (.cst .non) (.cons (.cst (.str "7")) (.cons (.tup (.cons (.cst (.int 7)) .nil)) .nil))))))) .nil))), .asg (.name 9) (.lst (.cons (.cst .non) (.cons (.tup (.cons (.cst (.int 0)) (.cons (.idx (.var 2) (.cst (.int 1))) .nil))) (.cons (.tup (.cons (.idx (.var 2) (.cst (.int 0))) .nil)) (.cons (.tup (.cons (.idx (.var 2) (.cst (.int 0))) (.cons (.blt .list (.cons (.idx (.var 2) (.cst (.int 1))) .nil)) .nil))) (.cons (.tup (.cons (.idx (.var 2) (.cst (.int 0))) (.cons (.bin .Mult (.tup (.cons (.cst (.int 0)) .nil)) (.cst (.int 31))) .nil))) (.cons (.tup (.cons (.idx (.var 2) (.cst (.int 0))) (.cons (.bin .Add (.idx (.var 2) (.cst (.int 1))) (.tup (.cons (.bin .Add (.bin .Pow (.cst (.int 10)) (.cst (.int 15))) (.cst (.int 1))) .nil))) .nil))) .nil))))))), .asg (.name 10) (.call 16 (.cons (.var 0) (.cons (.bin .Add (.var 9) (.lst (.cons (.lst (.cons (.idx (.var 2) (.cst (.int 0))) (.cons (.idx (.var 2) (.cst (.int 1))) .nil))) (.cons (.tup (.cons (.cst (.bl true)) (.cons (.idx (.var 2) (.cst (.int 1))) .nil))) .nil)))) .nil))), .asg (.name 9) (.lst (.cons (.tup (.cons (.var 2) (.cons (.bin .Add (.bin .Add (.slc (.var 3) .no (.so (.var 5))) (.tup (.cons (.var 7) .nil))) (.slc (.var 3) (.so (.var 5)) .no)) (.cons (.var 4) .nil)))) (.cons (.tup (.cons (.var 2) (.cons (.var 3) (.cons (.bin .Add (.bin .Add (.slc (.var 4) .no (.so (.var 6))) (.tup (.cons (.var 8) .nil))) (.slc (.var 4) (.so (.bin .Add (.var 6) (.cst (.int 1)))) .no)) .nil)))) (.cons (.tup (.cons (.var 2) (.cons (.var 3) (.cons (.slc (.var 4) .no (.so (.var 6))) .nil)))) (.cons (.tup (.cons (.var 10) (.cons (.var 3) (.cons (.var 4) .nil)))) .nil))))), .asg (.name 9) (.bin .Add (.var 9) (.lst (.cons (.tup (.cons (.var 10) (.cons (.bin .Add (.bin .Add (.slc (.var 3) .no (.so (.var 5))) (.tup (.cons (.var 7) .nil))) (.slc (.var 3) (.so (.var 5)) .no)) (.cons (.cst .non) .nil)))) (.cons (.tup (.cons (.var 2) (.cons (.blt .list (.cons (.var 3) .nil)) (.cons (.cst .non) .nil)))) (.cons (.tup (.cons (.var 2) (.cons (.var 3) (.cons (.blt .list (.cons (.var 4) .nil)) .nil)))) (.cons (.tup (.cons (.var 2) (.cons (.var 3) (.cons (.cst .non) .nil)))) (.cons (.tup (.cons (.var 2) (.cons (.bin .Mult (.tup (.cons (.tup (.cons (.cst (.int 0)) (.cons (.cst (.int 0)) .nil))) .nil)) (.cst (.int 1001))) (.cons (.var 4) .nil)))) .nil))))))), .ret (.bin .Add (.var 9) (.lst (.cons (.tup (.cons (.var 2) (.cons (.bin .Add (.bin .Add (.slc (.var 3) .no (.so (.var 5))) (.tup (.cons (.var 7) .nil))) (.slc (.var 3) (.so (.var 5)) .no)) (.cons (.bin .Add (.slc (.var 4) .no (.so (.var 6))) (.tup (.cons (.var 8) .nil))) .nil)))) (.cons (.tup (.cons (.var 2) (.cons (.bin .Mult (.var 3) (.cst (.int 2))) (.cons (.var 4) .nil)))) (.cons (.tup (.cons (.var 2) (.cons (.cst .non) (.cons (.cst .non) .nil)))) .nil)))))]
def N44 : List Str := ["jar", "day", "posted", "pairs", "who_of", "owed"]
def st44 : Stmt := top 111
def ir44 : List Sm := [.for_ (.tup (.cons (.name 2) (.cons (.name 3) (.cons (.name 4) .nil)))) (.seq (.bin .Add (.lst (.cons (.var 1) .nil)) (.call 43 (.cons (.var 0) (.cons (.var 1) .nil))))) [.asg (.name 5) (.call 24 (.cons (.var 2) (.cons (.var 3) (.cons (.var 4) .nil)))), .ife (.not (.call 35 (.cons (.heard (.call 9 (.cons (.var 2) (.cons (.var 3) (.cons (.var 4) .nil))))) (.cons (.var 5) .nil)))) [.ret (.cst (.bl false))] [], .ife (.and (.cmp .Eq (.idx (.var 5) (.cst (.int 0))) (.cst (.str "told"))) (.not (.tells 35 "told" (.call 12 (.cons (.idx (.var 5) (.cst (.int 1))) .nil)) (.call 23 (.cons (.idx (.var 5) (.cst (.int 1))) .nil))))) [.ret (.cst (.bl false))] []], .ret (.cst (.bl true))]
def N45 : List Str := ["store", "kept", "deed", "owed", "behind"]
def st45 : Stmt := top 112
def ir45 : List Sm := [.asg (.tup (.cons (.name 3) (.cons (.name 4) .nil))) (.call 25 (.cons (.var 1) (.cons (.var 2) .nil))), .ret (.tup (.cons (.call 35 (.cons (.heard (.call 26 (.cons (.var 0) (.cons (.var 2) .nil)))) (.cons (.var 3) .nil))) (.cons (.var 4) .nil)))]
def N46 : List Str := ["jar", "store", "who"]
def st46 : Stmt := top 113
def ir46 : List Sm := [.asg (.name 2) (.call 16 (.cons (.var 0) (.cons (.lst (.cons (.cst (.int 100)) (.cons (.neg (.cst (.int 1))) (.cons (.cst (.bl true)) (.cons (.cst .non) (.cons (.cst (.str "1")) (.cons (.tup (.cons (.cst (.int 1)) .nil)) .nil))))))) .nil))), .ife (.not (.refuses 35 (.omt "balance" (.var 1) (.cons (.var 2) .nil)) (.cst (.str "BadWho")) (.var 2))) [.ret (.cst (.bl false))] [], .ret (.refuses 35 (.omt "statement" (.var 1) (.cons (.var 2) .nil)) (.cst (.str "BadWho")) (.var 2))]
def N47 : List Str := ["jar", "stores", "kept", "turn", "at", "is_right"]
def st47 : Stmt := top 114
def ir47 : List Sm := [.par 1 2 (.lst (.cons (.mk 0 .nil) (.cons (.mk 0 .nil) .nil))) (.lst (.cons (.tup .nil) (.cons (.tup .nil) .nil))), .for_ (.name 3) (.rng (.cst (.int 60))) [.asg (.name 4) (.call 15 (.cons (.var 0) (.cons (.cst (.int 2)) .nil))), .asg (.tup (.cons (.name 5) (.cons (.sub (.var 2) (.var 4)) .nil))) (.call 45 (.cons (.idx (.var 1) (.var 4)) (.cons (.idx (.var 2) (.var 4)) (.cons (.call 33 (.cons (.var 0) .nil)) .nil)))), .ife (.or (.not (.var 5)) (.and (.cmp .Eq (.bin .Mod (.var 3) (.cst (.int 5))) (.cst (.int 0))) (.not (.call 30 (.cons (.idx (.var 1) (.var 4)) (.cons (.idx (.var 2) (.var 4)) (.cons (.tup (.cons (.cst (.int 0)) (.cons (.cst (.int 1)) (.cons (.cst (.int 2)) (.cons (.cst (.int 99)) (.cons (.cst (.int 50)) .nil)))))) .nil))))))) [.ret (.cst (.bl false))] [], .ife (.and (.cmp .Eq (.bin .Mod (.var 3) (.cst (.int 9))) (.cst (.int 4))) (.or (.not (.call 30 (.cons (.idx (.var 1) (.bin .Sub (.cst (.int 1)) (.var 4))) (.cons (.idx (.var 2) (.bin .Sub (.cst (.int 1)) (.var 4))) (.cons (.tup (.cons (.cst (.int 0)) (.cons (.cst (.int 2)) (.cons (.cst (.int 99)) .nil)))) .nil))))) (.not (.call 46 (.cons (.var 0) (.cons (.idx (.var 1) (.var 4)) .nil)))))) [.ret (.cst (.bl false))] []], .for_ (.name 3) (.rng (.bin .Add (.blt .len (.cons (.idx (.var 2) (.cst (.int 0))) .nil)) (.cst (.int 1)))) [.asg (.tup (.cons (.name 5) (.cons (.sub (.var 2) (.cst (.int 0))) .nil))) (.call 45 (.cons (.idx (.var 1) (.cst (.int 0))) (.cons (.idx (.var 2) (.cst (.int 0))) (.cons (.tup (.cons (.cst (.str "undo")) .nil)) .nil)))), .ife (.or (.not (.var 5)) (.and (.cmp .Eq (.bin .Mod (.var 3) (.cst (.int 4))) (.cst (.int 0))) (.not (.call 30 (.cons (.idx (.var 1) (.cst (.int 0))) (.cons (.idx (.var 2) (.cst (.int 0))) (.cons (.tup (.cons (.cst (.int 0)) (.cons (.cst (.int 1)) (.cons (.cst (.int 2)) (.cons (.cst (.int 99)) .nil))))) .nil))))))) [.ret (.cst (.bl false))] []], .ret (.and (.call 30 (.cons (.idx (.var 1) (.cst (.int 0))) (.cons (.idx (.var 2) (.cst (.int 0))) (.cons (.tup (.cons (.cst (.int 0)) (.cons (.cst (.int 1)) (.cons (.cst (.int 2)) (.cons (.cst (.int 99)) .nil))))) .nil)))) (.call 30 (.cons (.idx (.var 1) (.cst (.int 1))) (.cons (.idx (.var 2) (.cst (.int 1))) (.cons (.tup (.cons (.cst (.int 0)) (.cons (.cst (.int 1)) (.cons (.cst (.int 2)) (.cons (.cst (.int 99)) .nil))))) .nil)))))]
def N48 : List Str := ["script", "go", "jar", "wide"]
def st48 : Stmt := top 115
def ir48 : List Sm := [.for_ (.name 1) (.rng (.cst (.int 3))) [.asg (.name 2) (.call 14 (.cons (.var 0) (.cons (.var 1) .nil))), .ife (.or (.not (.call 41 (.cons (.var 2) (.cons (.call 40 (.cons (.var 2) .nil)) .nil)))) (.or (.not (.call 44 (.cons (.var 2) (.cons (.call 42 (.cons (.var 2) .nil)) .nil)))) (.not (.call 47 (.cons (.var 2) .nil))))) [.ret (.cst (.bl false))] []], .asg (.name 3) (.bin .Mult (.tup (.cons (.tup (.cons (.cst (.int 3)) (.cons (.cst (.int 1)) (.cons (.cst (.int 1)) (.cons (.cst (.int 3)) .nil))))) .nil)) (.cst (.int 1000))), .ife (.not (.tells 35 "told" (.call 12 (.cons (.var 3) .nil)) (.tup (.cons (.tup (.cons (.cst (.int 3)) (.cons (.cst (.int 1000)) (.cons (.cst (.int 1000)) (.cons (.cst (.int 3)) .nil))))) .nil)))) [.ret (.cst (.bl false))] [], .ret (.refuses 35 (.call 12 (.cons (.bin .Add (.var 3) (.tup (.cons (.tup (.cons (.cst (.int 3)) (.cons (.cst (.int 1)) (.cons (.cst (.int 1)) (.cons (.cst (.int 3)) .nil))))) .nil))) .nil)) (.cst (.str "TooMany")) (.cst (.int 1001)))]
def N49 : List Str := ["self"]
def st49 : Stmt := mem (top 79) 0
def ir49 : List Sm := [.asg (.fld "_rows" (.var 0)) (.lst .nil)]
def N50 : List Str := ["self", "rows", "who", "told"]
def st50 : Stmt := mem (top 79) 1
def ir50 : List Sm := [.ret (.comp [2, 3] (.tup (.cons (.name 2) (.cons (.name 3) .nil))) (.seq (.var 1)) (.cons (.cmp .Eq (.idx (.var 3) (.cst (.int 0))) (.cst (.str "bill"))) .nil) (.tup (.cons (.var 2) (.star (.slc (.var 3) (.so (.cst (.int 1))) .no) .nil))))]
def N51 : List Str := ["self", "rows", "_", "told"]
def st51 : Stmt := mem (top 79) 2
def ir51 : List Sm := [.ret (.blt .sum (.cons (.comp [2, 3] (.tup (.cons (.name 2) (.cons (.name 3) .nil))) (.seq (.var 1)) (.cons (.cmp .Eq (.idx (.var 3) (.cst (.int 0))) (.cst (.str "pay"))) .nil) (.idx (.var 3) (.cst (.int 1)))) .nil))]
def N52 : List Str := ["self", "who", "row"]
def st52 : Stmt := mem (top 79) 3
def ir52 : List Sm := [.expr (.call 13 (.cons (.var 1) .nil)), .ret (.comp [2] (.name 2) (.seq (.fld "_rows" (.var 0))) (.cons (.cmp .Eq (.idx (.var 2) (.cst (.int 0))) (.var 1)) .nil) (.var 2))]
def N53 : List Str := ["self", "bill", "who", "x", "number", "scale"]
def st53 : Stmt := mem (top 79) 4
def ir53 : List Sm := [.ife (.not (.call 5 (.cons (.var 1) .nil))) [.raise 42 (.cst (.int 0))] [], .asg (.tup (.cons (.name 2) (.cons (.name 3) (.cons (.name 4) (.cons (.name 5) .nil))))) (.var 1), .expr (.mth .append (.fld "_rows" (.var 0)) (.cons (.tup (.cons (.var 2) (.cons (.tup (.cons (.cst (.str "bill")) (.cons (.var 3) (.cons (.var 4) (.cons (.var 5) .nil))))) .nil))) .nil))]
def N54 : List Str := ["self", "who", "amount"]
def st54 : Stmt := mem (top 79) 5
def ir54 : List Sm := [.expr (.call 13 (.cons (.var 1) .nil)), .ife (.not (.call 0 (.cons (.var 2) (.cons (.cst (.int 1)) (.cons (.cst (.int 1000000000000)) .nil))))) [.raise 44 (.var 2)] [], .expr (.mth .append (.fld "_rows" (.var 0)) (.cons (.tup (.cons (.var 1) (.cons (.tup (.cons (.cst (.str "pay")) (.cons (.var 2) .nil))) .nil))) .nil))]
def N55 : List Str := ["self"]
def st55 : Stmt := mem (top 79) 6
def ir55 : List Sm := [.ife (.cmp .Eq (.fld "_rows" (.var 0)) (.lst .nil)) [.raise 20 (.cst (.int 0))] [], .expr (.mth .pop (.fld "_rows" (.var 0)) .nil)]
def N56 : List Str := ["self", "who", "rows", "top", "bottom"]
def st56 : Stmt := mem (top 79) 7
def ir56 : List Sm := [.asg (.name 2) (.omt "_own" (.var 0) (.cons (.var 1) .nil)), .asg (.tup (.cons (.name 3) (.cons (.name 4) .nil))) (.call 11 (.cons (.omt "_bills" (.var 0) (.cons (.var 2) .nil)) .nil)), .ret (.call 10 (.cons (.bin .Sub (.var 3) (.bin .Mult (.omt "_paid" (.var 0) (.cons (.var 2) .nil)) (.var 4))) (.cons (.var 4) .nil)))]
def N57 : List Str := ["self", "who", "_", "told"]
def st57 : Stmt := mem (top 79) 8
def ir57 : List Sm := [.ret (.blt .tuple (.cons (.comp [2, 3] (.tup (.cons (.name 2) (.cons (.name 3) .nil))) (.seq (.omt "_own" (.var 0) (.cons (.var 1) .nil))) .nil (.var 3)) .nil))]
def N58 : List Str := ["self"]
def st58 : Stmt := mem (top 79) 9
def ir58 : List Sm := [.ret (.tup (.cons (.call 11 (.cons (.omt "_bills" (.var 0) (.cons (.fld "_rows" (.var 0)) .nil)) .nil)) (.cons (.tup (.cons (.omt "_paid" (.var 0) (.cons (.fld "_rows" (.var 0)) .nil)) (.cons (.cst (.int 1)) .nil))) .nil)))]
end HB
end HDi
section HDj
set_option Elab.async false
set_option linter.all false
set_option maxRecDepth 100000
set_option maxHeartbeats 0
namespace HB
open PySem MP HD
theorem tr0 : trSs (tr 40) (kap N0 (dScope st0)) (dBody st0) = some ir0 := by kernel_rfl
theorem tr1 : trSs (tr 40) (kap N1 (dScope st1)) (dBody st1) = some ir1 := by kernel_rfl
theorem tr2 : trSs (tr 40) (kap N2 (dScope st2)) (dBody st2) = some ir2 := by kernel_rfl
theorem tr3 : trSs (tr 40) (kap N3 (dScope st3)) (dBody st3) = some ir3 := by kernel_rfl
theorem tr4 : trSs (tr 40) (kap N4 (dScope st4)) (dBody st4) = some ir4 := by kernel_rfl
theorem tr5 : trSs (tr 40) (kap N5 (dScope st5)) (dBody st5) = some ir5 := by kernel_rfl
theorem tr6 : trSs (tr 40) (kap N6 (dScope st6)) (dBody st6) = some ir6 := by kernel_rfl
theorem tr7 : trSs (tr 40) (kap N7 (dScope st7)) (dBody st7) = some ir7 := by kernel_rfl
theorem tr8 : trSs (tr 40) (kap N8 (dScope st8)) (dBody st8) = some ir8 := by kernel_rfl
theorem tr9 : trSs (tr 40) (kap N9 (dScope st9)) (dBody st9) = some ir9 := by kernel_rfl
theorem tr10 : trSs (tr 40) (kap N10 (dScope st10)) (dBody st10) = some ir10 := by kernel_rfl
theorem tr11 : trSs (tr 40) (kap N11 (dScope st11)) (dBody st11) = some ir11 := by kernel_rfl
theorem tr12 : trSs (tr 40) (kap N12 (dScope st12)) (dBody st12) = some ir12 := by kernel_rfl
theorem tr13 : trSs (tr 40) (kap N13 (dScope st13)) (dBody st13) = some ir13 := by kernel_rfl
theorem tr14 : trSs (tr 40) (kap N14 (dScope st14)) (dBody st14) = some ir14 := by kernel_rfl
theorem tr15 : trSs (tr 40) (kap N15 (dScope st15)) (dBody st15) = some ir15 := by kernel_rfl
theorem tr16 : trSs (tr 40) (kap N16 (dScope st16)) (dBody st16) = some ir16 := by kernel_rfl
theorem tr17 : trSs (tr 40) (kap N17 (dScope st17)) (dBody st17) = some ir17 := by kernel_rfl
theorem tr18 : trSs (tr 40) (kap N18 (dScope st18)) (dBody st18) = some ir18 := by kernel_rfl
theorem tr19 : trSs (tr 40) (kap N19 (dScope st19)) (dBody st19) = some ir19 := by kernel_rfl
theorem tr20 : trSs (tr 40) (kap N20 (dScope st20)) (dBody st20) = some ir20 := by kernel_rfl
theorem tr21 : trSs (tr 40) (kap N21 (dScope st21)) (dBody st21) = some ir21 := by kernel_rfl
theorem tr22 : trSs (tr 40) (kap N22 (dScope st22)) (dBody st22) = some ir22 := by kernel_rfl
theorem tr23 : trSs (tr 40) (kap N23 (dScope st23)) (dBody st23) = some ir23 := by kernel_rfl
theorem tr24 : trSs (tr 40) (kap N24 (dScope st24)) (dBody st24) = some ir24 := by kernel_rfl
theorem tr25 : trSs (tr 40) (kap N25 (dScope st25)) (dBody st25) = some ir25 := by kernel_rfl
theorem tr26 : trSs (tr 40) (kap N26 (dScope st26)) (dBody st26) = some ir26 := by kernel_rfl
theorem tr27 : trSs (tr 40) (kap N27 (dScope st27)) (dBody st27) = some ir27 := by kernel_rfl
theorem tr28 : trSs (tr 40) (kap N28 (dScope st28)) (dBody st28) = some ir28 := by kernel_rfl
theorem tr29 : trSs (tr 40) (kap N29 (dScope st29)) (dBody st29) = some ir29 := by kernel_rfl
theorem tr30 : trSs (tr 40) (kap N30 (dScope st30)) (dBody st30) = some ir30 := by kernel_rfl
theorem tr31 : trSs (tr 40) (kap N31 (dScope st31)) (dBody st31) = some ir31 := by kernel_rfl
theorem tr32 : trSs (tr 40) (kap N32 (dScope st32)) (dBody st32) = some ir32 := by kernel_rfl
theorem tr33 : trSs (tr 40) (kap N33 (dScope st33)) (dBody st33) = some ir33 := by kernel_rfl
theorem tr34 : trSs (tr 40) (kap N34 (dScope st34)) (dBody st34) = some ir34 := by kernel_rfl
theorem tr35 : trSs (tr 40) (kap N35 (dScope st35)) (dBody st35) = some ir35 := by kernel_rfl
theorem tr40 : trSs (tr 40) (kap N40 (dScope st40)) (dBody st40) = some ir40 := by kernel_rfl
theorem tr41 : trSs (tr 40) (kap N41 (dScope st41)) (dBody st41) = some ir41 := by kernel_rfl
theorem tr42 : trSs (tr 40) (kap N42 (dScope st42)) (dBody st42) = some ir42 := by kernel_rfl
theorem tr43 : trSs (tr 40) (kap N43 (dScope st43)) (dBody st43) = some ir43 := by kernel_rfl
theorem tr44 : trSs (tr 40) (kap N44 (dScope st44)) (dBody st44) = some ir44 := by kernel_rfl
theorem tr45 : trSs (tr 40) (kap N45 (dScope st45)) (dBody st45) = some ir45 := by kernel_rfl
theorem tr46 : trSs (tr 40) (kap N46 (dScope st46)) (dBody st46) = some ir46 := by kernel_rfl
theorem tr47 : trSs (tr 40) (kap N47 (dScope st47)) (dBody st47) = some ir47 := by kernel_rfl
theorem tr48 : trSs (tr 40) (kap N48 (dScope st48)) (dBody st48) = some ir48 := by kernel_rfl
theorem tr49 : trSs (tr 40) (kap N49 (dScope st49)) (dBody st49) = some ir49 := by kernel_rfl
theorem tr50 : trSs (tr 40) (kap N50 (dScope st50)) (dBody st50) = some ir50 := by kernel_rfl
theorem tr51 : trSs (tr 40) (kap N51 (dScope st51)) (dBody st51) = some ir51 := by kernel_rfl
theorem tr52 : trSs (tr 40) (kap N52 (dScope st52)) (dBody st52) = some ir52 := by kernel_rfl
theorem tr53 : trSs (tr 40) (kap N53 (dScope st53)) (dBody st53) = some ir53 := by kernel_rfl
theorem tr54 : trSs (tr 40) (kap N54 (dScope st54)) (dBody st54) = some ir54 := by kernel_rfl
theorem tr55 : trSs (tr 40) (kap N55 (dScope st55)) (dBody st55) = some ir55 := by kernel_rfl
theorem tr56 : trSs (tr 40) (kap N56 (dScope st56)) (dBody st56) = some ir56 := by kernel_rfl
theorem tr57 : trSs (tr 40) (kap N57 (dScope st57)) (dBody st57) = some ir57 := by kernel_rfl
theorem tr58 : trSs (tr 40) (kap N58 (dScope st58)) (dBody st58) = some ir58 := by kernel_rfl
end HB
end HDj
section HDf
set_option Elab.async false
set_option linter.all false
set_option maxRecDepth 100000
set_option maxHeartbeats 2000000
/-! HDf: the facts behind the top, told by looks at a known part of the heap. -/
namespace HF
open PySem PySem.Spec PyProof.Rows L2 MP
theorem ba {a b : Bool} (h : (a && b) = true) : a = true ∧ b = true := Bool.and_eq_true_iff.mp h
def eqO (a b : Option (Option Value)) : Bool := decide (a = b)
section
variable {K : PySem.W.Frag} {h : Heap} {mg : Str → Option Value}
/-! ### names -/
def gloB (K : PySem.W.Frag) (x : Str) (v : Option Value) : Bool := decide (PySem.W.nsIn K mainGlobals x = some v)
theorem gloB_ok (X : K.In h) (G : h.Ns mainGlobals mg) {x : Str} {v : Option Value} (c : gloB K x v = true) : mg x = v := by
  have c := of_decide_eq_true c
  cases v with
  | none => exact PySem.W.mg_none_of X G c
  | some v => exact PySem.W.mg_of X G c
/-! ### defs -/
abbrev FnW : Type := Option (Str × Str × Arguments × FuncBody × Scope × Addr × List (Str × Addr) × Addr)
def fnW (K : PySem.W.Frag) (f : Addr) : FnW := match K.lookup f with
  | some ⟨_, _, .func fd, _⟩ => some (fd.name, fd.qualname, fd.params, fd.body, fd.scope, fd.globals, fd.closure, fd.builtins)
  | _ => none
def fdOf (K : PySem.W.Frag) (f : Addr) : FuncData := match K.lookup f with
  | some ⟨_, _, .func fd, _⟩ => fd
  | _ => default
def isNoneV : Value → Bool
  | .none => true
  | _ => false
def isRef (a : Addr) : Value → Bool
  | .ref b => a == b
  | _ => false
theorem isRef_ok {a : Addr} {v : Value} (h : isRef a v = true) : v = .ref a := by
  cases v with
  | ref b => rw [beq_iff_eq.mp (show (a == b) = true from h)]
  | _ => cases h
theorem isNoneV_ok {v : Value} (h : isNoneV v = true) : v = .none := by
  cases v with
  | none => rfl
  | _ => cases h
/-- a def, its code object, its table -/
def defB (K : PySem.W.Frag) (f c t : Addr) (qual : Str) : Bool := PySem.W.keepIn K (.ref f) && ((match K.lookup f with
  | some ⟨_, _, .func fd, _⟩ => isRef c fd.code && (isNoneV fd.defaults && (isNoneV fd.kwdefaults && PySem.W.codeIn K fd.code qual))
  | _ => false) && (PySem.W.codeHdIn K c t && (K.lookup t).isNone))
theorem defB_ok {f c t : Addr} {x qual : Str} {params : Arguments} {body : List Stmt} {scope : Scope} (e : fnW K f = some (x, qual, params, .stmts body, scope, mainGlobals, [], builtinsNs)) (h : defB K f c t qual = true) :
    FunD K x qual params body scope [] [] f (fdOf K f) ∧ (fdOf K f).code = .ref c ∧ PySem.W.codeHdIn K c t = true ∧ K.lookup t = none := by
  obtain ⟨kp, h2⟩ := ba h
  obtain ⟨h3, h4⟩ := ba h2
  obtain ⟨h5, h6⟩ := ba h4
  unfold fnW at e
  unfold fdOf
  cases q : K.lookup f with
  | none => rw [q] at e; cases e
  | some o =>
    obtain ⟨oc, od, dt, osl⟩ := o
    rw [q] at e h3
    cases dt with
    | func fd =>
      obtain ⟨n1, n2, n3, n4, n5, n6, n7, n8, n9, n10, n11, n12, n13, n14, n15⟩ := fd
      have e2 : (some (n1, n2, n3, n4, n5, n6, n7, n15) : FnW) = some (x, qual, params, .stmts body, scope, mainGlobals, [], builtinsNs) := e
      simp only [Option.some.injEq, Prod.mk.injEq] at e2
      obtain ⟨r1, r2, r3, r4, r5, r6, r7, r8⟩ := e2
      subst r1 r2 r3 r4 r5 r6 r7 r8
      obtain ⟨c1, c2⟩ := ba (show (isRef c n13 && (isNoneV n8 && (isNoneV n9 && PySem.W.codeIn K n13 _))) = true from h3)
      obtain ⟨c3, c4⟩ := ba c2
      obtain ⟨c5, c6⟩ := ba c4
      refine ⟨⟨⟨oc, od, n8, n9, n10, n11, n12, n13, n14, osl, rfl, q, c6, .inl ⟨rfl, isNoneV_ok c3⟩, .inl rfl⟩, kp⟩, isRef_ok c1, h5, ?_⟩
      cases z : K.lookup t with
      | none => rfl
      | some u => rw [z] at h6; cases h6
    | _ => cases h3
/-! ### scopes -/
def scB (N ps : List Str) (sc : Scope) : Bool := (match sc.kind with
  | .function => true
  | _ => false) && (!sc.isCoroutine && (!sc.isGenerator && (decide N.Nodup && (decide (N.take ps.length = ps) && ((ps.all fun x => match sc.names.lookup x with
  | some .local => true
  | some .cell => true
  | _ => false) && sc.names.all fun y => match y.2 with
  | .free => false
  | _ => true)))))
theorem scB_ok {N ps : List Str} {sc : Scope} (h : scB N ps sc = true) : FnScope N ps sc := by
  obtain ⟨h1, h⟩ := ba h
  obtain ⟨h2, h⟩ := ba h
  obtain ⟨h3, h⟩ := ba h
  obtain ⟨h4, h⟩ := ba h
  obtain ⟨h5, h⟩ := ba h
  obtain ⟨h6, h7⟩ := ba h
  refine ⟨?_, by simpa using h2, by simpa using h3, of_decide_eq_true h4, of_decide_eq_true h5, fun x hx => ?_, fun y hy e => ?_⟩
  · cases e : sc.kind <;> rw [e] at h1 <;> first | rfl | cases h1
  · have z := List.all_eq_true.mp h6 x hx
    cases e : sc.names.lookup x with
    | none => rw [e] at z; cases z
    | some k =>
      rw [e] at z
      cases k <;> first | exact .inl rfl | exact .inr rfl | cases z
  · have z := List.all_eq_true.mp h7 y hy
    rw [e] at z
    cases z
/-! ### classes -/
def clsB (K : PySem.W.Frag) (a : Addr) : Bool := PySem.W.plainGet K a Str.empty && (PySem.W.hasDictIn K a && (PySem.W.plainOver K a && eqO (PySem.W.findIn K (.ref a) "__setattr__") (some (some (.builtin "object.__setattr__")))))
theorem clsB_ok {a : Addr} (c : clsB K a = true) : Cls K a := by
  obtain ⟨c1, c⟩ := ba c
  obtain ⟨c2, c⟩ := ba c
  obtain ⟨c3, c4⟩ := ba c
  exact ⟨c1, c2, c3, of_decide_eq_true c4⟩
def methB (K : PySem.W.Frag) (a f : Addr) (m : Str) : Bool := eqO (PySem.W.findIn K (.ref a) m) (some (some (.ref f))) && (PySem.W.isFn K (.ref f) && PySem.W.keepIn K (.ref f))
theorem methB_ok {a f : Addr} {m : Str} (c : methB K a f m = true) : Meth K a m f := by
  obtain ⟨c1, c⟩ := ba c
  obtain ⟨c2, c3⟩ := ba c
  exact ⟨of_decide_eq_true c1, c2, c3⟩
def mkB (K : PySem.W.Frag) (a f : Addr) : Bool := PySem.W.makesIn K a && (eqO (PySem.W.findIn K (.ref a) "__init__") (some (some (.ref f))) && (PySem.W.isFn K (.ref f) && PySem.W.keepIn K (.ref a)))
theorem mkB_ok {a f : Addr} (c : mkB K a f = true) : Mk K a f := by
  obtain ⟨c1, c⟩ := ba c
  obtain ⟨c2, c⟩ := ba c
  obtain ⟨c3, c4⟩ := ba c
  exact ⟨c1, of_decide_eq_true c2, c3, c4⟩
def noB (K : PySem.W.Frag) (a : Addr) (f : Str) : Bool := eqO (PySem.W.findIn K (.ref a) f) (some none)
theorem noB_ok {a : Addr} {f : Str} (c : noB K a f = true) : NoAttr K a f := of_decide_eq_true (p := PySem.W.findIn K (.ref a) f = some none) c
end
end HF
end HDf
section HDe
set_option Elab.async false
set_option linter.all false
set_option maxRecDepth 100000
set_option maxHeartbeats 2000000
/-! HDe: the classes of refusal, told by looks. -/
namespace HF
open PySem PySem.W PySem.Spec PyProof.Rows L2 MP
section
variable {K : Frag} {prog : Program}
def looksP (s : Scope) (x : Str) (k : NameKind) : Bool := decide (s.names.lookup x = some k)
def supB (K : Frag) (prog : Program) (D f cda cc : Addr) (qual : Str) (params : Arguments) (scope : Scope) : Bool :=
  (match K.lookup f with
    | some ⟨_, _, .func fd, _⟩ => isRef cda fd.code
    | _ => false) && (codeIn K (.ref cda) qual && ((match K.lookup cda with
    | some ⟨_, _, .fields vs, _⟩ => (match (vs[2]? : Option Value) with
      | some (.str file _) => prog.main.file == file
      | _ => false)
    | _ => false) && ((match K.lookup cc with
    | some ⟨_, _, .cell (some v), _⟩ => isRef D v
    | _ => false) && ((clsIn K D).isSome && (!(prog.main.scope.names.lookup ("super" : Str)).isSome && (looksP scope "super" .globalImplicit && (looksP scope "__class__" .free && (looksP scope "self" .local &&
    (decide (scope.kind = .function) && (!scope.isCoroutine && (!scope.isGenerator && ((scope.names.all fun x => decide (x.2 ≠ .cell)) && (match params with
      | ⟨[], a :: _, _, _, _, _, _⟩ => decide (a.arg = "self")
      | _ => false)))))))))))))
theorem supB_ok {D f cda cc : Addr} {qual : Str} {params : Arguments} {body : List Stmt} {scope : Scope} (e : fnW K f = (some (("__init__" : Str), qual, params, FuncBody.stmts body, scope, mainGlobals, [(("__class__" : Str), cc)], builtinsNs) : FnW))
    (h : supB K prog D f cda cc qual params scope = true) : SupFn K prog D f cda cc qual params body scope (fdOf K f) := by
  obtain ⟨h1, h⟩ := ba h
  obtain ⟨h2, h⟩ := ba h
  obtain ⟨h3, h⟩ := ba h
  obtain ⟨h4, h⟩ := ba h
  obtain ⟨h5, h⟩ := ba h
  obtain ⟨h6, h⟩ := ba h
  obtain ⟨h7, h⟩ := ba h
  obtain ⟨h8, h⟩ := ba h
  obtain ⟨h9, h⟩ := ba h
  obtain ⟨h10, h⟩ := ba h
  obtain ⟨h11, h⟩ := ba h
  obtain ⟨h12, h⟩ := ba h
  obtain ⟨h13, h14⟩ := ba h
  unfold fnW at e
  unfold fdOf
  refine ⟨?_, h2, ?_, ?_, Option.isSome_iff_exists.mp h5, by simpa using h6, of_decide_eq_true h7, of_decide_eq_true h8, of_decide_eq_true h9, of_decide_eq_true h10, by simpa using h11, by simpa using h12, fun x hx => of_decide_eq_true (List.all_eq_true.mp h13 x hx), ?_⟩
  · cases q : K.lookup f with
    | none => rw [q] at e; cases e
    | some o =>
      obtain ⟨oc, od, dt, osl⟩ := o
      rw [q] at e h1
      cases dt with
      | func fd =>
        obtain ⟨n1, n2, n3, n4, n5, n6, n7, n8, n9, n10, n11, n12, n13, n14, n15⟩ := fd
        have e2 : (some (n1, n2, n3, n4, n5, n6, n7, n15) : FnW) = some (("__init__" : Str), qual, params, FuncBody.stmts body, scope, mainGlobals, [(("__class__" : Str), cc)], builtinsNs) := e
        simp only [Option.some.injEq, Prod.mk.injEq] at e2
        obtain ⟨r1, r2, r3, r4, r5, r6, r7, r8⟩ := e2
        subst r1 r2 r3 r4 r5 r6 r7 r8
        have c1 := isRef_ok (show isRef cda n13 = true from h1)
        subst c1
        exact ⟨oc, od, n8, n9, n10, n11, n12, n14, osl, rfl, rfl⟩
      | _ => cases h1
  · cases q : K.lookup cda with
    | none => rw [q] at h3; cases h3
    | some o =>
      obtain ⟨oc, od, dt, osl⟩ := o
      rw [q] at h3
      cases dt with
      | fields vs =>
        have h3 : (match (vs[2]? : Option Value) with
          | some (.str file _) => prog.main.file == file
          | _ => false) = true := h3
        cases z : vs[2]? with
        | none => rw [z] at h3; cases h3
        | some v =>
          rw [z] at h3
          cases v with
          | str x t => exact ⟨oc, od, vs, osl, x, t, rfl, z, h3⟩
          | _ => cases h3
      | _ => cases h3
  · cases q : K.lookup cc with
    | none => rw [q] at h4; cases h4
    | some o =>
      obtain ⟨oc, od, dt, osl⟩ := o
      rw [q] at h4
      cases dt with
      | cell v =>
        cases v with
        | none => cases h4
        | some v =>
          rw [isRef_ok (show isRef D v = true from h4)]
          exact ⟨oc, od, osl, rfl⟩
      | _ => cases h4
  · split at h14
    · exact ⟨_, rfl, of_decide_eq_true h14⟩
    · cases h14
/-! ### the makers' texts -/
def isBad (x : Str) : List Stmt → Bool
  | [.Expr (.Call (.Attribute (.Call (.Name s _) [] [] _) i p2) [.Name w _, .Constant (.str y) _ _] [] p4) _] => decide (s = "super") && (decide (i = "__init__") && (decide (w = "what") && (decide (y = x) && p2.endLine == p4.line)))
  | _ => false
theorem isBad_ok {x : Str} {b : List Stmt} (h : isBad x b = true) : ∃ (j : Nat) (p0 p1 p2 p3 p4 p5 p6 : Pos), b = bBad x j p0 p1 p2 p3 p4 p5 p6 ∧ (p2.endLine == p4.line) = true := by
  unfold isBad at h
  split at h
  · obtain ⟨h1, h⟩ := ba h
    obtain ⟨h2, h⟩ := ba h
    obtain ⟨h3, h⟩ := ba h
    obtain ⟨h4, h5⟩ := ba h
    rw [of_decide_eq_true h1, of_decide_eq_true h2, of_decide_eq_true h3, of_decide_eq_true h4]
    exact ⟨_, _, _, _, _, _, _, _, rfl, h5⟩
  · cases h
def isSelfWhat : Arguments → Bool
  | ⟨[], [a, b], none, [], [], none, []⟩ => decide (a.arg = "self") && decide (b.arg = "what")
  | _ => false
theorem bind_sw {qual : Str} {params : Arguments} {body : List Stmt} {scope : Scope} {kV doc pm cdv ct : Value} {an : Option Addr} {cc e : Addr} {u : Value} (h : isSelfWhat params = true) :
    bindArgs (ksFn "__init__" qual params body scope .none kV doc pm an cdv ct cc) ⟨[.ref e, u], []⟩ = pure (bindsBad e u) := by
  unfold isSelfWhat at h
  split at h
  · rename_i a b
    obtain ⟨h1, h2⟩ := ba h
    obtain ⟨n1, a1, q1⟩ := a
    obtain ⟨n2, a2, q2⟩ := b
    have e1 : n1 = "self" := of_decide_eq_true h1
    have e2 : n2 = "what" := of_decide_eq_true h2
    subst e1 e2
    rfl
  · cases h
/-! ### the class -/
def isOne (K : Frag) (C : Addr) (base : Addr) (f : Addr) (w : Str) : Bool := false
def oexB (K : Frag) (C : Addr) : Bool := (match K.lookup C with
  | some ⟨.type ty, _, .cls ⟨_, _, .ref c :: bm, _, _, hd, _, _, _, _, hl⟩, ⟨[_, _, _, _, some (.builtin id), _]⟩⟩ => decide (ty = "type") && (decide (c = C) && (hd && (!hl && (decide (id = "ValueError.__new__") && HandSPX.refsVE bm))))
  | _ => false) && (eqO (findIn K (.ref C) "__setattr__") (some (some (.builtin "object.__setattr__"))) && (decide (subIn K (.ref C) (.type "BaseException") = some true) && (decide (typeIn K (.ref C) = some (.type "type")) && keepIn K (.ref C))))
theorem oexB_ok {C : Addr} (h : oexB K C = true) : OexC K C := by
  obtain ⟨h1, h⟩ := ba h
  obtain ⟨h2, h⟩ := ba h
  obtain ⟨h3, h⟩ := ba h
  obtain ⟨h4, h5⟩ := ba h
  refine ⟨?_, of_decide_eq_true h2, of_decide_eq_true h3, of_decide_eq_true h4, h5⟩
  split at h1
  · rename_i ty dd nm bs c bm N q hd sn sub ab col hl k0 k1 k2 k3 id k5 hk
    obtain ⟨z1, z⟩ := ba h1
    obtain ⟨z2, z⟩ := ba z
    obtain ⟨z3, z⟩ := ba z
    obtain ⟨z4, z⟩ := ba z
    obtain ⟨z5, z6⟩ := ba z
    have y1 := of_decide_eq_true z1
    have y2 := of_decide_eq_true z2
    have y5 := of_decide_eq_true z5
    have y4 : hl = false := by simpa using z4
    subst y1 y2 y4 y5 z3
    exact ⟨nm, q, N, bs, bm, sn, sub, ab, col, dd, k0, k1, k2, k3, k5, hk, z6⟩
  · cases h1
def isxB (K : Frag) (D : Addr) : Bool := (clsIn K D).isSome && (eqO (findIn K (.ref D) "__getattribute__") (some (some (.builtin "BaseException.__getattribute__"))) && (eqO (findIn K (.ref D) "__getattr__") (some none) && (decide (subIn K (.ref D) (.type "BaseException") = some true) &&
  (hasDictIn K D && (eqO (findIn K (.ref D) "__class__") (some (some (.builtin "object.__class__"))) && (eqO (specialIn K (.builtin "object.__class__") "__get__") (some (some (.builtin "getset_descriptor.__get__"))) && (decide (takesIn K (.builtin "object.__class__") = some true) &&
  (decide (mroIn K D (.type "object") = some true) && eqO (findIn K (.ref D) "what") (some none)))))))))
theorem isxB_ok {D : Addr} (h : isxB K D = true) : IsC K D := by
  obtain ⟨h1, h⟩ := ba h
  obtain ⟨h2, h⟩ := ba h
  obtain ⟨h3, h⟩ := ba h
  obtain ⟨h4, h⟩ := ba h
  obtain ⟨h5, h⟩ := ba h
  obtain ⟨h6, h⟩ := ba h
  obtain ⟨h7, h⟩ := ba h
  obtain ⟨h8, h⟩ := ba h
  obtain ⟨h9, h10⟩ := ba h
  exact ⟨h1, of_decide_eq_true h2, of_decide_eq_true h3, of_decide_eq_true h4, h5, of_decide_eq_true h6, of_decide_eq_true h7, of_decide_eq_true h8, of_decide_eq_true h9, of_decide_eq_true h10⟩
def alongB (K : Frag) (C R : Addr) (v : Value) : Bool := match clsIn K C with
  | some cd => decide (alongIn K "__init__" ((cd.mro.dropWhile (· != .ref R)).drop 1) = some (some v))
  | none => false
theorem alongB_ok {C R : Addr} {v : Value} (h : alongB K C R v = true) : ∃ cd, clsIn K C = some cd ∧ alongIn K "__init__" ((cd.mro.dropWhile (· != .ref R)).drop 1) = some (some v) := by
  unfold alongB at h
  split at h
  · exact ⟨_, ‹_›, of_decide_eq_true h⟩
  · cases h
def exccB (K : Frag) (R C : Addr) : Bool := oexB K C && (decide (mroIn K C (.ref R) = some true) && (alongB K C R (.builtin "ValueError.__init__") && (decide (subIn K (.ref C) (.type "ValueError") = some true) && (eqO (nsIn K cStatics "thirdparty.any") (some none) && (eqO (findIn K (.ref C) "what") (some none) && eqO (findIn K (.ref C) "word") (some none))))))
theorem exccB_ok {R C : Addr} (h : exccB K R C = true) : ExcC K R C := by
  obtain ⟨h1, h⟩ := ba h
  obtain ⟨h2, h⟩ := ba h
  obtain ⟨h3, h⟩ := ba h
  obtain ⟨h4, h⟩ := ba h
  obtain ⟨h5, h⟩ := ba h
  obtain ⟨h6, h7⟩ := ba h
  exact ⟨oexB_ok h1, of_decide_eq_true h2, alongB_ok h3, of_decide_eq_true h4, of_decide_eq_true h5, of_decide_eq_true h6, of_decide_eq_true h7⟩
def noDfl (K : Frag) (f : Addr) : Bool := match K.lookup f with
  | some ⟨_, _, .func fd, _⟩ => isNoneV fd.defaults
  | _ => false
/-- one class of refusal: its maker's address, code object, cell -/
def badB (K : Frag) (prog : Program) (R fR C f cda cc : Addr) (x qual : Str) (st : Stmt) : Bool :=
  supB K prog C f cda cc qual (HD.dArgs st) (HD.dScope st) && (isBad x (HD.dBody st) && (isSelfWhat (HD.dArgs st) && (noDfl K f && (looksP (HD.dScope st) "what" .local && (exccB K R C && (decide (mroIn K C (.ref C) = some true) && (alongB K C C (.ref fR) && (fnIn K fR &&
  (decide (typeIn K (.ref fR) = some (.type "function")) && (eqO (findIn K (.ref C) "__init__") (some (some (.ref f))) && decide (typeIn K (.ref f) = some (.type "function"))))))))))))
theorem badB_ok {R fR C f cda cc : Addr} {x qual : Str} {st : Stmt} (e : fnW K f = (some (("__init__" : Str), qual, HD.dArgs st, FuncBody.stmts (HD.dBody st), HD.dScope st, mainGlobals, [(("__class__" : Str), cc)], builtinsNs) : FnW)) (r : RefOk K prog R fR)
    (h : badB K prog R fR C f cda cc x qual st = true) : BadOk K prog R fR C f x := by
  obtain ⟨h1, h⟩ := ba h
  obtain ⟨h2, h⟩ := ba h
  obtain ⟨h3, h⟩ := ba h
  obtain ⟨h4, h⟩ := ba h
  obtain ⟨h5, h⟩ := ba h
  obtain ⟨h6, h⟩ := ba h
  obtain ⟨h7, h⟩ := ba h
  obtain ⟨h8, h⟩ := ba h
  obtain ⟨h9, h⟩ := ba h
  obtain ⟨h10, h⟩ := ba h
  obtain ⟨h11, h12⟩ := ba h
  obtain ⟨j, p0, p1, p2, p3, p4, p5, p6, eb, el⟩ := isBad_ok h2
  have S := supB_ok e h1
  rw [eb] at S
  refine ⟨⟨cda, cc, qual, _, _, fdOf K f, j, p0, p1, p2, p3, p4, p5, p6, S, of_decide_eq_true h5, el, fun e u => ?_⟩, exccB_ok h6, r, of_decide_eq_true h7, alongB_ok h8, h9, of_decide_eq_true h10, of_decide_eq_true h11, of_decide_eq_true h12⟩
  obtain ⟨oc, od, dV, kV, doc, pm, an, ct, osl, ef, lk⟩ := S.lk
  unfold noDfl at h4
  rw [lk, ef] at h4
  rw [ef, isNoneV_ok (v := dV) h4]
  exact bind_sw h3
/-- as it is heard: mro and the list's classes -/
def heardB (K : Frag) (C CR : Addr) (wd : Str) : Bool := isxB K C && (xfB K C && (decide (wd.length ≤ 1000) && decide (exmOne K (.ref C) (.ref CR) = some true)))
/-- what a class of the list must be -/
def plainC (K : Frag) (a : Addr) : Bool := (clsIn K a).isSome && typeIn K (.ref a) == some (.type "type")
theorem kit_of {D a : Addr} {cd : ClassData} (hD : clsIn K D = some cd) (hm : cd.mro.isEmpty = false) (hp : plainC K a = true) (hs : cd.mro.contains (.ref D) = true) : kitOne K (.ref D) (.ref a) = some (cd.mro.contains (.ref a)) := by
  unfold kitOne
  split
  · rename_i e
    rw [← beq_iff_eq.mp e, hs]
  · show (if ((clsIn K a).isSome && typeIn K (.ref a) == some (.type "type")) = true then subIn K (.ref D) (.ref a) else none) = _
    rw [if_pos (show ((clsIn K a).isSome && typeIn K (.ref a) == some (.type "type")) = true from hp)]
    show mroIn K D (.ref a) = _
    unfold mroIn
    rw [hD]
    show (if cd.mro.isEmpty then none else some (cd.mro.contains (Value.ref a))) = _
    rw [hm]
    rfl
end
end HF
namespace HF
open PySem PySem.W PySem.Spec PyProof.Rows L2 MP
section
variable {K : Frag} {prog : Program}
/-! ### the base's maker -/
def isRefT : List Stmt → Bool
  | [.Expr (.Call (.Attribute (.Call (.Name s _) [] [] _) i p2) [.Name w _] [] p4) _, .Assign [.Attribute (.Name a _) b _] (.Name c _) _, .Assign [.Attribute (.Name d _) e _] (.Name f _) _] =>
    decide (s = "super") && (decide (i = "__init__") && (decide (w = "what") && (decide (a = "self") && (decide (b = "what") && (decide (c = "what") && (decide (d = "self") && (decide (e = "word") && (decide (f = "word") && p2.endLine == p4.line))))))))
  | _ => false
theorem isRefT_ok {b : List Stmt} (h : isRefT b = true) : ∃ (p0 p1 p2 p3 p4 p5 p6 p7 p8 p9 p10 p11 p12 p13 : Pos), b = bRef p0 p1 p2 p3 p4 p5 p6 p7 p8 p9 p10 p11 p12 p13 ∧ (p2.endLine == p4.line) = true := by
  unfold isRefT at h
  split at h
  · obtain ⟨h1, h⟩ := ba h
    obtain ⟨h2, h⟩ := ba h
    obtain ⟨h3, h⟩ := ba h
    obtain ⟨h4, h⟩ := ba h
    obtain ⟨h5, h⟩ := ba h
    obtain ⟨h6, h⟩ := ba h
    obtain ⟨h7, h⟩ := ba h
    obtain ⟨h8, h⟩ := ba h
    obtain ⟨h9, h10⟩ := ba h
    rw [of_decide_eq_true h1, of_decide_eq_true h2, of_decide_eq_true h3, of_decide_eq_true h4, of_decide_eq_true h5, of_decide_eq_true h6, of_decide_eq_true h7, of_decide_eq_true h8, of_decide_eq_true h9]
    exact ⟨_, _, _, _, _, _, _, _, _, _, _, _, _, _, rfl, h10⟩
  · cases h
def refB (K : Frag) (prog : Program) (R fR cda cc : Addr) (qual : Str) (st : Stmt) : Bool :=
  supB K prog R fR cda cc qual (HD.dArgs st) (HD.dScope st) && (isRefT (HD.dBody st) && (looksP (HD.dScope st) "what" .local && looksP (HD.dScope st) "word" .local))
theorem refB_ok {R fR cda cc : Addr} {qual : Str} {st : Stmt} (e : fnW K fR = (some (("__init__" : Str), qual, HD.dArgs st, FuncBody.stmts (HD.dBody st), HD.dScope st, mainGlobals, [(("__class__" : Str), cc)], builtinsNs) : FnW)) (h : refB K prog R fR cda cc qual st = true)
    (hb : ∀ (S : Setting) (e : Addr) (u v : Value), peek K S (bindArgs (fdOf K fR) ⟨[.ref e, u, v], []⟩) = some (bindsRef e u v)) : RefOk K prog R fR := by
  obtain ⟨h1, h⟩ := ba h
  obtain ⟨h2, h⟩ := ba h
  obtain ⟨h3, h4⟩ := ba h
  obtain ⟨p0, p1, p2, p3, p4, p5, p6, p7, p8, p9, p10, p11, p12, p13, eb, el⟩ := isRefT_ok h2
  have S := supB_ok e h1
  rw [eb] at S
  exact ⟨cda, cc, qual, _, _, fdOf K fR, p0, p1, p2, p3, p4, p5, p6, p7, p8, p9, p10, p11, p12, p13, S, of_decide_eq_true h3, of_decide_eq_true h4, el, fun s e u v X => kp_binds X fun S => hb S e u v⟩
theorem look_mem {α : Type} {x : Str} {a : α} : ∀ {l : List (Str × α)}, l.lookup x = some a → (x, a) ∈ l
  | [], h => by cases h
  | (b, u) :: r, h => by
    have h2 : (match x == b with | true => some u | false => r.lookup x) = some a := h
    cases q : (x == b) with
    | true =>
      rw [q] at h2
      have e : u = a := Option.some.inj h2
      rw [beq_iff_eq.mp q, e]
      exact List.mem_cons_self
    | false =>
      rw [q] at h2
      exact List.mem_cons_of_mem _ (look_mem h2)
end
end HF
end HDe
section HDk
set_option Elab.async false
set_option linter.all false
set_option maxRecDepth 100000
set_option maxHeartbeats 0
/-! HDk: the facts behind the top of this law (printed by genfact.py) -/
namespace HB
open PySem PySem.W PySem.Spec PyProof.Rows L2 MP HD HF
def keepO : Addr × Obj → Bool
  | (a, ⟨.none, _, _, _⟩) => a == 2
  | (_, ⟨_, _, .func _, _⟩) => true
  | (_, ⟨_, _, .cls _, _⟩) => true
  | (_, ⟨_, _, .cell _, _⟩) => true
  | (a, ⟨.type t, _, .fields _, _⟩) => t == "code"
  | (a, ⟨.type t, _, .seq _ _, _⟩) => a == 51
  | (a, ⟨.type t, _, .dict _ _, _⟩) => a == 2 || a == 3 || 42 < a
  | _ => false
@[irreducible] def Kf (P : Params) : Frag := partL keepO (hl P)
/-- a def: where it lies, its code object, its table; its statement, names, form -/
structure Dd where
  f : Addr
  c : Addr
  t : Addr
  st : Stmt
  qual : Str
  N : List Str
  ps : List Str
  ir : List Sm
  bnd : ∀ (kV doc pm : Value) (an : Option Addr) (cdv ct : Value) (us : List Value), us.length = ps.length → bindArgs (fnOf (dName st) qual (dArgs st) (dBody st) (dScope st) .none kV doc pm an cdv ct) ⟨us, []⟩ = pure (ps.zip us)
  tr : trSs (MP.tr 40) (kap N (dScope st)) (dBody st) = some ir
def Dd.dt (d : Dd) : Dt := ⟨⟨("", none), dName d.st, d.qual, dArgs d.st, dBody d.st, dScope d.st, [], []⟩, d.ps, d.N, d.ir⟩
def dd0 : Dd := ⟨1164, 1163, 1159, st0, "is_whole", N0, ["thing", "low", "high"], ir0, fun kV doc pm an cdv ct us hl => match us, hl with | [_, _, _], _ => rfl, tr0⟩
def dd1 : Dd := ⟨1171, 1170, 1166, st1, "asked_numbers", N1, ["scale", "numbers"], ir1, fun kV doc pm an cdv ct us hl => match us, hl with | [_, _], _ => rfl, tr1⟩
def dd2 : Dd := ⟨1178, 1177, 1173, st2, "asked_prices", N2, ["many", "thing"], ir2, fun kV doc pm an cdv ct us hl => match us, hl with | [_, _], _ => rfl, tr2⟩
def dd3 : Dd := ⟨1185, 1184, 1180, st3, "asked_alone", N3, ["thing"], ir3, fun kV doc pm an cdv ct us hl => match us, hl with | [_], _ => rfl, tr3⟩
def dd4 : Dd := ⟨1192, 1191, 1187, st4, "is_who", N4, ["thing"], ir4, fun kV doc pm an cdv ct us hl => match us, hl with | [_], _ => rfl, tr4⟩
def dd5 : Dd := ⟨1199, 1198, 1194, st5, "is_bill", N5, ["thing"], ir5, fun kV doc pm an cdv ct us hl => match us, hl with | [_], _ => rfl, tr5⟩
def dd6 : Dd := ⟨1204, 1203, 1201, st6, "made_bills", N6, ["thing"], ir6, fun kV doc pm an cdv ct us hl => match us, hl with | [_], _ => rfl, tr6⟩
def dd7 : Dd := ⟨1211, 1210, 1206, st7, "is_pair", N7, ["thing", "many"], ir7, fun kV doc pm an cdv ct us hl => match us, hl with | [_, _], _ => rfl, tr7⟩
def dd8 : Dd := ⟨1218, 1217, 1213, st8, "asked_pairs", N8, ["many", "course"], ir8, fun kV doc pm an cdv ct us hl => match us, hl with | [_, _], _ => rfl, tr8⟩
def dd9 : Dd := ⟨1223, 1222, 1220, st9, "bills_of", N9, ["prices", "course", "who_of"], ir9, fun kV doc pm an cdv ct us hl => match us, hl with | [_, _, _], _ => rfl, tr9⟩
def dd10 : Dd := ⟨1230, 1229, 1225, st10, "lowest", N10, ["top", "bottom"], ir10, fun kV doc pm an cdv ct us hl => match us, hl with | [_, _], _ => rfl, tr10⟩
def dd11 : Dd := ⟨1235, 1234, 1232, st11, "sum_of", N11, ["bills"], ir11, fun kV doc pm an cdv ct us hl => match us, hl with | [_], _ => rfl, tr11⟩
def dd12 : Dd := ⟨1240, 1239, 1237, st12, "month", N12, ["bills"], ir12, fun kV doc pm an cdv ct us hl => match us, hl with | [_], _ => rfl, tr12⟩
def dd13 : Dd := ⟨1247, 1246, 1242, st13, "asked_who", N13, ["who"], ir13, fun kV doc pm an cdv ct us hl => match us, hl with | [_], _ => rfl, tr13⟩
def dd14 : Dd := ⟨1330, 1329, 1325, st14, "_law_pool", N14, ["script", "k"], ir14, fun kV doc pm an cdv ct us hl => match us, hl with | [_, _], _ => rfl, tr14⟩
def dd15 : Dd := ⟨1337, 1336, 1332, st15, "_law_take", N15, ["jar", "top"], ir15, fun kV doc pm an cdv ct us hl => match us, hl with | [_, _], _ => rfl, tr15⟩
def dd16 : Dd := ⟨1344, 1343, 1339, st16, "_law_one", N16, ["jar", "things"], ir16, fun kV doc pm an cdv ct us hl => match us, hl with | [_, _], _ => rfl, tr16⟩
def dd17 : Dd := ⟨1351, 1350, 1346, st17, "_law_is_number", N17, ["thing", "low", "high"], ir17, fun kV doc pm an cdv ct us hl => match us, hl with | [_, _, _], _ => rfl, tr17⟩
def dd18 : Dd := ⟨1356, 1355, 1353, st18, "_law_wrong_prices", N18, ["many", "thing"], ir18, fun kV doc pm an cdv ct us hl => match us, hl with | [_, _], _ => rfl, tr18⟩
def dd19 : Dd := ⟨1363, 1362, 1358, st19, "_law_lowest", N19, ["top", "bottom"], ir19, fun kV doc pm an cdv ct us hl => match us, hl with | [_, _], _ => rfl, tr19⟩
def dd20 : Dd := ⟨1370, 1369, 1365, st20, "_law_added", N20, ["first", "second"], ir20, fun kV doc pm an cdv ct us hl => match us, hl with | [_, _], _ => rfl, tr20⟩
def dd21 : Dd := ⟨1377, 1376, 1372, st21, "_law_is_bill", N21, ["thing"], ir21, fun kV doc pm an cdv ct us hl => match us, hl with | [_], _ => rfl, tr21⟩
def dd22 : Dd := ⟨1382, 1381, 1379, st22, "_law_wrong_bills", N22, ["thing"], ir22, fun kV doc pm an cdv ct us hl => match us, hl with | [_], _ => rfl, tr22⟩
def dd23 : Dd := ⟨1387, 1386, 1384, st23, "_law_month_of", N23, ["some"], ir23, fun kV doc pm an cdv ct us hl => match us, hl with | [_], _ => rfl, tr23⟩
def dd24 : Dd := ⟨1392, 1391, 1389, st24, "_law_bills_owed", N24, ["posted", "pairs", "who_of"], ir24, fun kV doc pm an cdv ct us hl => match us, hl with | [_, _, _], _ => rfl, tr24⟩
def dd25 : Dd := ⟨1399, 1398, 1394, st25, "_law_book_did", N25, ["kept", "deed"], ir25, fun kV doc pm an cdv ct us hl => match us, hl with | [_, _], _ => rfl, tr25⟩
def dd26 : Dd := ⟨1406, 1405, 1401, st26, "_law_book_did_on", N26, ["store", "deed"], ir26, fun kV doc pm an cdv ct us hl => match us, hl with | [_, _], _ => rfl, tr26⟩
def dd27 : Dd := ⟨1413, 1412, 1408, st27, "_law_statement_of", N27, ["kept", "who"], ir27, fun kV doc pm an cdv ct us hl => match us, hl with | [_, _], _ => rfl, tr27⟩
def dd28 : Dd := ⟨1420, 1419, 1415, st28, "_law_sums_of", N28, ["kept", "some"], ir28, fun kV doc pm an cdv ct us hl => match us, hl with | [_, _], _ => rfl, tr28⟩
def dd29 : Dd := ⟨1427, 1426, 1422, st29, "_law_balance_of", N29, ["kept", "who"], ir29, fun kV doc pm an cdv ct us hl => match us, hl with | [_, _], _ => rfl, tr29⟩
def dd30 : Dd := ⟨1432, 1431, 1429, st30, "_law_book_told", N30, ["store", "kept", "some"], ir30, fun kV doc pm an cdv ct us hl => match us, hl with | [_, _, _], _ => rfl, tr30⟩
def dd31 : Dd := ⟨1439, 1438, 1434, st31, "_law_drawn_bill", N31, ["jar"], ir31, fun kV doc pm an cdv ct us hl => match us, hl with | [_], _ => rfl, tr31⟩
def dd32 : Dd := ⟨1446, 1445, 1441, st32, "_law_bent_bill", N32, ["jar", "bill"], ir32, fun kV doc pm an cdv ct us hl => match us, hl with | [_, _], _ => rfl, tr32⟩
def dd33 : Dd := ⟨1453, 1452, 1448, st33, "_law_drawn_book", N33, ["jar"], ir33, fun kV doc pm an cdv ct us hl => match us, hl with | [_], _ => rfl, tr33⟩
def dd34 : Dd := ⟨1460, 1459, 1455, st34, "_law_is_whole", N34, ["thing"], ir34, fun kV doc pm an cdv ct us hl => match us, hl with | [_], _ => rfl, tr34⟩
def dd35 : Dd := ⟨1467, 1466, 1462, st35, "_law_same", N35, ["told", "owed"], ir35, fun kV doc pm an cdv ct us hl => match us, hl with | [_, _], _ => rfl, tr35⟩
def dd40 : Dd := ⟨1498, 1497, 1495, st40, "_law_some_bills", N40, ["jar"], ir40, fun kV doc pm an cdv ct us hl => match us, hl with | [_], _ => rfl, tr40⟩
def dd41 : Dd := ⟨1505, 1504, 1500, st41, "_law_bills_right", N41, ["jar", "some"], ir41, fun kV doc pm an cdv ct us hl => match us, hl with | [_, _], _ => rfl, tr41⟩
def dd42 : Dd := ⟨1510, 1509, 1507, st42, "_law_some_day", N42, ["jar"], ir42, fun kV doc pm an cdv ct us hl => match us, hl with | [_], _ => rfl, tr42⟩
def dd43 : Dd := ⟨1517, 1516, 1512, st43, "_law_bent_days", N43, ["jar", "day"], ir43, fun kV doc pm an cdv ct us hl => match us, hl with | [_, _], _ => rfl, tr43⟩
def dd44 : Dd := ⟨1524, 1523, 1519, st44, "_law_days_right", N44, ["jar", "day"], ir44, fun kV doc pm an cdv ct us hl => match us, hl with | [_, _], _ => rfl, tr44⟩
def dd45 : Dd := ⟨1531, 1530, 1526, st45, "_law_deed_right", N45, ["store", "kept", "deed"], ir45, fun kV doc pm an cdv ct us hl => match us, hl with | [_, _, _], _ => rfl, tr45⟩
def dd46 : Dd := ⟨1538, 1537, 1533, st46, "_law_odd_asked", N46, ["jar", "store"], ir46, fun kV doc pm an cdv ct us hl => match us, hl with | [_, _], _ => rfl, tr46⟩
def dd47 : Dd := ⟨1545, 1544, 1540, st47, "_law_accounts_right", N47, ["jar"], ir47, fun kV doc pm an cdv ct us hl => match us, hl with | [_], _ => rfl, tr47⟩
def dd48 : Dd := ⟨1552, 1551, 1547, st48, "law", N48, ["script"], ir48, fun kV doc pm an cdv ct us hl => match us, hl with | [_], _ => rfl, tr48⟩
def dd49 : Dd := ⟨1261, 1260, 1256, st49, "Accounts.__init__", N49, ["self"], ir49, fun kV doc pm an cdv ct us hl => match us, hl with | [_], _ => rfl, tr49⟩
def dd50 : Dd := ⟨1266, 1265, 1263, st50, "Accounts._bills", N50, ["self", "rows"], ir50, fun kV doc pm an cdv ct us hl => match us, hl with | [_, _], _ => rfl, tr50⟩
def dd51 : Dd := ⟨1271, 1270, 1268, st51, "Accounts._paid", N51, ["self", "rows"], ir51, fun kV doc pm an cdv ct us hl => match us, hl with | [_, _], _ => rfl, tr51⟩
def dd52 : Dd := ⟨1276, 1275, 1273, st52, "Accounts._own", N52, ["self", "who"], ir52, fun kV doc pm an cdv ct us hl => match us, hl with | [_, _], _ => rfl, tr52⟩
def dd53 : Dd := ⟨1283, 1282, 1278, st53, "Accounts.book", N53, ["self", "bill"], ir53, fun kV doc pm an cdv ct us hl => match us, hl with | [_, _], _ => rfl, tr53⟩
def dd54 : Dd := ⟨1290, 1289, 1285, st54, "Accounts.pay", N54, ["self", "who", "amount"], ir54, fun kV doc pm an cdv ct us hl => match us, hl with | [_, _, _], _ => rfl, tr54⟩
def dd55 : Dd := ⟨1297, 1296, 1292, st55, "Accounts.undo", N55, ["self"], ir55, fun kV doc pm an cdv ct us hl => match us, hl with | [_], _ => rfl, tr55⟩
def dd56 : Dd := ⟨1304, 1303, 1299, st56, "Accounts.balance", N56, ["self", "who"], ir56, fun kV doc pm an cdv ct us hl => match us, hl with | [_, _], _ => rfl, tr56⟩
def dd57 : Dd := ⟨1309, 1308, 1306, st57, "Accounts.statement", N57, ["self", "who"], ir57, fun kV doc pm an cdv ct us hl => match us, hl with | [_, _], _ => rfl, tr57⟩
def dd58 : Dd := ⟨1316, 1315, 1311, st58, "Accounts.total", N58, ["self"], ir58, fun kV doc pm an cdv ct us hl => match us, hl with | [_], _ => rfl, tr58⟩
def ddl : List (Option Dd) := [some dd0, some dd1, some dd2, some dd3, some dd4, some dd5, some dd6, some dd7, some dd8, some dd9, some dd10, some dd11, some dd12, some dd13, some dd14, some dd15, some dd16, some dd17, some dd18, some dd19, some dd20, some dd21, some dd22, some dd23, some dd24, some dd25, some dd26, some dd27, some dd28, some dd29, some dd30, some dd31, some dd32, some dd33, some dd34, some dd35, none, none, none, none, some dd40, some dd41, some dd42, some dd43, some dd44, some dd45, some dd46, some dd47, some dd48, some dd49, some dd50, some dd51, some dd52, some dd53, some dd54, some dd55, some dd56, some dd57, some dd58]
def s_classes : Addr × Addr × Addr × Stmt := (1474, 1473, 1469, top 103)
def s_heard : Addr × Addr × Addr × Stmt := (1479, 1478, 1476, top 104)
def s_tells : Addr × Addr × Addr × Stmt := (1486, 1485, 1481, top 105)
def s_refuses : Addr × Addr × Addr × Stmt := (1493, 1492, 1488, top 106)
structure Ec where
  C : Addr
  f : Addr
  cda : Addr
  cc : Addr
  x : Str
  qual : Str
  st : Stmt
  cl : Stmt
def exl0 : List Ec := [⟨84, 81, 80, 69, "BadRow", "BadRow.__init__", mem (top 2) 0, top 2⟩,
    ⟨105, 102, 101, 90, "BadTaker", "BadTaker.__init__", mem (top 3) 0, top 3⟩,
    ⟨126, 123, 122, 111, "BadThing", "BadThing.__init__", mem (top 4) 0, top 4⟩,
    ⟨147, 144, 143, 132, "BadKind", "BadKind.__init__", mem (top 5) 0, top 5⟩,
    ⟨168, 165, 164, 153, "BadLot", "BadLot.__init__", mem (top 6) 0, top 6⟩,
    ⟨189, 186, 185, 174, "BadMany", "BadMany.__init__", mem (top 7) 0, top 7⟩,
    ⟨210, 207, 206, 195, "BadHall", "BadHall.__init__", mem (top 8) 0, top 8⟩,
    ⟨231, 228, 227, 216, "Unplaced", "Unplaced.__init__", mem (top 9) 0, top 9⟩,
    ⟨252, 249, 248, 237, "BadWorth", "BadWorth.__init__", mem (top 10) 0, top 10⟩]
def exl1 : List Ec := [⟨273, 270, 269, 258, "BadEntries", "BadEntries.__init__", mem (top 11) 0, top 11⟩,
    ⟨294, 291, 290, 279, "BadOrder", "BadOrder.__init__", mem (top 12) 0, top 12⟩,
    ⟨315, 312, 311, 300, "NotIn", "NotIn.__init__", mem (top 13) 0, top 13⟩,
    ⟨336, 333, 332, 321, "HasCore", "HasCore.__init__", mem (top 14) 0, top 14⟩,
    ⟨357, 354, 353, 342, "BadIndex", "BadIndex.__init__", mem (top 15) 0, top 15⟩,
    ⟨378, 375, 374, 363, "NotGood", "NotGood.__init__", mem (top 16) 0, top 16⟩,
    ⟨399, 396, 395, 384, "BadPrices", "BadPrices.__init__", mem (top 17) 0, top 17⟩,
    ⟨420, 417, 416, 405, "BadCourse", "BadCourse.__init__", mem (top 18) 0, top 18⟩,
    ⟨441, 438, 437, 426, "Served", "Served.__init__", mem (top 19) 0, top 19⟩]
def exl2 : List Ec := [⟨462, 459, 458, 447, "Sold", "Sold.__init__", mem (top 20) 0, top 20⟩,
    ⟨483, 480, 479, 468, "NotBest", "NotBest.__init__", mem (top 21) 0, top 21⟩,
    ⟨504, 501, 500, 489, "NothingToUndo", "NothingToUndo.__init__", mem (top 22) 0, top 22⟩,
    ⟨525, 522, 521, 510, "NoCore", "NoCore.__init__", mem (top 23) 0, top 23⟩,
    ⟨546, 543, 542, 531, "BadShop", "BadShop.__init__", mem (top 24) 0, top 24⟩,
    ⟨567, 564, 563, 552, "BadMusts", "BadMusts.__init__", mem (top 25) 0, top 25⟩,
    ⟨588, 585, 584, 573, "Unsold", "Unsold.__init__", mem (top 26) 0, top 26⟩,
    ⟨609, 606, 605, 594, "NoBar", "NoBar.__init__", mem (top 27) 0, top 27⟩,
    ⟨630, 627, 626, 615, "BadKinds", "BadKinds.__init__", mem (top 28) 0, top 28⟩]
def exl3 : List Ec := [⟨651, 648, 647, 636, "BadWants", "BadWants.__init__", mem (top 29) 0, top 29⟩,
    ⟨672, 669, 668, 657, "NotFull", "NotFull.__init__", mem (top 30) 0, top 30⟩,
    ⟨693, 690, 689, 678, "BadTakers", "BadTakers.__init__", mem (top 31) 0, top 31⟩,
    ⟨714, 711, 710, 699, "Here", "Here.__init__", mem (top 32) 0, top 32⟩,
    ⟨735, 732, 731, 720, "Nested", "Nested.__init__", mem (top 33) 0, top 33⟩,
    ⟨756, 753, 752, 741, "BadAssignment", "BadAssignment.__init__", mem (top 34) 0, top 34⟩,
    ⟨777, 774, 773, 762, "BadGiven", "BadGiven.__init__", mem (top 35) 0, top 35⟩,
    ⟨798, 795, 794, 783, "BadCounter", "BadCounter.__init__", mem (top 36) 0, top 36⟩,
    ⟨819, 816, 815, 804, "NoLook", "NoLook.__init__", mem (top 37) 0, top 37⟩]
def exl4 : List Ec := [⟨840, 837, 836, 825, "NotSeen", "NotSeen.__init__", mem (top 38) 0, top 38⟩,
    ⟨861, 858, 857, 846, "BadEdit", "BadEdit.__init__", mem (top 39) 0, top 39⟩,
    ⟨882, 879, 878, 867, "BadGuard", "BadGuard.__init__", mem (top 40) 0, top 40⟩,
    ⟨903, 900, 899, 888, "Posted", "Posted.__init__", mem (top 41) 0, top 41⟩,
    ⟨924, 921, 920, 909, "NotPosted", "NotPosted.__init__", mem (top 42) 0, top 42⟩,
    ⟨945, 942, 941, 930, "BadNumber", "BadNumber.__init__", mem (top 43) 0, top 43⟩,
    ⟨966, 963, 962, 951, "BadBills", "BadBills.__init__", mem (top 44) 0, top 44⟩,
    ⟨987, 984, 983, 972, "BadWho", "BadWho.__init__", mem (top 45) 0, top 45⟩,
    ⟨1008, 1005, 1004, 993, "BadAmount", "BadAmount.__init__", mem (top 46) 0, top 46⟩]
def exl5 : List Ec := [⟨1029, 1026, 1025, 1014, "NothingToRedo", "NothingToRedo.__init__", mem (top 47) 0, top 47⟩,
    ⟨1050, 1047, 1046, 1035, "BadText", "BadText.__init__", mem (top 48) 0, top 48⟩,
    ⟨1071, 1068, 1067, 1056, "WrongLine", "WrongLine.__init__", mem (top 49) 0, top 49⟩,
    ⟨1092, 1089, 1088, 1077, "BadNames", "BadNames.__init__", mem (top 50) 0, top 50⟩,
    ⟨1113, 1110, 1109, 1098, "BadPaper", "BadPaper.__init__", mem (top 51) 0, top 51⟩,
    ⟨1134, 1131, 1130, 1119, "Same", "Same.__init__", mem (top 52) 0, top 52⟩,
    ⟨1155, 1152, 1151, 1140, "TooMany", "TooMany.__init__", mem (top 53) 0, top 53⟩]
def exl : List Ec := exl0 ++ exl1 ++ exl2 ++ exl3 ++ exl4 ++ exl5
def rfC : Addr := 62
def rfF : Addr := 59
def rfCda : Addr := 58
def rfCc : Addr := 46
def rfSt : Stmt := mem (top 1) 0
def clA : List Addr := [1319]
end HB
end HDk
section HDm
set_option Elab.async false
set_option linter.all false
set_option maxRecDepth 100000
set_option maxHeartbeats 0
namespace HB
open PySem PySem.W PySem.Spec PyProof.Rows L2 MP HD HF
theorem fW (P : Params) : (ddl.map fun d => d.map fun d => fnW (Kf P) d.f) = ddl.map fun d => d.map fun d => (some (dName d.st, d.qual, dArgs d.st, .stmts (dBody d.st), dScope d.st, mainGlobals, [], builtinsNs) : FnW) := by kernel_rfl
theorem fB (P : Params) : (ddl.all fun d => match d with
    | some d => defB (Kf P) d.f d.c d.t d.qual && scB d.N d.ps (dScope d.st)
    | none => true) = true := by kernel_rfl
end HB
end HDm
section HDm2
set_option Elab.async false
set_option linter.all false
set_option maxRecDepth 100000
set_option maxHeartbeats 0
namespace HB
open PySem PySem.W PySem.Spec PyProof.Rows L2 MP HD HF
def okG (K : Frag) (x : Str) : Gk → Bool
  | .fn i => (match ddl[i]? with
    | some (some d) => gloB K x (some (.ref d.f))
    | _ => false)
  | .cls c => (match clA[c]? with
    | some a => gloB K x (some (.ref a))
    | none => false)
  | .cst (.int n) => (match nsIn K mainGlobals x with
    | some (some (.int j _)) => decide (j = n)
    | _ => false)
  | .imp b => (match impId b with
    | some id => gloB K x (some (.builtin id))
    | none => false)
  | .blt => gloB K x none
  | .exc c => (match exl[c]? with
    | some e => gloB K x (some (.ref e.C))
    | none => false)
  | .cst _ => false
  | _ => true
theorem gB (P : Params) : (gl.all fun q => okG (Kf P) q.1 q.2) = true := by kernel_rfl
def spl : List (Addr × Addr × Addr × Stmt) := [s_classes, s_heard, s_tells, s_refuses]
theorem sW (P : Params) : (spl.map fun d => fnW (Kf P) d.1) = spl.map fun d => (some (dName d.2.2.2, dName d.2.2.2, dArgs d.2.2.2, .stmts (dBody d.2.2.2), dScope d.2.2.2, mainGlobals, [], builtinsNs) : FnW) := by kernel_rfl
theorem sB (P : Params) : (spl.all fun d => defB (Kf P) d.1 d.2.1 d.2.2.1 (dName d.2.2.2) && gloB (Kf P) (dName d.2.2.2) (some (.ref d.1))) = true := by kernel_rfl
theorem rB (P : Params) : (gloB (Kf P) "Refused" (some (.ref rfC)) && gloB (Kf P) "super" none && gloB (Kf P) "isinstance" none) = true := by kernel_rfl
end HB
end HDm2
section HDm3
set_option Elab.async false
set_option linter.all false
set_option maxRecDepth 100000
set_option maxHeartbeats 0
namespace HB
open PySem PySem.W PySem.Spec PyProof.Rows L2 MP HD HF
theorem eW (P : Params) : (exl.map fun e => fnW (Kf P) e.f) = exl.map fun e => (some (("__init__" : Str), e.qual, dArgs e.st, FuncBody.stmts (dBody e.st), dScope e.st, mainGlobals, [(("__class__" : Str), e.cc)], builtinsNs) : FnW) := by kernel_rfl
def mroB (K : Frag) (e : Ec) : Bool := match clsIn K e.C with
  | some cd => !cd.mro.isEmpty && (cd.mro.contains (.ref e.C) && exl.all fun z => cd.mro.contains (.ref z.C) == decide (z.x = e.x))
  | none => false
theorem eB (P : Params) : (exl.all fun e => badB (Kf P) p rfC rfF e.C e.f e.cda e.cc e.x e.qual e.st) = true := by kernel_rfl
theorem eH (P : Params) : (exl.all fun e => heardB (Kf P) e.C rfC e.x && (gloB (Kf P) e.x (some (.ref e.C)) && plainC (Kf P) e.C)) = true := by kernel_rfl
theorem eM (P : Params) : (exl.all fun e => mroB (Kf P) e) = true := by kernel_rfl
end HB
end HDm3
section HDm4
set_option Elab.async false
set_option linter.all false
set_option maxRecDepth 100000
set_option maxHeartbeats 0
namespace HB
open PySem PySem.W PySem.Spec PyProof.Rows L2 MP HD HF
def faOf (i : Nat) : Addr := match ddl[i]? with
  | some (some d) => d.f
  | _ => 0
def iniI : Nat := 49
theorem cB (P : Params) : (clA.all fun a => clsB (Kf P) a && (mkB (Kf P) a (faOf iniI) && (flds.all (fun f => noB (Kf P) a f) && mths.all fun q => methB (Kf P) a (faOf q.2) q.1))) = true := by kernel_rfl
theorem rW (P : Params) : fnW (Kf P) rfF = (some (("__init__" : Str), ("Refused.__init__" : Str), dArgs rfSt, FuncBody.stmts (dBody rfSt), dScope rfSt, mainGlobals, [(("__class__" : Str), rfCc)], builtinsNs) : FnW) := by kernel_rfl
theorem rfB (P : Params) : refB (Kf P) p rfC rfF rfCda rfCc "Refused.__init__" rfSt = true := by kernel_rfl
theorem rBd (P : Params) (S : Setting) (e : Addr) (u v : Value) : peek (Kf P) S (bindArgs (fdOf (Kf P) rfF) ⟨[.ref e, u, v], []⟩) = some (bindsRef e u v) := by kernel_rfl
theorem dN : (ddl.filterMap fun d => d.map fun d => d.t).Nodup := by decide +kernel
theorem gN : (gl.all fun q => match q.2 with
    | .heard => decide (q.1 = "_law_heard")
    | .tells f => decide (q.1 = "_law_tells") && f == 35
    | .refuses f => decide (q.1 = "_law_refuses") && f == 35
    | .cls c => c == 0
    | _ => true) = true := by kernel_rfl
theorem tabsB (P : Params) : (ddl.all fun d => match d with
    | some d => (match (hl P)[d.t]? with
      | some o => He.emptyTab o
      | none => false)
    | none => true) = true := by kernel_rfl
end HB
end HDm4
section HDz
set_option Elab.async false
set_option linter.all false
set_option maxRecDepth 100000
set_option maxHeartbeats 400000
/-! HDz: from the facts to the interpreter. -/
namespace HB
open PySem PySem.Spec PyProof.Rows L2 MP HD HF
/-! ### the interpreter's program -/
def dAt (i : Nat) : Option Dd := match ddl[i]? with
  | some (some d) => some d
  | _ => none
@[irreducible] def wfN : Nat := 2 ^ 1000000
def cfOf (ns : List Int) : Cf where
  P := fun i => (dAt i).map fun d => ⟨d.ps.length, d.N.length, d.ir⟩
  mt := fun c m => if c = 0 then mths.lookup m else none
  ini := fun c => if c = 0 then some iniI else none
  sns := ns
  wf := wfN
  wd := fun c => match exl[c]? with
    | some e => e.x
    | none => ""
  told := "told"
def tabs : List (Addr × Str) := ddl.filterMap fun d => d.map fun d => (d.t, d.qual ++ ".<locals>." ++ "<lambda>")
def envOf (a : Addr) (ns : List Int) : Env1 := ⟨clA, exl.map fun e => (e.C, e.x), a, ns, tabs⟩
def dsOf (i : Nat) : Option Dt := (dAt i).map Dd.dt
def fdtOf (K : PySem.W.Frag) (i : Nat) : FuncData := fdOf K (faOf i)
theorem dAt_mem {i : Nat} {d : Dd} (h : dAt i = some d) : ddl[i]? = some (some d) := by
  unfold dAt at h
  split at h
  · rename_i q
    cases h
    exact q
  · cases h
theorem faOf_eq {i : Nat} {d : Dd} (h : dAt i = some d) : faOf i = d.f := by
  unfold faOf
  rw [dAt_mem h]
section
variable {w : World} {mg : Str → Option Value} {base : Heap}
abbrev KK (w : World) : PySem.W.Frag := Kf w.params
theorem def_ok {i : Nat} {d : Dd} (h : dAt i = some d) : FunD (KK w) (dName d.st) d.qual (dArgs d.st) (dBody d.st) (dScope d.st) [] [] d.f (fdOf (KK w) d.f) ∧ (fdOf (KK w) d.f).code = .ref d.c ∧ PySem.W.codeHdIn (KK w) d.c d.t = true ∧ (KK w).lookup d.t = none ∧ FnScope d.N d.ps (dScope d.st) := by
  have m := dAt_mem h
  have e := congrArg (fun l => l[i]?) (fW w.params)
  simp only [List.getElem?_map, m, Option.map_some, Option.some.injEq] at e
  have b := List.all_eq_true.mp (fB w.params) _ (List.mem_of_getElem? m)
  obtain ⟨b1, b2⟩ := ba (show (defB (KK w) d.f d.c d.t d.qual && scB d.N d.ps (dScope d.st)) = true from b)
  obtain ⟨r1, r2, r3, r4⟩ := defB_ok e b1
  exact ⟨r1, r2, r3, r4, scB_ok b2⟩
theorem dt_eq {i : Nat} {t : Dt} (h : dsOf i = some t) : ∃ d, dAt i = some d ∧ t = d.dt := by
  unfold dsOf at h
  obtain ⟨d, h1, h2⟩ := Option.map_eq_some_iff.mp h
  exact ⟨d, h1, h2.symm⟩
theorem binds_dd {d : Dd} {f : Addr} {fd : FuncData} (F : FunD (KK w) (dName d.st) d.qual (dArgs d.st) (dBody d.st) (dScope d.st) [] [] f fd) : Binds (KK w) fd d.ps [] := F.bindsN d.bnd
theorem glo {x : Str} {g : Gk} (X : (KK w).In base) (G : base.Ns mainGlobals mg) (h : gl.lookup x = some g) : okG (KK w) x g = true := List.all_eq_true.mp (gB w.params) _ (look_mem h)
theorem wld {a : Addr} {ns : List Int} (X : (KK w).In base) (G : base.Ns mainGlobals mg) : WldOk (KK w) mg (envOf a ns) (cfOf ns) gl dicts flds mths dsOf faOf (fdtOf (KK w)) where
  defs := fun i t h => by
    obtain ⟨d, hd, rfl⟩ := dt_eq h
    obtain ⟨F, hc, _, _, S⟩ := def_ok (w := w) hd
    have e := faOf_eq hd
    refine ⟨?_, S, d.tr, ?_, ?_⟩
    · show FunD _ _ _ _ _ _ _ _ (faOf i) (fdOf (KK w) (faOf i))
      rw [e]
      exact F
    · show Binds _ (fdOf (KK w) (faOf i)) _ _
      rw [e]
      exact binds_dd F
    · show (dAt i).map _ = _
      rw [hd]
      rfl
  gl := fun x g h => by
    have o := glo X G h
    cases g with
    | fn i =>
      have o : (match ddl[i]? with
        | some (some d) => gloB (KK w) x (some (.ref d.f))
        | _ => false) = true := o
      cases q : ddl[i]? with
      | none => rw [q] at o; cases o
      | some z =>
        rw [q] at o
        cases z with
        | none => cases o
        | some d =>
          have hd : dAt i = some d := by unfold dAt; rw [q]
          refine ⟨d.dt, by show (dAt i).map _ = _; rw [hd]; rfl, ?_⟩
          rw [faOf_eq hd]
          exact gloB_ok X G o
    | cls c =>
      have n := List.all_eq_true.mp gN _ (look_mem h)
      have n : c = 0 := by simpa using n
      subst n
      obtain ⟨b1, b⟩ := ba (List.all_eq_true.mp (cB w.params) _ (List.mem_of_getElem? (show clA[0]? = some _ from rfl)))
      obtain ⟨b2, _⟩ := ba b
      exact ⟨iniI, _, _, rfl, rfl, mkB_ok b2, rfl, gloB_ok X G o⟩
    | exc c => trivial
    | cst d =>
      cases d with
      | int n =>
        have o : (match PySem.W.nsIn (KK w) mainGlobals x with
          | some (some (.int j _)) => decide (j = n)
          | _ => false) = true := o
        split at o
        · rename_i j t q
          have ej := of_decide_eq_true o
          subst ej
          exact ⟨.int j, _, PySem.W.mg_of X G q, ⟨t, rfl⟩, fun _ _ => .int j⟩
        · cases o
      | _ => cases o
    | imp b =>
      have o : (match impId b with
        | some id => gloB (KK w) x (some (.builtin id))
        | none => false) = true := o
      cases q : impId b with
      | none => rw [q] at o; cases o
      | some id => rw [q] at o; exact ⟨id, q, gloB_ok X G o⟩
    | blt => exact gloB_ok X G (show gloB (KK w) x none = true from o)
    | heard => trivial
    | tells f => trivial
    | refuses f => trivial
  cls := by
    refine ⟨fun c a h => ?_, fun c a f h hf => ?_⟩
    · obtain ⟨b1, _⟩ := ba (List.all_eq_true.mp (cB w.params) _ (List.mem_of_getElem? h))
      exact clsB_ok b1
    · obtain ⟨_, b⟩ := ba (List.all_eq_true.mp (cB w.params) _ (List.mem_of_getElem? h))
      obtain ⟨_, b⟩ := ba b
      obtain ⟨b, _⟩ := ba b
      exact noB_ok (List.all_eq_true.mp b f hf)
  mth := fun m k h => by
    obtain ⟨_, b⟩ := ba (List.all_eq_true.mp (cB w.params) _ (List.mem_of_getElem? (show clA[0]? = some _ from rfl)))
    obtain ⟨_, b⟩ := ba b
    obtain ⟨_, b⟩ := ba b
    have q := List.all_eq_true.mp b _ (look_mem h)
    have hk : (dAt k).isSome = true := List.all_eq_true.mp (show (mths.all fun q => (dAt q.2).isSome) = true by decide +kernel) _ (look_mem h)
    obtain ⟨d, hd⟩ := Option.isSome_iff_exists.mp hk
    refine ⟨k, d.dt, 0, _, rfl, methB_ok q, fun c' i' hc => ?_, by show (dAt k).map _ = _; rw [hd]; rfl⟩
    have hc : (if c' = 0 then mths.lookup m else none) = some i' := hc
    split at hc
    · rename_i z
      rw [h] at hc
      exact ⟨z, (Option.some.inj hc).symm⟩
    · cases hc
  hs := rfl
end
end HB
end HDz
section HDy
set_option Elab.async false
set_option linter.all false
set_option maxRecDepth 100000
set_option maxHeartbeats 1000000
/-! HDy: the defs that hear. -/
namespace HB
open PySem PySem.Spec PyProof.Rows L2 MP HD HF
section
variable {w : World} {mg : Str → Option Value} {base : Heap}
theorem sp_ok {i : Nat} {d : Addr × Addr × Addr × Stmt} (h : spl[i]? = some d) : FunD (KK w) (dName d.2.2.2) (dName d.2.2.2) (dArgs d.2.2.2) (dBody d.2.2.2) (dScope d.2.2.2) [] [] d.1 (fdOf (KK w) d.1) ∧ gloB (KK w) (dName d.2.2.2) (some (.ref d.1)) = true := by
  have e := congrArg (fun l => l[i]?) (sW w.params)
  simp only [List.getElem?_map, h, Option.map_some, Option.some.injEq] at e
  obtain ⟨b1, b2⟩ := ba (List.all_eq_true.mp (sB w.params) _ (List.mem_of_getElem? h))
  exact ⟨(defB_ok e b1).1, b2⟩
def lsX : List (Str × Str) := exl.map fun e => (e.x, e.x)
theorem ex_at {c : Nat} {e : Ec} (h : exl[c]? = some e) : BadOk (KK w) p rfC rfF e.C e.f e.x := by
  have m := List.mem_of_getElem? h
  have q := congrArg (fun l => l[c]?) (eW w.params)
  simp only [List.getElem?_map, h, Option.map_some, Option.some.injEq] at q
  exact badB_ok q (refB_ok (rW w.params) (rfB w.params) (rBd w.params)) (List.all_eq_true.mp (eB w.params) _ m)
theorem lsX_one : (exl.all fun e => decide (((lsX.map fun q => (q.1, decide (q.2 = e.x))).filter (·.2)).map (·.1) = [e.x])) = true := by decide +kernel
theorem excs_ok {a : Addr} {ns : List Int} (X : (KK w).In base) (G : base.Ns mainGlobals mg) : ExcsOk (KK w) mg (envOf a ns) (cfOf ns) lsX rfC := fun c CA x h => by
  have h : (exl.map fun e => (e.C, e.x))[c]? = some (CA, x) := h
  rw [List.getElem?_map, Option.map_eq_some_iff] at h
  obtain ⟨e, he, h2⟩ := h
  obtain ⟨rfl, rfl⟩ := Prod.mk.inj h2
  have m := List.mem_of_getElem? he
  obtain ⟨b1, b2⟩ := ba (List.all_eq_true.mp (eH w.params) _ m)
  obtain ⟨b3, b4⟩ := ba b1
  obtain ⟨b5, b6⟩ := ba b4
  obtain ⟨b7, b8⟩ := ba b6
  have M := List.all_eq_true.mp (eM w.params) _ m
  have B := ex_at (w := w) he
  have one := of_decide_eq_true (List.all_eq_true.mp lsX_one _ m)
  refine ⟨⟨isxB_ok b3, xfB_ok b5, (isxB_ok b3).wh, ⟨fun n => decide (n = e.x), fun q hq => ?_, one⟩, of_decide_eq_true b7⟩, ?_, of_decide_eq_true b8⟩
  · obtain ⟨z, hz, rfl⟩ := List.mem_map.mp hq
    obtain ⟨c1, c2⟩ := ba (ba (List.all_eq_true.mp (eH w.params) _ hz)).2
    refine ⟨z.C, gloB_ok X G c1, ?_⟩
    unfold mroB at M
    split at M
    · rename_i cd hcd
      obtain ⟨m1, m2⟩ := ba M
      obtain ⟨m3, m4⟩ := ba m2
      rw [kit_of hcd (by simpa using m1) c2 m3]
      have z2 := List.all_eq_true.mp m4 _ hz
      exact congrArg some (beq_iff_eq.mp z2)
    · cases M
  · show (match exl[c]? with
      | some e => e.x
      | none => "") = e.x
    rw [he]
theorem heardFn {a : Addr} {ns : List Int} (X : (KK w).In base) (G : base.Ns mainGlobals mg) : HeardFn p w (KK w) mg base (envOf a ns) (cfOf ns) s_heard.1 := by
  obtain ⟨G1, _⟩ := sp_ok (w := w) (i := 1) (d := s_heard) rfl
  obtain ⟨F1, gF⟩ := sp_ok (w := w) (i := 0) (d := s_classes) rfl
  obtain ⟨r1, r3⟩ := ba (rB w.params)
  obtain ⟨r1, r2⟩ := ba r1
  refine heard_fn (k := 0) (xh := "_law_heard") (qh := "_law_heard") (ah := "deed") (cr := "Refused") (y := "refused_one") (xc := "_law_classes") (v := "refused_one") (lx := "line") (qual := "_law_classes") (Nh := ["deed", "refused_one", "line"]) (N := ["refused_one"]) (ls := lsX)
    (sh := dScope s_heard.2.2.2) (scope := dScope s_classes.2.2.2) (hpar := dArgs s_heard.2.2.2) (cpar := dArgs s_classes.2.2.2) G1 (scB_ok (by kernel_rfl)) (G1.bindsN fun kV doc pm an cdv ct us hl => match us, hl with | [_], _ => rfl) rfl rfl rfl (.inl (by kernel_rfl)) (by kernel_rfl)
    ⟨by decide +kernel, by decide +kernel⟩ ⟨by decide +kernel, by decide +kernel⟩ ⟨by decide +kernel, by decide +kernel⟩ ⟨by decide +kernel, by decide +kernel⟩ (by kernel_rfl) (gloB_ok X G r1) (by decide +kernel) (by kernel_rfl) (gloB_ok X G gF) (by decide +kernel)
    F1 (scB_ok (by kernel_rfl)) (F1.bindsN fun kV doc pm an cdv ct us hl => match us, hl with | [_], _ => rfl) rfl (.inl (by kernel_rfl)) (by kernel_rfl) (by decide +kernel) ?gls (gloB_ok X G r3) ?blk (by kernel_rfl) (by kernel_rfl) (excs_ok X G)
  case gls =>
    intro n hn
    have q : (("isinstance" : Str) :: lsX.map (·.2)).all (fun n => looksP (dScope s_classes.2.2.2) n .globalImplicit) = true := by kernel_rfl
    refine of_decide_eq_true (List.all_eq_true.mp q n ?_)
    rcases hn with rfl | h
    · exact List.mem_cons_self
    · exact List.mem_cons_of_mem _ h
  case blk => exact blkOk_by (by kernel_rfl)
end
end HB
end HDy
section HDx
set_option Elab.async false
set_option linter.all false
set_option maxRecDepth 100000
set_option maxHeartbeats 1000000
/-! HDx: judges; all defs; the law. -/
namespace HB
open PySem PySem.Spec PyProof.Rows L2 MP HD HF
section
variable {w : World} {mg : Str → Option Value} {base : Heap}
theorem two_le : 2 ≤ sizeLine := by rw [sizeLine_eq]; show 2 ≤ 16777216; decide
theorem tells_tup {sh : Scope} {k j : Nat} {q1 q2 q3 : Pos} (hv : Vis sh "owed") (Z : Cx) (f : Addr) (vs : List V) (hl : vs.length = 1) (hN : Z.N = (["deed", "owed"] : List Str)) (hs : Z.env.scope = sh) :
    PE Z (.Tuple [.Constant (.str "told") j q1, .Name "owed" q2] k q3) (fun σ H Q => σ = L2.start ["deed", "owed"] (.ref f :: vs) ∧ ∀ p, H p = none → Q (.ref p) (upd H p (.tup (tpT vs)))) := by
  match vs, hl with
  | [v], _ =>
    refine (pe_tup (pa_cons pe_str (pa_cons (pe_var (X := Z) (x := "owed") (i := 1) (by rw [hN]; rfl) (by rw [hs]; exact hv) (by decide +kernel) (by decide +kernel)) pa_nil))).imp fun σ H Q ⟨e, hQ⟩ => ?_
    subst e
    exact ⟨v, rfl, two_le, hQ⟩
theorem refuses_tup {sh : Scope} {k : Nat} {q1 q2 q3 : Pos} (hv : Vis sh "name") (hv2 : Vis sh "what") (Z : Cx) (f : Addr) (vs : List V) (hl : vs.length = 2) (hN : Z.N = (["deed", "name", "what"] : List Str)) (hs : Z.env.scope = sh) :
    PE Z (.Tuple [.Name "name" q1, .Name "what" q2] k q3) (fun σ H Q => σ = L2.start ["deed", "name", "what"] (.ref f :: vs) ∧ ∀ p, H p = none → Q (.ref p) (upd H p (.tup (tpR vs)))) := by
  match vs, hl with
  | [v, u], _ =>
    refine (pe_tup (pa_cons (pe_var (X := Z) (x := "name") (i := 1) (by rw [hN]; rfl) (by rw [hs]; exact hv) (by decide +kernel) (by decide +kernel)) (pa_cons (pe_var (X := Z) (x := "what") (i := 2) (by rw [hN]; rfl) (by rw [hs]; exact hv2) (by decide +kernel) (by decide +kernel)) pa_nil))).imp fun σ H Q ⟨e, hQ⟩ => ?_
    subst e
    exact ⟨v, rfl, u, rfl, two_le, hQ⟩
def sameI : Nat := 35
theorem same_at : dAt sameI = some dd35 := by kernel_rfl
section
variable {a : Addr} {ns : List Int} {cf : Nat → List D → Sto → Rs D} {lv : Nat}
theorem judgeT (X : (KK w).In base) (G : base.Ns mainGlobals mg) (hs : FnOk p w (KK w) mg base (L2N.CX p w) lv (faOf sameI) (fdtOf (KK w) sameI) dd35.ps (spD (KK w) (envOf a ns) cf sameI)) : JudgeFn p w (KK w) mg base (envOf a ns) (cfOf ns) cf lv sameI tpT 1 s_tells.1 := by
  obtain ⟨G1, _⟩ := sp_ok (w := w) (i := 2) (d := s_tells) rfl
  obtain ⟨H1, gH⟩ := sp_ok (w := w) (i := 1) (d := s_heard) rfl
  obtain ⟨F, _, _, _, _⟩ := def_ok (w := w) same_at
  have e : fdtOf (KK w) sameI = fdOf (KK w) dd35.f := by unfold fdtOf; rw [faOf_eq same_at]
  have ef := faOf_eq same_at
  rw [ef] at hs
  have gS := glo X G (x := "_law_same") (g := .fn sameI) (by kernel_rfl)
  have gS : gloB (KK w) "_law_same" (some (.ref dd35.f)) = true := gS
  refine judge_fn (x := "_law_tells") (qual := "_law_tells") (ah := "deed") (xh := "_law_heard") (xs := "_law_same") (sh := dScope s_tells.2.2.2) (par := dArgs s_tells.2.2.2) (Nt := ["deed", "owed"]) (ps := ["owed"]) G1 (scB_ok (by kernel_rfl)) (G1.bindsN fun kV doc pm an cdv ct us hl => match us, hl with | [_, _], _ => rfl) rfl rfl (.inl (by kernel_rfl)) ⟨by decide +kernel, by decide +kernel⟩
    (by kernel_rfl) (gloB_ok X G gH) (by decide +kernel) H1.kp (heardFn X G) (by kernel_rfl) (gloB_ok X G gS) (by decide +kernel) F.kp hs (by rw [e]; exact binds_dd F) rfl (fun Z f vs h1 h2 h3 => tells_tup (sh := dScope s_tells.2.2.2) (.inl (by kernel_rfl)) Z f vs h1 h2 h3)

theorem judgeR (X : (KK w).In base) (G : base.Ns mainGlobals mg) (hs : FnOk p w (KK w) mg base (L2N.CX p w) lv (faOf sameI) (fdtOf (KK w) sameI) dd35.ps (spD (KK w) (envOf a ns) cf sameI)) : JudgeFn p w (KK w) mg base (envOf a ns) (cfOf ns) cf lv sameI tpR 2 s_refuses.1 := by
  obtain ⟨G1, _⟩ := sp_ok (w := w) (i := 3) (d := s_refuses) rfl
  obtain ⟨H1, gH⟩ := sp_ok (w := w) (i := 1) (d := s_heard) rfl
  obtain ⟨F, _, _, _, _⟩ := def_ok (w := w) same_at
  have e : fdtOf (KK w) sameI = fdOf (KK w) dd35.f := by unfold fdtOf; rw [faOf_eq same_at]
  have ef := faOf_eq same_at
  rw [ef] at hs
  have gS := glo X G (x := "_law_same") (g := .fn sameI) (by kernel_rfl)
  have gS : gloB (KK w) "_law_same" (some (.ref dd35.f)) = true := gS
  exact judge_fn (x := "_law_refuses") (qual := "_law_refuses") (ah := "deed") (xh := "_law_heard") (xs := "_law_same") (sh := dScope s_refuses.2.2.2) (par := dArgs s_refuses.2.2.2) (Nt := ["deed", "name", "what"]) (ps := ["name", "what"]) G1 (scB_ok (by kernel_rfl)) (G1.bindsN fun kV doc pm an cdv ct us hl => match us, hl with | [_, _, _], _ => rfl) rfl rfl (.inl (by kernel_rfl)) ⟨by decide +kernel, by decide +kernel⟩
    (by kernel_rfl) (gloB_ok X G gH) (by decide +kernel) H1.kp (heardFn X G) (by kernel_rfl) (gloB_ok X G gS) (by decide +kernel) F.kp hs (by rw [e]; exact binds_dd F) rfl (fun Z f vs h1 h2 h3 => refuses_tup (sh := dScope s_refuses.2.2.2) (.inl (by kernel_rfl)) (.inl (by kernel_rfl)) Z f vs h1 h2 h3)
/-! ### all defs -/
def nmB (x : Str) (g : Gk) : Bool := match g with
    | .heard => decide (x = "_law_heard")
    | .tells f => decide (x = "_law_tells") && f == 35
    | .refuses f => decide (x = "_law_refuses") && f == 35
    | .cls c => c == 0
    | _ => true
theorem name_of {x : Str} {g : Gk} (h : gl.lookup x = some g) : nmB x g = true := by
  have z := List.all_eq_true.mp gN _ (look_mem h)
  cases g <;> exact z
/-- the code objects with their tables -/
def cs : List (Addr × Addr) := ddl.filterMap fun d => d.map fun d => (d.c, d.t)
theorem cs_mem {i : Nat} {d : Dd} (h : dAt i = some d) : (d.c, d.t) ∈ cs := List.mem_filterMap.mpr ⟨some d, List.mem_of_getElem? (dAt_mem h), rfl⟩
theorem tab_mem {i : Nat} {d : Dd} (h : dAt i = some d) : (d.t, d.qual ++ ".<locals>." ++ "<lambda>") ∈ tabs := List.mem_filterMap.mpr ⟨some d, List.mem_of_getElem? (dAt_mem h), rfl⟩
theorem tabs_one : (tabs.map (·.1)).Nodup := by decide +kernel
theorem nodup_map {α β : Type} {f : α → β} : ∀ {l : List α}, (l.map f).Nodup → ∀ {x y : α}, x ∈ l → y ∈ l → f x = f y → x = y
  | [], _, _, _, hx, _, _ => nomatch hx
  | a :: r, h, x, y, hx, hy, e => by
    rw [List.map_cons, List.nodup_cons] at h
    rcases List.mem_cons.mp hx with rfl | hx2
    · rcases List.mem_cons.mp hy with rfl | hy2
      · rfl
      · exact absurd (List.mem_map.mpr ⟨y, hy2, e.symm⟩) h.1
    · rcases List.mem_cons.mp hy with rfl | hy2
      · exact absurd (List.mem_map.mpr ⟨x, hx2, e⟩) h.1
      · exact nodup_map h.2 hx2 hy2 e
theorem same_ds : dsOf sameI = some dd35.dt := by
  unfold dsOf
  rw [same_at, Option.map_some]
theorem lamT {i : Nat} {d : Dd} (hd : dAt i = some d) (TB : ∀ q ∈ cs, LamX.TabB base mg q.1 q.2) : LamT base mg (envOf a ns) (.ref d.c) (d.qual ++ ".<locals>.") := by
  have hm1 := cs_mem (d := d) hd
  have hm2 := tab_mem (d := d) hd
  have ht := TB (d.c, d.t) hm1
  refine ⟨d.c, d.t, rfl, ht, ?_, ?_⟩
  · show (d.t, d.qual ++ ".<locals>." ++ "<lambda>") ∈ tabs
    exact hm2
  · show ∀ p ∈ tabs, p.1 = d.t → p.2 = d.qual ++ ".<locals>." ++ "<lambda>"
    intro q hq e
    exact congrArg (·.2) (nodup_map tabs_one hq hm2 e)
theorem all_defs (X : (KK w).In base) (G : base.Ns mainGlobals mg) (TB : ∀ q ∈ cs, LamX.TabB base mg q.1 q.2) : ∀ n i t, dsOf i = some t → FnOk p w (KK w) mg base (L2N.CX p w) (8 * n) (faOf i) (fdtOf (KK w) i) t.ps (spD (KK w) (envOf a ns) (callF (cfOf ns) n) i) := by
  have WO := wld (a := a) (ns := ns) X G
  refine all_ok WO (fun n i t hi ih cdv A outer s H E hcd hr => ?_) (fun n i t hi cdv A outer s H E0 hr E x c e xe pp pos rpos tk hl hg hn he => ?_)
  · obtain ⟨d, hd, rfl⟩ := dt_eq hi
    obtain ⟨F, hc, _, _, S⟩ := def_ok (w := w) hd
    have hS : FnOk p w (KK w) mg base (L2N.CX p w) (8 * n) (faOf sameI) (fdtOf (KK w) sameI) dd35.ps (spD (KK w) (envOf a ns) (callF (cfOf ns) n) sameI) := ih sameI dd35.dt same_ds
    have hcd2 : (fdOf (KK w) (faOf i)).code = cdv := hcd
    rw [faOf_eq hd, hc] at hcd2
    subst hcd2
    have LT := lamT (a := a) (ns := ns) hd TB
    have M : MkOk (cxOf (L2N.CX p w) p w (KK w) mg base d.N d.qual (dScope d.st) (faOf i) (.ref d.c) A outer s H E) (envOf a ns) (kap0 gl dicts flds mths d.N (dScope d.st)) (8 * n) := ⟨rfl, rfl, rfl, S.kind, LT, hr.mono (by omega)⟩
    refine heard_ok M (fun x h => ?_) (fun x fi h => ?_) (fun x fi h => ?_)
    · have z := of_decide_eq_true (name_of h)
      subst z
      obtain ⟨H1, gH⟩ := sp_ok (w := w) (i := 1) (d := s_heard) rfl
      exact ⟨by decide +kernel, _, gloB_ok X G gH, H1.kp, heardFn X G⟩
    · obtain ⟨z1, z2⟩ := ba (name_of h)
      have z := of_decide_eq_true z1
      have zf : fi = 35 := beq_iff_eq.mp z2
      subst z zf
      obtain ⟨H1, gH⟩ := sp_ok (w := w) (i := 2) (d := s_tells) rfl
      exact ⟨by decide +kernel, _, gloB_ok X G gH, H1.kp, judgeT X G hS⟩
    · obtain ⟨z1, z2⟩ := ba (name_of h)
      have z := of_decide_eq_true z1
      have zf : fi = 35 := beq_iff_eq.mp z2
      subst z zf
      obtain ⟨H1, gH⟩ := sp_ok (w := w) (i := 3) (d := s_refuses) rfl
      exact ⟨by decide +kernel, _, gloB_ok X G gH, H1.kp, judgeR X G hS⟩
  · have o := glo X G hl
    have o : (match exl[c]? with
      | some e => gloB (KK w) x (some (.ref e.C))
      | none => false) = true := o
    cases q : exl[c]? with
    | none => rw [q] at o; cases o
    | some ee =>
      rw [q] at o
      obtain ⟨r1, r3⟩ := ba (rB w.params)
      obtain ⟨r1, r2⟩ := ba r1
      have hdb : (x == ("__debug__" : Str)) = false := by
        cases z : (x == ("__debug__" : Str)) with
        | false => rfl
        | true =>
          rw [beq_iff_eq.mp z] at hl
          rw [show gl.lookup ("__debug__" : Str) = none by kernel_rfl] at hl
          cases hl
      exact dps_raise (T := envOf a ns) (C := cfOf ns) (show (exl.map fun e => (e.C, e.x))[c]? = some (ee.C, ee.x) by rw [List.getElem?_map, q]; rfl) (ex_at (w := w) q) rfl (hr.mono (by omega)) (gloB_ok X G r2) tk hg (gloB_ok X G o) he hn hdb
end
end
end HB
end HDx
section HDw
set_option Elab.async false
set_option linter.all false
set_option maxRecDepth 100000
set_option maxHeartbeats 1000000
/-! HDw: from the interpreter to the law. -/
namespace HB
open PySem PySem.Spec PyProof.Rows L2 MP HD HF
/-- what is left to be shown: the interpreter's law is true -/
def Pure : Prop := ∀ ns : List Int, ns.length ≤ 63 → (∀ z ∈ ns, Builtin.Int.intBits z ≤ 1048576) → ∃ S, callF (cfOf ns) 16 48 [.scr] [] = .ok (.bl true) S
theorem law_at : dAt 48 = some dd48 := by kernel_rfl
def spLaw (K : PySem.W.Frag) : Sp := fun vs H Q E => ∃ (a : Addr) (ns : List Int), vs = [.ref a] ∧ spD K (envOf a ns) (callF (cfOf ns) 16) 48 vs H Q E
theorem tabs_at {H : Hp} (h : ∀ q ∈ cs, H q.2 = some (.tbl #[])) : LamX.Tabs tabs H := fun q hq => by
  obtain ⟨d, hd, e⟩ := List.mem_filterMap.mp hq
  cases d with
  | none => cases e
  | some d =>
    have e : (d.t, d.qual ++ ".<locals>." ++ "<lambda>") = q := Option.some.inj e
    subst e
    exact ⟨#[], h (d.c, d.t) (List.mem_filterMap.mpr ⟨some d, hd, rfl⟩), trivial, fun pos cv z => nomatch z⟩
theorem scr_of {K : PySem.W.Frag} {H : Hp} {a : Addr} {ns : List Int} (h : SqL K H a (ns.map V.int)) : ScrR K (envOf a ns) [] H := by
  rcases h with (h | ⟨o, h⟩) | h
  · exact .inr (.inr ⟨h, List.not_mem_nil⟩)
  · exact .inl ⟨o, h⟩
  · exact .inr (.inl fun _ => .inr h)
theorem law_sp (pu : Pure) {K : PySem.W.Frag} (H : Hp) (a : Addr) (ns : List Int) (hl : ns.length ≤ 63) (hb : ∀ z ∈ ns, Builtin.Int.intBits z ≤ 1048576) (ht : ∀ q ∈ cs, H q.2 = some (.tbl #[])) (hS : SqL K H a (ns.map V.int)) :
    spLaw K [.ref a] H (fun v _ => v = .bl true) fun _ _ _ => False := by
  obtain ⟨S, e⟩ := pu ns hl hb
  refine ⟨a, ns, rfl, [], [], [.scr], ⟨List.nodup_nil, rfl, (fun n o c h => nomatch h), scr_of hS, tabs_at ht⟩, .cons .scr .nil, ?_⟩
  rw [e]
  intro v H' A' e' R rv
  cases rv
  rfl
theorem Kf_eq (P : Params) : Kf P = partL keepO (HB.hl P) := by kernel_rfl
theorem le_hl (P : Params) : (HB.hl P).length ≤ hn P := by rw [len_hl, hn_eq]; exact Nat.le_refl _
theorem lt_hl (P : Params) : (HB.hl P).length < 65536 := by rw [len_hl]; decide
theorem kin {w : World} {h : Heap} (Y : ∀ a o, (heapL (HB.hl w.params) (hn w.params)).get? a = some o → h.get? a = some o) : (KK w).In h := by
  have e : KK w = partL keepO (HB.hl w.params) := Kf_eq w.params
  rw [e]
  exact partL_in (l := HB.hl w.params) (n := hn w.params) (le_hl _) (lt_hl _) Y
theorem holds (pu : Pure) : (PySem.Challenge.rw_pricesalone_k83_bills_months_and_account).Holds := by
  w_on
  o_law
  refine HD.head_end (r := R) (q := qv) (loose := loose) (H := hk) (d := HandSHeadRun.topDef R.prog 116) (kwd := []) left (by kernel_rfl) (by kernel_rfl) (by kernel_rfl) (by rfl) (by first | assumption | decide +kernel) (by decide +kernel) ⟨rfl, rfl, rfl, rfl, rfl, by decide +kernel⟩ ?hw ?hc
  case hw => w_witness2
  case hc =>
    refine LamX.walk_ofTsE (l := PySem.Challenge.rw_pricesalone_k83_bills_months_and_account) (n := 63) (k := 8 * 16) (x := "script") (CX := fun w => L2N.CX p w) rfl (by rw [sizeLine_eq]; decide) (by kernel_rfl) ⟨rfl, by decide, by decide⟩ ?F ?G
    case F =>
      intro w mg fa h Y G hmg0
      have hin : (KK w).In h := kin Y
      have hmg : mg ("law" : Str) = some (.ref fa) := by
        have e : (HandSHeadRun.topDef R.prog 116).name = ("law" : Str) := by kernel_rfl
        rw [← e]
        exact hmg0
      obtain ⟨FL, _, _, _, _⟩ := def_ok (w := w) law_at
      have gL : gloB (KK w) "law" (some (.ref dd48.f)) = true := glo hin G (x := "law") (g := .fn 48) (by kernel_rfl)
      have ef : fa = dd48.f := by
        have z := hmg.symm.trans (gloB_ok hin G gL)
        cases z
        rfl
      subst ef
      refine ⟨KK w, hin, fdOf (KK w) dd48.f, cs, spLaw (KK w), fun q hq => ?_, fun q hq => ?_, fun q hq => ?_, fun s u => FL.bindsA dd48.bnd s [u] rfl, fun H a ns hl hb ht hS => law_sp pu H a ns hl hb ht hS, fun base X' G' TB => ⟨fun vs H Q E z => ?_, fun A outer s H args us vs Q E hr he hb hv z => ?_⟩⟩
      · obtain ⟨d, hd, e⟩ := List.mem_filterMap.mp hq
        cases d with
        | none => cases e
        | some d =>
          have e : (d.c, d.t) = q := Option.some.inj e
          subst e
          have tb := List.all_eq_true.mp (tabsB w.params) _ hd
          have tb : (match (HB.hl w.params)[d.t]? with
            | some o => He.emptyTab o
            | none => false) = true := tb
          cases z : (HB.hl w.params)[d.t]? with
          | none => rw [z] at tb; cases tb
          | some o =>
            rw [z] at tb
            have eo := He.emptyTab_eq tb
            subst eo
            exact Y _ _ (heapL_get (le_hl _) (lt_hl _) z rfl)
      · obtain ⟨d, hd, e⟩ := List.mem_filterMap.mp hq
        cases d with
        | none => cases e
        | some d =>
          have e : (d.c, d.t) = q := Option.some.inj e
          subst e
          obtain ⟨i, hi⟩ := List.mem_iff_getElem?.mp hd
          have hdA : dAt i = some d := by unfold dAt; rw [hi]
          exact (def_ok (w := w) hdA).2.2.2.1
      · obtain ⟨d, hd, e⟩ := List.mem_filterMap.mp hq
        cases d with
        | none => cases e
        | some d =>
          have e : (d.c, d.t) = q := Option.some.inj e
          subst e
          obtain ⟨i, hi⟩ := List.mem_iff_getElem?.mp hd
          have hdA : dAt i = some d := by unfold dAt; rw [hi]
          exact PySem.W.codeHd_of_K hin (def_ok (w := w) hdA).2.2.1
      · obtain ⟨a, ns, rfl, _⟩ := z
        rfl
      · obtain ⟨a, ns, _, z⟩ := z
        have law_ds : dsOf 48 = some dd48.dt := by
          unfold dsOf
          rw [law_at, Option.map_some]
        have FO := all_defs (a := a) (ns := ns) X' G' TB 16 48 dd48.dt law_ds
        have e48 : faOf 48 = dd48.f := faOf_eq law_at
        have FO2 : FnOk p w (KK w) mg base (L2N.CX p w) (8 * 16) dd48.f (fdOf (KK w) dd48.f) ["script"] (spD (KK w) (envOf a ns) (callF (cfOf ns) 16) 48) := by
          rw [← e48]
          exact FO
        exact FO2.run A outer s H args us vs Q E hr he hb hv z
    case G =>
      intro w H s e s' x
      obtain ⟨_, _, _, _, _, _, _, _, _, _, _, _, _, _, _, _, z⟩ := x
end HB
end HDw
section MWa
set_option Elab.async false
set_option linter.all false
set_option maxRecDepth 100000
/-! MWa: a logic for the interpreter: what holds where a step ends. -/
namespace MP
open PySem L2
def Rs.W {α : Type} (r : Rs α) (P : α → Sto → Prop) (E : Nat → D → Sto → Prop) : Prop := match r with
  | .ok a S => P a S
  | .exc c w S => E c w S
  | .bad => False
def Fr.W (r : Fr) (nx : Rho → Sto → Prop) (rt : D → Sto → Prop) (bk ct : Rho → Sto → Prop) (E : Nat → D → Sto → Prop) : Prop := match r with
  | .nx ρ S => nx ρ S
  | .rt d S => rt d S
  | .bk ρ S => bk ρ S
  | .ct ρ S => ct ρ S
  | .ex c w _ S => E c w S
  | .bad => False
section
variable {α β : Type} {P : β → Sto → Prop} {E : Nat → D → Sto → Prop} {nx bk ct : Rho → Sto → Prop} {rt : D → Sto → Prop}
theorem W_ok {a : β} {S : Sto} : (Rs.ok a S : Rs β).W P E = P a S := rfl
theorem W_exc {c : Nat} {w : D} {S : Sto} : (Rs.exc c w S : Rs β).W P E = E c w S := rfl
theorem W_bad : (Rs.bad : Rs β).W P E = False := rfl
theorem W_bind {r : Rs α} {f : α → Sto → Rs β} : (r.bind f).W P E = r.W (fun a S => (f a S).W P E) E := by cases r <;> rfl
theorem W_lift {S : Sto} {o : Option β} : (lift S o).W P E = (match o with
    | some a => P a S
    | none => False) := by cases o <;> rfl
theorem W_up {o : Option (D × Sto)} {P : D → Sto → Prop} : (up o).W P E = (match o with
    | some (d, S) => P d S
    | none => False) := by
  cases o with
  | none => rfl
  | some p => rfl
theorem W_toFr {r : Rs α} {ρ : Rho} {f : α → Sto → Fr} : (r.toFr ρ f).W nx rt bk ct E = r.W (fun a S => (f a S).W nx rt bk ct E) E := by cases r <;> rfl
theorem W_noex {r : Rs β} : (noex r).W P E = r.W P fun _ _ _ => False := by cases r <;> rfl
theorem W_heardR {C : Cf} {r : Rs D} {P : D → Sto → Prop} : (heardR C r).W P E = r.W (fun d S => P (.tup [.str C.told, d]) S) fun c w S => P (.tup [.str (C.wd c), w]) S := by cases r <;> rfl
theorem W_mono {r : Rs β} {P' : β → Sto → Prop} {E' : Nat → D → Sto → Prop} (h : r.W P E) (hp : ∀ a S, P a S → P' a S) (he : ∀ c w S, E c w S → E' c w S) : r.W P' E' := by
  cases r with
  | ok a S => exact hp _ _ h
  | exc c w S => exact he _ _ _ h
  | bad => exact h
theorem Fr.W_mono {r : Fr} {nx' bk' ct' : Rho → Sto → Prop} {rt' : D → Sto → Prop} {E' : Nat → D → Sto → Prop} (h : r.W nx rt bk ct E) (h1 : ∀ ρ S, nx ρ S → nx' ρ S) (h2 : ∀ d S, rt d S → rt' d S) (h3 : ∀ ρ S, bk ρ S → bk' ρ S) (h4 : ∀ ρ S, ct ρ S → ct' ρ S) (h5 : ∀ c w S, E c w S → E' c w S) : r.W nx' rt' bk' ct' E' := by
  cases r with
  | nx ρ S => exact h1 _ _ h
  | rt d S => exact h2 _ _ h
  | bk ρ S => exact h3 _ _ h
  | ct ρ S => exact h4 _ _ h
  | ex c w ρ S => exact h5 _ _ _ h
  | bad => exact h
/-- what is told by W is so -/
theorem W_ok_iff {r : Rs β} : r.W P (fun _ _ _ => False) ↔ ∃ a S, r = .ok a S ∧ P a S := by
  cases r with
  | ok a S => exact ⟨fun h => ⟨a, S, rfl, h⟩, fun ⟨_, _, e, h⟩ => by cases e; exact h⟩
  | exc c w S => exact ⟨fun h => h.elim, fun ⟨_, _, e, _⟩ => nomatch e⟩
  | bad => exact ⟨fun h => h.elim, fun ⟨_, _, e, _⟩ => nomatch e⟩
section
variable {C : Cf} {cf : Nat → List D → Sto → Rs D} {ρ : Rho} {S : Sto}
theorem W_seq {s : Sm} {r : List Sm} : (evSs C cf (s :: r) ρ S).W nx rt bk ct E = (evS C cf s ρ S).W (fun ρ' S' => (evSs C cf r ρ' S').W nx rt bk ct E) rt bk ct E := by
  rw [evSs]
  cases evS C cf s ρ S <;> rfl
theorem W_nil : (evSs C cf [] ρ S).W nx rt bk ct E = nx ρ S := by rw [evSs]; rfl
theorem W_call {n f : Nat} {ds : List D} {F : Fn} {P : D → Sto → Prop} (hf : C.P f = some F) (hl : ds.length = F.np) (hn : F.np ≤ F.ns) :
    (callF C (n + 1) f ds S).W P E = (evSs C (callF C n) F.body (ds.map some ++ List.replicate (F.ns - F.np) none) S).W (fun _ S' => P .non S') P (fun _ _ => False) (fun _ _ => False) E := by
  rw [callF]
  simp only [hf]
  rw [if_pos ⟨hl, hn⟩]
  cases evSs C (callF C n) F.body (ds.map some ++ List.replicate (F.ns - F.np) none) S <;> rfl
end
end
/-! ### stores -/
/-- all but what stands at J stays -/
def Kp (J : List Nat) (S S' : Sto) : Prop := S.length ≤ S'.length ∧ ∀ i, i < S.length → i ∉ J → S'[i]? = S[i]?
theorem Kp.refl (J : List Nat) (S : Sto) : Kp J S S := ⟨Nat.le_refl _, fun _ _ _ => rfl⟩
theorem Kp.trans {J : List Nat} {S S1 S2 : Sto} (a : Kp J S S1) (b : Kp J S1 S2) : Kp J S S2 := ⟨Nat.le_trans a.1 b.1, fun i h n => (b.2 i (Nat.lt_of_lt_of_le h a.1) n).trans (a.2 i h n)⟩
theorem Kp.mono {J J' : List Nat} {S S' : Sto} (a : Kp J S S') (h : ∀ i ∈ J, i ∈ J') : Kp J' S S' := ⟨a.1, fun i l n => a.2 i l fun m => n (h i m)⟩
theorem Kp.to {J : List Nat} {S S' : Sto} (a : Kp [] S S') : Kp J S S' := a.mono fun _ h => nomatch h
theorem Kp.at_ {J : List Nat} {S S' : Sto} (a : Kp J S S') {i : Nat} {o : O} (h : S[i]? = some o) (n : i ∉ J) : S'[i]? = some o := (a.2 i (List.getElem?_eq_some_iff.mp h).1 n).trans h
theorem Kp.app (S G : Sto) : Kp [] S (S ++ G) := ⟨by rw [List.length_append]; omega, fun i h _ => List.getElem?_append_left h⟩
theorem Kp.set {S : Sto} {j : Nat} {o : O} {J : List Nat} (h : j ∈ J) : Kp J S (S.set j o) := ⟨by rw [List.length_set]; exact Nat.le_refl _, fun i _ n => List.getElem?_set_ne (by rintro rfl; exact n h)⟩
/-- what is new may be written -/
theorem Kp.setN {S S' : Sto} {J : List Nat} {j : Nat} {o : O} (a : Kp J S S') (h : S.length ≤ j) : Kp J S (S'.set j o) := ⟨by rw [List.length_set]; exact a.1, fun i l n => by rw [List.getElem?_set_ne (by omega)]; exact a.2 i l n⟩
theorem new_at (S : Sto) (o : O) : (S ++ [o])[S.length]? = some o := by simp
/-! ### what is walked -/
section
variable {C : Cf} {iv : Iv} {P : D → Sto → Prop} {E : Nat → D → Sto → Prop}
/-- a comprehension by its invariant: i turns are done, acc is told so far -/
theorem W_compK {xs : List D} {n : Nat} {turn : D → Sto → Rs (Option D)} (I : Nat → List D → Sto → Prop)
    (hat : ∀ i acc S, I i acc S → iv.at C S i = some xs[i]? ∧ S[n]? = some (.lst acc))
    (step : ∀ i acc S x, I i acc S → xs[i]? = some x → (turn x S).W (fun r S1 => match r with
      | none => I (i + 1) acc S1
      | some e => acc.length < sizeLine ∧ S1[n]? = some (.lst acc) ∧ I (i + 1) (acc ++ [e]) (S1.set n (.lst (acc ++ [e])))) E)
    (fin : ∀ acc S, I xs.length acc S → P (.ref n) S) : ∀ (k i : Nat) (acc : List D) (S : Sto), I i acc S → i ≤ xs.length → xs.length ≤ k + i → (compK C iv n turn k i S).W P E := by
  intro k
  induction k with
  | zero =>
    intro i acc S hI hi hk
    obtain ⟨h1, _⟩ := hat i acc S hI
    have e : i = xs.length := by omega
    subst e
    rw [compK, h1, List.getElem?_eq_none (Nat.le_refl _)]
    exact fin acc S hI
  | succ k ih =>
    intro i acc S hI hi hk
    obtain ⟨h1, _⟩ := hat i acc S hI
    rw [compK, h1]
    cases hx : xs[i]? with
    | none =>
      have e : i = xs.length := by
        have := List.getElem?_eq_none_iff.mp hx
        omega
      subst e
      exact fin acc S hI
    | some x =>
      have hlt := (List.getElem?_eq_some_iff.mp hx).1
      show ((turn x S).bind _).W P E
      rw [W_bind]
      refine W_mono (step i acc S x hI hx) (fun r S1 hr => ?_) fun _ _ _ h => h
      cases r with
      | none => exact ih (i + 1) acc S1 hr (by omega) (by omega)
      | some e =>
        obtain ⟨l1, l2, l3⟩ := hr
        show (match S1[n]? with
          | some (.lst acc) => if acc.length < sizeLine then compK C iv n turn k (i + 1) (S1.set n (.lst (acc ++ [e]))) else .bad
          | _ => .bad).W P E
        rw [l2]
        show (if acc.length < sizeLine then compK C iv n turn k (i + 1) (S1.set n (.lst (acc ++ [e]))) else .bad).W P E
        rw [if_pos l1]
        exact ih (i + 1) _ _ l3 (by omega) (by omega)
/-- a for by its invariant -/
theorem W_forK {xs : List D} {turn : D → Rho → Sto → Fr} {nx bk ct : Rho → Sto → Prop} {rt : D → Sto → Prop} (I : Nat → Rho → Sto → Prop)
    (hat : ∀ i ρ S, I i ρ S → iv.at C S i = some xs[i]?)
    (step : ∀ i ρ S x, I i ρ S → xs[i]? = some x → (turn x ρ S).W (I (i + 1)) rt nx (I (i + 1)) E)
    (fin : ∀ ρ S, I xs.length ρ S → nx ρ S) : ∀ (k i : Nat) (ρ : Rho) (S : Sto), I i ρ S → i ≤ xs.length → xs.length ≤ k + i → (forK C iv turn k i ρ S).W nx rt bk ct E := by
  intro k
  induction k with
  | zero =>
    intro i ρ S hI hi hk
    have e : i = xs.length := by omega
    subst e
    rw [forK, hat _ _ _ hI, List.getElem?_eq_none (Nat.le_refl _)]
    exact fin ρ S hI
  | succ k ih =>
    intro i ρ S hI hi hk
    rw [forK, hat _ _ _ hI]
    cases hx : xs[i]? with
    | none =>
      have e : i = xs.length := by
        have := List.getElem?_eq_none_iff.mp hx
        omega
      subst e
      exact fin ρ S hI
    | some x =>
      have hlt := (List.getElem?_eq_some_iff.mp hx).1
      have st := step i ρ S x hI hx
      show (match turn x ρ S with
        | .nx ρ' S' => forK C iv turn k (i + 1) ρ' S'
        | .ct ρ' S' => forK C iv turn k (i + 1) ρ' S'
        | .bk ρ' S' => .nx ρ' S'
        | r => r).W nx rt bk ct E
      cases ht : turn x ρ S with
      | nx ρ' S' => rw [ht] at st; exact ih (i + 1) ρ' S' st (by omega) (by omega)
      | ct ρ' S' => rw [ht] at st; exact ih (i + 1) ρ' S' st (by omega) (by omega)
      | bk ρ' S' => rw [ht] at st; exact st
      | rt d S' => rw [ht] at st; exact st
      | ex c w ρ' S' => rw [ht] at st; exact st
      | bad => rw [ht] at st; exact st.elim
/-- a while by its invariant and a measure -/
theorem W_whileK {test : Rho → Sto → Rs Bool} {body : Rho → Sto → Fr} {nx bk ct : Rho → Sto → Prop} {rt : D → Sto → Prop} (I : Rho → Sto → Prop) (m : Rho → Sto → Nat)
    (turn : ∀ ρ S, I ρ S → (test ρ S).W (fun b S1 => if b then (body ρ S1).W (fun ρ' S' => I ρ' S' ∧ m ρ' S' < m ρ S) rt nx (fun ρ' S' => I ρ' S' ∧ m ρ' S' < m ρ S) E else nx ρ S1) E) :
    ∀ (k : Nat) (ρ : Rho) (S : Sto), I ρ S → m ρ S < k → (whileK test body k ρ S).W nx rt bk ct E := by
  intro k
  induction k with
  | zero => intro ρ S _ h; exact absurd h (Nat.not_lt_zero _)
  | succ k ih =>
    intro ρ S hI hm
    rw [whileK, W_toFr]
    refine W_mono (turn ρ S hI) (fun b S1 hb => ?_) fun _ _ _ h => h
    cases b with
    | false => exact hb
    | true =>
      have st : (body ρ S1).W (fun ρ' S' => I ρ' S' ∧ m ρ' S' < m ρ S) rt nx (fun ρ' S' => I ρ' S' ∧ m ρ' S' < m ρ S) E := hb
      show (match body ρ S1 with
        | .nx ρ' S' => whileK test body k ρ' S'
        | .ct ρ' S' => whileK test body k ρ' S'
        | .bk ρ' S' => .nx ρ' S'
        | r => r).W nx rt bk ct E
      cases ht : body ρ S1 with
      | nx ρ' S' => rw [ht] at st; exact ih ρ' S' st.1 (by have := st.2; omega)
      | ct ρ' S' => rw [ht] at st; exact ih ρ' S' st.1 (by have := st.2; omega)
      | bk ρ' S' => rw [ht] at st; exact st
      | rt d S' => rw [ht] at st; exact st
      | ex c w ρ' S' => rw [ht] at st; exact st
      | bad => rw [ht] at st; exact st.elim
end
end MP
end MWa
section MWc
set_option Elab.async false
set_option linter.all false
set_option maxRecDepth 100000
/-! MWc: the program of k83 as the interpreter has it (printed); W over its steps. -/
namespace MP
open PySem L2
section
variable {α : Type} {P : α → Sto → Prop} {E : Nat → D → Sto → Prop} {nx bk ct : Rho → Sto → Prop} {rt : D → Sto → Prop}
theorem W_ite {b : Prop} [Decidable b] {x y : Rs α} : (if b then x else y).W P E = if b then x.W P E else y.W P E := by split <;> rfl
theorem FW_ite {b : Prop} [Decidable b] {x y : Fr} : (if b then x else y).W nx rt bk ct E = if b then x.W nx rt bk ct E else y.W nx rt bk ct E := by split <;> rfl
theorem FW_nx {ρ : Rho} {S : Sto} : (Fr.nx ρ S).W nx rt bk ct E = nx ρ S := id rfl
theorem FW_rt {d : D} {S : Sto} : (Fr.rt d S).W nx rt bk ct E = rt d S := id rfl
theorem FW_bk {ρ : Rho} {S : Sto} : (Fr.bk ρ S).W nx rt bk ct E = bk ρ S := id rfl
theorem FW_ct {ρ : Rho} {S : Sto} : (Fr.ct ρ S).W nx rt bk ct E = ct ρ S := id rfl
theorem FW_ex {c : Nat} {w : D} {ρ : Rho} {S : Sto} : (Fr.ex c w ρ S).W nx rt bk ct E = E c w S := id rfl
theorem FW_bad : Fr.bad.W nx rt bk ct E = False := id rfl
theorem W_eq {r : Rs α} {a : α} {S : Sto} (h : r = .ok a S) (q : P a S) : r.W P E := by rw [h]; exact q
theorem W_exq {r : Rs α} {c : Nat} {w : D} {S : Sto} (h : r = .exc c w S) (q : E c w S) : r.W P E := by rw [h]; exact q
end
/-! ### tests -/
section
variable {C : Cf} {cf : Nat → List D → Sto → Rs D} {ρ : Rho} {S : Sto} {a b c : Ex} {es : Exs} {P : Bool → Sto → Prop} {E : Nat → D → Sto → Prop}
def tP (C : Cf) (P : Bool → Sto → Prop) (d : D) (S : Sto) : Prop := match truD C S d with
  | some k => P k S
  | none => False
theorem WB_any : (evB C cf c ρ S).W P E = (evE C cf c ρ S).W (tP C P) E := by
  unfold evB
  rw [W_bind]
  congr 1
  funext d S1
  rw [W_lift]
  unfold tP
  cases truD C S1 d <;> rfl
theorem WB_or : (evB C cf (.or a b) ρ S).W P E = (evB C cf a ρ S).W (fun k S1 => if k then P true S1 else (evB C cf b ρ S1).W P E) E := by
  rw [WB_any, WB_any, evE, W_bind]
  congr 1
  funext d S1
  unfold tP
  rw [W_bind, W_lift]
  cases h : truD C S1 d with
  | none => rfl
  | some k =>
    cases k with
    | true =>
      show (match truD C S1 d with | some k => P k S1 | none => False) = _
      rw [h]
      rfl
    | false =>
      show (evE C cf b ρ S1).W (tP C P) E = _
      rw [← WB_any]
      rfl
theorem WB_and : (evB C cf (.and a b) ρ S).W P E = (evB C cf a ρ S).W (fun k S1 => if k then (evB C cf b ρ S1).W P E else P false S1) E := by
  rw [WB_any, WB_any, evE, W_bind]
  congr 1
  funext d S1
  unfold tP
  rw [W_bind, W_lift]
  cases h : truD C S1 d with
  | none => rfl
  | some k =>
    cases k with
    | false =>
      show (match truD C S1 d with | some k => P k S1 | none => False) = _
      rw [h]
      rfl
    | true =>
      show (evE C cf b ρ S1).W (tP C P) E = _
      rw [← WB_any]
      rfl
theorem WB_not : (evB C cf (.not a) ρ S).W P E = (evB C cf a ρ S).W (fun k S1 => P (!k) S1) E := by
  rw [WB_any, WB_any, evE, W_bind]
  congr 1
  funext d S1
  unfold tP
  rw [W_bind, W_lift]
  cases truD C S1 d <;> rfl
theorem WB_cmp {op : CmpOp} : (evB C cf (.cmp op a b) ρ S).W P E = (evE C cf a ρ S).W (fun x S1 => (evE C cf b ρ S1).W (fun y S2 => match cmpD C op S2 x y with
    | some k => P k S2
    | none => False) E) E := by
  rw [WB_any, evE, W_bind]
  congr 1
  funext x S1
  rw [W_bind]
  congr 1
  funext y S2
  rw [W_bind, W_lift]
  cases cmpD C op S2 x y <;> rfl
theorem WB_isi {t : String} : (evB C cf (.blt (.isi t) (.cons a .nil)) ρ S).W P E = (evE C cf a ρ S).W (fun x S1 => match tyD S1 x with
    | some u => P (isiT u t) S1
    | none => False) E := by
  rw [WB_any, evE, W_bind, evL, W_bind]
  congr 1
  funext x S1
  rw [W_bind, evL, W_ok, W_ok, W_up]
  show (match (match tyD S1 x with
    | some u => some (D.bl (isiT u t), S1)
    | none => none) with
    | some (d, S) => tP C P d S
    | none => False) = _
  cases tyD S1 x <;> rfl
theorem WB_call {f : Nat} : (evB C cf (.call f es) ρ S).W P E = (evL C cf es ρ S).W (fun ds S1 => (cf f ds S1).W (tP C P) E) E := by
  rw [WB_any, evE, W_bind]
theorem W_if {nx bk ct : Rho → Sto → Prop} {rt : D → Sto → Prop} {x y : List Sm} : (evS C cf (.ife c x y) ρ S).W nx rt bk ct E = (evB C cf c ρ S).W (fun k S1 => if k then (evSs C cf x ρ S1).W nx rt bk ct E else (evSs C cf y ρ S1).W nx rt bk ct E) E := by
  rw [evS, W_toFr]
  congr 1
  funext k S1
  cases k <;> rfl
/-- a value that is a truth anyhow -/
theorem W_ret {nx bk ct : Rho → Sto → Prop} {rt : D → Sto → Prop} {e : Ex} : (evS C cf (.ret e) ρ S).W nx rt bk ct E = (evE C cf e ρ S).W rt E := by
  rw [evS, W_toFr]
  rfl
theorem tP_bl {k : Bool} : tP C P (.bl k) S = P k S := id rfl
end
/-! ### expressions, outside in -/
section
variable {C : Cf} {cf : Nat → List D → Sto → Rs D} {ρ : Rho} {S : Sto} {a b c : Ex} {es : Exs} {P : D → Sto → Prop} {E : Nat → D → Sto → Prop} {Pl : List D → Sto → Prop}
/-- what a step that may not be tells -/
def oP {α : Type} (P : α → Sto → Prop) (S : Sto) : Option α → Prop
  | some x => P x S
  | none => False
def uP (P : D → Sto → Prop) : Option (D × Sto) → Prop
  | some p => P p.1 p.2
  | none => False
theorem oP_some {α : Type} {P : α → Sto → Prop} {x : α} : oP P S (some x) = P x S := id rfl
theorem uP_some {x : D} : uP P (some (x, S)) = P x S := id rfl
theorem W_liftP {α : Type} {P : α → Sto → Prop} {o : Option α} : (lift S o).W P E = oP P S o := by cases o <;> rfl
theorem W_upP {o : Option (D × Sto)} : (up o).W P E = uP P o := by cases o <;> rfl
def vP (P : D → Sto → Prop) (S : Sto) : Option (Option D) → Prop
  | some (some d) => P d S
  | _ => False
theorem vP_some {d : D} : vP P S (some (some d)) = P d S := id rfl
theorem W_var {i : Nat} : (evE C cf (.var i) ρ S).W P E = vP P S ρ[i]? := by
  rw [evE]
  cases h : ρ[i]? with
  | none => rfl
  | some o => cases o <;> rfl
theorem W_cst {d : D} : (evE C cf (.cst d) ρ S).W P E = P d S := by rw [evE]; rfl
theorem W_bin {op : Operator} : (evE C cf (.bin op a b) ρ S).W P E = (evE C cf a ρ S).W (fun x S1 => (evE C cf b ρ S1).W (fun y S2 => uP P (binD op S2 x y)) E) E := by
  rw [evE, W_bind]
  congr 1; funext x S1
  rw [W_bind]
  congr 1; funext y S2
  rw [W_upP]
def nP (P : D → Sto → Prop) : D → Sto → Prop
  | .int i, S => P (.int (-i)) S
  | _, _ => False
theorem nP_int {i : Int} : nP P (.int i) S = P (.int (-i)) S := id rfl
theorem W_neg : (evE C cf (.neg a) ρ S).W P E = (evE C cf a ρ S).W (nP P) E := by
  rw [evE, W_bind]
  congr 1; funext x S1
  cases x <;> rfl
theorem W_cmp {op : CmpOp} : (evE C cf (.cmp op a b) ρ S).W P E = (evE C cf a ρ S).W (fun x S1 => (evE C cf b ρ S1).W (fun y S2 => oP (fun k S => P (.bl k) S) S2 (cmpD C op S2 x y)) E) E := by
  rw [evE, W_bind]
  congr 1; funext x S1
  rw [W_bind]
  congr 1; funext y S2
  rw [W_bind, W_liftP]
  rfl
theorem W_and : (evE C cf (.and a b) ρ S).W P E = (evE C cf a ρ S).W (fun x S1 => oP (fun k S2 => if k then (evE C cf b ρ S2).W P E else P x S2) S1 (truD C S1 x)) E := by
  rw [evE, W_bind]
  congr 1; funext x S1
  rw [W_bind, W_liftP]
  congr 1; funext k S2
  cases k <;> rfl
theorem W_or : (evE C cf (.or a b) ρ S).W P E = (evE C cf a ρ S).W (fun x S1 => oP (fun k S2 => if k then P x S2 else (evE C cf b ρ S2).W P E) S1 (truD C S1 x)) E := by
  rw [evE, W_bind]
  congr 1; funext x S1
  rw [W_bind, W_liftP]
  congr 1; funext k S2
  cases k <;> rfl
theorem W_not : (evE C cf (.not a) ρ S).W P E = (evE C cf a ρ S).W (fun x S1 => oP (fun k S2 => P (.bl (!k)) S2) S1 (truD C S1 x)) E := by
  rw [evE, W_bind]
  congr 1; funext x S1
  rw [W_bind, W_liftP]
  rfl
theorem W_ife : (evE C cf (.ife c a b) ρ S).W P E = (evB C cf c ρ S).W (fun k S1 => if k then (evE C cf a ρ S1).W P E else (evE C cf b ρ S1).W P E) E := by
  rw [evE, WB_any, W_bind]
  congr 1; funext x S1
  rw [W_bind, W_liftP]
  unfold tP
  cases truD C S1 x with
  | none => rfl
  | some k => cases k <;> rfl
theorem W_tup : (evE C cf (.tup es) ρ S).W P E = (evL C cf es ρ S).W (fun ds S1 => if ds.length ≤ sizeLine then P (.tup ds) S1 else False) E := by
  rw [evE, W_bind]
  congr 1; funext x S1
  split <;> rfl
theorem W_lst : (evE C cf (.lst es) ρ S).W P E = (evL C cf es ρ S).W (fun ds S1 => if ds.length ≤ sizeLine then P (.ref S1.length) (S1 ++ [.lst ds]) else False) E := by
  rw [evE, W_bind]
  congr 1; funext x S1
  split <;> rfl
theorem W_dct : (evE C cf .dct ρ S).W P E = P (.ref S.length) (S ++ [.dct []]) := by rw [evE]; rfl
theorem W_callE {f : Nat} : (evE C cf (.call f es) ρ S).W P E = (evL C cf es ρ S).W (fun ds S1 => (cf f ds S1).W P E) E := by rw [evE, W_bind]
theorem W_blt {t : Bt} : (evE C cf (.blt t es) ρ S).W P E = (evL C cf es ρ S).W (fun ds S1 => uP P (bltD C t S1 ds)) E := by
  rw [evE, W_bind]
  congr 1; funext x S1
  rw [W_upP]
theorem W_mth {m : Mt} {o : Ex} : (evE C cf (.mth m o es) ρ S).W P E = (evE C cf o ρ S).W (fun x S1 => if tyD S1 x = some m.ty then (evL C cf es ρ S1).W (fun ds S2 => uP P (mthD C m S2 x ds)) E else False) E := by
  rw [evE, W_bind]
  congr 1; funext x S1
  split
  · rw [W_bind]
    congr 1; funext y S2
    rw [W_upP]
  · rfl
theorem W_fld {f : Str} {o : Ex} : (evE C cf (.fld f o) ρ S).W P E = (evE C cf o ρ S).W (fun x S1 => oP P S1 (fldD S1 f x)) E := by
  rw [evE, W_bind]
  congr 1; funext x S1
  rw [W_liftP]
theorem W_idx : (evE C cf (.idx a b) ρ S).W P E = (evE C cf a ρ S).W (fun x S1 => (evE C cf b ρ S1).W (fun y S2 => oP P S2 (ixD C S2 x y)) E) E := by
  rw [evE, W_bind]
  congr 1; funext x S1
  rw [W_bind]
  congr 1; funext y S2
  rw [W_liftP]
theorem W_slc {lo hi : Exo} : (evE C cf (.slc a lo hi) ρ S).W P E = (evE C cf a ρ S).W (fun x S1 => (evO C cf lo ρ S1).W (fun l S2 => (evO C cf hi ρ S2).W (fun h S3 => uP P (slcD S3 l h x)) E) E) E := by
  rw [evE, W_bind]
  congr 1; funext x S1
  rw [W_bind]
  congr 1; funext y S2
  rw [W_bind]
  congr 1; funext z S3
  rw [W_upP]
theorem W_Ono {Po : Option Int → Sto → Prop} : (evO C cf .no ρ S).W Po E = Po none S := by rw [evO]; rfl
def iP (Po : Option Int → Sto → Prop) : D → Sto → Prop
  | .int i, S => Po (some i) S
  | _, _ => False
theorem iP_int {Po : Option Int → Sto → Prop} {i : Int} : iP Po (.int i) S = Po (some i) S := id rfl
theorem W_Oso {Po : Option Int → Sto → Prop} : (evO C cf (.so a) ρ S).W Po E = (evE C cf a ρ S).W (iP Po) E := by
  rw [evO, W_bind]
  congr 1; funext x S1
  cases x <;> rfl
theorem W_Lnil : (evL C cf .nil ρ S).W Pl E = Pl [] S := by rw [evL]; rfl
theorem W_Lcons {e : Ex} : (evL C cf (.cons e es) ρ S).W Pl E = (evE C cf e ρ S).W (fun d S1 => (evL C cf es ρ S1).W (fun ds S2 => Pl (d :: ds) S2) E) E := by
  rw [evL, W_bind]
  congr 1; funext x S1
  rw [W_bind]
  rfl
theorem W_heard : (evE C cf (.heard a) ρ S).W P E = (evE C cf a ρ S).W (fun d S => P (.tup [.str C.told, d]) S) fun c w S => P (.tup [.str (C.wd c), w]) S := by rw [evE, W_heardR]
theorem W_tells {f : Nat} {w : Str} : (evE C cf (.tells f w a b) ρ S).W P E = (evE C cf b ρ S).W (fun y S1 => (evE C cf a ρ S1).W (fun d S2 => (cf f [.tup [.str C.told, d], .tup [.str w, y]] S2).W P E) fun c x S2 => (cf f [.tup [.str (C.wd c), x], .tup [.str w, y]] S2).W P E) E := by
  rw [evE, W_bind]
  congr 1; funext x S1
  rw [W_bind, W_heardR]
theorem W_refuses {f : Nat} : (evE C cf (.refuses f a b c) ρ S).W P E = (evE C cf b ρ S).W (fun y S1 => (evE C cf c ρ S1).W (fun z S2 => (evE C cf a ρ S2).W (fun d S3 => (cf f [.tup [.str C.told, d], .tup [y, z]] S3).W P E) fun k x S3 => (cf f [.tup [.str (C.wd k), x], .tup [y, z]] S3).W P E) E) E := by
  rw [evE, W_bind]
  congr 1; funext x S1
  rw [W_bind]
  congr 1; funext z S2
  rw [W_bind, W_heardR]
/-! statements -/
variable {nx bk ct : Rho → Sto → Prop} {rt : D → Sto → Prop}
theorem W_asg {i : Nat} : (evS C cf (.asg (.name i) a) ρ S).W nx rt bk ct E = (evE C cf a ρ S).W (fun d S1 => if i < ρ.length then nx (ρ.set i (some d)) S1 else False) E := by
  rw [evS, W_toFr]
  congr 1; funext d S1
  rw [W_toFr, W_noex, evT]
  split <;> rfl
theorem W_expr : (evS C cf (.expr a) ρ S).W nx rt bk ct E = (evE C cf a ρ S).W (fun _ S1 => nx ρ S1) E := by
  rw [evS, W_toFr]
  rfl
theorem W_raise {k : Nat} : (evS C cf (.raise k a) ρ S).W nx rt bk ct E = (evE C cf a ρ S).W (fun d S1 => E k d S1) E := by
  rw [evS, W_toFr]
  rfl
theorem W_par {i j : Nat} : (evS C cf (.par i j a b) ρ S).W nx rt bk ct E = (evE C cf a ρ S).W (fun x S1 => (evE C cf b ρ S1).W (fun y S2 => nx ((ρ.set i (some x)).set j (some y)) S2) E) E := by
  rw [evS, W_toFr]
  congr 1; funext d S1
  rw [W_toFr]
  rfl
end
theorem WB_isiP {C : Cf} {cf : Nat → List D → Sto → Rs D} {ρ : Rho} {S : Sto} {a : Ex} {P : Bool → Sto → Prop} {E : Nat → D → Sto → Prop} {t : String} : (evB C cf (.blt (.isi t) (.cons a .nil)) ρ S).W P E = (evE C cf a ρ S).W (fun x S1 => oP (fun u S2 => P (isiT u t) S2) S1 (tyD S1 x)) E := by
  rw [WB_isi]
  congr 1; funext x S1
  cases tyD S1 x <;> rfl
theorem WB_cmpP {C : Cf} {cf : Nat → List D → Sto → Rs D} {ρ : Rho} {S : Sto} {a b : Ex} {P : Bool → Sto → Prop} {E : Nat → D → Sto → Prop} {op : CmpOp} : (evB C cf (.cmp op a b) ρ S).W P E = (evE C cf a ρ S).W (fun x S1 => (evE C cf b ρ S1).W (fun y S2 => oP P S2 (cmpD C op S2 x y)) E) E := by
  rw [WB_cmp]
  congr 1; funext x S1
  congr 1; funext y S2
  cases cmpD C op S2 x y <;> rfl
/-! ### targets, loops -/
section
variable {C : Cf} {cf : Nat → List D → Sto → Rs D} {ρ : Rho} {S : Sto} {a b c e : Ex} {es : Exs} {P : D → Sto → Prop} {E : Nat → D → Sto → Prop} {Q : Rho → Sto → Prop} {nx bk ct : Rho → Sto → Prop} {rt : D → Sto → Prop} {t : Tg} {ts : Tgs} {d : D} {ds : List D} {Pi : Iv → Sto → Prop}
abbrev noX : Nat → D → Sto → Prop := fun _ _ _ => False
theorem W_asgT : (evS C cf (.asg t a) ρ S).W nx rt bk ct E = (evE C cf a ρ S).W (fun d S1 => (evT C cf t d ρ S1).W nx noX) E := by
  rw [evS, W_toFr]
  congr 1; funext d S1
  rw [W_toFr, W_noex]
  cases evT C cf t d ρ S1 <;> rfl
theorem W_Tname {i : Nat} : (evT C cf (.name i) d ρ S).W Q E = if i < ρ.length then Q (ρ.set i (some d)) S else False := by
  rw [evT]
  split <;> rfl
theorem W_Ttup : (evT C cf (.tup ts) (.tup ds) ρ S).W Q E = (evTs C cf ts ds ρ S).W Q E := by rw [evT]
theorem W_Tsnil : (evTs C cf .nil [] ρ S).W Q E = Q ρ S := by rw [evTs]; rfl
theorem W_Tscons : (evTs C cf (.cons t ts) (d :: ds) ρ S).W Q E = (evT C cf t d ρ S).W (fun ρ' S1 => (evTs C cf ts ds ρ' S1).W Q E) E := by rw [evTs]; rw [W_bind]
def sP (Q : Sto → Prop) : Option Sto → Prop
  | some S => Q S
  | none => False
theorem W_Tsub {o i : Ex} : (evT C cf (.sub o i) d ρ S).W Q E = (evE C cf o ρ S).W (fun x S1 => (evE C cf i ρ S1).W (fun y S2 => sP (fun S3 => Q ρ S3) (setD S2 x y d)) E) E := by
  rw [evT, W_bind]
  congr 1; funext x S1
  rw [W_bind]
  congr 1; funext y S2
  rw [W_bind, W_liftP]
  cases setD S2 x y d <;> rfl
theorem W_Tfld {f : Str} {o : Ex} : (evT C cf (.fld f o) d ρ S).W Q E = (evE C cf o ρ S).W (fun x S1 => sP (fun S2 => Q ρ S2) (setA S1 f d x)) E := by
  rw [evT, W_bind]
  congr 1; funext x S1
  rw [W_bind, W_liftP]
  cases setA S1 f d x <;> rfl
theorem W_for {it : Itx} {b : List Sm} : (evS C cf (.for_ t it b) ρ S).W nx rt bk ct E = (evI C cf it ρ S).W (fun iv S1 => (forK C iv (fun d ρ' S2 => (noex (evT C cf t d ρ' S2)).toFr ρ' fun ρ2 S3 => evSs C cf b ρ2 S3) (iv.many C S1) 0 ρ S1).W nx rt bk ct E) E := by rw [evS, W_toFr]
/-- one turn -/
theorem W_turn {b : List Sm} : ((noex (evT C cf t d ρ S)).toFr ρ fun ρ2 S3 => evSs C cf b ρ2 S3).W nx rt bk ct E = (evT C cf t d ρ S).W (fun ρ2 S3 => (evSs C cf b ρ2 S3).W nx rt bk ct E) noX := by
  rw [W_toFr, W_noex]
theorem W_while {b : List Sm} : (evS C cf (.while_ c b) ρ S).W nx rt bk ct E = (whileK (evB C cf c) (fun ρ' S' => evSs C cf b ρ' S') C.wf ρ S).W nx rt bk ct E := by rw [evS]
abbrev turnC (C : Cf) (cf : Nat → List D → Sto → Rs D) (own : List Nat) (tg : Tg) (ifs : Exs) (elt : Ex) (ρ : Rho) (d : D) (S2 : Sto) : Rs (Option D) := noex ((evT C cf tg d (wipeR ρ own) S2).bind fun ρ' S3 => (evIf C cf ifs ρ' S3).bind fun k S4 => if k then (evE C cf elt ρ' S4).bind fun e S5 => .ok (some e) S5 else .ok none S4)
theorem W_comp {own : List Nat} {tg : Tg} {it : Itx} {ifs : Exs} {elt : Ex} : (evE C cf (.comp own tg it ifs elt) ρ S).W P E = (evI C cf it ρ S).W (fun iv S1 => (compK C iv S1.length (turnC C cf own tg ifs elt ρ) (iv.many C S1) 0 (S1 ++ [.lst []])).W P E) E := by rw [evE, W_bind]
theorem W_turnC {own : List Nat} {tg : Tg} {ifs : Exs} {elt : Ex} {Pt : Option D → Sto → Prop} : (turnC C cf own tg ifs elt ρ d S).W Pt E = (evT C cf tg d (wipeR ρ own) S).W (fun ρ' S3 => (evIf C cf ifs ρ' S3).W (fun k S4 => if k then (evE C cf elt ρ' S4).W (fun e S5 => Pt (some e) S5) noX else Pt none S4) noX) noX := by
  rw [W_noex, W_bind]
  congr 1; funext ρ' S3
  rw [W_bind]
  congr 1; funext k S4
  cases k
  · rfl
  · show ((evE C cf elt ρ' S4).bind _).W Pt _ = _
    rw [W_bind]
    rfl
theorem W_Ifnil {Pb : Bool → Sto → Prop} : (evIf C cf .nil ρ S).W Pb E = Pb true S := by rw [evIf]; rfl
theorem W_Ifcons {Pb : Bool → Sto → Prop} : (evIf C cf (.cons e es) ρ S).W Pb E = (evB C cf e ρ S).W (fun k S2 => if k then (evIf C cf es ρ S2).W Pb E else Pb false S2) E := by
  rw [evIf, WB_any, W_bind]
  congr 1; funext x S1
  rw [W_bind, W_liftP]
  unfold tP
  cases truD C S1 x with
  | none => rfl
  | some k => cases k <;> rfl
theorem W_Iseq : (evI C cf (.seq e) ρ S).W Pi E = (evE C cf e ρ S).W (fun d S1 => oP Pi S1 (seqI S1 d)) E := by
  rw [evI, W_bind]
  congr 1; funext x S1
  rw [W_liftP]
theorem W_Ienum : (evI C cf (.enum e) ρ S).W Pi E = (evE C cf e ρ S).W (fun d S1 => oP Pi S1 (enumI S1 d)) E := by
  rw [evI, W_bind]
  congr 1; funext x S1
  rw [W_liftP]
def rP (Pi : Iv → Sto → Prop) : D → Sto → Prop
  | .int j, S => oP Pi S (rngI 0 j)
  | _, _ => False
theorem rP_int {j : Int} : rP Pi (.int j) S = oP Pi S (rngI 0 j) := id rfl
theorem W_Irng : (evI C cf (.rng e) ρ S).W Pi E = (evE C cf e ρ S).W (rP Pi) E := by
  rw [evI, W_bind]
  congr 1; funext x S1
  cases x <;> first | rfl | (rename_i j; rw [W_liftP]; rfl)
theorem h_seqT : oP Pi S (seqI S (.tup ds)) = Pi (.tup ds) S := id rfl
theorem h_enumT : oP Pi S (enumI S (.tup ds)) = Pi (.enumT ds) S := id rfl
theorem h_seqL {n : Nat} (h : S[n]? = some (.lst ds)) : oP Pi S (seqI S (.ref n)) = Pi (.lst n) S := by simp [seqI, h, oP]
theorem h_rng {j : Int} (h0 : 0 ≤ j) (h1 : j ≤ 4000000000) : oP Pi S (rngI 0 j) = Pi (.rng 0 j.toNat) S := by
  unfold rngI
  rw [if_pos (by omega)]
  show Pi (.rng 0 (j - 0).toNat) S = _
  rw [Int.sub_zero]
end
/-- a value whose kind isinstance tells -/
def okD (S : Sto) : D → Prop
  | .ref n => ∃ ds, S[n]? = some (.lst ds)
  | _ => True
def kd : D → String
  | .non => "NoneType"
  | .bl _ => "bool"
  | .int _ => "int"
  | .str _ => "str"
  | .tup _ => "tuple"
  | .scr => "list"
  | .ref _ => "list"
theorem tyD_kd {S : Sto} {d : D} (h : okD S d) : tyD S d = some (kd d) := by
  cases d with
  | ref n => obtain ⟨ds, h⟩ := h; simp [tyD, h, kd]
  | _ => rfl
theorem isi_eq {C : Cf} {S : Sto} {d : D} {t : String} (h : okD S d) : bltD C (.isi t) S [d] = some (.bl (isiT (kd d) t), S) := by simp [bltD, tyD_kd h]
theorem okD.kp {S S' : Sto} {d : D} (h : okD S d) (k : Kp [] S S') : okD S' d := by
  cases d with
  | ref n => obtain ⟨ds, h⟩ := h; exact ⟨ds, k.at_ h (by simp)⟩
  | _ => trivial
/-! ### steps that are told outright -/
section
variable {C : Cf} {S : Sto} {i j : Int} {k : Bool} {ds es : List D} {d : D} {x y : Str} {n : Nat}
theorem t_bl : truD C S (.bl k) = some k := id rfl
theorem t_int : truD C S (.int i) = some (i != 0) := id rfl
theorem t_non : truD C S .non = some false := id rfl
theorem t_tup : truD C S (.tup ds) = some (!ds.isEmpty) := id rfl
theorem c_le : cmpD C .LtE S (.int i) (.int j) = some (decide (i ≤ j)) := id rfl
theorem c_lt : cmpD C .Lt S (.int i) (.int j) = some (decide (i < j)) := id rfl
theorem c_gt : cmpD C .Gt S (.int i) (.int j) = some (decide (j < i)) := id rfl
theorem c_ge : cmpD C .GtE S (.int i) (.int j) = some (decide (j ≤ i)) := id rfl
def nonD : D → Bool
  | .non => true
  | _ => false
theorem c_isn : cmpD C .Is S d .non = some (nonD d) := by cases d <;> rfl
theorem c_isnn : cmpD C .IsNot S d .non = some (!nonD d) := by cases d <;> rfl
theorem c_isb {a b : Bool} : cmpD C .Is S (.bl a) (.bl b) = some (a == b) := id rfl
theorem e_int : eqD C S (.int i) (.int j) = some (decide (i = j)) := by
  simp [eqD, pyD, SeqAt.shaped, PyData.eqv, PyData.canLay0, PyData.depth]
  rfl
theorem e_str (hx : PyData.strOk x = true) (hy : PyData.strOk y = true) : eqD C S (.str x) (.str y) = some (decide (x = y)) := by
  simp [eqD, pyD, SeqAt.shaped, PyData.eqv, PyData.canLay0, PyData.depth, hx, hy]
  rfl
theorem c_eqi : cmpD C .Eq S (.int i) (.int j) = some (decide (i = j)) := e_int
theorem c_nei : cmpD C .NotEq S (.int i) (.int j) = some (!decide (i = j)) := by
  show (eqD C S (.int i) (.int j)).map (!·) = _
  rw [e_int]
  rfl
theorem c_eqs (hx : PyData.strOk x = true) (hy : PyData.strOk y = true) : cmpD C .Eq S (.str x) (.str y) = some (decide (x = y)) := e_str hx hy
theorem b_lenT : bltD C .len S [.tup ds] = some (.int ds.length, S) := id rfl
theorem b_lenL (h : S[n]? = some (.lst ds)) : bltD C .len S [.ref n] = some (.int ds.length, S) := by simp [bltD, h]
theorem b_int : bltD C .int S [.int i] = some (.int i, S) := id rfl
theorem b_intb : bltD C .int S [.bl k] = some (.int (if k then 1 else 0), S) := id rfl
theorem b_abs : bltD C .abs S [.int i] = some (.int (if i < 0 then -i else i), S) := id rfl
theorem b_max : bltD C .max S [.int i, .int j] = some (.int (if j > i then j else i), S) := id rfl
theorem b_tupL (h : S[n]? = some (.lst ds)) : bltD C .tuple S [.ref n] = some (.tup ds, S) := by simp [bltD, seqD, h]
theorem b_tupT : bltD C .tuple S [.tup ds] = some (.tup ds, S) := id rfl
theorem b_gcd : bltD C .gcd S [.int i, .int j] = some (.int (Nat.gcd i.natAbs j.natAbs : Nat), S) := id rfl
theorem o_add : binD .Add S (.int i) (.int j) = some (.int (i + j), S) := id rfl
theorem o_sub : binD .Sub S (.int i) (.int j) = some (.int (i - j), S) := id rfl
theorem o_mod (h : 0 < j) : binD .Mod S (.int i) (.int j) = some (.int (i % j), S) := if_pos h
theorem o_div (h : 0 < j) (hb : bits j < 8000) : binD .FloorDiv S (.int i) (.int j) = some (.int (i / j), S) := if_pos ⟨h, hb⟩
theorem o_mul (h : bits i < 60 ∨ bits j < 60 ∨ bits i + bits j < 999999) : binD .Mult S (.int i) (.int j) = some (.int (i * j), S) := if_pos h
theorem o_addT (h : ds.length + es.length ≤ sizeLine) : binD .Add S (.tup ds) (.tup es) = some (.tup (ds ++ es), S) := if_pos h
theorem x_tup : ixD C S (.tup ds) (.int i) = atI ds i := id rfl
theorem x_lst (h : S[n]? = some (.lst ds)) : ixD C S (.ref n) (.int i) = atI ds i := by simp [ixD, idxD, seqD, h]
end
/-! ### primitive steps at the head -/
section
variable {S S' : Sto} {C : Cf} {i j : Int} {k : Bool} {x y : Str} {ds es : List D} {n : Nat} {d : D} {P : D → Sto → Prop} {Pb : Bool → Sto → Prop} {Ps : String → Sto → Prop} {r : List (Option D)} {o : Option D} {m : Nat}
theorem v0 : vP P S ((some d :: r)[0]?) = P d S := id rfl
theorem v1 : vP P S ((o :: r)[m + 1]?) = vP P S (r[m]?) := id rfl
theorem h_ty (ok : okD S d) : oP Ps S' (tyD S d) = Ps (kd d) S' := by rw [tyD_kd ok]; rfl
theorem h_tn : oP Ps S' (tyD S .non) = Ps "NoneType" S' := id rfl
theorem h_tb : oP Ps S' (tyD S (.bl k)) = Ps "bool" S' := id rfl
theorem h_ti : oP Ps S' (tyD S (.int i)) = Ps "int" S' := id rfl
theorem h_ts : oP Ps S' (tyD S (.str x)) = Ps "str" S' := id rfl
theorem h_tscr : oP Ps S' (tyD S .scr) = Ps "list" S' := id rfl
theorem h_tref (h : S[n]? = some (.lst ds)) : oP Ps S' (tyD S (.ref n)) = Ps "list" S' := by rw [tyD_kd (d := .ref n) ⟨ds, h⟩]; rfl
theorem h_tt : oP Ps S' (tyD S (.tup ds)) = Ps "tuple" S' := id rfl
theorem h_bl : oP Pb S' (truD C S (.bl k)) = Pb k S' := id rfl
theorem h_le : oP Pb S' (cmpD C .LtE S (.int i) (.int j)) = Pb (decide (i ≤ j)) S' := id rfl
theorem h_lt : oP Pb S' (cmpD C .Lt S (.int i) (.int j)) = Pb (decide (i < j)) S' := id rfl
theorem h_gt : oP Pb S' (cmpD C .Gt S (.int i) (.int j)) = Pb (decide (j < i)) S' := id rfl
theorem h_ge : oP Pb S' (cmpD C .GtE S (.int i) (.int j)) = Pb (decide (j ≤ i)) S' := id rfl
theorem h_isn : oP Pb S' (cmpD C .Is S d .non) = Pb (nonD d) S' := by rw [c_isn]; rfl
theorem h_isnn : oP Pb S' (cmpD C .IsNot S d .non) = Pb (!nonD d) S' := by rw [c_isnn]; rfl
theorem h_eqi : oP Pb S' (cmpD C .Eq S (.int i) (.int j)) = Pb (decide (i = j)) S' := by rw [c_eqi]; rfl
theorem h_nei : oP Pb S' (cmpD C .NotEq S (.int i) (.int j)) = Pb (!decide (i = j)) S' := by rw [c_nei]; rfl
theorem h_neiS : oP Pb S' (cmpD C .NotEq S (.int i) (.int i)) = Pb false S' := by
  rw [h_nei]
  congr 1
  rw [decide_eq_true rfl]
  rfl
theorem h_lenT : uP P (bltD C .len S (.tup ds :: [])) = P (.int ds.length) S := id rfl
theorem h_add : uP P (binD .Add S (.int i) (.int j)) = P (.int (i + j)) S := id rfl
theorem h_sub : uP P (binD .Sub S (.int i) (.int j)) = P (.int (i - j)) S := id rfl
theorem h_int : uP P (bltD C .int S (.int i :: [])) = P (.int i) S := id rfl
theorem h_intb : uP P (bltD C .int S (.bl k :: [])) = P (.int (if k then 1 else 0)) S := id rfl
theorem h_x : oP P S' (ixD C S (.tup ds) (.int i)) = oP P S' (L2.atI ds i) := id rfl
theorem atI_nat {ds : List D} {i : Nat} {x : D} (h : ds[i]? = some x) : L2.atI ds (i : Int) = some x := by
  have hl := (List.getElem?_eq_some_iff.mp h).1
  unfold L2.atI L2.ixN
  rw [if_pos (by omega), if_pos (by omega)]
  simpa using h
theorem h_xn {i : Nat} {x : D} (h : ds[i]? = some x) : oP P S' (ixD C S (.tup ds) (.int (i : Int))) = P x S' := by
  rw [h_x, atI_nat h]
  rfl
theorem h_x0 {a : D} {r : List D} : oP P S' (ixD C S (.tup (a :: r)) (.int 0)) = P a S' := h_xn (i := 0) rfl
theorem h_x1 {a b : D} {r : List D} : oP P S' (ixD C S (.tup (a :: b :: r)) (.int 1)) = P b S' := h_xn (i := 1) rfl
theorem h_x2 {a b c : D} {r : List D} : oP P S' (ixD C S (.tup (a :: b :: c :: r)) (.int 2)) = P c S' := h_xn (i := 2) rfl
theorem h_x3 {a b c e : D} {r : List D} : oP P S' (ixD C S (.tup (a :: b :: c :: e :: r)) (.int 3)) = P e S' := h_xn (i := 3) rfl
theorem k_NoneType_bool : isiT "NoneType" "bool" = false := by decide
theorem k_NoneType_int : isiT "NoneType" "int" = false := by decide
theorem k_NoneType_str : isiT "NoneType" "str" = false := by decide
theorem k_NoneType_tuple : isiT "NoneType" "tuple" = false := by decide
theorem k_NoneType_list : isiT "NoneType" "list" = false := by decide
theorem k_NoneType_dict : isiT "NoneType" "dict" = false := by decide
theorem k_bool_bool : isiT "bool" "bool" = true := by decide
theorem k_bool_int : isiT "bool" "int" = true := by decide
theorem k_bool_str : isiT "bool" "str" = false := by decide
theorem k_bool_tuple : isiT "bool" "tuple" = false := by decide
theorem k_bool_list : isiT "bool" "list" = false := by decide
theorem k_bool_dict : isiT "bool" "dict" = false := by decide
theorem k_int_bool : isiT "int" "bool" = false := by decide
theorem k_int_int : isiT "int" "int" = true := by decide
theorem k_int_str : isiT "int" "str" = false := by decide
theorem k_int_tuple : isiT "int" "tuple" = false := by decide
theorem k_int_list : isiT "int" "list" = false := by decide
theorem k_int_dict : isiT "int" "dict" = false := by decide
theorem k_str_bool : isiT "str" "bool" = false := by decide
theorem k_str_int : isiT "str" "int" = false := by decide
theorem k_str_str : isiT "str" "str" = true := by decide
theorem k_str_tuple : isiT "str" "tuple" = false := by decide
theorem k_str_list : isiT "str" "list" = false := by decide
theorem k_str_dict : isiT "str" "dict" = false := by decide
theorem k_tuple_bool : isiT "tuple" "bool" = false := by decide
theorem k_tuple_int : isiT "tuple" "int" = false := by decide
theorem k_tuple_str : isiT "tuple" "str" = false := by decide
theorem k_tuple_tuple : isiT "tuple" "tuple" = true := by decide
theorem k_tuple_list : isiT "tuple" "list" = false := by decide
theorem k_tuple_dict : isiT "tuple" "dict" = false := by decide
theorem k_list_bool : isiT "list" "bool" = false := by decide
theorem k_list_int : isiT "list" "int" = false := by decide
theorem k_list_str : isiT "list" "str" = false := by decide
theorem k_list_tuple : isiT "list" "tuple" = false := by decide
theorem k_list_list : isiT "list" "list" = true := by decide
theorem k_list_dict : isiT "list" "dict" = false := by decide
theorem k_dict_bool : isiT "dict" "bool" = false := by decide
theorem k_dict_int : isiT "dict" "int" = false := by decide
theorem k_dict_str : isiT "dict" "str" = false := by decide
theorem k_dict_tuple : isiT "dict" "tuple" = false := by decide
theorem k_dict_list : isiT "dict" "list" = false := by decide
theorem k_dict_dict : isiT "dict" "dict" = true := by decide
theorem n_non : nonD (.non) = true := id rfl
theorem n_int : nonD (.int i) = false := id rfl
theorem n_bl : nonD (.bl k) = false := id rfl
theorem n_tup : nonD (.tup ds) = false := id rfl
theorem n_str : nonD (.str x) = false := id rfl
theorem n_ref : nonD (.ref n) = false := id rfl
theorem h_pow6 : uP P (binD .Pow S (.int 10) (.int 6)) = P (.int 1000000) S := id rfl
theorem h_pow12 : uP P (binD .Pow S (.int 10) (.int 12)) = P (.int 1000000000000) S := id rfl
theorem h_pow15 : uP P (binD .Pow S (.int 10) (.int 15)) = P (.int 1000000000000000) S := id rfl
theorem h_pow18 : uP P (binD .Pow S (.int 10) (.int 18)) = P (.int 1000000000000000000) S := id rfl
theorem h_isb {a b : Bool} : oP Pb S' (cmpD C .Is S (.bl a) (.bl b)) = Pb (a == b) S' := id rfl
theorem h_isiS {t : String} : uP P (bltD C (.isi t) S (.str x :: [])) = P (.bl (isiT "str" t)) S := id rfl
theorem h_isiT {t : String} : uP P (bltD C (.isi t) S (.tup ds :: [])) = P (.bl (isiT "tuple" t)) S := id rfl
theorem h_isiI {t : String} : uP P (bltD C (.isi t) S (.int i :: [])) = P (.bl (isiT "int" t)) S := id rfl
theorem h_isiB {t : String} : uP P (bltD C (.isi t) S (.bl k :: [])) = P (.bl (isiT "bool" t)) S := id rfl
theorem h_isiN {t : String} : uP P (bltD C (.isi t) S (.non :: [])) = P (.bl (isiT "NoneType" t)) S := id rfl
theorem h_eqs (hx : PyData.strOk x = true) (hy : PyData.strOk y = true) : oP Pb S' (cmpD C .Eq S (.str x) (.str y)) = Pb (decide (x = y)) S' := by rw [c_eqs hx hy]; rfl
theorem WB_var {cf : Nat → List D → Sto → Rs D} {ρ : Rho} {E : Nat → D → Sto → Prop} {v : Nat} : (evB C cf (.var v) ρ S).W Pb E = vP (tP C Pb) S ρ[v]? := by rw [WB_any, W_var]
theorem h_if {p q : Prop} : (if true = true then p else q) = p := if_pos rfl
theorem h_if2 {p q : Prop} : (if false = true then p else q) = q := if_neg (by decide)
end
end MP
namespace HB
open PySem MP
structure CfOk (C : Cf) : Prop where
  p0 : C.P 0 = some ⟨3, 3, ir0⟩
  p1 : C.P 1 = some ⟨2, 4, ir1⟩
  p2 : C.P 2 = some ⟨2, 4, ir2⟩
  p3 : C.P 3 = some ⟨1, 1, ir3⟩
  p4 : C.P 4 = some ⟨1, 1, ir4⟩
  p5 : C.P 5 = some ⟨1, 1, ir5⟩
  p6 : C.P 6 = some ⟨1, 7, ir6⟩
  p7 : C.P 7 = some ⟨2, 2, ir7⟩
  p8 : C.P 8 = some ⟨2, 4, ir8⟩
  p9 : C.P 9 = some ⟨3, 10, ir9⟩
  p10 : C.P 10 = some ⟨2, 3, ir10⟩
  p11 : C.P 11 = some ⟨1, 7, ir11⟩
  p12 : C.P 12 = some ⟨1, 4, ir12⟩
  p13 : C.P 13 = some ⟨1, 1, ir13⟩
  p14 : C.P 14 = some ⟨2, 5, ir14⟩
  p15 : C.P 15 = some ⟨2, 3, ir15⟩
  p16 : C.P 16 = some ⟨2, 2, ir16⟩
  p17 : C.P 17 = some ⟨3, 3, ir17⟩
  p18 : C.P 18 = some ⟨2, 4, ir18⟩
  p19 : C.P 19 = some ⟨2, 4, ir19⟩
  p20 : C.P 20 = some ⟨2, 2, ir20⟩
  p21 : C.P 21 = some ⟨1, 5, ir21⟩
  p22 : C.P 22 = some ⟨1, 3, ir22⟩
  p23 : C.P 23 = some ⟨1, 6, ir23⟩
  p24 : C.P 24 = some ⟨3, 9, ir24⟩
  p25 : C.P 25 = some ⟨2, 2, ir25⟩
  p26 : C.P 26 = some ⟨2, 2, ir26⟩
  p27 : C.P 27 = some ⟨2, 4, ir27⟩
  p28 : C.P 28 = some ⟨2, 5, ir28⟩
  p29 : C.P 29 = some ⟨2, 4, ir29⟩
  p30 : C.P 30 = some ⟨3, 5, ir30⟩
  p31 : C.P 31 = some ⟨1, 2, ir31⟩
  p32 : C.P 32 = some ⟨2, 4, ir32⟩
  p33 : C.P 33 = some ⟨1, 3, ir33⟩
  p34 : C.P 34 = some ⟨1, 1, ir34⟩
  p35 : C.P 35 = some ⟨2, 3, ir35⟩
  p40 : C.P 40 = some ⟨1, 2, ir40⟩
  p41 : C.P 41 = some ⟨2, 8, ir41⟩
  p42 : C.P 42 = some ⟨1, 8, ir42⟩
  p43 : C.P 43 = some ⟨2, 11, ir43⟩
  p44 : C.P 44 = some ⟨2, 6, ir44⟩
  p45 : C.P 45 = some ⟨3, 5, ir45⟩
  p46 : C.P 46 = some ⟨2, 3, ir46⟩
  p47 : C.P 47 = some ⟨1, 6, ir47⟩
  p48 : C.P 48 = some ⟨1, 4, ir48⟩
  p49 : C.P 49 = some ⟨1, 1, ir49⟩
  p50 : C.P 50 = some ⟨2, 4, ir50⟩
  p51 : C.P 51 = some ⟨2, 4, ir51⟩
  p52 : C.P 52 = some ⟨2, 3, ir52⟩
  p53 : C.P 53 = some ⟨2, 6, ir53⟩
  p54 : C.P 54 = some ⟨3, 3, ir54⟩
  p55 : C.P 55 = some ⟨1, 1, ir55⟩
  p56 : C.P 56 = some ⟨2, 5, ir56⟩
  p57 : C.P 57 = some ⟨2, 4, ir57⟩
  p58 : C.P 58 = some ⟨1, 1, ir58⟩
  told : C.told = "told"
  mt : ∀ m, C.mt 0 m = mths.lookup m
  ini : C.ini 0 = some 49
  wd : C.wd 15 = "BadPrices" ∧ C.wd 16 = "BadCourse" ∧ C.wd 20 = "NothingToUndo" ∧ C.wd 42 = "BadBills" ∧ C.wd 43 = "BadWho" ∧ C.wd 44 = "BadAmount" ∧ C.wd 51 = "TooMany"
  wf : ∀ k : Nat, k < 2 ^ 100000 → k < C.wf
end HB
end MWc
section MWd
set_option Elab.async false
set_option linter.all false
set_option maxRecDepth 100000
set_option maxHeartbeats 2000000
/-! MWd: kinds and bills. -/
namespace HB
open PySem MP L2
local macro_rules | `(tactic| walk_at "mp") => `(tactic| simp only [↓W_seq, ↓W_nil, ↓W_if, ↓W_ret, ↓W_asg, ↓W_asgT, ↓W_Tname, ↓W_Ttup, ↓W_Tsnil, ↓W_Tscons, ↓W_Tsub, ↓W_Tfld, ↓W_Iseq, ↓W_Ienum, ↓W_Irng, ↓rP_int, ↓h_seqT, ↓h_enumT, ↓h_pow6, ↓h_pow12, ↓h_pow15, ↓W_expr, ↓W_raise, ↓W_par, ↓WB_or, ↓WB_and, ↓WB_not, ↓WB_cmpP, ↓WB_isiP, ↓WB_call, ↓WB_var, ↓h_isb, ↓h_isiS, ↓h_isiT, ↓h_isiI, ↓h_isiB, ↓h_isiN, ↓W_var, ↓W_cst, ↓W_bin, ↓W_neg, ↓W_cmp, ↓W_and, ↓W_or, ↓W_not, ↓W_ife, ↓W_tup, ↓W_lst, ↓W_dct, ↓W_callE, ↓W_blt, ↓W_mth, ↓W_fld, ↓W_idx, ↓W_slc, ↓W_Ono, ↓W_Oso, ↓W_Lnil, ↓W_Lcons, ↓W_heard, ↓W_tells, ↓W_refuses,
  ↓reduceIte, List.getElem?_cons_zero, List.getElem?_cons_succ, List.map_cons, List.map_nil, List.cons_append, List.nil_append, List.append_nil, Nat.sub_self, List.replicate_zero, List.replicate_succ, List.set_cons_zero, List.set_cons_succ, if_true, if_false, Bool.false_eq_true, Bool.not_true, Bool.not_false, ↓v0, ↓v1, ↓h_tn, ↓h_tb, ↓h_ti, ↓h_ts, ↓h_tt, ↓h_tscr, ↓h_bl, ↓h_le, ↓h_lt, ↓h_gt, ↓h_ge, ↓h_isn, ↓h_isnn, ↓h_eqi, ↓h_nei, ↓h_lenT, ↓h_add, ↓h_sub, ↓h_int, ↓h_intb, ↓h_x0, ↓h_x1, ↓h_x2, ↓h_x3, ↓h_if, ↓h_if2, ↓nP_int, ↓iP_int, ↓tP_bl, List.length_cons, List.length_nil, Nat.zero_add, Nat.reduceAdd, Nat.reduceLT, vP_some, oP_some, uP_some, k_NoneType_bool, k_NoneType_int, k_NoneType_str, k_NoneType_tuple, k_NoneType_list, k_NoneType_dict, k_bool_bool, k_bool_int, k_bool_str, k_bool_tuple, k_bool_list, k_bool_dict, k_int_bool, k_int_int, k_int_str, k_int_tuple, k_int_list, k_int_dict, k_str_bool, k_str_int, k_str_str, k_str_tuple, k_str_list, k_str_dict, k_tuple_bool, k_tuple_int, k_tuple_str, k_tuple_tuple, k_tuple_list, k_tuple_dict, k_list_bool, k_list_int, k_list_str, k_list_tuple, k_list_list, k_list_dict, k_dict_bool, k_dict_int, k_dict_str, k_dict_tuple, k_dict_list, k_dict_dict, n_non, n_int, n_bl, n_tup, n_str, n_ref])
local macro_rules | `(tactic| walk_at "mp0") => `(tactic| simp only [↓W_seq, ↓W_nil, ↓W_if, ↓W_ret, ↓W_asg, ↓W_asgT, ↓W_Tname, ↓W_Ttup, ↓W_Tsnil, ↓W_Tscons, ↓W_Tsub, ↓W_Tfld, ↓W_Iseq, ↓W_Ienum, ↓W_Irng, ↓rP_int, ↓h_seqT, ↓h_enumT, ↓h_pow6, ↓h_pow12, ↓h_pow15, ↓W_expr, ↓W_raise, ↓W_par, ↓WB_or, ↓WB_and, ↓WB_not, ↓WB_cmpP, ↓WB_isiP, ↓WB_call, ↓WB_var, ↓h_isb, ↓h_isiS, ↓h_isiT, ↓h_isiI, ↓h_isiB, ↓h_isiN, ↓W_var, ↓W_cst, ↓W_bin, ↓W_neg, ↓W_cmp, ↓W_and, ↓W_or, ↓W_not, ↓W_ife, ↓W_tup, ↓W_lst, ↓W_dct, ↓W_callE, ↓W_blt, ↓W_mth, ↓W_fld, ↓W_idx, ↓W_slc, ↓W_Ono, ↓W_Oso, ↓W_Lnil, ↓W_Lcons, ↓W_heard, ↓W_tells, ↓W_refuses,
  ↓reduceIte, List.getElem?_cons_zero, List.getElem?_cons_succ, List.map_cons, List.map_nil, List.cons_append, List.nil_append, List.append_nil, Nat.sub_self, List.replicate_zero, List.replicate_succ, List.set_cons_zero, List.set_cons_succ, if_true, if_false, Bool.false_eq_true, Bool.not_true, Bool.not_false, ↓v0, ↓v1, ↓h_tn, ↓h_tb, ↓h_ti, ↓h_ts, ↓h_tt, ↓h_tscr, ↓h_bl, ↓h_le, ↓h_lt, ↓h_gt, ↓h_ge, ↓h_isn, ↓h_isnn, ↓h_eqi, ↓h_neiS, ↓h_lenT, ↓h_add, ↓h_sub, ↓h_int, ↓h_intb, ↓h_x0, ↓h_x1, ↓h_x2, ↓h_x3, ↓h_if, ↓h_if2, ↓nP_int, ↓iP_int, ↓tP_bl, List.length_cons, List.length_nil, Nat.zero_add, Nat.reduceAdd, Nat.reduceLT, vP_some, oP_some, uP_some, k_NoneType_bool, k_NoneType_int, k_NoneType_str, k_NoneType_tuple, k_NoneType_list, k_NoneType_dict, k_bool_bool, k_bool_int, k_bool_str, k_bool_tuple, k_bool_list, k_bool_dict, k_int_bool, k_int_int, k_int_str, k_int_tuple, k_int_list, k_int_dict, k_str_bool, k_str_int, k_str_str, k_str_tuple, k_str_list, k_str_dict, k_tuple_bool, k_tuple_int, k_tuple_str, k_tuple_tuple, k_tuple_list, k_tuple_dict, k_list_bool, k_list_int, k_list_str, k_list_tuple, k_list_list, k_list_dict, k_dict_bool, k_dict_int, k_dict_str, k_dict_tuple, k_dict_list, k_dict_dict, n_non, n_int, n_bl, n_tup, n_str, n_ref])
def isWh (d : D) (lo hi : Int) : Bool := match d with
  | .int i => decide (lo ≤ i) && decide (i ≤ hi)
  | _ => false
section
variable {C : Cf} {S : Sto} {n : Nat} {P : D → Sto → Prop} {E : Nat → D → Sto → Prop}
theorem is_whole_W (h : CfOk C) {d : D} {lo hi : Int} (hn : 1 ≤ n) (ok : okD S d) : (callF C n 0 [d, .int lo, .int hi] S).W P E = P (.bl (isWh d lo hi)) S := by
  obtain ⟨m, rfl⟩ : ∃ m, n = m + 1 := ⟨n - 1, by omega⟩
  rw [W_call h.p0 rfl (by decide), ir0]
  cases d with
  | int i =>
    walk_at "mp"
    by_cases hlo : lo ≤ i <;> simp [isWh, hlo]
  | ref r =>
    obtain ⟨ds, e⟩ := ok
    walk_at "mp"
    simp [isWh, h_tref e, isiT]
  | _ =>
    walk_at "mp"
    simp [isWh]
theorem is_who_W (h : CfOk C) {d : D} (hn : 2 ≤ n) (ok : okD S d) : (callF C n 4 [d] S).W P E = P (.bl (isWh d 0 99)) S := by
  obtain ⟨m, rfl⟩ : ∃ m, n = m + 1 := ⟨n - 1, by omega⟩
  rw [W_call h.p4 rfl (by decide), ir4]
  walk_at "mp"
  rw [is_whole_W h (by omega) ok]
theorem law_is_whole_W (h : CfOk C) {d : D} (hn : 1 ≤ n) (ok : okD S d) : (callF C n 34 [d] S).W P E = P (.bl (isiT (MP.kd d) "int" && !isiT (MP.kd d) "bool")) S := by
  obtain ⟨m, rfl⟩ : ∃ m, n = m + 1 := ⟨n - 1, by omega⟩
  rw [W_call h.p34 rfl (by decide), ir34]
  walk_at "mp"
  simp only [isi_eq ok, uP_some, h_bl, oP_some]
  cases isiT (MP.kd d) "int" <;> simp [h_bl]
theorem law_is_number_W (h : CfOk C) {d : D} {lo hi : Int} (hn : 2 ≤ n) (ok : okD S d) : (callF C n 17 [d, .int lo, .int hi] S).W P E = P (.bl (isWh d lo hi)) S := by
  obtain ⟨m, rfl⟩ : ∃ m, n = m + 1 := ⟨n - 1, by omega⟩
  rw [W_call h.p17 rfl (by decide), ir17]
  walk_at "mp"
  rw [law_is_whole_W h (by omega) ok]
  cases d with
  | int i => by_cases hlo : lo ≤ i <;> simp [isWh, hlo, MP.kd, isiT, h_bl, h_le]
  | _ => simp [isWh, MP.kd, isiT, h_bl]
/-- a bill as the program and the law would have it -/
def isBl (d : D) : Bool := match d with
  | .tup [a, b, c, e] => isWh a 0 99 && (isWh b 0 29 && (isWh c (-1000000000000000) 1000000000000000 && isWh e 1 1000000))
  | _ => false
def okB (S : Sto) (d : D) : Prop := match d with
  | .tup ds => ∀ x ∈ ds, okD S x
  | d => okD S d
theorem isBl_len {ds : List D} (h : ds.length ≠ 4) : isBl (.tup ds) = false := by
  match ds with
  | [] => rfl
  | [_] => rfl
  | [_, _] => rfl
  | [_, _, _] => rfl
  | [_, _, _, _] => exact absurd rfl h
  | _ :: _ :: _ :: _ :: _ :: _ => rfl
theorem len_of {ds : List D} (h : ds.length = 4) : ∃ a b c e, ds = [a, b, c, e] := by
  match ds, h with
  | [a, b, c, e], _ => exact ⟨a, b, c, e, rfl⟩
theorem is_bill_W (h : CfOk C) {d : D} (hn : 3 ≤ n) (ok : okB S d) : (callF C n 5 [d] S).W P E = P (.bl (isBl d)) S := by
  obtain ⟨m, rfl⟩ : ∃ m, n = m + 1 := ⟨n - 1, by omega⟩
  rw [W_call h.p5 rfl (by decide), ir5]
  cases d with
  | tup ds =>
    by_cases hl : ds.length = 4
    · obtain ⟨a, b, c, e, rfl⟩ := len_of hl
      have oa : okD S a := ok a (by simp)
      have ob : okD S b := ok b (by simp)
      have oc : okD S c := ok c (by simp)
      have oe : okD S e := ok e (by simp)
      walk_at "mp"
      rw [if_neg (by decide), is_who_W h (by omega) oa, tP_bl, is_whole_W h (by omega) ob, tP_bl, is_whole_W h (by omega) oc, h_bl, is_whole_W h (by omega) oe]
      simp only [isBl]
      cases isWh a 0 99 <;> cases isWh b 0 29 <;> cases isWh c (-1000000000000000) 1000000000000000 <;> simp
    · walk_at "mp"
      rw [isBl_len hl, if_pos (by simp; omega)]
  | ref r =>
    obtain ⟨ds, e⟩ := ok
    walk_at "mp"
    simp [isBl, h_tref e, isiT]
  | _ =>
    walk_at "mp"
    simp [isBl]
theorem law_is_bill_W (h : CfOk C) {d : D} (hn : 3 ≤ n) (ok : okB S d) : (callF C n 21 [d] S).W P E = P (.bl (isBl d)) S := by
  obtain ⟨m, rfl⟩ : ∃ m, n = m + 1 := ⟨n - 1, by omega⟩
  rw [W_call h.p21 rfl (by decide), ir21]
  cases d with
  | tup ds =>
    by_cases hl : ds.length = 4
    · obtain ⟨a, b, c, e, rfl⟩ := len_of hl
      have oa : okD S a := ok a (by simp)
      have ob : okD S b := ok b (by simp)
      have oc : okD S c := ok c (by simp)
      have oe : okD S e := ok e (by simp)
      walk_at "mp"
      rw [if_neg (by decide), law_is_number_W h (by omega) oa, tP_bl, law_is_number_W h (by omega) ob, tP_bl, law_is_number_W h (by omega) oe, tP_bl, law_is_number_W h (by omega) oc]
      simp only [isBl]
      cases isWh a 0 99 <;> cases isWh b 0 29 <;> cases isWh e 1 1000000 <;> simp
    · walk_at "mp"
      rw [isBl_len hl, if_pos (by simp; omega)]
  | ref r =>
    obtain ⟨ds, e⟩ := ok
    walk_at "mp"
    simp [isBl, h_tref e, isiT]
  | _ =>
    walk_at "mp"
    simp [isBl]
/-! ### sameness -/
/-- what is compared: no list within, texts in order, not too deep -/
inductive Pl : Nat → D → Prop
  | non {k : Nat} : Pl (k + 1) .non
  | bl {k : Nat} {b : Bool} : Pl (k + 1) (.bl b)
  | int {k : Nat} {i : Int} : Pl (k + 1) (.int i)
  | str {k : Nat} {x : Str} (h : PyData.strOk x = true) : Pl (k + 1) (.str x)
  | tup {k : Nat} {ds : List D} (h : ∀ x ∈ ds, Pl k x) (l : ds.length ≤ 1000000) : Pl (k + 1) (.tup ds)
theorem rng_at {C : Cf} {S : Sto} {i m : Nat} : (Iv.rng 0 m).at C S i = some (((List.range m).map fun (j : Nat) => D.int j)[i]?) := by
  simp only [Iv.at, List.getElem?_map]
  by_cases hi : i < m
  · rw [if_pos hi, List.getElem?_range hi]
    simp
  · rw [if_neg hi, List.getElem?_eq_none (by simp; omega)]
    rfl
theorem rng_len {m : Nat} : ((List.range m).map fun (j : Nat) => D.int j).length = m := by simp
theorem same_W (h : CfOk C) : ∀ (k : Nat) {n : Nat} {d : D} {S : Sto} {P : D → Sto → Prop} {E : Nat → D → Sto → Prop}, Pl k d → k + 2 ≤ n → P (.bl true) S → (callF C n 35 [d, d] S).W P E := by
  intro k
  induction k with
  | zero => intro n d S P E hp; cases hp
  | succ k ih =>
    intro n d S P E hp hn q
    obtain ⟨m, rfl⟩ : ∃ m, n = m + 1 := ⟨n - 1, by omega⟩
    rw [W_call h.p35 rfl (by decide), ir35]
    cases hp with
    | non =>
      walk_at "mp"
      exact q
    | @bl _ b =>
      walk_at "mp"
      cases b <;> exact q
    | @int _ i =>
      walk_at "mp"
      rw [law_is_whole_W h (by omega) (show okD S (.int i) from trivial)]
      simp [MP.kd, isiT, h_bl, h_eqi, q]
    | str hx =>
      walk_at "mp"
      rw [h_eqs hx hx]
      simpa using q
    | @tup _ ds hx1 hl =>
      walk_at "mp0"
      rw [W_for, W_Irng]
      walk_at "mp0"
      rw [h_rng (by omega) (by omega)]
      refine W_forK (xs := (List.range ds.length).map fun (j : Nat) => D.int j) (fun i ρ S' => (∃ o, ρ = [some (.tup ds), some (.tup ds), o]) ∧ S' = S) (fun i ρ S' _ => ?_) (fun i ρ S' x hI hx => ?_) (fun ρ S' hI => ?_) _ 0 _ _ ⟨⟨none, rfl⟩, rfl⟩ (Nat.zero_le _) ?_
      · rw [Int.toNat_natCast]
        exact rng_at
      · obtain ⟨⟨o, rfl⟩, rfl⟩ := hI
        rw [W_turn]
        rw [List.getElem?_map, Option.map_eq_some_iff] at hx
        obtain ⟨j, hj, rfl⟩ := hx
        have hlt : i < ds.length := by
          have := (List.getElem?_eq_some_iff.mp hj).1
          simpa using this
        rw [List.getElem?_range hlt] at hj
        cases hj
        have hx := List.getElem?_eq_getElem hlt
        walk_at "mp"
        rw [h_xn hx, h_xn hx]
        refine ih (hx1 _ (List.getElem_mem hlt)) (by omega) ?_
        simp [tP_bl]
      · rw [hI.2]
        exact q
      · simp [Iv.many]
end
end HB
end MWd
section MWe
set_option Elab.async false
set_option linter.all false
set_option maxRecDepth 100000
set_option maxHeartbeats 2000000
namespace HB
open PySem MP L2
local macro_rules | `(tactic| walk_at "mp") => `(tactic| simp only [↓W_seq, ↓W_nil, ↓W_if, ↓W_ret, ↓W_asg, ↓W_asgT, ↓W_Tname, ↓W_Ttup, ↓W_Tsnil, ↓W_Tscons, ↓W_Tsub, ↓W_Tfld, ↓W_Iseq, ↓W_Ienum, ↓W_Irng, ↓rP_int, ↓h_seqT, ↓h_enumT, ↓h_pow6, ↓h_pow12, ↓h_pow15, ↓W_expr, ↓W_raise, ↓W_par, ↓WB_or, ↓WB_and, ↓WB_not, ↓WB_cmpP, ↓WB_isiP, ↓WB_call, ↓WB_var, ↓h_isb, ↓h_isiS, ↓h_isiT, ↓h_isiI, ↓h_isiB, ↓h_isiN, ↓W_var, ↓W_cst, ↓W_bin, ↓W_neg, ↓W_cmp, ↓W_and, ↓W_or, ↓W_not, ↓W_ife, ↓W_tup, ↓W_lst, ↓W_dct, ↓W_callE, ↓W_blt, ↓W_mth, ↓W_fld, ↓W_idx, ↓W_slc, ↓W_Ono, ↓W_Oso, ↓W_Lnil, ↓W_Lcons, ↓W_heard, ↓W_tells, ↓W_refuses,
  ↓reduceIte, List.getElem?_cons_zero, List.getElem?_cons_succ, List.map_cons, List.map_nil, List.cons_append, List.nil_append, List.append_nil, Nat.sub_self, List.replicate_zero, List.replicate_succ, List.set_cons_zero, List.set_cons_succ, if_true, if_false, Bool.false_eq_true, Bool.not_true, Bool.not_false, ↓v0, ↓v1, ↓h_tn, ↓h_tb, ↓h_ti, ↓h_ts, ↓h_tt, ↓h_tscr, ↓h_bl, ↓h_le, ↓h_lt, ↓h_gt, ↓h_ge, ↓h_isn, ↓h_isnn, ↓h_eqi, ↓h_nei, ↓h_lenT, ↓h_add, ↓h_sub, ↓h_int, ↓h_intb, ↓h_x0, ↓h_x1, ↓h_x2, ↓h_x3, ↓h_if, ↓h_if2, ↓nP_int, ↓iP_int, ↓tP_bl, List.length_cons, List.length_nil, Nat.zero_add, Nat.reduceAdd, Nat.reduceLT, vP_some, oP_some, uP_some, k_NoneType_bool, k_NoneType_int, k_NoneType_str, k_NoneType_tuple, k_NoneType_list, k_NoneType_dict, k_bool_bool, k_bool_int, k_bool_str, k_bool_tuple, k_bool_list, k_bool_dict, k_int_bool, k_int_int, k_int_str, k_int_tuple, k_int_list, k_int_dict, k_str_bool, k_str_int, k_str_str, k_str_tuple, k_str_list, k_str_dict, k_tuple_bool, k_tuple_int, k_tuple_str, k_tuple_tuple, k_tuple_list, k_tuple_dict, k_list_bool, k_list_int, k_list_str, k_list_tuple, k_list_list, k_list_dict, k_dict_bool, k_dict_int, k_dict_str, k_dict_tuple, k_dict_list, k_dict_dict, n_non, n_int, n_bl, n_tup, n_str, n_ref])
section
variable {C : Cf} {S S' : Sto} {n j : Nat} {P : D → Sto → Prop} {E : Nat → D → Sto → Prop}
def JarAt (S : Sto) (j : Nat) : Prop := ∃ a b : Int, S[j]? = some (.lst [.int a, .int b]) ∧ 0 ≤ a ∧ 0 ≤ b ∧ b < 2147483647
theorem JarAt.kp {J : List Nat} (h : JarAt S j) (k : Kp J S S') (n : j ∉ J) : JarAt S' j := by
  obtain ⟨a, b, e, r⟩ := h
  exact ⟨a, b, k.at_ e n, r⟩
theorem h_xL0 {a b : D} (h : S[j]? = some (.lst [a, b])) : oP P S' (ixD C S (.ref j) (.int 0)) = P a S' := by rw [x_lst h]; rfl
theorem h_xL1 {a b : D} (h : S[j]? = some (.lst [a, b])) : oP P S' (ixD C S (.ref j) (.int 1)) = P b S' := by rw [x_lst h]; rfl
theorem h_mod {x y : Int} (h : 0 < y) : uP P (binD .Mod S (.int x) (.int y)) = P (.int (x % y)) S := by rw [o_mod h]; rfl
theorem h_div {x y : Int} (h : 0 < y) (hb : bits y < 8000) : uP P (binD .FloorDiv S (.int x) (.int y)) = P (.int (x / y)) S := by rw [o_div h hb]; rfl
theorem h_mul {x y : Int} (h : bits x < 60 ∨ bits y < 60 ∨ bits x + bits y < 999999) : uP P (binD .Mult S (.int x) (.int y)) = P (.int (x * y)) S := by rw [o_mul h]; rfl
theorem bits_lt {x : Int} {k : Nat} (hk : 0 < k) (h : x.natAbs < 2 ^ k) : bits x < k := by
  unfold bits
  by_cases hx : x.natAbs = 0
  · rw [hx]; simpa using hk
  · exact (Nat.log2_lt hx).mpr h
theorem h_set0 {a b v : D} {Q : Sto → Prop} (h : S[j]? = some (.lst [a, b])) : sP Q (setD S (.ref j) (.int 0) v) = Q (S.set j (.lst [v, b])) := by
  simp only [setD, h]
  rfl
theorem h_set1 {a b v : D} {Q : Sto → Prop} (h : S[j]? = some (.lst [a, b])) : sP Q (setD S (.ref j) (.int 1) v) = Q (S.set j (.lst [a, v])) := by
  simp only [setD, h]
  rfl
theorem at_set {o o' : O} (h : S[j]? = some o) : (S.set j o')[j]? = some o' := by
  rw [List.getElem?_set_self (List.getElem?_eq_some_iff.mp h).1]
theorem h_lenL {ds : List D} {r : Nat} (h : S[r]? = some (.lst ds)) : uP P (bltD C .len S (.ref r :: [])) = P (.int ds.length) S := by rw [b_lenL h]; rfl
theorem h_xLn {ds : List D} {r i : Nat} {x : D} (h : S[r]? = some (.lst ds)) (hx : ds[i]? = some x) : oP P S' (ixD C S (.ref r) (.int (i : Int))) = P x S' := by rw [x_lst h, MP.atI_nat hx]; rfl
theorem take_W (h : CfOk C) {top : Int} (hn : 1 ≤ n) (hj : JarAt S j) (h0 : 0 < top) (h1 : top ≤ 1000000000000) (q : ∀ i S', 0 ≤ i → i < top → JarAt S' j → Kp [j] S S' → P (.int i) S') : (callF C n 15 [.ref j, .int top] S).W P E := by
  obtain ⟨m, rfl⟩ : ∃ m, n = m + 1 := ⟨n - 1, by omega⟩
  rw [W_call h.p15 rfl (by decide), ir15]
  obtain ⟨a, b, e, a0, b0, b1⟩ := hj
  walk_at "mp"
  rw [h_xL0 e, h_gt]
  have tb : bits top < 60 := bits_lt (by omega) (by omega)
  by_cases hp : 0 < a
  · rw [decide_eq_true hp]
    simp only [if_true]
    rw [h_xL0 e, h_int, h_mod h0, h_xL0 e, h_div h0 (by omega), h_set0 e]
    exact q _ _ (Int.emod_nonneg _ (by omega)) (Int.emod_lt_of_pos _ h0) ⟨a / top, b, at_set e, Int.ediv_nonneg a0 (by omega), b0, b1⟩ (Kp.set (by simp))
  · rw [decide_eq_false hp]
    simp only [Bool.false_eq_true, if_false]
    have b2 : bits b < 60 := bits_lt (by omega) (by omega)
    rw [h_xL1 e, h_mul (.inl b2), h_add, h_int, h_mod (by omega), h_set1 e]
    have e' := at_set (o' := .lst [.int a, .int ((b * 39373 + 7) % 2147483647)]) e
    have c0 : 0 ≤ (b * 39373 + 7) % 2147483647 := Int.emod_nonneg _ (by omega)
    have c1 : (b * 39373 + 7) % 2147483647 < 2147483647 := Int.emod_lt_of_pos _ (by omega)
    have b3 : bits ((b * 39373 + 7) % 2147483647) < 60 := bits_lt (by omega) (by omega)
    rw [h_xL1 e', h_xL1 e', h_mul (.inl b3), h_int, h_mod (by omega), h_div (by omega) (by decide), h_int, h_mod h0]
    exact q _ _ (Int.emod_nonneg _ (by omega)) (Int.emod_lt_of_pos _ h0) ⟨a, _, e', a0, c0, c1⟩ (Kp.set (by simp))
/-- what is drawn from a row -/
theorem one_W (h : CfOk C) {ds : List D} {r : Nat} (hn : 2 ≤ n) (hj : JarAt S j) (hr : S[r]? = some (.lst ds)) (hrj : r ≠ j) (h0 : 0 < ds.length) (h1 : ds.length ≤ 1000000) (q : ∀ d S', d ∈ ds → JarAt S' j → Kp [j] S S' → P d S') : (callF C n 16 [.ref j, .ref r] S).W P E := by
  obtain ⟨m, rfl⟩ : ∃ m, n = m + 1 := ⟨n - 1, by omega⟩
  rw [W_call h.p16 rfl (by decide), ir16]
  walk_at "mp"
  rw [h_lenL hr]
  refine take_W h (by omega) hj (by omega) (by omega) fun i S' i0 i1 j' k => ?_
  have hr' := k.at_ hr (by simp [hrj])
  obtain ⟨x, rfl⟩ := Int.eq_ofNat_of_zero_le i0
  have hlt : x < ds.length := by omega
  rw [h_xLn hr' (List.getElem?_eq_getElem hlt)]
  exact q _ _ (List.getElem_mem hlt) j' k
end
end HB
end MWe
section MWf
set_option Elab.async false
set_option linter.all false
set_option maxRecDepth 100000
set_option maxHeartbeats 2000000
namespace HB
open PySem MP L2
local macro_rules | `(tactic| walk_at "mp") => `(tactic| simp only [↓W_seq, ↓W_nil, ↓W_if, ↓W_ret, ↓W_asg, ↓W_asgT, ↓W_Tname, ↓W_Ttup, ↓W_Tsnil, ↓W_Tscons, ↓W_Tsub, ↓W_Tfld, ↓W_Iseq, ↓W_Ienum, ↓W_Irng, ↓rP_int, ↓h_seqT, ↓h_enumT, ↓h_pow6, ↓h_pow12, ↓h_pow15, ↓W_expr, ↓W_raise, ↓W_par, ↓WB_or, ↓WB_and, ↓WB_not, ↓WB_cmpP, ↓WB_isiP, ↓WB_call, ↓WB_var, ↓h_isb, ↓h_isiS, ↓h_isiT, ↓h_isiI, ↓h_isiB, ↓h_isiN, ↓W_var, ↓W_cst, ↓W_bin, ↓W_neg, ↓W_cmp, ↓W_and, ↓W_or, ↓W_not, ↓W_ife, ↓W_tup, ↓W_lst, ↓W_dct, ↓W_callE, ↓W_blt, ↓W_mth, ↓W_fld, ↓W_idx, ↓W_slc, ↓W_Ono, ↓W_Oso, ↓W_Lnil, ↓W_Lcons, ↓W_heard, ↓W_tells, ↓W_refuses,
  ↓reduceIte, List.getElem?_cons_zero, List.getElem?_cons_succ, List.map_cons, List.map_nil, List.cons_append, List.nil_append, List.append_nil, Nat.sub_self, List.replicate_zero, List.replicate_succ, List.set_cons_zero, List.set_cons_succ, if_true, if_false, Bool.false_eq_true, Bool.not_true, Bool.not_false, ↓v0, ↓v1, ↓h_tn, ↓h_tb, ↓h_ti, ↓h_ts, ↓h_tt, ↓h_tscr, ↓h_bl, ↓h_le, ↓h_lt, ↓h_gt, ↓h_ge, ↓h_isn, ↓h_isnn, ↓h_eqi, ↓h_nei, ↓h_lenT, ↓h_add, ↓h_sub, ↓h_int, ↓h_intb, ↓h_x0, ↓h_x1, ↓h_x2, ↓h_x3, ↓h_if, ↓h_if2, ↓nP_int, ↓iP_int, ↓tP_bl, List.length_cons, List.length_nil, Nat.zero_add, Nat.reduceAdd, Nat.reduceLT, vP_some, oP_some, uP_some, k_NoneType_bool, k_NoneType_int, k_NoneType_str, k_NoneType_tuple, k_NoneType_list, k_NoneType_dict, k_bool_bool, k_bool_int, k_bool_str, k_bool_tuple, k_bool_list, k_bool_dict, k_int_bool, k_int_int, k_int_str, k_int_tuple, k_int_list, k_int_dict, k_str_bool, k_str_int, k_str_str, k_str_tuple, k_str_list, k_str_dict, k_tuple_bool, k_tuple_int, k_tuple_str, k_tuple_tuple, k_tuple_list, k_tuple_dict, k_list_bool, k_list_int, k_list_str, k_list_tuple, k_list_list, k_list_dict, k_dict_bool, k_dict_int, k_dict_str, k_dict_tuple, k_dict_list, k_dict_dict, n_non, n_int, n_bl, n_tup, n_str, n_ref])
section
variable {C : Cf} {S S' : Sto} {n j : Nat} {P : D → Sto → Prop} {E : Nat → D → Sto → Prop}
/-- a good bill -/
def GB (d : D) : Prop := ∃ w x nu sc : Int, d = .tup [.int w, .int x, .int nu, .int sc] ∧ 0 ≤ w ∧ w ≤ 99 ∧ 0 ≤ x ∧ x ≤ 29 ∧ -1000000000000000 ≤ nu ∧ nu ≤ 1000000000000000 ∧ 1 ≤ sc ∧ sc ≤ 1000000
/-- what is drawn from a row that is just made -/
theorem oneL_W (h : CfOk C) {ds : List D} (hn : 2 ≤ n) (hj : JarAt S j) (h0 : 0 < ds.length) (h1 : ds.length ≤ 1000000) (q : ∀ d S', d ∈ ds → JarAt S' j → Kp [j] S S' → P d S') : (callF C n 16 [.ref j, .ref S.length] (S ++ [.lst ds])).W P E := by
  have ka := Kp.app S [.lst ds]
  have hlt : j < S.length := by obtain ⟨a, b, e, _⟩ := hj; exact (List.getElem?_eq_some_iff.mp e).1
  exact one_W h hn (hj.kp ka (by simp)) (new_at S _) (by omega) h0 h1 fun d S' m j' k => q d S' m j' (ka.to.trans k)
theorem drawn_bill_W (h : CfOk C) (hn : 3 ≤ n) (hj : JarAt S j) (q : ∀ d S', GB d → JarAt S' j → Kp [j] S S' → P d S') : (callF C n 31 [.ref j] S).W P E := by
  obtain ⟨m, rfl⟩ : ∃ m, n = m + 1 := ⟨n - 1, by omega⟩
  rw [W_call h.p31 rfl (by decide), ir31]
  walk_at "mp"
  refine take_W h (by omega) hj (by omega) (by omega) fun i1 S1 a1 b1 j1 k1 => ?_
  refine take_W h (by omega) j1 (by omega) (by omega) fun i2 S2 a2 b2 j2 k2 => ?_
  walk_at "mp"
  rw [if_pos (by decide)]
  refine oneL_W h (by omega) j2 (by simp) (by simp) fun d3 S3 m3 j3 k3 => ?_
  rw [if_pos (by decide)]
  refine oneL_W h (by omega) j3 (by simp) (by simp) fun d4 S4 m4 j4 k4 => ?_
  refine take_W h (by omega) j4 (by omega) (by omega) fun i5 S5 a5 b5 j5 k5 => ?_
  refine take_W h (by omega) j5 (by omega) (by omega) fun i6 S6 a6 b6 j6 k6 => ?_
  walk_at "mp"
  rw [if_pos (by decide)]
  refine oneL_W h (by omega) j6 (by simp) (by simp) fun d7 S7 m7 j7 k7 => ?_
  rw [if_pos (by decide)]
  refine q _ _ ?_ j7 (k1.trans (k2.trans (k3.trans (k4.trans (k5.trans (k6.trans k7))))))
  obtain ⟨x3, rfl, l3, u3⟩ : ∃ x : Int, d3 = .int x ∧ -1000000000000000 ≤ x ∧ x ≤ 1000000000000000 := by
    simp only [List.mem_cons, List.not_mem_nil, or_false] at m3
    rcases m3 with rfl | rfl | rfl | rfl | rfl | rfl | rfl | rfl <;> exact ⟨_, rfl, by omega, by omega⟩
  obtain ⟨x4, rfl, l4, u4⟩ : ∃ x : Int, d4 = .int x ∧ 0 ≤ x ∧ x ≤ 99 := by
    simp only [List.mem_cons, List.not_mem_nil, or_false] at m4
    rcases m4 with rfl | rfl | rfl | rfl | rfl <;> exact ⟨_, rfl, by omega, by omega⟩
  obtain ⟨x7, rfl, l7, u7⟩ : ∃ x : Int, d7 = .int x ∧ 1 ≤ x ∧ x ≤ 1000000 := by
    simp only [List.mem_cons, List.not_mem_nil, or_false] at m7
    rcases m7 with rfl | rfl | rfl | rfl | rfl | rfl | rfl <;> exact ⟨_, rfl, by omega, by omega⟩
  exact ⟨x4, i5, x3, x7, rfl, l4, u4, a5, by omega, l3, u3, l7, u7⟩
end
end HB
end MWf
section MWg
set_option Elab.async false
set_option linter.all false
set_option maxRecDepth 100000
set_option maxHeartbeats 2000000
namespace HB
open PySem MP L2
section
variable {C : Cf} {S S' : Sto} {n j : Nat} {P : D → Sto → Prop} {E : Nat → D → Sto → Prop}
/-- a value whose kind is told, and which is not the jar -/
def okJ (j : Nat) (S : Sto) (d : D) : Prop := okD S d ∧ d ≠ .ref j
theorem okJ.kp {d : D} (h : okJ j S d) (k : Kp [j] S S') : okJ j S' d := by
  refine ⟨?_, h.2⟩
  have h1 := h.1
  cases d with
  | ref r =>
    obtain ⟨ds, e⟩ := h1
    exact ⟨ds, k.at_ e (by simp; intro e; exact h.2 (by rw [e]))⟩
  | _ => exact h1
def okBJ (j : Nat) (S : Sto) (d : D) : Prop := match d with
  | .tup ds => ∀ x ∈ ds, okJ j S x
  | d => okJ j S d
theorem okBJ.kp {d : D} (h : okBJ j S d) (k : Kp [j] S S') : okBJ j S' d := by
  cases d with
  | tup ds => exact fun x hx => (h x hx).kp k
  | _ => exact okJ.kp h k
theorem okBJ.ok {d : D} (h : okBJ j S d) : okB S d := by
  cases d with
  | tup ds => exact fun x hx => (h x hx).1
  | _ => exact h.1
theorem h_slcT {ds : List D} {lo hi : Option Int} : uP P (slcD S lo hi (.tup ds)) = P (.tup (cutL ds lo hi)) S := id rfl
theorem h_lstT {ds : List D} : uP P (bltD C .list S (.tup ds :: [])) = P (.ref S.length) (S ++ [.lst ds]) := id rfl
end
local macro_rules | `(tactic| walk_at "mp") => `(tactic| simp only [↓W_seq, ↓W_nil, ↓W_if, ↓W_ret, ↓W_asg, ↓W_asgT, ↓W_Tname, ↓W_Ttup, ↓W_Tsnil, ↓W_Tscons, ↓W_Tsub, ↓W_Tfld, ↓W_Iseq, ↓W_Ienum, ↓W_Irng, ↓rP_int, ↓h_seqT, ↓h_enumT, ↓h_pow6, ↓h_pow12, ↓h_pow15, ↓W_expr, ↓W_raise, ↓W_par, ↓WB_or, ↓WB_and, ↓WB_not, ↓WB_cmpP, ↓WB_isiP, ↓WB_call, ↓WB_var, ↓h_isb, ↓h_isiS, ↓h_isiT, ↓h_isiI, ↓h_isiB, ↓h_isiN, ↓W_var, ↓W_cst, ↓W_bin, ↓W_neg, ↓W_cmp, ↓W_and, ↓W_or, ↓W_not, ↓W_ife, ↓W_tup, ↓W_lst, ↓W_dct, ↓W_callE, ↓W_blt, ↓W_mth, ↓W_fld, ↓W_idx, ↓W_slc, ↓W_Ono, ↓W_Oso, ↓W_Lnil, ↓W_Lcons, ↓W_heard, ↓W_tells, ↓W_refuses,
  ↓h_slcT, ↓h_lstT, ↓reduceIte, List.getElem?_cons_zero, List.getElem?_cons_succ, List.map_cons, List.map_nil, List.cons_append, List.nil_append, List.append_nil, Nat.sub_self, List.replicate_zero, List.replicate_succ, List.set_cons_zero, List.set_cons_succ, if_true, if_false, Bool.false_eq_true, Bool.not_true, Bool.not_false, ↓v0, ↓v1, ↓h_tn, ↓h_tb, ↓h_ti, ↓h_ts, ↓h_tt, ↓h_tscr, ↓h_bl, ↓h_le, ↓h_lt, ↓h_gt, ↓h_ge, ↓h_isn, ↓h_isnn, ↓h_eqi, ↓h_nei, ↓h_lenT, ↓h_add, ↓h_sub, ↓h_int, ↓h_intb, ↓h_x0, ↓h_x1, ↓h_x2, ↓h_x3, ↓h_if, ↓h_if2, ↓nP_int, ↓iP_int, ↓tP_bl, List.length_cons, List.length_nil, Nat.zero_add, Nat.reduceAdd, Nat.reduceLT, vP_some, oP_some, uP_some, k_NoneType_bool, k_NoneType_int, k_NoneType_str, k_NoneType_tuple, k_NoneType_list, k_NoneType_dict, k_bool_bool, k_bool_int, k_bool_str, k_bool_tuple, k_bool_list, k_bool_dict, k_int_bool, k_int_int, k_int_str, k_int_tuple, k_int_list, k_int_dict, k_str_bool, k_str_int, k_str_str, k_str_tuple, k_str_list, k_str_dict, k_tuple_bool, k_tuple_int, k_tuple_str, k_tuple_tuple, k_tuple_list, k_tuple_dict, k_list_bool, k_list_int, k_list_str, k_list_tuple, k_list_list, k_list_dict, k_dict_bool, k_dict_int, k_dict_str, k_dict_tuple, k_dict_list, k_dict_dict, n_non, n_int, n_bl, n_tup, n_str, n_ref])
section
variable {C : Cf} {S S' : Sto} {n j : Nat} {P : D → Sto → Prop} {E : Nat → D → Sto → Prop}
theorem cutL_len {ds : List D} {lo hi : Option Int} : (cutL ds lo hi).length ≤ ds.length := by
  unfold cutL
  rw [List.length_take, List.length_drop]
  omega
theorem cutL_mem {ds : List D} {lo hi : Option Int} {x : D} (h : x ∈ cutL ds lo hi) : x ∈ ds := List.mem_of_mem_drop (List.mem_of_mem_take h)
theorem h_addT {ds es : List D} (h : ds.length + es.length ≤ 1000000) : uP P (binD .Add S (.tup ds) (.tup es)) = P (.tup (ds ++ es)) S := by
  rw [o_addT (Nat.le_trans h (by decide))]; rfl
theorem h_mulL {r : Nat} {k : Int} {xs : List D} (h : S[r]? = some (.lst xs)) (h0 : 0 ≤ k) (h1 : k ≤ 100000) (h2 : xs.length ≤ 160) : uP P (binD .Mult S (.ref r) (.int k)) = P (.ref S.length) (S ++ [.lst (List.replicate k.toNat xs).flatten]) := by
  simp only [binD, mulD, h]
  rw [if_pos ⟨h0, h1, h2⟩]
  rfl
theorem h_addL {r t : Nat} {xs ys : List D} (h : S[r]? = some (.lst xs)) (h' : S[t]? = some (.lst ys)) (hl : xs.length + ys.length ≤ sizeLine) : uP P (binD .Add S (.ref r) (.ref t)) = P (.ref S.length) (S ++ [.lst (xs ++ ys)]) := by
  simp only [binD, addD, h, h']
  rw [if_pos hl]
  rfl
theorem JarAt.lt (h : JarAt S j) : j < S.length := by
  obtain ⟨a, b, e, _⟩ := h
  exact (List.getElem?_eq_some_iff.mp e).1
theorem bent_bill_W (h : CfOk C) (hn : 3 ≤ n) (hj : JarAt S j) {bs : List D} (hb : ∀ x ∈ bs, okJ j S x) (hl : bs.length ≤ 100) (q : ∀ d S', okBJ j S' d → JarAt S' j → Kp [j] S S' → P d S') : (callF C n 32 [.ref j, .tup bs] S).W P E := by
  obtain ⟨m, rfl⟩ : ∃ m, n = m + 1 := ⟨n - 1, by omega⟩
  rw [W_call h.p32 rfl (by decide), ir32]
  try walk_at "mp"
  refine take_W h (by omega) hj (by omega) (by omega) fun i1 S1 a1 b1 j1 k1 => ?_
  try walk_at "mp"
  rw [if_pos (by decide), if_pos (by decide)]
  refine oneL_W h (by omega) j1 (by simp) (by simp) fun d2 S2 m2 j2 k2 => ?_
  try walk_at "mp"
  have c1 : (cutL bs none (some i1)).length ≤ 100 := Nat.le_trans cutL_len hl
  have c2 : (cutL bs (some (i1 + 1)) none).length ≤ 100 := Nat.le_trans cutL_len hl
  rw [if_pos (by decide), h_addT (by simp; omega), h_addT (by simp; omega), if_pos (by decide), h_mulL (new_at _ _) (by decide) (by decide) (by simp), if_pos (by decide), h_addT (by simp; omega), if_pos (by decide), if_pos (by decide)]
  rw [h_addL (xs := (List.replicate 4 [D.tup (cutL bs none (some i1) ++ [d2] ++ cutL bs (some (i1 + 1)) none)]).flatten) (by simp) (new_at _ _) (by simp; decide)]
  refine oneL_W h (by omega) ?_ (by simp) (by simp) fun d3 S3 m3 j3 k3 => ?_
  · exact (((j2.kp (Kp.app S2 _) (by simp)).kp (Kp.app _ _) (by simp)).kp (Kp.app _ _) (by simp)).kp (Kp.app _ _) (by simp)
  have kk : Kp [j] S2 S3 := ((Kp.app S2 _).trans ((Kp.app _ _).trans ((Kp.app _ _).trans (Kp.app _ _)))).to.trans k3
  have K := k1.trans (k2.trans kk)
  refine q _ _ ?_ j3 K
  have o2 : okJ j S3 d2 := by
    simp only [List.mem_cons, List.not_mem_nil, or_false] at m2
    rcases m2 with rfl | rfl | rfl | rfl | rfl | rfl | rfl | rfl | rfl | rfl | rfl <;> exact ⟨trivial, nofun⟩
  have ob : ∀ x ∈ bs, okJ j S3 x := fun x hx => (hb x hx).kp K
  simp only [List.replicate_succ, List.replicate_zero, List.flatten_cons, List.flatten_nil, List.cons_append, List.nil_append, List.mem_cons, List.not_mem_nil, or_false] at m3
  have o1 : okBJ j S3 (.tup (cutL bs none (some i1) ++ d2 :: cutL bs (some (i1 + 1)) none)) := by
    intro x hx
    rw [List.mem_append, List.mem_cons] at hx
    rcases hx with hx | rfl | hx
    · exact ob x (cutL_mem hx)
    · exact o2
    · exact ob x (cutL_mem hx)
  have hj2 := j2.lt
  have o1' : okBJ j S3 (.tup (cutL bs none (some i1) ++ [d2] ++ cutL bs (some (i1 + 1)) none)) := by
    rw [List.append_assoc]
    exact o1
  rcases m3 with rfl | rfl | rfl | rfl | rfl | rfl | rfl | rfl | rfl
  · exact o1'
  · exact o1'
  · exact o1'
  · exact o1'
  · exact fun x hx => ob x (cutL_mem hx)
  · intro x hx
    rw [List.mem_append, List.mem_singleton] at hx
    rcases hx with hx | rfl
    · exact ob x hx
    · exact ⟨trivial, nofun⟩
  · refine ⟨⟨bs, k3.at_ ((Kp.app _ _).at_ (new_at _ _) (by simp)) (by simp; omega)⟩, fun e => ?_⟩
    have := D.ref.inj e
    simp at this
    omega
  · exact ⟨trivial, nofun⟩
  · exact nofun
end
end HB
end MWg
section MWh
set_option Elab.async false
set_option linter.all false
set_option maxRecDepth 100000
set_option maxHeartbeats 2000000
namespace HB
open PySem MP L2
local macro_rules | `(tactic| walk_at "mp") => `(tactic| simp only [↓W_seq, ↓W_nil, ↓W_if, ↓W_ret, ↓W_asg, ↓W_asgT, ↓W_Tname, ↓W_Ttup, ↓W_Tsnil, ↓W_Tscons, ↓W_Tsub, ↓W_Tfld, ↓W_Iseq, ↓W_Ienum, ↓W_Irng, ↓rP_int, ↓h_seqT, ↓h_enumT, ↓h_pow6, ↓h_pow12, ↓h_pow15, ↓W_expr, ↓W_raise, ↓W_par, ↓WB_or, ↓WB_and, ↓WB_not, ↓WB_cmpP, ↓WB_isiP, ↓WB_call, ↓WB_var, ↓h_isb, ↓h_isiS, ↓h_isiT, ↓h_isiI, ↓h_isiB, ↓h_isiN, ↓W_var, ↓W_cst, ↓W_bin, ↓W_neg, ↓W_cmp, ↓W_and, ↓W_or, ↓W_not, ↓W_ife, ↓W_tup, ↓W_lst, ↓W_dct, ↓W_callE, ↓W_blt, ↓W_mth, ↓W_fld, ↓W_idx, ↓W_slc, ↓W_Ono, ↓W_Oso, ↓W_Lnil, ↓W_Lcons, ↓W_heard, ↓W_tells, ↓W_refuses,
  ↓reduceIte, List.getElem?_cons_zero, List.getElem?_cons_succ, List.map_cons, List.map_nil, List.cons_append, List.nil_append, List.append_nil, Nat.sub_self, List.replicate_zero, List.replicate_succ, List.set_cons_zero, List.set_cons_succ, if_true, if_false, Bool.false_eq_true, Bool.not_true, Bool.not_false, ↓v0, ↓v1, ↓h_tn, ↓h_tb, ↓h_ti, ↓h_ts, ↓h_tt, ↓h_tscr, ↓h_bl, ↓h_le, ↓h_lt, ↓h_gt, ↓h_ge, ↓h_isn, ↓h_isnn, ↓h_eqi, ↓h_nei, ↓h_lenT, ↓h_add, ↓h_sub, ↓h_int, ↓h_intb, ↓h_x0, ↓h_x1, ↓h_x2, ↓h_x3, ↓h_if, ↓h_if2, ↓nP_int, ↓iP_int, ↓tP_bl, List.length_cons, List.length_nil, Nat.zero_add, Nat.reduceAdd, Nat.reduceLT, vP_some, oP_some, uP_some, k_NoneType_bool, k_NoneType_int, k_NoneType_str, k_NoneType_tuple, k_NoneType_list, k_NoneType_dict, k_bool_bool, k_bool_int, k_bool_str, k_bool_tuple, k_bool_list, k_bool_dict, k_int_bool, k_int_int, k_int_str, k_int_tuple, k_int_list, k_int_dict, k_str_bool, k_str_int, k_str_str, k_str_tuple, k_str_list, k_str_dict, k_tuple_bool, k_tuple_int, k_tuple_str, k_tuple_tuple, k_tuple_list, k_tuple_dict, k_list_bool, k_list_int, k_list_str, k_list_tuple, k_list_list, k_list_dict, k_dict_bool, k_dict_int, k_dict_str, k_dict_tuple, k_dict_list, k_dict_dict, n_non, n_int, n_bl, n_tup, n_str, n_ref])
section
variable {C : Cf} {S S' : Sto} {n j : Nat} {P : D → Sto → Prop} {E : Nat → D → Sto → Prop}
/-- None, a truth value, a number -/
def Fl (d : D) : Prop := match d with
  | .non => True
  | .bl _ => True
  | .int _ => True
  | _ => False
def sBook : D := .str "book"
def sPay : D := .str "pay"
def sUndo : D := .str "undo"
inductive Deed (j : Nat) (S : Sto) : D → Prop
  | book {d : D} (h : okBJ j S d) : Deed j S (.tup [.str "book", d])
  | pay {a b : D} (h : Fl a) (h' : Fl b) : Deed j S (.tup [.str "pay", a, b])
  | undo : Deed j S (.tup [.str "undo"])
theorem GB.bs {d : D} (h : GB d) : ∃ bs : List D, d = .tup bs ∧ bs.length = 4 ∧ ∀ j S, ∀ x ∈ bs, okJ j S x := by
  obtain ⟨w, x, nu, sc, rfl, _⟩ := h
  refine ⟨_, rfl, rfl, fun j S x hx => ?_⟩
  simp only [List.mem_cons, List.not_mem_nil, or_false] at hx
  rcases hx with rfl | rfl | rfl | rfl <;> exact ⟨trivial, nofun⟩
theorem GB.ok {d : D} (h : GB d) (j : Nat) (S : Sto) : okBJ j S d := by
  obtain ⟨bs, rfl, _, h⟩ := h.bs
  exact h j S
theorem drawn_book_W (h : CfOk C) (hn : 4 ≤ n) (hj : JarAt S j) (q : ∀ d S', Deed j S' d → JarAt S' j → Kp [j] S S' → P d S') : (callF C n 33 [.ref j] S).W P E := by
  obtain ⟨m, rfl⟩ : ∃ m, n = m + 1 := ⟨n - 1, by omega⟩
  rw [W_call h.p33 rfl (by decide), ir33]
  try walk_at "mp"
  refine take_W h (by omega) hj (by omega) (by omega) fun i1 S1 a1 b1 j1 k1 => ?_
  refine drawn_bill_W h (by omega) j1 fun d2 S2 g2 j2 k2 => ?_
  try walk_at "mp"
  have K2 := k1.trans k2
  by_cases h4 : i1 < 4
  · rw [decide_eq_true h4, if_pos rfl, if_pos (by decide)]
    exact q _ _ (.book (g2.ok _ _)) j2 K2
  rw [decide_eq_false h4, if_neg (by decide)]
  by_cases h6 : i1 < 6
  · rw [decide_eq_true h6, if_pos rfl, if_pos (by decide)]
    refine oneL_W h (by omega) j2 (by simp) (by simp) fun d3 S3 m3 j3 k3 => ?_
    refine take_W h (by omega) j3 (by omega) (by omega) fun i4 S4 a4 b4 j4 k4 => ?_
    try walk_at "mp"
    rw [if_pos (by decide)]
    refine oneL_W h (by omega) j4 (by simp) (by simp) fun d5 S5 m5 j5 k5 => ?_
    rw [if_pos (by decide)]
    refine q _ _ (.pay ?_ ?_) j5 (K2.trans (k3.trans (k4.trans k5)))
    · simp only [List.mem_cons, List.not_mem_nil, or_false] at m3
      rcases m3 with rfl | rfl | rfl | rfl <;> trivial
    · simp only [List.mem_cons, List.not_mem_nil, or_false] at m5
      rcases m5 with rfl | rfl | rfl | rfl <;> trivial
  rw [decide_eq_false h6, if_neg (by decide)]
  by_cases e6 : i1 = 6
  · rw [decide_eq_true e6, if_pos rfl, if_pos (by decide)]
    exact q _ _ .undo j2 K2
  rw [decide_eq_false e6, if_neg (by decide)]
  by_cases e7 : i1 = 7
  · rw [decide_eq_true e7, if_pos rfl]
    obtain ⟨bs, rfl, bl, bo⟩ := g2.bs
    refine bent_bill_W h (by omega) j2 (bo j S2) (by omega) fun d3 S3 o3 j3 k3 => ?_
    rw [if_pos (by decide)]
    exact q _ _ (.book o3) j3 (K2.trans k3)
  rw [decide_eq_false e7, if_neg (by decide), if_pos (by decide)]
  refine oneL_W h (by omega) j2 (by simp) (by simp) fun d3 S3 m3 j3 k3 => ?_
  rw [if_pos (by decide)]
  refine oneL_W h (by omega) j3 (by simp) (by simp) fun d5 S5 m5 j5 k5 => ?_
  rw [if_pos (by decide)]
  refine q _ _ (.pay ?_ ?_) j5 (K2.trans (k3.trans k5))
  · simp only [List.mem_cons, List.not_mem_nil, or_false] at m3
    rcases m3 with rfl | rfl | rfl | rfl | rfl <;> trivial
  · simp only [List.mem_cons, List.not_mem_nil, or_false] at m5
    rcases m5 with rfl | rfl | rfl | rfl | rfl <;> trivial
end
end HB
end MWh
section MWi
set_option Elab.async false
set_option linter.all false
set_option maxRecDepth 100000
set_option maxHeartbeats 2000000
namespace HB
open PySem MP L2
local macro_rules | `(tactic| walk_at "mp") => `(tactic| simp only [↓W_seq, ↓W_nil, ↓W_if, ↓W_ret, ↓W_asg, ↓W_asgT, ↓W_Tname, ↓W_Ttup, ↓W_Tsnil, ↓W_Tscons, ↓W_Tsub, ↓W_Tfld, ↓W_Iseq, ↓W_Ienum, ↓W_Irng, ↓rP_int, ↓h_seqT, ↓h_enumT, ↓h_pow6, ↓h_pow12, ↓h_pow15, ↓W_expr, ↓W_raise, ↓W_par, ↓WB_or, ↓WB_and, ↓WB_not, ↓WB_cmpP, ↓WB_isiP, ↓WB_call, ↓WB_var, ↓h_isb, ↓h_isiS, ↓h_isiT, ↓h_isiI, ↓h_isiB, ↓h_isiN, ↓W_var, ↓W_cst, ↓W_bin, ↓W_neg, ↓W_cmp, ↓W_and, ↓W_or, ↓W_not, ↓W_ife, ↓W_tup, ↓W_lst, ↓W_dct, ↓W_callE, ↓W_blt, ↓W_mth, ↓W_fld, ↓W_idx, ↓W_slc, ↓W_Ono, ↓W_Oso, ↓W_Lnil, ↓W_Lcons, ↓W_heard, ↓W_tells, ↓W_refuses,
  ↓reduceIte, List.getElem?_cons_zero, List.getElem?_cons_succ, List.map_cons, List.map_nil, List.cons_append, List.nil_append, List.append_nil, Nat.sub_self, List.replicate_zero, List.replicate_succ, List.set_cons_zero, List.set_cons_succ, if_true, if_false, Bool.false_eq_true, Bool.not_true, Bool.not_false, ↓v0, ↓v1, ↓h_tn, ↓h_tb, ↓h_ti, ↓h_ts, ↓h_tt, ↓h_tscr, ↓h_bl, ↓h_le, ↓h_lt, ↓h_gt, ↓h_ge, ↓h_isn, ↓h_isnn, ↓h_eqi, ↓h_nei, ↓h_lenT, ↓h_add, ↓h_sub, ↓h_int, ↓h_intb, ↓h_x0, ↓h_x1, ↓h_x2, ↓h_x3, ↓h_if, ↓h_if2, ↓nP_int, ↓iP_int, ↓tP_bl, List.length_cons, List.length_nil, Nat.zero_add, Nat.reduceAdd, Nat.reduceLT, vP_some, oP_some, uP_some, k_NoneType_bool, k_NoneType_int, k_NoneType_str, k_NoneType_tuple, k_NoneType_list, k_NoneType_dict, k_bool_bool, k_bool_int, k_bool_str, k_bool_tuple, k_bool_list, k_bool_dict, k_int_bool, k_int_int, k_int_str, k_int_tuple, k_int_list, k_int_dict, k_str_bool, k_str_int, k_str_str, k_str_tuple, k_str_list, k_str_dict, k_tuple_bool, k_tuple_int, k_tuple_str, k_tuple_tuple, k_tuple_list, k_tuple_dict, k_list_bool, k_list_int, k_list_str, k_list_tuple, k_list_list, k_list_dict, k_dict_bool, k_dict_int, k_dict_str, k_dict_tuple, k_dict_list, k_dict_dict, n_non, n_int, n_bl, n_tup, n_str, n_ref])
section
variable {C : Cf} {S S' : Sto} {n j : Nat} {P : D → Sto → Prop} {E : Nat → D → Sto → Prop}
theorem JarAt.setN {r : Nat} {o : O} (h : JarAt S j) (hr : r ≠ j) : JarAt (S.set r o) j := by
  obtain ⟨a, b, e, z⟩ := h
  exact ⟨a, b, by rw [List.getElem?_set_ne hr]; exact e, z⟩
/-- a row drawn by a comprehension over a range -/
theorem comp_jar {k : Nat} {turn : D → Sto → Rs (Option D)} (R : D → Prop) (hj : JarAt S j) (hk : k ≤ 1000000)
    (step : ∀ x S1, JarAt S1 j → (turn x S1).W (fun r S2 => ∃ e, r = some e ∧ R e ∧ JarAt S2 j ∧ Kp [j] S1 S2) E)
    (q : ∀ acc S', (∀ d ∈ acc, R d) → acc.length = k → JarAt S' j → Kp [j] S S' → S'[S.length]? = some (.lst acc) → P (.ref S.length) S') :
    (compK C (.rng 0 k) S.length turn (Iv.many C S (.rng 0 k)) 0 (S ++ [.lst []])).W P E := by
  have hlt := hj.lt
  refine W_compK (xs := (List.range k).map fun (j : Nat) => D.int j) (fun i acc S1 => JarAt S1 j ∧ Kp [j] S S1 ∧ S1[S.length]? = some (.lst acc) ∧ acc.length = i ∧ i ≤ k ∧ ∀ d ∈ acc, R d) (fun i acc S1 hI => ⟨rng_at, hI.2.2.1⟩) (fun i acc S1 x hI hx => ?_) (fun acc S1 hI => ?_) _ 0 [] _ ⟨hj.kp (Kp.app _ _) (by simp), (Kp.app _ _).to, new_at _ _, rfl, Nat.zero_le _, nofun⟩ (Nat.zero_le _) ?_
  · obtain ⟨j1, k1, e1, l1, l2, r1⟩ := hI
    have hi : i < k := by
      have := (List.getElem?_eq_some_iff.mp hx).1
      simpa using this
    refine W_mono (step x S1 j1) (fun r S2 h => ?_) fun _ _ _ h => h
    obtain ⟨e, rfl, re, j2, k2⟩ := h
    have e2 := k2.at_ e1 (by simp; omega)
    refine ⟨?_, e2, j2.setN (by omega), (k1.trans k2).setN (Nat.le_refl _), at_set e2, by simp [l1], hi, ?_⟩
    · rw [l1]
      exact Nat.lt_of_lt_of_le (Nat.lt_of_lt_of_le hi hk) (by decide)
    · intro d hd
      rw [List.mem_append, List.mem_singleton] at hd
      rcases hd with hd | rfl
      · exact r1 d hd
      · exact re
  · obtain ⟨j1, k1, e1, l1, l2, r1⟩ := hI
    exact q _ _ r1 (by rw [l1]; simp) j1 k1 e1
  · simp [Iv.many]
theorem h_tupL {r : Nat} {ds : List D} (h : S[r]? = some (.lst ds)) : uP P (bltD C .tuple S (.ref r :: [])) = P (.tup ds) S := by rw [b_tupL h]; rfl
theorem some_bills_W (h : CfOk C) (hn : 4 ≤ n) (hj : JarAt S j) (q : ∀ bs S', (∀ d ∈ bs, GB d) → bs.length ≤ 20 → JarAt S' j → Kp [j] S S' → P (.tup bs) S') : (callF C n 40 [.ref j] S).W P E := by
  obtain ⟨m, rfl⟩ : ∃ m, n = m + 1 := ⟨n - 1, by omega⟩
  rw [W_call h.p40 rfl (by decide), ir40]
  try walk_at "mp"
  rw [W_comp]
  try walk_at "mp"
  rw [if_pos (by decide)]
  refine oneL_W h (by omega) hj (by simp) (by simp) fun d1 S1 m1 j1 k1 => ?_
  obtain ⟨i1, rfl, l1, u1⟩ : ∃ x : Int, d1 = .int x ∧ 0 ≤ x ∧ x ≤ 20 := by
    simp only [List.mem_cons, List.not_mem_nil, or_false] at m1
    rcases m1 with rfl | rfl | rfl | rfl | rfl <;> exact ⟨_, rfl, by omega, by omega⟩
  try walk_at "mp"
  rw [h_rng l1 (by omega)]
  refine comp_jar GB j1 (by omega) (fun x S2 j2 => ?_) fun acc S2 g2 n2 j2 k2 e2 => ?_
  · rw [W_turnC]
    simp only [wipeR]
    try walk_at "mp"
    simp only [W_Ifnil]
    try walk_at "mp"
    exact drawn_bill_W h (by omega) j2 fun d S3 gd j3 k3 => ⟨d, rfl, gd, j3, k3⟩
  · rw [h_tupL e2]
    exact q _ _ g2 (by omega) j2 (k1.trans k2)
end
end HB
end MWi
section MWj
set_option Elab.async false
set_option linter.all false
set_option maxRecDepth 100000
set_option maxHeartbeats 2000000
namespace HB
open PySem MP L2
local macro_rules | `(tactic| walk_at "mp") => `(tactic| simp only [↓W_seq, ↓W_nil, ↓W_if, ↓W_ret, ↓W_asg, ↓W_asgT, ↓W_Tname, ↓W_Ttup, ↓W_Tsnil, ↓W_Tscons, ↓W_Tsub, ↓W_Tfld, ↓W_Iseq, ↓W_Ienum, ↓W_Irng, ↓rP_int, ↓h_seqT, ↓h_enumT, ↓h_pow6, ↓h_pow12, ↓h_pow15, ↓W_expr, ↓W_raise, ↓W_par, ↓WB_or, ↓WB_and, ↓WB_not, ↓WB_cmpP, ↓WB_isiP, ↓WB_call, ↓WB_var, ↓h_isb, ↓h_isiS, ↓h_isiT, ↓h_isiI, ↓h_isiB, ↓h_isiN, ↓W_var, ↓W_cst, ↓W_bin, ↓W_neg, ↓W_cmp, ↓W_and, ↓W_or, ↓W_not, ↓W_ife, ↓W_tup, ↓W_lst, ↓W_dct, ↓W_callE, ↓W_blt, ↓W_mth, ↓W_fld, ↓W_idx, ↓W_slc, ↓W_Ono, ↓W_Oso, ↓W_Lnil, ↓W_Lcons, ↓W_heard, ↓W_tells, ↓W_refuses,
  ↓reduceIte, List.getElem?_cons_zero, List.getElem?_cons_succ, List.map_cons, List.map_nil, List.cons_append, List.nil_append, List.append_nil, Nat.sub_self, List.replicate_zero, List.replicate_succ, List.set_cons_zero, List.set_cons_succ, if_true, if_false, Bool.false_eq_true, Bool.not_true, Bool.not_false, ↓v0, ↓v1, ↓h_tn, ↓h_tb, ↓h_ti, ↓h_ts, ↓h_tt, ↓h_tscr, ↓h_bl, ↓h_le, ↓h_lt, ↓h_gt, ↓h_ge, ↓h_isn, ↓h_isnn, ↓h_eqi, ↓h_nei, ↓h_lenT, ↓h_add, ↓h_sub, ↓h_int, ↓h_intb, ↓h_x0, ↓h_x1, ↓h_x2, ↓h_x3, ↓h_if, ↓h_if2, ↓nP_int, ↓iP_int, ↓tP_bl, List.length_cons, List.length_nil, Nat.zero_add, Nat.reduceAdd, Nat.reduceLT, vP_some, oP_some, uP_some, k_NoneType_bool, k_NoneType_int, k_NoneType_str, k_NoneType_tuple, k_NoneType_list, k_NoneType_dict, k_bool_bool, k_bool_int, k_bool_str, k_bool_tuple, k_bool_list, k_bool_dict, k_int_bool, k_int_int, k_int_str, k_int_tuple, k_int_list, k_int_dict, k_str_bool, k_str_int, k_str_str, k_str_tuple, k_str_list, k_str_dict, k_tuple_bool, k_tuple_int, k_tuple_str, k_tuple_tuple, k_tuple_list, k_tuple_dict, k_list_bool, k_list_int, k_list_str, k_list_tuple, k_list_list, k_list_dict, k_dict_bool, k_dict_int, k_dict_str, k_dict_tuple, k_dict_list, k_dict_dict, n_non, n_int, n_bl, n_tup, n_str, n_ref])
section
variable {C : Cf} {S S' : Sto} {n j : Nat} {P : D → Sto → Prop} {E : Nat → D → Sto → Prop}
def In (lo hi : Int) (d : D) : Prop := ∃ x : Int, d = .int x ∧ lo ≤ x ∧ x ≤ hi
def Pr (a b : Int) (d : D) : Prop := ∃ x y : Int, d = .tup [.int x, .int y] ∧ 0 ≤ x ∧ x < a ∧ 0 ≤ y ∧ y < b
/-- a good day: prices, course, who pays -/
structure Day (sc : Int) (nums pairs whos : List D) : Prop where
  sc0 : 1 ≤ sc
  sc1 : sc ≤ 1000000
  nm : ∀ d ∈ nums, In (-1000000000000000) 1000000000000000 d
  nl : nums.length ≤ 30
  pr : ∀ d ∈ pairs, Pr whos.length nums.length d
  pl : pairs.length ≤ 8
  wm : ∀ d ∈ whos, In 0 99 d
  wl : 1 ≤ whos.length ∧ whos.length ≤ 30
theorem some_day_W (h : CfOk C) (hn : 4 ≤ n) (hj : JarAt S j) (q : ∀ sc nums pairs whos S', Day sc nums pairs whos → JarAt S' j → Kp [j] S S' → P (.tup [.tup [.int sc, .tup nums], .tup pairs, .tup whos]) S') : (callF C n 42 [.ref j] S).W P E := by
  obtain ⟨m, rfl⟩ : ∃ m, n = m + 1 := ⟨n - 1, by omega⟩
  rw [W_call h.p42 rfl (by decide), ir42]
  try walk_at "mp"
  rw [if_pos (by decide)]
  refine oneL_W h (by omega) hj (by simp) (by simp) fun d1 S1 m1 j1 k1 => ?_
  obtain ⟨i1, rfl, l1, u1⟩ : In 0 30 d1 := by
    simp only [List.mem_cons, List.not_mem_nil, or_false] at m1
    rcases m1 with rfl | rfl | rfl | rfl | rfl <;> exact ⟨_, rfl, by omega, by omega⟩
  rw [if_pos (by decide)]
  refine oneL_W h (by omega) j1 (by simp) (by simp) fun d2 S2 m2 j2 k2 => ?_
  rw [W_comp]
  try walk_at "mp"
  rw [h_rng l1 (by omega)]
  obtain ⟨i2, rfl, l2, u2⟩ : In 1 1000000 d2 := by
    simp only [List.mem_cons, List.not_mem_nil, or_false] at m2
    rcases m2 with rfl | rfl | rfl | rfl <;> exact ⟨_, rfl, by omega, by omega⟩
  refine comp_jar (In (-1000000000000000) 1000000000000000) j2 (by omega) (fun x S3 j3 => ?_) fun nums S3 g3 n3 j3 k3 e3 => ?_
  · rw [W_turnC]
    simp only [wipeR]
    try walk_at "mp"
    simp only [W_Ifnil]
    try walk_at "mp"
    refine take_W h (by omega) j3 (by omega) (by omega) fun i4 S4 a4 b4 j4 k4 => ?_
    rw [if_pos (by decide)]
    refine oneL_W h (by omega) j4 (by simp) (by simp) fun d5 S5 m5 j5 k5 => ?_
    refine ⟨_, rfl, ?_, j5, k4.trans k5⟩
    simp only [List.mem_cons, List.not_mem_nil, or_false] at m5
    rcases m5 with rfl | rfl | rfl | rfl | rfl | rfl <;> exact ⟨_, rfl, by omega, by omega⟩
  rw [h_tupL e3]
  rw [if_pos (by decide), W_comp]
  try walk_at "mp"
  refine take_W h (by omega) j3 (by omega) (by omega) fun i4 S4 a4 b4 j4 k4 => ?_
  try walk_at "mp"
  rw [h_rng (by omega) (by omega)]
  refine comp_jar (In 0 99) j4 (by omega) (fun x S5 j5 => ?_) fun whos S5 g5 n5 j5 k5 e5 => ?_
  · rw [W_turnC]
    simp only [wipeR]
    try walk_at "mp"
    simp only [W_Ifnil]
    try walk_at "mp"
    rw [if_pos (by decide)]
    refine oneL_W h (by omega) j5 (by simp) (by simp) fun d6 S6 m6 j6 k6 => ?_
    refine ⟨_, rfl, ?_, j6, k6⟩
    simp only [List.mem_cons, List.not_mem_nil, or_false] at m6
    rcases m6 with rfl | rfl | rfl | rfl <;> exact ⟨_, rfl, by omega, by omega⟩
  rw [h_tupL e5]
  have K5 := k1.trans (k2.trans (k3.trans (k4.trans k5)))
  by_cases hp : 0 < i1
  · rw [decide_eq_true hp, if_pos rfl, W_comp]
    try walk_at "mp"
    refine take_W h (by omega) j5 (by omega) (by omega) fun i6 S6 a6 b6 j6 k6 => ?_
    try walk_at "mp"
    rw [h_rng (by omega) (by omega)]
    refine comp_jar (Pr whos.length nums.length) j6 (by omega) (fun x S7 j7 => ?_) fun pairs S7 g7 n7 j7 k7 e7 => ?_
    · rw [W_turnC]
      simp only [wipeR]
      try walk_at "mp"
      simp only [W_Ifnil]
      try walk_at "mp"
      refine take_W h (by omega) j7 (by omega) (by omega) fun i8 S8 a8 b8 j8 k8 => ?_
      refine take_W h (by omega) j8 (by omega) (by omega) fun i9 S9 a9 b9 j9 k9 => ?_
      rw [if_pos (by decide)]
      exact ⟨_, rfl, ⟨_, _, rfl, a8, b8, a9, by omega⟩, j9, k8.trans k9⟩
    rw [h_tupL e7, if_pos (by decide)]
    exact q _ _ _ _ _ ⟨l2, u2, g3, by omega, g7, by omega, g5, by omega, by omega⟩ j7 (K5.trans (k6.trans k7))
  · rw [decide_eq_false hp, if_neg (by decide), if_pos (by decide), if_pos (by decide)]
    exact q _ _ _ _ _ ⟨l2, u2, g3, by omega, nofun, by simp, g5, by omega, by omega⟩ j5 K5
end
end HB
end MWj
section MWk
set_option Elab.async false
set_option linter.all false
set_option maxRecDepth 100000
set_option maxHeartbeats 2000000
namespace HB
open PySem MP L2
local macro_rules | `(tactic| walk_at "mp") => `(tactic| simp only [↓W_seq, ↓W_nil, ↓W_if, ↓W_ret, ↓W_asg, ↓W_asgT, ↓W_Tname, ↓W_Ttup, ↓W_Tsnil, ↓W_Tscons, ↓W_Tsub, ↓W_Tfld, ↓W_Iseq, ↓W_Ienum, ↓W_Irng, ↓rP_int, ↓h_seqT, ↓h_enumT, ↓h_pow6, ↓h_pow12, ↓h_pow15, ↓W_expr, ↓W_raise, ↓W_par, ↓WB_or, ↓WB_and, ↓WB_not, ↓WB_cmpP, ↓WB_isiP, ↓WB_call, ↓WB_var, ↓h_isb, ↓h_isiS, ↓h_isiT, ↓h_isiI, ↓h_isiB, ↓h_isiN, ↓W_var, ↓W_cst, ↓W_bin, ↓W_neg, ↓W_cmp, ↓W_and, ↓W_or, ↓W_not, ↓W_ife, ↓W_tup, ↓W_lst, ↓W_dct, ↓W_callE, ↓W_blt, ↓W_mth, ↓W_fld, ↓W_idx, ↓W_slc, ↓W_Ono, ↓W_Oso, ↓W_Lnil, ↓W_Lcons, ↓W_heard, ↓W_tells, ↓W_refuses,
  ↓reduceIte, List.getElem?_cons_zero, List.getElem?_cons_succ, List.map_cons, List.map_nil, List.cons_append, List.nil_append, List.append_nil, Nat.sub_self, List.replicate_zero, List.replicate_succ, List.set_cons_zero, List.set_cons_succ, if_true, if_false, Bool.false_eq_true, Bool.not_true, Bool.not_false, ↓v0, ↓v1, ↓h_tn, ↓h_tb, ↓h_ti, ↓h_ts, ↓h_tt, ↓h_tscr, ↓h_bl, ↓h_le, ↓h_lt, ↓h_gt, ↓h_ge, ↓h_isn, ↓h_isnn, ↓h_eqi, ↓h_nei, ↓h_lenT, ↓h_add, ↓h_sub, ↓h_int, ↓h_intb, ↓h_x0, ↓h_x1, ↓h_x2, ↓h_x3, ↓h_if, ↓h_if2, ↓nP_int, ↓iP_int, ↓tP_bl, List.length_cons, List.length_nil, Nat.zero_add, Nat.reduceAdd, Nat.reduceLT, vP_some, oP_some, uP_some, k_NoneType_bool, k_NoneType_int, k_NoneType_str, k_NoneType_tuple, k_NoneType_list, k_NoneType_dict, k_bool_bool, k_bool_int, k_bool_str, k_bool_tuple, k_bool_list, k_bool_dict, k_int_bool, k_int_int, k_int_str, k_int_tuple, k_int_list, k_int_dict, k_str_bool, k_str_int, k_str_str, k_str_tuple, k_str_list, k_str_dict, k_tuple_bool, k_tuple_int, k_tuple_str, k_tuple_tuple, k_tuple_list, k_tuple_dict, k_list_bool, k_list_int, k_list_str, k_list_tuple, k_list_list, k_list_dict, k_dict_bool, k_dict_int, k_dict_str, k_dict_tuple, k_dict_list, k_dict_dict, n_non, n_int, n_bl, n_tup, n_str, n_ref])
section
variable {C : Cf} {S S' : Sto} {n j : Nat} {P : D → Sto → Prop} {E : Nat → D → Sto → Prop}
theorem h_lenS : uP P (bltD C .len S (.scr :: [])) = P (.int C.sns.length) S := by
  show P (.int ((C.sns.map D.int).length : Nat)) S = _
  rw [List.length_map]
theorem h_max {a b : Int} : uP P (bltD C .max S (.int a :: .int b :: [])) = P (.int (if b > a then b else a)) S := id rfl
theorem pool_tail (h : CfOk C) {k : Nat} {c : Int} {cf : Nat → List D → Sto → Rs D} {nx bk ct : Rho → Sto → Prop} (hk : k ≤ 2) (q : ∀ r S', JarAt S' r → S.length ≤ r → Kp [] S S' → P (.ref r) S') :
    (evSs C cf (ir14.drop 2) [some .scr, some (.int k), some (.int c), none, none] S).W nx P bk ct E := by
  rw [ir14, List.drop_succ_cons, List.drop_succ_cons, List.drop_zero]
  try walk_at "mp"
  have bk : bits (k : Int) < 60 := bits_lt (by omega) (by omega)
  rw [h_max]
  generalize hB : (if -1 - c > c then -1 - c else c) = B
  have B0 : 0 ≤ B := by rw [← hB]; split <;> omega
  rw [h_int, h_mod (by omega), h_mul (.inl (by decide)), h_mul (.inr (.inl bk)), h_add, h_mul (.inl (by decide)), h_add, h_add, h_mul (.inr (.inl (by decide))), h_int, h_mod (by omega), h_pow18, h_ge]
  generalize hG : ((B % 2147483629 + 7919 * (k : Int) * k + 31 * k + 17) * 48271) % 2147483647 = G
  have G0 : 0 ≤ G := by rw [← hG]; exact Int.emod_nonneg _ (by omega)
  have G1 : G < 2147483647 := by rw [← hG]; exact Int.emod_lt_of_pos _ (by omega)
  have fin : ∀ x : Bool, uP (fun d S1 => if 2 ≤ sizeLine then P (D.ref (List.length S1)) (S1 ++ [O.lst [d, .int G]]) else False) (binD Operator.Mult S (.int B) (D.int (if x = true then 1 else 0))) := by
    intro x
    rw [h_mul (.inr (.inl (by cases x <;> decide))), if_pos (by decide)]
    refine q _ _ ⟨_, _, new_at _ _, ?_, G0, G1⟩ (Nat.le_refl _) (Kp.app _ _)
    cases x
    · simp
    · simpa using B0
  cases decide (1000000000000000000 ≤ B) with
  | true =>
    rw [if_pos rfl, h_lenS, h_lt]
    exact fin _
  | false =>
    rw [if_neg (by decide)]
    exact fin false
theorem ints_lay : ∀ ns : List Int, PyData.canLayAll0 (ns.map .int) = true ∧ PyData.depthAll (ns.map .int) = 0
  | [] => by simp [PyData.canLayAll0, PyData.depthAll]
  | i :: r => by
    obtain ⟨a, b⟩ := ints_lay r
    simp [PyData.canLayAll0, PyData.depthAll, PyData.canLay0, PyData.depth, a, b]
theorem c_neS {r : Nat} (h : S[r]? = some (.lst [])) : cmpD C .NotEq S .scr (.ref r) = some (!C.sns.isEmpty) := by
  obtain ⟨a, b⟩ := ints_lay C.sns
  have e : eqD C S .scr (.ref r) = some C.sns.isEmpty := by
    simp only [eqD, pyD, h, pyDs, Option.map_some]
    rw [if_pos ⟨by simp [SeqAt.shaped, PyData.canLay0, PyData.depth, a, b], by simp [SeqAt.shaped, PyData.canLay0, PyData.depth, PyData.canLayAll0, PyData.depthAll]⟩]
    cases C.sns <;> simp [PyData.eqv, PyData.eqvAll]
  simp only [cmpD, e, Option.map_some]
theorem h_neS {r : Nat} {Pb : Bool → Sto → Prop} (h : S[r]? = some (.lst [])) : oP Pb S' (cmpD C .NotEq S .scr (.ref r)) = Pb (!C.sns.isEmpty) S' := by rw [c_neS h]; rfl
theorem h_xS {i : Nat} {x : Int} (hx : C.sns[i]? = some x) : oP P S' (ixD C S .scr (.int (i : Int))) = P (.int x) S' := by
  show oP P S' (atI (C.sns.map D.int) (i : Int)) = _
  rw [MP.atI_nat (x := .int x) (by simp [hx])]
  rfl
theorem pool_W (h : CfOk C) {k : Nat} (hn : 1 ≤ n) (hk : k ≤ 2) (q : ∀ r S', JarAt S' r → S.length ≤ r → Kp [] S S' → P (.ref r) S') : (callF C n 14 [.scr, .int k] S).W P E := by
  obtain ⟨m, rfl⟩ : ∃ m, n = m + 1 := ⟨n - 1, by omega⟩
  rw [W_call h.p14 rfl (by decide)]
  have e : ir14 = .asg (.name 2) (.cst (.int 0)) :: .ife (.cmp .Lt (.var 1) (.blt .len (.cons (.var 0) .nil))) [.asg (.name 2) (.idx (.var 0) (.var 1))] [.ife (.cmp .NotEq (.var 0) (.lst .nil)) [.asg (.name 2) (.idx (.var 0) (.cst (.int 0)))] []] :: ir14.drop 2 := rfl
  have tail : ∀ (c : Int) (S1 : Sto), Kp [] S S1 → (evSs C (callF C m) (ir14.drop 2) [some .scr, some (.int k), some (.int c), none, none] S1).W (fun _ S' => P .non S') P (fun _ _ => False) (fun _ _ => False) E := fun c S1 k1 => pool_tail h hk fun r S' j' l' k' => q r S' j' (Nat.le_trans k1.1 l') (k1.trans k')
  rw [e]
  generalize ir14.drop 2 = T at tail
  try walk_at "mp"
  rw [h_lenS, h_lt]
  by_cases hl : k < C.sns.length
  · rw [decide_eq_true (by omega), if_pos rfl, h_xS (List.getElem?_eq_getElem hl)]
    exact tail _ _ (Kp.refl _ _)
  · rw [decide_eq_false (by omega), if_neg (by decide), if_pos (by decide), h_neS (new_at _ _)]
    cases hs : C.sns with
    | nil =>
      rw [if_neg (by simp)]
      exact tail _ _ (Kp.app _ _)
    | cons x r =>
      have hx : C.sns[0]? = some x := by rw [hs]; rfl
      have hh := h_xS (P := fun d S1 => (evSs C (callF C m) T [some D.scr, some (D.int ↑k), some d, none, none] S1).W (fun x S' => P D.non S') P (fun x x_1 => False) (fun x x_1 => False) E) (S := S ++ [O.lst []]) (S' := S ++ [O.lst []]) hx
      rw [if_pos (by simp)]
      exact hh.symm ▸ tail _ _ (Kp.app _ _)
end
end HB
end MWk
section MWl
set_option Elab.async false
set_option linter.all false
set_option maxRecDepth 100000
set_option maxHeartbeats 2000000
namespace HB
open PySem MP L2
local macro_rules | `(tactic| walk_at "mp") => `(tactic| simp only [↓W_seq, ↓W_nil, ↓W_if, ↓W_ret, ↓W_asg, ↓W_asgT, ↓W_Tname, ↓W_Ttup, ↓W_Tsnil, ↓W_Tscons, ↓W_Tsub, ↓W_Tfld, ↓W_Iseq, ↓W_Ienum, ↓W_Irng, ↓rP_int, ↓h_seqT, ↓h_enumT, ↓h_pow6, ↓h_pow12, ↓h_pow15, ↓W_expr, ↓W_raise, ↓W_par, ↓WB_or, ↓WB_and, ↓WB_not, ↓WB_cmpP, ↓WB_isiP, ↓WB_call, ↓WB_var, ↓h_isb, ↓h_isiS, ↓h_isiT, ↓h_isiI, ↓h_isiB, ↓h_isiN, ↓W_var, ↓W_cst, ↓W_bin, ↓W_neg, ↓W_cmp, ↓W_and, ↓W_or, ↓W_not, ↓W_ife, ↓W_tup, ↓W_lst, ↓W_dct, ↓W_callE, ↓W_blt, ↓W_mth, ↓W_fld, ↓W_idx, ↓W_slc, ↓W_Ono, ↓W_Oso, ↓W_Lnil, ↓W_Lcons, ↓W_heard, ↓W_tells, ↓W_refuses,
  ↓reduceIte, List.getElem?_cons_zero, List.getElem?_cons_succ, List.map_cons, List.map_nil, List.cons_append, List.nil_append, List.append_nil, Nat.sub_self, List.replicate_zero, List.replicate_succ, List.set_cons_zero, List.set_cons_succ, if_true, if_false, Bool.false_eq_true, Bool.not_true, Bool.not_false, ↓v0, ↓v1, ↓h_tn, ↓h_tb, ↓h_ti, ↓h_ts, ↓h_tt, ↓h_tscr, ↓h_bl, ↓h_le, ↓h_lt, ↓h_gt, ↓h_ge, ↓h_isn, ↓h_isnn, ↓h_eqi, ↓h_nei, ↓h_lenT, ↓h_add, ↓h_sub, ↓h_int, ↓h_intb, ↓h_x0, ↓h_x1, ↓h_x2, ↓h_x3, ↓h_if, ↓h_if2, ↓nP_int, ↓iP_int, ↓tP_bl, List.length_cons, List.length_nil, Nat.zero_add, Nat.reduceAdd, Nat.reduceLT, vP_some, oP_some, uP_some, k_NoneType_bool, k_NoneType_int, k_NoneType_str, k_NoneType_tuple, k_NoneType_list, k_NoneType_dict, k_bool_bool, k_bool_int, k_bool_str, k_bool_tuple, k_bool_list, k_bool_dict, k_int_bool, k_int_int, k_int_str, k_int_tuple, k_int_list, k_int_dict, k_str_bool, k_str_int, k_str_str, k_str_tuple, k_str_list, k_str_dict, k_tuple_bool, k_tuple_int, k_tuple_str, k_tuple_tuple, k_tuple_list, k_tuple_dict, k_list_bool, k_list_int, k_list_str, k_list_tuple, k_list_list, k_list_dict, k_dict_bool, k_dict_int, k_dict_str, k_dict_tuple, k_dict_list, k_dict_dict, n_non, n_int, n_bl, n_tup, n_str, n_ref])
section
variable {C : Cf} {S S' : Sto} {n j : Nat} {P : D → Sto → Prop} {E : Nat → D → Sto → Prop}
theorem find_first {α : Type} {xs : List α} {bad : α → Bool} {i : Nat} {y : α} (hy : xs[i]? = some y) (hb : bad y = true) (g : ∀ k x, k < i → xs[k]? = some x → bad x = false) : xs.findIdx? bad = some i := by
  rw [List.findIdx?_eq_some_iff_getElem]
  obtain ⟨hl, rfl⟩ := List.getElem?_eq_some_iff.mp hy
  exact ⟨hl, hb, fun k hk => by simp [g k _ hk (List.getElem?_eq_getElem (by omega))]⟩
theorem find_none {α : Type} {xs : List α} {bad : α → Bool} (g : ∀ k x, k < xs.length → xs[k]? = some x → bad x = false) : xs.findIdx? bad = none := by
  rw [List.findIdx?_eq_none_iff]
  intro x hx
  obtain ⟨k, hk, rfl⟩ := List.getElem_of_mem hx
  exact g k _ hk (List.getElem?_eq_getElem hk)
theorem find_snoc {α : Type} {xs : List α} {bad : α → Bool} {i : Nat} {x : α} (hx : xs[i]? = some x) : (xs.take (i + 1)).findIdx? bad = ((xs.take i).findIdx? bad).or (if bad x then some i else none) := by
  obtain ⟨hl, e⟩ := List.getElem?_eq_some_iff.mp hx
  rw [List.take_add_one, hx, List.findIdx?_append]
  congr 1
  cases h : bad x <;> simp [h, List.findIdx?_cons] <;> omega
/-- a walk that ends at the first that is bad -/
theorem W_find {iv : Iv} {xs : List D} (item : Nat → D → D) (bad : D → Bool) (R : Rho → Prop) {turn : D → Rho → Sto → Fr} {nx bk ct : Rho → Sto → Prop} {rt : D → Sto → Prop}
    (hat : ∀ i, iv.at C S i = some (xs[i]?.map (item i)))
    (good : ∀ i ρ x, R ρ → xs[i]? = some x → bad x = false → (turn (item i x) ρ S).W (fun ρ' S' => R ρ' ∧ S' = S) rt nx (fun ρ' S' => R ρ' ∧ S' = S) E)
    (evil : ∀ i ρ x, R ρ → xs[i]? = some x → bad x = true → xs.findIdx? bad = some i → (turn (item i x) ρ S).W (fun _ _ => False) rt nx (fun _ _ => False) E)
    (fin : ∀ ρ, R ρ → xs.findIdx? bad = none → nx ρ S) {k : Nat} {ρ : Rho} (hr : R ρ) (hk : xs.length ≤ k) : (forK C iv turn k 0 ρ S).W nx rt bk ct E := by
  refine W_forK (xs := xs.mapIdx item) (fun i ρ S' => S' = S ∧ R ρ ∧ ∀ k x, k < i → xs[k]? = some x → bad x = false) (fun i ρ S' hI => ?_) (fun i ρ S' x hI hx => ?_) (fun ρ S' hI => ?_) _ 0 _ _ ⟨rfl, hr, by omega⟩ (Nat.zero_le _) (by simpa using hk)
  · rw [hI.1, hat, List.getElem?_mapIdx]
  · obtain ⟨rfl, hr, g⟩ := hI
    rw [List.getElem?_mapIdx, Option.map_eq_some_iff] at hx
    obtain ⟨y, hy, rfl⟩ := hx
    cases hb : bad y with
    | false =>
      have g' : ∀ k x, k < i + 1 → xs[k]? = some x → bad x = false := fun k x hk hx => by
        by_cases e : k = i
        · subst e
          rw [hx] at hy
          cases hy
          exact hb
        · exact g k x (by omega) hx
      exact Fr.W_mono (good i ρ y hr hy hb) (fun ρ' S1 z => ⟨z.2, z.1, g'⟩) (fun _ _ z => z) (fun _ _ z => z) (fun ρ' S1 z => ⟨z.2, z.1, g'⟩) (fun _ _ _ z => z)
    | true =>
      exact Fr.W_mono (evil i ρ y hr hy hb (find_first hy hb g)) (fun _ _ z => z.elim) (fun _ _ z => z) (fun _ _ z => z) (fun _ _ z => z.elim) (fun _ _ _ z => z)
  · obtain ⟨rfl, hr, g⟩ := hI
    exact fin ρ hr (find_none fun k x hk hx => g k x (by simpa using hk) hx)
theorem enum_at {i : Nat} {ds : List D} : (Iv.enumT ds).at C S i = some (ds[i]?.map fun d => .tup [.int (i : Nat), d]) := id rfl
theorem rng_at' {i : Nat} {ds : List D} {k : Nat} (h : ds.length = k) : (Iv.rng 0 k).at C S i = some (ds[i]?.map fun d => .int (i : Nat)) := by
  rw [rng_at]
  congr 1
  by_cases hi : i < k
  · rw [List.getElem?_map, List.getElem?_range hi, List.getElem?_eq_getElem (by omega)]
    rfl
  · rw [List.getElem?_eq_none (by simp; omega), List.getElem?_eq_none (by omega)]
    rfl
/-- the first that is bad, by a comprehension over the range -/
theorem comp_find {k : Nat} {turn : D → Sto → Rs (Option D)} (bad : D → Bool) {xs : List D} (hk : xs.length = k) (hl : k ≤ 1000000)
    (step : ∀ i x S1, Kp [] S S1 → xs[i]? = some x → (turn (.int (i : Nat)) S1).W (fun r S2 => r = (if bad x then some (.int (i : Nat)) else none) ∧ Kp [] S1 S2) E)
    (q : ∀ (is : List Int) S', is.head? = (xs.findIdx? bad).map (fun i : Nat => (i : Int)) → S'[S.length]? = some (.lst (is.map .int)) → Kp [] S S' → P (.ref S.length) S') :
    (compK C (.rng 0 k) S.length turn (Iv.many C S (.rng 0 k)) 0 (S ++ [.lst []])).W P E := by
  refine W_compK (xs := xs.mapIdx fun i _ => D.int (i : Nat)) (fun i acc S1 => Kp [] S S1 ∧ S1[S.length]? = some (.lst acc) ∧ ∃ is : List Int, acc = is.map .int ∧ is.head? = ((xs.take i).findIdx? bad).map (fun i : Nat => (i : Int)) ∧ is.length ≤ i) (fun i acc S1 hI => ⟨?_, hI.2.1⟩) (fun i acc S1 x hI hx => ?_) (fun acc S1 hI => ?_) _ 0 [] _ ⟨Kp.app _ _, new_at _ _, [], rfl, rfl, Nat.zero_le _⟩ (Nat.zero_le _) ?_
  · rw [rng_at' hk, List.getElem?_mapIdx]
  · obtain ⟨k1, e1, is, rfl, h1, l1⟩ := hI
    rw [List.getElem?_mapIdx, Option.map_eq_some_iff] at hx
    obtain ⟨y, hy, rfl⟩ := hx
    have hi : i < k := by rw [← hk]; exact (List.getElem?_eq_some_iff.mp hy).1
    refine W_mono (step i y S1 k1 hy) (fun r S2 h => ?_) fun _ _ _ h => h
    obtain ⟨rfl, k2⟩ := h
    have e2 := k2.at_ e1 (by simp)
    cases hb : bad y with
    | false =>
      rw [if_neg (by decide)]
      refine ⟨k1.trans k2, e2, is, rfl, ?_, by omega⟩
      rw [find_snoc hy, hb, h1]
      simp
    | true =>
      rw [if_pos rfl]
      refine ⟨?_, e2, (k1.trans k2).setN (Nat.le_refl _), at_set e2, is ++ [(i : Int)], by simp, ?_, by simp; omega⟩
      · rw [List.length_map]
        exact Nat.lt_of_le_of_lt l1 (Nat.lt_of_lt_of_le (Nat.lt_of_lt_of_le hi hl) (by decide))
      · rw [find_snoc hy, hb, List.head?_append, h1]
        simp only [if_true]
        cases List.findIdx? bad (List.take i xs) <;> rfl
  · obtain ⟨k1, e1, is, rfl, h1, l1⟩ := hI
    refine q is S1 ?_ e1 k1
    rw [h1, List.take_of_length_le (by simp)]
  · simp [Iv.many, hk]
/-- a comprehension that tells of each what f does -/
theorem comp_map {iv : Iv} {xs : List D} {turn : D → Sto → Rs (Option D)} (f : D → Option D) (hl : xs.length ≤ 1000000) (hm : iv.many C S = xs.length)
    (hat : ∀ S1 i, Kp [] S S1 → iv.at C S1 i = some xs[i]?)
    (step : ∀ x S1, x ∈ xs → Kp [] S S1 → (turn x S1).W (fun r S2 => r = f x ∧ Kp [] S1 S2) E)
    (q : ∀ S', S'[S.length]? = some (.lst (xs.filterMap f)) → Kp [] S S' → P (.ref S.length) S') :
    (compK C iv S.length turn (iv.many C S) 0 (S ++ [.lst []])).W P E := by
  refine W_compK (xs := xs) (fun i acc S1 => Kp [] S S1 ∧ S1[S.length]? = some (.lst acc) ∧ acc = (xs.take i).filterMap f) (fun i acc S1 hI => ⟨hat _ _ hI.1, hI.2.1⟩) (fun i acc S1 x hI hx => ?_) (fun acc S1 hI => ?_) _ 0 [] _ ⟨Kp.app _ _, new_at _ _, rfl⟩ (Nat.zero_le _) (by omega)
  · obtain ⟨k1, e1, rfl⟩ := hI
    obtain ⟨hlt, rfl⟩ := List.getElem?_eq_some_iff.mp hx
    refine W_mono (step _ S1 (List.getElem_mem hlt) k1) (fun r S2 h => ?_) fun _ _ _ h => h
    obtain ⟨rfl, k2⟩ := h
    have e2 := k2.at_ e1 (by simp)
    have et : (xs.take (i + 1)).filterMap f = (xs.take i).filterMap f ++ (f xs[i]).toList := by
      rw [List.take_add_one, hx, List.filterMap_append]
      cases h : f xs[i] <;> simp [h]
    cases hf : f xs[i] with
    | none =>
      rw [hf] at et
      exact ⟨k1.trans k2, e2, by rw [et]; simp⟩
    | some e =>
      rw [hf] at et
      refine ⟨?_, e2, (k1.trans k2).setN (Nat.le_refl _), at_set e2, by rw [et]; rfl⟩
      refine Nat.lt_of_le_of_lt (List.length_filterMap_le _ _) ?_
      rw [List.length_take]
      exact Nat.lt_of_lt_of_le (show min i xs.length < 1000000 by omega) (by decide)
  · obtain ⟨k1, e1, rfl⟩ := hI
    refine q S1 ?_ k1
    rw [e1, List.take_of_length_le (Nat.le_refl _)]
/-! ### bills, plainly -/
structure Bi where
  w : Int
  x : Int
  nu : Int
  sc : Int
def Bi.d (b : Bi) : D := .tup [.int b.w, .int b.x, .int b.nu, .int b.sc]
structure Bi.ok (b : Bi) : Prop where
  w0 : 0 ≤ b.w
  w1 : b.w ≤ 99
  x0 : 0 ≤ b.x
  x1 : b.x ≤ 29
  n0 : -1000000000000000 ≤ b.nu
  n1 : b.nu ≤ 1000000000000000
  s0 : 1 ≤ b.sc
  s1 : b.sc ≤ 1000000
theorem isWh_some {d : D} {lo hi : Int} (h : isWh d lo hi = true) : ∃ i : Int, d = .int i ∧ lo ≤ i ∧ i ≤ hi := by
  cases d with
  | int i => simp [isWh] at h; exact ⟨i, rfl, h.1, h.2⟩
  | _ => simp [isWh] at h
theorem isBl_Bi {d : D} (h : isBl d = true) : ∃ b : Bi, d = b.d ∧ b.ok := by
  unfold isBl at h
  split at h
  · simp only [Bool.and_eq_true] at h
    obtain ⟨h1, h2, h3, h4⟩ := h
    obtain ⟨a, rfl, a0, a1⟩ := isWh_some h1
    obtain ⟨b, rfl, b0, b1⟩ := isWh_some h2
    obtain ⟨c, rfl, c0, c1⟩ := isWh_some h3
    obtain ⟨e, rfl, e0, e1⟩ := isWh_some h4
    exact ⟨⟨a, b, c, e⟩, rfl, a0, a1, b0, b1, c0, c1, e0, e1⟩
  · cases h
theorem Bi.is {b : Bi} (h : b.ok) : isBl b.d = true := by
  simp [Bi.d, isBl, isWh, h.w0, h.w1, h.x0, h.x1, h.n0, h.n1, h.s0, h.s1]
theorem all_Bi {ds : List D} (h : ∀ d ∈ ds, isBl d = true) : ∃ bs : List Bi, ds = bs.map Bi.d ∧ ∀ b ∈ bs, b.ok := by
  induction ds with
  | nil => exact ⟨[], rfl, nofun⟩
  | cons d r ih =>
    obtain ⟨bs, e, g⟩ := ih fun d hd => h d (by simp [hd])
    obtain ⟨b, e', o⟩ := isBl_Bi (h d (by simp))
    exact ⟨b :: bs, by rw [e, e']; rfl, fun x hx => by
      rcases List.mem_cons.mp hx with rfl | hx
      · exact o
      · exact g x hx⟩
/-- what is wrong with bills: the class's number and what is told -/
def wrongB (d : D) : Option (Nat × Int) := match d with
  | .tup ds => if 1000 < ds.length then some (51, ds.length) else (ds.findIdx? fun x => !isBl x).map fun (i : Nat) => ((42 : Nat), (i : Int))
  | _ => some (42, -1)
def okT (S : Sto) (d : D) : Prop := match d with
  | .tup ds => ∀ x ∈ ds, okB S x
  | d => okD S d
theorem wrongB_none {d : D} (h : wrongB d = none) : ∃ bs : List Bi, d = .tup (bs.map Bi.d) ∧ bs.length ≤ 1000 ∧ ∀ b ∈ bs, b.ok := by
  unfold wrongB at h
  split at h
  · rename_i ds
    split at h
    · cases h
    · rw [Option.map_eq_none_iff, List.findIdx?_eq_none_iff] at h
      obtain ⟨bs, rfl, g⟩ := all_Bi (ds := ds) fun d hd => by simpa using h d hd
      exact ⟨bs, rfl, by simp at *; omega, g⟩
  · cases h
theorem wrongB_bs {bs : List Bi} (hl : bs.length ≤ 1000) (g : ∀ b ∈ bs, b.ok) : wrongB (.tup (bs.map Bi.d)) = none := by
  rw [wrongB, if_neg (by simp; omega), Option.map_eq_none_iff, List.findIdx?_eq_none_iff]
  intro d hd
  obtain ⟨b, hb, rfl⟩ := List.mem_map.mp hd
  rw [Bi.is (g b hb)]
  rfl
theorem made_bills_W (h : CfOk C) (hn : 4 ≤ n) {d : D} (ok : okT S d) (q : wrongB d = none → ∀ S', Kp [] S S' → P d S') (e : ∀ c i, wrongB d = some (c, i) → E c (.int i) S) : (callF C n 6 [d] S).W P E := by
  obtain ⟨m, rfl⟩ : ∃ m, n = m + 1 := ⟨n - 1, by omega⟩
  rw [W_call h.p6 rfl (by decide), ir6]
  cases d with
  | tup ds =>
    try walk_at "mp"
    by_cases hl : 1000 < ds.length
    · rw [decide_eq_true (by omega), if_pos rfl]
      exact e _ _ (by simp [wrongB, hl])
    rw [decide_eq_false (by omega), if_neg (by decide), W_for]
    try walk_at "mp"
    refine W_find (xs := ds) (fun i d => .tup [.int (i : Nat), d]) (fun x => !isBl x) (fun ρ => ∃ o1 o2, ρ = [some (.tup ds), o1, o2, none, none, none, none]) (fun i => enum_at) (fun i ρ x hr hx hb => ?_) (fun i ρ x hr hx hb hf => ?_) (fun ρ hr hf => ?_) ⟨_, _, rfl⟩ ?_
    · obtain ⟨o1, o2, rfl⟩ := hr
      rw [W_turn]
      try walk_at "mp"
      rw [is_bill_W h (by omega) (ok x (List.mem_of_getElem? hx))]
      try walk_at "mp"
      rw [hb, if_neg (by decide)]
      exact ⟨⟨_, _, rfl⟩, trivial⟩
    · obtain ⟨o1, o2, rfl⟩ := hr
      rw [W_turn]
      try walk_at "mp"
      rw [is_bill_W h (by omega) (ok x (List.mem_of_getElem? hx))]
      try walk_at "mp"
      rw [hb, if_pos rfl]
      refine e _ _ ?_
      simp only [wrongB, if_neg hl, hf]
      rfl
    · obtain ⟨o1, o2, rfl⟩ := hr
      have wn : wrongB (.tup ds) = none := by simp only [wrongB, if_neg hl, hf]; rfl
      rw [W_comp]
      try walk_at "mp"
      refine comp_map (xs := ds) some (by omega) rfl (fun S1 i _ => rfl) (fun x S1 hx k1 => ?_) fun S1 e1 k1 => ?_
      · obtain ⟨bs, eb, _, _⟩ := wrongB_none wn
        cases eb
        obtain ⟨b, hb, rfl⟩ := List.mem_map.mp hx
        rw [W_turnC]
        simp only [wipeR, Bi.d]
        try walk_at "mp"
        simp only [W_Ifnil]
        try walk_at "mp"
        rw [if_pos (by decide)]
        exact ⟨trivial, Kp.refl _ _⟩
      · rw [h_tupL e1, List.filterMap_some]
        exact q wn _ k1
    · exact Nat.le_refl _
  | ref r =>
    obtain ⟨ds, e'⟩ := ok
    try walk_at "mp"
    rw [h_tref e']
    simp only [isiT]
    exact e _ _ rfl
  | _ =>
    try walk_at "mp"
    exact e _ _ rfl
end
end HB
end MWl
section MWm
set_option Elab.async false
set_option linter.all false
set_option maxRecDepth 100000
set_option maxHeartbeats 2000000
namespace HB
open PySem MP L2
local macro_rules | `(tactic| walk_at "mp") => `(tactic| simp only [↓W_seq, ↓W_nil, ↓W_if, ↓W_ret, ↓W_asg, ↓W_asgT, ↓W_Tname, ↓W_Ttup, ↓W_Tsnil, ↓W_Tscons, ↓W_Tsub, ↓W_Tfld, ↓W_Iseq, ↓W_Ienum, ↓W_Irng, ↓rP_int, ↓h_seqT, ↓h_enumT, ↓h_pow6, ↓h_pow12, ↓h_pow15, ↓W_expr, ↓W_raise, ↓W_par, ↓WB_or, ↓WB_and, ↓WB_not, ↓WB_cmpP, ↓WB_isiP, ↓WB_call, ↓WB_var, ↓h_isb, ↓h_isiS, ↓h_isiT, ↓h_isiI, ↓h_isiB, ↓h_isiN, ↓W_var, ↓W_cst, ↓W_bin, ↓W_neg, ↓W_cmp, ↓W_and, ↓W_or, ↓W_not, ↓W_ife, ↓W_tup, ↓W_lst, ↓W_dct, ↓W_callE, ↓W_blt, ↓W_mth, ↓W_fld, ↓W_idx, ↓W_slc, ↓W_Ono, ↓W_Oso, ↓W_Lnil, ↓W_Lcons, ↓W_heard, ↓W_tells, ↓W_refuses,
  ↓reduceIte, List.getElem?_cons_zero, List.getElem?_cons_succ, List.map_cons, List.map_nil, List.cons_append, List.nil_append, List.append_nil, Nat.sub_self, List.replicate_zero, List.replicate_succ, List.set_cons_zero, List.set_cons_succ, if_true, if_false, Bool.false_eq_true, Bool.not_true, Bool.not_false, ↓v0, ↓v1, ↓h_tn, ↓h_tb, ↓h_ti, ↓h_ts, ↓h_tt, ↓h_tscr, ↓h_bl, ↓h_le, ↓h_lt, ↓h_gt, ↓h_ge, ↓h_isn, ↓h_isnn, ↓h_eqi, ↓h_nei, ↓h_lenT, ↓h_add, ↓h_sub, ↓h_int, ↓h_intb, ↓h_x0, ↓h_x1, ↓h_x2, ↓h_x3, ↓h_if, ↓h_if2, ↓nP_int, ↓iP_int, ↓tP_bl, List.length_cons, List.length_nil, Nat.zero_add, Nat.reduceAdd, Nat.reduceLT, vP_some, oP_some, uP_some, k_NoneType_bool, k_NoneType_int, k_NoneType_str, k_NoneType_tuple, k_NoneType_list, k_NoneType_dict, k_bool_bool, k_bool_int, k_bool_str, k_bool_tuple, k_bool_list, k_bool_dict, k_int_bool, k_int_int, k_int_str, k_int_tuple, k_int_list, k_int_dict, k_str_bool, k_str_int, k_str_str, k_str_tuple, k_str_list, k_str_dict, k_tuple_bool, k_tuple_int, k_tuple_str, k_tuple_tuple, k_tuple_list, k_tuple_dict, k_list_bool, k_list_int, k_list_str, k_list_tuple, k_list_list, k_list_dict, k_dict_bool, k_dict_int, k_dict_str, k_dict_tuple, k_dict_list, k_dict_dict, n_non, n_int, n_bl, n_tup, n_str, n_ref])
section
variable {C : Cf} {S S' : Sto} {n j : Nat} {P : D → Sto → Prop} {E : Nat → D → Sto → Prop}
theorem pyDs_ints {k : Nat} : ∀ is : List Int, pyDs C S (k + 2) (is.map .int) = some (is.map .int)
  | [] => by simp [pyDs]
  | i :: r => by simp [pyDs, pyD, pyDs_ints r]
theorem h_neL {r t : Nat} {is : List Int} {Pb : Bool → Sto → Prop} (h : S[r]? = some (.lst (is.map .int))) (h' : S[t]? = some (.lst [])) : oP Pb S' (cmpD C .NotEq S (.ref r) (.ref t)) = Pb (!is.isEmpty) S' := by
  obtain ⟨a, b⟩ := ints_lay is
  have e : eqD C S (.ref r) (.ref t) = some is.isEmpty := by
    simp only [eqD, pyD, h, h', pyDs_ints, pyDs, Option.map_some]
    rw [if_pos ⟨by simp [SeqAt.shaped, PyData.canLay0, PyData.depth, a, b], by simp [SeqAt.shaped, PyData.canLay0, PyData.depth, PyData.canLayAll0, PyData.depthAll]⟩]
    cases is <;> simp [PyData.eqv, PyData.eqvAll]
  simp only [cmpD, e, Option.map_some]
  rfl
theorem h_xLz {ds : List D} {r : Nat} {x : D} (h : S[r]? = some (.lst ds)) (hx : ds.head? = some x) : oP P S' (ixD C S (.ref r) (.int 0)) = P x S' := by
  have := h_xLn (C := C) (P := P) (S' := S') (i := 0) h (by rw [← List.head?_eq_getElem?]; exact hx)
  exact this
theorem okB.kp {d : D} (h : okB S d) (k : Kp [] S S') : okB S' d := by
  cases d with
  | tup ds => exact fun x hx => okD.kp (h x hx) k
  | ref r =>
    obtain ⟨ds, e⟩ := h
    exact ⟨ds, k.at_ e (by simp)⟩
  | _ => trivial
/-- what is told of a wrong thing -/
def wD (C : Cf) : Option (Nat × Int) → D
  | none => .non
  | some (c, i) => .tup [.str (C.wd c), .int i]
theorem wrong_bills_W (h : CfOk C) (hn : 4 ≤ n) {d : D} (ok : okT S d) (q : ∀ S', Kp [] S S' → P (wD C (wrongB d)) S') : (callF C n 22 [d] S).W P E := by
  obtain ⟨m, rfl⟩ : ∃ m, n = m + 1 := ⟨n - 1, by omega⟩
  rw [W_call h.p22 rfl (by decide), ir22]
  have w42 := h.wd.2.2.2.1
  have w51 := h.wd.2.2.2.2.2.2
  cases d with
  | tup ds =>
    try walk_at "mp"
    by_cases hl : 1000 < ds.length
    · rw [decide_eq_true (by omega), if_pos rfl, if_pos (by decide)]
      have := q S (Kp.refl _ _)
      rw [wrongB, if_pos hl, wD, w51] at this
      exact this
    rw [decide_eq_false (by omega), if_neg (by decide), W_comp]
    try walk_at "mp"
    rw [h_rng (by omega) (by omega)]
    refine comp_find (fun x => !isBl x) (xs := ds) (by simp) (by simp; omega) (fun i x S1 k1 hx => ?_) fun is S1 h1 e1 k1 => ?_
    · rw [W_turnC]
      simp only [wipeR]
      try walk_at "mp"
      rw [W_Ifcons]
      try walk_at "mp"
      rw [h_xn hx, law_is_bill_W h (by omega) ?_]
      · try walk_at "mp"
        cases hb : isBl x with
        | true =>
          simp
          exact Kp.refl _ _
        | false =>
          simp only [Bool.not_false, if_true, W_Ifnil]
          try walk_at "mp"
          exact ⟨by trivial, Kp.refl _ _⟩
      · exact okB.kp (ok x (List.mem_of_getElem? hx)) k1
    · have wn : wrongB (.tup ds) = is.head?.map fun i => (42, i) := by
        rw [wrongB, if_neg hl, h1, Option.map_map]
        rfl
      rw [wn] at q
      rw [if_pos (by decide)]
      have k2 := k1.trans (Kp.app S1 [.lst []])
      have e2 := (Kp.app S1 [.lst []]).at_ e1 (by simp)
      rw [h_neL e2 (new_at _ _)]
      cases is with
      | nil =>
        rw [if_neg (by simp)]
        exact q _ k2
      | cons i r =>
        rw [if_pos (by simp), h_xLz (x := .int i) e2 rfl, if_pos (by decide)]
        have := q _ k2
        simp only [List.head?_cons, Option.map_some, wD, w42] at this
        exact this
  | ref r =>
    obtain ⟨ds, e'⟩ := ok
    try walk_at "mp"
    rw [h_tref e']
    simp only [isiT]
    have := q S (Kp.refl _ _)
    simp only [wrongB, wD, w42] at this
    exact this
  | _ =>
    try walk_at "mp"
    have := q S (Kp.refl _ _)
    simp only [wrongB, wD, w42] at this
    exact this
end
end HB
end MWm
section MWn
set_option Elab.async false
set_option linter.all false
set_option maxRecDepth 100000
set_option maxHeartbeats 2000000
namespace HB
open PySem MP L2
local macro_rules | `(tactic| walk_at "mp") => `(tactic| simp only [↓W_seq, ↓W_nil, ↓W_if, ↓W_ret, ↓W_asg, ↓W_asgT, ↓W_Tname, ↓W_Ttup, ↓W_Tsnil, ↓W_Tscons, ↓W_Tsub, ↓W_Tfld, ↓W_Iseq, ↓W_Ienum, ↓W_Irng, ↓rP_int, ↓h_seqT, ↓h_enumT, ↓h_pow6, ↓h_pow12, ↓h_pow15, ↓W_expr, ↓W_raise, ↓W_par, ↓WB_or, ↓WB_and, ↓WB_not, ↓WB_cmpP, ↓WB_isiP, ↓WB_call, ↓WB_var, ↓h_isb, ↓h_isiS, ↓h_isiT, ↓h_isiI, ↓h_isiB, ↓h_isiN, ↓W_var, ↓W_cst, ↓W_bin, ↓W_neg, ↓W_cmp, ↓W_and, ↓W_or, ↓W_not, ↓W_ife, ↓W_tup, ↓W_lst, ↓W_dct, ↓W_callE, ↓W_blt, ↓W_mth, ↓W_fld, ↓W_idx, ↓W_slc, ↓W_Ono, ↓W_Oso, ↓W_Lnil, ↓W_Lcons, ↓W_heard, ↓W_tells, ↓W_refuses,
  ↓reduceIte, List.getElem?_cons_zero, List.getElem?_cons_succ, List.map_cons, List.map_nil, List.cons_append, List.nil_append, List.append_nil, Nat.sub_self, List.replicate_zero, List.replicate_succ, List.set_cons_zero, List.set_cons_succ, if_true, if_false, Bool.false_eq_true, Bool.not_true, Bool.not_false, ↓v0, ↓v1, ↓h_tn, ↓h_tb, ↓h_ti, ↓h_ts, ↓h_tt, ↓h_tscr, ↓h_bl, ↓h_le, ↓h_lt, ↓h_gt, ↓h_ge, ↓h_isn, ↓h_isnn, ↓h_eqi, ↓h_nei, ↓h_lenT, ↓h_add, ↓h_sub, ↓h_int, ↓h_intb, ↓h_x0, ↓h_x1, ↓h_x2, ↓h_x3, ↓h_if, ↓h_if2, ↓nP_int, ↓iP_int, ↓tP_bl, List.length_cons, List.length_nil, Nat.zero_add, Nat.reduceAdd, Nat.reduceLT, vP_some, oP_some, uP_some, k_NoneType_bool, k_NoneType_int, k_NoneType_str, k_NoneType_tuple, k_NoneType_list, k_NoneType_dict, k_bool_bool, k_bool_int, k_bool_str, k_bool_tuple, k_bool_list, k_bool_dict, k_int_bool, k_int_int, k_int_str, k_int_tuple, k_int_list, k_int_dict, k_str_bool, k_str_int, k_str_str, k_str_tuple, k_str_list, k_str_dict, k_tuple_bool, k_tuple_int, k_tuple_str, k_tuple_tuple, k_tuple_list, k_tuple_dict, k_list_bool, k_list_int, k_list_str, k_list_tuple, k_list_list, k_list_dict, k_dict_bool, k_dict_int, k_dict_str, k_dict_tuple, k_dict_list, k_dict_dict, n_non, n_int, n_bl, n_tup, n_str, n_ref])
section
variable {C : Cf} {S S' : Sto} {n j : Nat} {P : D → Sto → Prop} {E : Nat → D → Sto → Prop}
theorem nub_snoc : ∀ (xs : List Int) (x : Int), nubI (xs ++ [x]) = if x ∈ xs then nubI xs else nubI xs ++ [x]
  | [], x => by simp [nubI]
  | i :: r, x => by
    rw [List.cons_append, nubI, nub_snoc r x, nubI]
    by_cases hr : x ∈ r
    · simp [hr]
    · by_cases e : x = i
      · subst e; simp [hr]
      · simp [hr, e]
theorem nub_mem : ∀ (xs : List Int) (x : Int), x ∈ nubI xs ↔ x ∈ xs
  | [], x => by simp [nubI]
  | i :: r, x => by
    rw [nubI]
    simp only [List.mem_cons, List.mem_filter, nub_mem r x]
    by_cases e : x = i <;> simp [e]
/-- a fraction in lowest terms -/
def rd (t b : Int) : Int × Int := (t / (Int.gcd t b : Int), b / (Int.gcd t b : Int))
def rdD (t b : Int) : D := .tup [.int (rd t b).1, .int (rd t b).2]
theorem rd_mul {k t b : Int} (hk : 0 < k) : rd (k * t) (k * b) = rd t b := by
  unfold rd
  rw [Int.gcd_mul_left]
  have e : ((k.natAbs * Int.gcd t b : Nat) : Int) = k * (Int.gcd t b : Int) := by
    rw [Int.natCast_mul, Int.natAbs_of_nonneg (by omega)]
  rw [e, Int.mul_ediv_mul_of_pos _ _ hk, Int.mul_ediv_mul_of_pos _ _ hk]
/-- what reduced fractions add up to -/
theorem rd_add {T B t d nu sc : Int} (hB : 0 < B) (e : rd T B = (t, d)) (hs : 0 < sc) (hd : sc ∣ B) : rd (t * sc + nu * d) (d * sc) = rd (T + nu * (B / sc)) B := by
  obtain ⟨k, rfl⟩ := hd
  have g0 : 0 < (Int.gcd T (sc * k) : Int) := by
    have := Int.gcd_pos_of_ne_zero_right T (show sc * k ≠ 0 by omega)
    omega
  generalize hg : (Int.gcd T (sc * k) : Int) = g at *
  unfold rd at e
  rw [hg] at e
  have eT : T = g * t := by
    rw [← (Prod.mk.inj e).1, Int.mul_ediv_cancel']
    rw [← hg]; exact Int.gcd_dvd_left ..
  have eB : sc * k = g * d := by
    rw [← (Prod.mk.inj e).2, Int.mul_ediv_cancel']
    rw [← hg]; exact Int.gcd_dvd_right ..
  rw [← rd_mul g0, ← rd_mul (t := T + nu * (sc * k / sc)) hs]
  rw [Int.mul_ediv_cancel_left _ (by omega)]
  congr 1
  · rw [eT]
    have : nu * (g * d) = nu * (sc * k) := by rw [eB]
    grind
  · rw [eB]
    grind
theorem rd_den {t b : Int} (hb : 0 < b) : 0 < (rd t b).2 ∧ (rd t b).2 ≤ b := by
  unfold rd
  have g0 : 0 < (Int.gcd t b : Int) := by
    have := Int.gcd_pos_of_ne_zero_right t (show b ≠ 0 by omega)
    omega
  have dv : (Int.gcd t b : Int) ∣ b := Int.gcd_dvd_right ..
  refine ⟨?_, Int.ediv_le_self _ (by omega)⟩
  exact Int.ediv_pos_of_pos_of_dvd hb (by omega) dv
/-- how great a denominator may be -/
def lim : Nat := 2 ^ 7000
theorem lim_wf {x : Nat} (h : x < lim) : x < 2 ^ 100000 := Nat.lt_trans h (Nat.pow_lt_pow_right (by decide) (by decide))
theorem lim_bits {x : Int} (h : x.natAbs < lim) : bits x < 7000 := bits_lt (by decide) h
theorem lowest_W (h : CfOk C) (hn : 1 ≤ n) {t b : Int} (hb : 0 < b) (hl : b.natAbs < lim) (q : P (rdD t b) S) : (callF C n 10 [.int t, .int b] S).W P E := by
  obtain ⟨m, rfl⟩ : ∃ m, n = m + 1 := ⟨n - 1, by omega⟩
  rw [W_call h.p10 rfl (by decide), ir10]
  have g0 : 0 < (Int.gcd t b : Int) := by
    have := Int.gcd_pos_of_ne_zero_right t (show b ≠ 0 by omega)
    omega
  have g1 : bits (Int.gcd t b : Int) < 8000 := Nat.lt_trans (lim_bits (Nat.lt_of_le_of_lt (by
    have := Int.le_of_dvd hb (Int.gcd_dvd_right (a := t) (b := b))
    omega) hl)) (by decide)
  have hg : ∀ {Q : D → Sto → Prop}, uP Q (bltD C .gcd S (.int t :: .int b :: [])) = Q (.int (Int.gcd t b : Nat)) S := id rfl
  try walk_at "mp"
  rw [hg, h_div g0 g1, h_div g0 g1, if_pos (by decide)]
  exact q
theorem law_lowest_W (h : CfOk C) (hn : 1 ≤ n) {t b : Int} (hb : 0 < b) (hl : b.natAbs < lim) (q : P (rdD t b) S) : (callF C n 19 [.int t, .int b] S).W P E := by
  obtain ⟨m, rfl⟩ : ∃ m, n = m + 1 := ⟨n - 1, by omega⟩
  rw [W_call h.p19 rfl (by decide), ir19]
  have ha : ∀ {Q : D → Sto → Prop}, uP Q (bltD C .abs S (.int t :: [])) = Q (.int (t.natAbs : Int)) S := fun {Q} => by
    rw [b_abs, uP_some]
    congr 2
    split <;> omega
  have g0 : 0 < (Int.gcd t b : Int) := by
    have := Int.gcd_pos_of_ne_zero_right t (show b ≠ 0 by omega)
    omega
  have g1 : bits (Int.gcd t b : Int) < 8000 := Nat.lt_trans (lim_bits (Nat.lt_of_le_of_lt (by
    have := Int.le_of_dvd hb (Int.gcd_dvd_right (a := t) (b := b))
    omega) hl)) (by decide)
  try walk_at "mp"
  rw [ha, W_while]
  refine W_whileK (fun ρ S' => S' = S ∧ ∃ x y : Int, ρ = [some (.int t), some (.int b), some (.int x), some (.int y)] ∧ 0 ≤ x ∧ 0 ≤ y ∧ Int.gcd x y = Int.gcd t b) (fun ρ _ => match ρ with
    | [_, _, _, some (.int y)] => y.toNat
    | _ => 0) (fun ρ S' hI => ?_) _ _ _ ⟨rfl, _, _, rfl, by omega, by omega, by simp [Int.gcd]⟩ ?_
  · obtain ⟨rfl, x, y, rfl, x0, y0, e⟩ := hI
    try walk_at "mp"
    by_cases hy : y = 0
    · subst hy
      rw [decide_eq_true rfl, if_neg (by decide)]
      have ex : x = (Int.gcd t b : Int) := by
        rw [← e]
        simp only [Int.gcd, Int.natAbs_zero, Nat.gcd_zero_right]
        omega
      rw [ex, h_div g0 g1, h_div g0 g1, if_pos (by decide)]
      exact q
    · rw [decide_eq_false hy, if_pos (by decide), h_mod (by omega)]
      refine ⟨⟨rfl, _, _, rfl, y0, Int.emod_nonneg _ hy, ?_⟩, ?_⟩
      · rw [← e, Int.gcd_comm x y]
        have := Int.gcd_add_mul_left_right y (x % y) (x / y)
        rw [Int.emod_add_mul_ediv] at this
        exact this.symm
      · have := Int.emod_lt_of_pos x (show 0 < y by omega)
        have := Int.emod_nonneg x hy
        show (x % y).toNat < y.toNat
        omega
  · exact h.wf _ (lim_wf (Nat.lt_of_le_of_lt (show b.toNat ≤ b.natAbs by omega) hl))
theorem added_W (h : CfOk C) (hn : 2 ≤ n) {t d nu sc : Int} (hd : 0 < d) (hs : 0 < sc) (hs1 : sc < 500000000000000000) (hu : nu.natAbs < 500000000000000000) (hl : (d * sc).natAbs < lim) (q : P (rdD (t * sc + nu * d) (d * sc)) S) : (callF C n 20 [.tup [.int t, .int d], .tup [.int nu, .int sc]] S).W P E := by
  obtain ⟨m, rfl⟩ : ∃ m, n = m + 1 := ⟨n - 1, by omega⟩
  rw [W_call h.p20 rfl (by decide), ir20]
  have bs : bits sc < 60 := bits_lt (by decide) (by omega)
  have bu : bits nu < 60 := bits_lt (by decide) (by omega)
  try walk_at "mp"
  rw [h_mul (.inr (.inl bs)), h_mul (.inl bu), h_add, h_mul (.inr (.inl bs))]
  exact law_lowest_W h (by omega) (Int.mul_pos hd hs) hl q
end
end HB
end MWn
section MWo
set_option Elab.async false
set_option linter.all false
set_option maxRecDepth 100000
set_option maxHeartbeats 2000000
namespace HB
open PySem MP L2
section
variable {C : Cf} {S S' : Sto} {n j : Nat} {P : D → Sto → Prop} {E : Nat → D → Sto → Prop}
/-! ### dicts over numbers -/
def kv {α : Type} (f : α → D) (ks : List (Int × α)) : List (Key × D) := ks.map fun p => (.inl p.1, f p.2)
def getK {α : Type} (ks : List (Int × α)) (s : Int) : Option α := (ks.find? fun p => decide (p.1 = s)).map (·.2)
def putK {α : Type} (ks : List (Int × α)) (s : Int) (v : α) : List (Int × α) := if (ks.any fun p => decide (p.1 = s)) = true then ks.map (fun p => if p.1 = s then (p.1, v) else p) else ks ++ [(s, v)]
theorem putK_keys {α : Type} {ks : List (Int × α)} {s : Int} {v : α} : (putK ks s v).map (·.1) = if s ∈ ks.map (·.1) then ks.map (·.1) else ks.map (·.1) ++ [s] := by
  unfold putK
  by_cases h : (ks.any fun p => decide (p.1 = s)) = true
  · have h' : s ∈ ks.map (·.1) := by
      rw [List.any_eq_true] at h
      obtain ⟨p, hp, e⟩ := h
      exact List.mem_map.mpr ⟨p, hp, of_decide_eq_true e⟩
    rw [if_pos h, if_pos h', List.map_map]
    congr 1
    funext p
    by_cases h : p.1 = s <;> simp [h]
  · have h' : ¬ s ∈ ks.map (·.1) := by
      intro m
      obtain ⟨p, hp, e⟩ := List.mem_map.mp m
      exact h (List.any_eq_true.mpr ⟨p, hp, decide_eq_true e⟩)
    rw [if_neg h, if_neg h']
    simp
theorem getK_none {α : Type} {ks : List (Int × α)} {s : Int} (h : getK ks s = none) : ¬ s ∈ ks.map (·.1) := by
  intro m
  obtain ⟨p, hp, e⟩ := List.mem_map.mp m
  unfold getK at h
  rw [Option.map_eq_none_iff, List.find?_eq_none] at h
  exact h p hp (decide_eq_true e)
theorem getK_some {α : Type} {ks : List (Int × α)} {s : Int} {v : α} (h : getK ks s = some v) : (s, v) ∈ ks := by
  unfold getK at h
  rw [Option.map_eq_some_iff] at h
  obtain ⟨p, hp, rfl⟩ := h
  have e := List.find?_some hp
  have e := of_decide_eq_true e
  rw [← e]
  exact List.mem_of_find?_eq_some hp
theorem getK_mem {α : Type} {ks : List (Int × α)} {s : Int} (h : s ∈ ks.map (·.1)) : ∃ v, getK ks s = some v := by
  cases hg : getK ks s with
  | some v => exact ⟨v, rfl⟩
  | none => exact absurd h (getK_none hg)
theorem putK_ne {α : Type} {ks : List (Int × α)} {s k : Int} {x v : α} (h : k ≠ s) : putK ((k, x) :: ks) s v = (k, x) :: putK ks s v := by
  unfold putK
  have e0 : (((k, x) :: ks).any fun p => decide (p.1 = s)) = ks.any fun p => decide (p.1 = s) := by simp [h]
  rw [e0]
  split
  · rw [List.map_cons, if_neg h]
  · rfl
theorem putK_eq {α : Type} {ks : List (Int × α)} {k : Int} {x v : α} (h : ¬ k ∈ ks.map (·.1)) : putK ((k, x) :: ks) k v = (k, v) :: ks := by
  unfold putK
  rw [if_pos (by simp), List.map_cons, if_pos rfl]
  congr 1
  have : ∀ p ∈ ks, (if p.1 = k then (p.1, v) else p) = p := fun p hp => if_neg fun e => h (List.mem_map.mpr ⟨p, hp, e⟩)
  rw [List.map_congr_left this]
  simp
def sgK (g : Int → Int) (ks : List (Int × Int)) : Int := (ks.map fun p => p.2 * g p.1).sum
theorem sgK_put {g : Int → Int} {s nu : Int} : ∀ {ks : List (Int × Int)}, (ks.map (·.1)).Nodup → sgK g (putK ks s ((getK ks s).getD 0 + nu)) = sgK g ks + nu * g s
  | [], _ => by simp [sgK, putK, getK]
  | (k, x) :: r, nd => by
    rw [List.map_cons, List.nodup_cons] at nd
    by_cases e : k = s
    · subst e
      have eg : getK ((k, x) :: r) k = some x := by simp [getK]
      rw [eg, putK_eq nd.1]
      simp only [sgK, List.map_cons, List.sum_cons, Option.getD_some, Int.add_mul]
      omega
    · rw [putK_ne e]
      have eg : getK ((k, x) :: r) s = getK r s := by simp [getK, e]
      have ih := sgK_put (g := g) (s := s) (nu := nu) nd.2
      rw [eg]
      simp only [sgK, List.map_cons, List.sum_cons] at ih ⊢
      omega
theorem putK_mem {α : Type} {ks : List (Int × α)} {s : Int} {v : α} {p : Int × α} (h : p ∈ putK ks s v) : p ∈ ks ∨ p = (s, v) := by
  unfold putK at h
  split at h
  · obtain ⟨q, hq, rfl⟩ := List.mem_map.mp h
    by_cases e : q.1 = s
    · rw [if_pos e]; right; rw [e]
    · rw [if_neg e]; exact .inl hq
  · rw [List.mem_append, List.mem_singleton] at h
    exact h
theorem nodup_put {α : Type} {ks : List (Int × α)} {s : Int} {v : α} (h : (ks.map (·.1)).Nodup) : ((putK ks s v).map (·.1)).Nodup := by
  rw [putK_keys]
  split
  · exact h
  · rename_i hn
    rw [List.nodup_append]
    refine ⟨h, by simp, fun a ha b hb => ?_⟩
    rw [List.mem_singleton] at hb
    subst hb
    rintro rfl
    exact hn ha
theorem valD_kv {α : Type} {f : α → D} {ks : List (Int × α)} {s : Int} : valD (kv f ks) (.inl s) = (getK ks s).map f := by
  unfold valD getK kv
  rw [List.find?_map]
  have e : ((fun p : Key × D => decide (p.1 = (.inl s : Key))) ∘ fun p : Int × α => ((.inl p.1 : Key), f p.2)) = fun p : Int × α => decide (p.1 = s) := by
    funext p
    simp
  rw [e]
  cases List.find? (fun p : Int × α => decide (p.1 = s)) ks <;> rfl
theorem putD_kv {α : Type} {f : α → D} {ks : List (Int × α)} {s : Int} {v : α} : putD (kv f ks) (.inl s) (f v) = kv f (putK ks s v) := by
  unfold putD putK kv
  rw [List.any_map]
  have e : ((fun p : Key × D => decide (p.1 = (.inl s : Key))) ∘ fun p : Int × α => ((.inl p.1 : Key), f p.2)) = fun p : Int × α => decide (p.1 = s) := by
    funext p
    simp
  rw [e]
  split
  · rw [List.map_map, List.map_map]
    congr 1
    funext p
    by_cases h : p.1 = s <;> simp [h]
  · simp
theorem h_get {α : Type} {f : α → D} {ks : List (Int × α)} {s : Int} {d : D} {r : Nat} (h : S[r]? = some (.dct (kv f ks))) : uP P (mthD C .get S (.ref r) (.int s :: d :: [])) = P (((getK ks s).map f).getD d) S := by
  simp only [mthD, h, keyD, valD_kv]
  rfl
theorem h_setK {α : Type} {f : α → D} {ks : List (Int × α)} {s : Int} {v : α} {d : D} {r : Nat} {Q : Sto → Prop} (h : S[r]? = some (.dct (kv f ks))) (hl : ks.length < 1000000) (hd : d = f v) : sP Q (setD S (.ref r) (.int s) d) = Q (S.set r (.dct (kv f (putK ks s v)))) := by
  subst hd
  simp only [setD, h, keyD]
  rw [if_pos (by simpa [kv] using hl), putD_kv]
  rfl
theorem h_dct {kvs : List (Key × D)} {r : Nat} (h : S[r]? = some (.dct kvs)) : tyD S (.ref r) = some "dict" := by simp [tyD, h]
theorem h_lst {ds : List D} {r : Nat} (h : S[r]? = some (.lst ds)) : tyD S (.ref r) = some "list" := by simp [tyD, h]
theorem h_lcm {x y : Int} (hx : x.natAbs < lim) (hy : y.natAbs < lim) (hl : Int.lcm x y < lim) : uP P (bltD C .lcm S (.int x :: .int y :: [])) = P (.int (Int.lcm x y : Nat)) S := by
  have e : bltD C .lcm S [.int x, .int y] = some (.int (Int.lcm x y : Nat), S) := by
    simp only [bltD]
    refine if_pos ⟨?_, ?_, ?_⟩
    · exact Nat.lt_trans (lim_bits hx) (by decide)
    · exact Nat.lt_trans (lim_bits hy) (by decide)
    · exact Nat.lt_trans (lim_bits (x := (Int.lcm x y : Nat)) (by rw [Int.natAbs_natCast]; exact hl)) (by decide)
  rw [e]
  rfl
theorem ints_map : ∀ is : List Int, ints? (is.map .int) = some is
  | [] => rfl
  | i :: r => by rw [List.map_cons, ints?, ints_map r]; rfl
theorem h_sum {is : List Int} {r : Nat} (h : S[r]? = some (.lst (is.map .int))) : uP P (bltD C .sum S (.ref r :: [])) = P (.int is.sum) S := by
  simp only [bltD, h, ints_map]
  rfl
theorem W_lockS {cf : Nat → List D → Sto → Rs D} {ρ : Rho} {nx bk ct : Rho → Sto → Prop} {rt : D → Sto → Prop} {i r : Nat} {kvs : List (Key × D)} {s : Sm} (h : lockD ρ S i = some (r, kvs)) : (evS C cf (.lock i s) ρ S).W nx rt bk ct E = (evS C cf s ρ (S.set r (.dcF kvs))).W (fun ρ' S' => nx ρ' (S'.set r (.dct kvs))) (fun d S' => rt d (S'.set r (.dct kvs))) (fun ρ' S' => bk ρ' (S'.set r (.dct kvs))) (fun ρ' S' => ct ρ' (S'.set r (.dct kvs))) noX := by
  rw [evS]
  simp only [h]
  cases evS C cf s ρ (S.set r (.dcF kvs)) <;> rfl
theorem W_lockE {cf : Nat → List D → Sto → Rs D} {ρ : Rho} {i r : Nat} {kvs : List (Key × D)} {a : Ex} (h : lockD ρ S i = some (r, kvs)) : (evE C cf (.lock i a) ρ S).W P E = (evE C cf a ρ (S.set r (.dcF kvs))).W (fun d S' => P d (S'.set r (.dct kvs))) noX := by
  rw [evE]
  simp only [h]
  cases evE C cf a ρ (S.set r (.dcF kvs)) <;> rfl
theorem W_Ikeys {cf : Nat → List D → Sto → Rs D} {ρ : Rho} {i r : Nat} {kvs : List (Key × D)} {Pi : Iv → Sto → Prop} (h : lockedI ρ S i = some (r, kvs)) : (evI C cf (.keys i) ρ S).W Pi E = Pi (.keys r kvs) S := by
  rw [evI, h]
  rfl
theorem W_Iitems {cf : Nat → List D → Sto → Rs D} {ρ : Rho} {i r : Nat} {kvs : List (Key × D)} {Pi : Iv → Sto → Prop} (h : lockedI ρ S i = some (r, kvs)) : (evI C cf (.items i) ρ S).W Pi E = Pi (.items r kvs) S := by
  rw [evI, h]
  rfl
end
local macro_rules | `(tactic| walk_at "mp") => `(tactic| simp only [↓W_seq, ↓W_nil, ↓W_if, ↓W_ret, ↓W_asg, ↓W_asgT, ↓W_Tname, ↓W_Ttup, ↓W_Tsnil, ↓W_Tscons, ↓W_Tsub, ↓W_Tfld, ↓W_Iseq, ↓W_Ienum, ↓W_Irng, ↓rP_int, ↓h_seqT, ↓h_enumT, ↓h_pow6, ↓h_pow12, ↓h_pow15, ↓W_expr, ↓W_raise, ↓W_par, ↓WB_or, ↓WB_and, ↓WB_not, ↓WB_cmpP, ↓WB_isiP, ↓WB_call, ↓WB_var, ↓h_isb, ↓h_isiS, ↓h_isiT, ↓h_isiI, ↓h_isiB, ↓h_isiN, ↓W_var, ↓W_cst, ↓W_bin, ↓W_neg, ↓W_cmp, ↓W_and, ↓W_or, ↓W_not, ↓W_ife, ↓W_tup, ↓W_lst, ↓W_dct, ↓W_callE, ↓W_blt, ↓W_mth, ↓W_fld, ↓W_idx, ↓W_slc, ↓W_Ono, ↓W_Oso, ↓W_Lnil, ↓W_Lcons, ↓W_heard, ↓W_tells, ↓W_refuses,
  ↓reduceIte, List.getElem?_cons_zero, List.getElem?_cons_succ, List.map_cons, List.map_nil, List.cons_append, List.nil_append, List.append_nil, Nat.sub_self, List.replicate_zero, List.replicate_succ, List.set_cons_zero, List.set_cons_succ, if_true, if_false, Bool.false_eq_true, Bool.not_true, Bool.not_false, ↓v0, ↓v1, ↓h_tn, ↓h_tb, ↓h_ti, ↓h_ts, ↓h_tt, ↓h_tscr, ↓h_bl, ↓h_le, ↓h_lt, ↓h_gt, ↓h_ge, ↓h_isn, ↓h_isnn, ↓h_eqi, ↓h_nei, ↓h_lenT, ↓h_add, ↓h_sub, ↓h_int, ↓h_intb, ↓h_x0, ↓h_x1, ↓h_x2, ↓h_x3, ↓h_if, ↓h_if2, ↓nP_int, ↓iP_int, ↓tP_bl, List.length_cons, List.length_nil, Nat.zero_add, Nat.reduceAdd, Nat.reduceLT, vP_some, oP_some, uP_some, k_NoneType_bool, k_NoneType_int, k_NoneType_str, k_NoneType_tuple, k_NoneType_list, k_NoneType_dict, k_bool_bool, k_bool_int, k_bool_str, k_bool_tuple, k_bool_list, k_bool_dict, k_int_bool, k_int_int, k_int_str, k_int_tuple, k_int_list, k_int_dict, k_str_bool, k_str_int, k_str_str, k_str_tuple, k_str_list, k_str_dict, k_tuple_bool, k_tuple_int, k_tuple_str, k_tuple_tuple, k_tuple_list, k_tuple_dict, k_list_bool, k_list_int, k_list_str, k_list_tuple, k_list_list, k_list_dict, k_dict_bool, k_dict_int, k_dict_str, k_dict_tuple, k_dict_list, k_dict_dict, n_non, n_int, n_bl, n_tup, n_str, n_ref])
section
variable {C : Cf} {S S' : Sto} {n j : Nat} {P : D → Sto → Prop} {E : Nat → D → Sto → Prop}
/-- a number that all scales divide -/
structure Com (B : Int) (bs : List Bi) : Prop where
  pos : 0 < B
  lt : B.natAbs * 1000000 < lim
  dv : ∀ b ∈ bs, b.sc ∣ B
theorem Com.sub {B : Int} {bs cs : List Bi} (h : Com B bs) (s : ∀ b ∈ cs, b ∈ bs) : Com B cs := ⟨h.pos, h.lt, fun b hb => h.dv b (s b hb)⟩
def topB (B : Int) (bs : List Bi) : Int := (bs.map fun b => b.nu * (B / b.sc)).sum
theorem topB_snoc {B : Int} {bs : List Bi} {b : Bi} : topB B (bs ++ [b]) = topB B bs + b.nu * (B / b.sc) := by simp [topB]
theorem sg_mul {M k : Int} : ∀ {ks : List (Int × Int)}, (∀ p ∈ ks, 0 < p.1 ∧ p.1 ∣ M) → sgK (fun s => M * k / s) ks = k * sgK (fun s => M / s) ks
  | [], _ => by simp [sgK]
  | (s, t) :: r, h => by
    have ih := sg_mul (M := M) (k := k) (ks := r) fun p hp => h p (by simp [hp])
    obtain ⟨h0, m, rfl⟩ := h (s, t) (by simp)
    simp only [sgK, List.map_cons, List.sum_cons] at ih ⊢
    rw [ih, Int.mul_ediv_cancel_left _ (Int.ne_of_gt h0), Int.mul_assoc, Int.mul_ediv_cancel_left _ (Int.ne_of_gt h0), Int.mul_add]
    congr 1
    grind
theorem keys_at {r i : Nat} {ks : List (Int × Int)} : (Iv.keys r (kv .int ks)).at C S i = some ((ks.map fun p => D.int p.1)[i]?) := by
  simp only [Iv.at, kv, List.getElem?_map, Option.map_map]
  rfl
theorem items_at {r i : Nat} {ks : List (Int × Int)} : (Iv.items r (kv .int ks)).at C S i = some ((ks.map fun p => D.tup [.int p.1, .int p.2])[i]?) := by
  simp only [Iv.at, kv, List.getElem?_map, Option.map_map]
  rfl
theorem sum_of_W (h : CfOk C) (hn : 2 ≤ n) {bs : List Bi} {B : Int} {r : Nat} (hB : Com B bs) (hl : bs.length ≤ 1000) (ok : ∀ b ∈ bs, b.ok) (e : S[r]? = some (.lst (bs.map Bi.d))) (q : ∀ S', Kp [] S S' → P (rdD (topB B bs) B) S') : (callF C n 11 [.ref r] S).W P E := by
  obtain ⟨m, rfl⟩ : ∃ m, n = m + 1 := ⟨n - 1, by omega⟩
  rw [W_call h.p11 rfl (by decide), ir11]
  try walk_at "mp"
  rw [W_for]
  try walk_at "mp"
  have hr : r < S.length := (List.getElem?_eq_some_iff.mp e).1
  rw [h_seqL ((Kp.app S _).at_ e (by simp))]
  refine W_forK (xs := bs.map Bi.d) (fun i ρ S1 => (∃ o2 o3 o4, ρ = [some (.ref r), some (.ref S.length), o2, o3, o4, none, none]) ∧ Kp [] S S1 ∧ ∃ ks : List (Int × Int), S1[S.length]? = some (.dct (kv .int ks)) ∧ (ks.map (·.1)).Nodup ∧ ks.length ≤ i ∧ (∀ p ∈ ks, 0 < p.1 ∧ p.1 ∣ B ∧ p.2.natAbs ≤ i * 1000000000000000) ∧ sgK (fun s => B / s) ks = topB B (bs.take i)) (fun i ρ S1 hI => ?_) (fun i ρ S1 x hI hx => ?_) (fun ρ S1 hI => ?_) _ 0 _ _ ⟨⟨_, _, _, rfl⟩, Kp.app _ _, [], new_at _ _, by simp, by simp, nofun, by simp [sgK, topB]⟩ (Nat.zero_le _) ?_
  · simp only [Iv.at, hI.2.1.at_ e (by simp)]
  · obtain ⟨⟨o2, o3, o4, rfl⟩, k1, ks, e1, nd, l1, g1, s1⟩ := hI
    rw [List.getElem?_map, Option.map_eq_some_iff] at hx
    obtain ⟨b, hb, rfl⟩ := hx
    have hi := (List.getElem?_eq_some_iff.mp hb).1
    have bo := ok b (List.mem_of_getElem? hb)
    have bd := hB.dv b (List.mem_of_getElem? hb)
    rw [W_turn]
    simp only [Bi.d]
    try walk_at "mp"
    rw [if_pos (by rw [h_dct e1]; rfl), h_get e1]
    have eg : ((getK ks b.sc).map D.int).getD (.int 0) = .int ((getK ks b.sc).getD 0) := by cases getK ks b.sc <;> rfl
    rw [eg, h_add, h_setK (f := D.int) (v := (getK ks b.sc).getD 0 + b.nu) e1 (by omega) rfl]
    have lt := (List.getElem?_eq_some_iff.mp e1).1
    refine ⟨⟨_, _, _, rfl⟩, k1.setN (Nat.le_refl _), _, at_set e1, nodup_put nd, ?_, fun p hp => ?_, ?_⟩
    · have := congrArg List.length (putK_keys (ks := ks) (s := b.sc) (v := (getK ks b.sc).getD 0 + b.nu))
      rw [List.length_map] at this
      rw [this]
      split <;> simp <;> omega
    · have b0 := bo.s0
      have b1 := bo.n0
      have b2 := bo.n1
      rcases putK_mem hp with hp | rfl
      · obtain ⟨a1, a2, a3⟩ := g1 p hp
        exact ⟨a1, a2, Nat.le_trans a3 (Nat.mul_le_mul_right _ (Nat.le_succ i))⟩
      · refine ⟨by omega, bd, ?_⟩
        cases hg : getK ks b.sc with
        | none => simp only [Option.getD_none]; omega
        | some v =>
          have := (g1 _ (getK_some hg)).2.2
          simp only [Option.getD_some]
          omega
    · rw [sgK_put nd, s1, List.take_add_one, hb]
      exact topB_snoc.symm
  · obtain ⟨⟨o2, o3, o4, rfl⟩, k1, ks, e1, nd, l1, g1, s1⟩ := hI
    rw [List.length_map] at l1 g1 s1
    rw [List.take_of_length_le (Nat.le_refl _)] at s1
    try walk_at "mp"
    have hlk : lockD [some (.ref r), some (.ref S.length), o2, o3, o4, some (.int 1), none] S1 1 = some (S.length, kv .int ks) := by simp [lockD, e1]
    rw [W_lockS hlk, W_for]
    have e2 := at_set (o' := .dcF (kv .int ks)) e1
    rw [W_Ikeys (r := S.length) (kvs := kv .int ks) (by simp [lockedI, e2])]
    have lB : B.natAbs < lim := Nat.lt_of_le_of_lt (by omega) hB.lt
    have B0 := hB.pos
    refine W_forK (xs := ks.map fun p => D.int p.1) (fun i ρ S2 => S2 = S1.set S.length (.dcF (kv .int ks)) ∧ ∃ o2 o3 o4, ∃ M : Int, ρ = [some (.ref r), some (.ref S.length), o2, o3, o4, some (.int M), none] ∧ 0 < M ∧ M ∣ B ∧ ∀ p ∈ ks.take i, p.1 ∣ M) (fun i ρ S2 hI => keys_at) (fun i ρ S2 x hI hx => ?_) (fun ρ S2 hI => ?_) _ 0 _ _ ⟨rfl, _, _, _, 1, rfl, by decide, Int.one_dvd _, nofun⟩ (Nat.zero_le _) ?_
    · obtain ⟨rfl, o2, o3, o4, M, rfl, M0, MB, hM⟩ := hI
      rw [List.getElem?_map, Option.map_eq_some_iff] at hx
      obtain ⟨p, hp, rfl⟩ := hx
      obtain ⟨p0, pB, _⟩ := g1 p (List.mem_of_getElem? hp)
      have hlB : (Int.lcm M p.1 : Int) ∣ B := Int.coe_lcm_dvd MB pB
      have hl0 : 0 < Int.lcm M p.1 := Int.lcm_pos (by omega) (by omega)
      have a1 := Int.le_of_dvd B0 hlB
      have a2 := Int.le_of_dvd B0 MB
      have a3 := Int.le_of_dvd B0 pB
      rw [W_turn]
      try walk_at "mp"
      rw [h_lcm (by omega) (by omega) (by omega)]
      refine ⟨rfl, _, _, _, _, rfl, by omega, hlB, fun p' hp' => ?_⟩
      rw [List.take_add_one, hp, List.mem_append] at hp'
      rcases hp' with hp' | hp'
      · exact Int.dvd_trans (hM p' hp') (Int.dvd_lcm_left ..)
      · have : p' = p := by simpa using hp'
        rw [this]
        exact Int.dvd_lcm_right ..
    · obtain ⟨rfl, o2, o3, o4, M, rfl, M0, MB, hM⟩ := hI
      rw [List.length_map, List.take_of_length_le (Nat.le_refl _)] at hM
      have eS : (S1.set S.length (O.dcF (kv D.int ks))).set S.length (.dct (kv D.int ks)) = S1 := by
        rw [List.set_set]
        obtain ⟨hlt, he⟩ := List.getElem?_eq_some_iff.mp e1
        rw [← he, List.set_getElem_self]
      rw [eS]
      try walk_at "mp"
      have hlk : lockD [some (.ref r), some (.ref S.length), o2, o3, o4, some (.int M), none] S1 1 = some (S.length, kv .int ks) := by simp [lockD, e1]
      rw [W_lockE hlk, W_comp]
      rw [W_Iitems (r := S.length) (kvs := kv .int ks) (by simp [lockedI, e2])]
      have MB' := Int.le_of_dvd B0 MB
      refine comp_map (xs := ks.map fun p => D.tup [.int p.1, .int p.2]) (fun d => match d with
        | .tup [.int s, .int t] => some (.int (t * (M / s)))
        | _ => none) (by simp; omega) (by simp [Iv.many, kv]) (fun S2 i _ => items_at) (fun x S2 hx k2 => ?_) fun S2 e3 k2 => ?_
      · obtain ⟨p, hp, rfl⟩ := List.mem_map.mp hx
        obtain ⟨p0, pB, pt⟩ := g1 p hp
        have a3 := Int.le_of_dvd B0 pB
        rw [W_turnC]
        simp only [wipeR]
        try walk_at "mp"
        simp only [W_Ifnil]
        try walk_at "mp"
        rw [h_div p0 (Nat.lt_trans (lim_bits (x := p.1) (by omega)) (by decide)), h_mul (.inl (bits_lt (by decide) (by omega)))]
        exact ⟨by trivial, Kp.refl _ _⟩
      · have ef : (ks.map fun p => D.tup [.int p.1, .int p.2]).filterMap (fun d => match d with
          | .tup [.int s, .int t] => some (.int (t * (M / s)))
          | _ => none) = (ks.map fun p => p.2 * (M / p.1)).map D.int := by
          rw [List.filterMap_map, List.map_map]
          exact (List.filterMap_eq_map (f := fun p : Int × Int => D.int (p.2 * (M / p.1)))) ▸ rfl
        rw [ef] at e3
        have e4 : (S2.set S.length (.dct (kv .int ks)))[(S1.set S.length (.dcF (kv D.int ks))).length]? = some (.lst ((ks.map fun p => p.2 * (M / p.1)).map D.int)) := by
          rw [List.getElem?_set_ne]
          · exact e3
          · rw [List.length_set]
            have := (List.getElem?_eq_some_iff.mp e1).1
            omega
        rw [h_sum e4]
        refine lowest_W h (by omega) M0 (by omega) ?_
        obtain ⟨k, hk⟩ := MB
        have k0 : 0 < k := by
          rw [hk] at B0
          by_cases hk0 : 0 < k
          · exact hk0
          · have := Int.mul_le_mul_of_nonneg_left (show k ≤ 0 by omega) (show 0 ≤ M by omega)
            rw [Int.mul_zero] at this
            omega
        have er : rdD (List.map (fun p : Int × Int => p.2 * (M / p.1)) ks).sum M = rdD (topB B bs) B := by
          have h1 : topB B bs = k * sgK (fun s => M / s) ks := by
            rw [← s1, hk]
            exact sg_mul fun p hp => ⟨(g1 p hp).1, hM p hp⟩
          rw [h1, hk, Int.mul_comm M k]
          unfold rdD
          rw [rd_mul k0]
          rfl
        rw [er]
        exact q _ (((k1.setN (Nat.le_refl _)).trans k2).setN (Nat.le_refl _))
    · simp [Iv.many, kv]
  · simp [Iv.many, (Kp.app S _).at_ e (by simp)]
end
end HB
end MWo
section MWp
set_option Elab.async false
set_option linter.all false
set_option maxRecDepth 100000
set_option maxHeartbeats 2000000
namespace HB
open PySem MP L2
local macro_rules | `(tactic| walk_at "mp") => `(tactic| simp only [↓W_seq, ↓W_nil, ↓W_if, ↓W_ret, ↓W_asg, ↓W_asgT, ↓W_Tname, ↓W_Ttup, ↓W_Tsnil, ↓W_Tscons, ↓W_Tsub, ↓W_Tfld, ↓W_Iseq, ↓W_Ienum, ↓W_Irng, ↓rP_int, ↓h_seqT, ↓h_enumT, ↓h_pow6, ↓h_pow12, ↓h_pow15, ↓W_expr, ↓W_raise, ↓W_par, ↓WB_or, ↓WB_and, ↓WB_not, ↓WB_cmpP, ↓WB_isiP, ↓WB_call, ↓WB_var, ↓h_isb, ↓h_isiS, ↓h_isiT, ↓h_isiI, ↓h_isiB, ↓h_isiN, ↓W_var, ↓W_cst, ↓W_bin, ↓W_neg, ↓W_cmp, ↓W_and, ↓W_or, ↓W_not, ↓W_ife, ↓W_tup, ↓W_lst, ↓W_dct, ↓W_callE, ↓W_blt, ↓W_mth, ↓W_fld, ↓W_idx, ↓W_slc, ↓W_Ono, ↓W_Oso, ↓W_Lnil, ↓W_Lcons, ↓W_heard, ↓W_tells, ↓W_refuses,
  ↓reduceIte, List.getElem?_cons_zero, List.getElem?_cons_succ, List.map_cons, List.map_nil, List.cons_append, List.nil_append, List.append_nil, Nat.sub_self, List.replicate_zero, List.replicate_succ, List.set_cons_zero, List.set_cons_succ, if_true, if_false, Bool.false_eq_true, Bool.not_true, Bool.not_false, ↓v0, ↓v1, ↓h_tn, ↓h_tb, ↓h_ti, ↓h_ts, ↓h_tt, ↓h_tscr, ↓h_bl, ↓h_le, ↓h_lt, ↓h_gt, ↓h_ge, ↓h_isn, ↓h_isnn, ↓h_eqi, ↓h_nei, ↓h_lenT, ↓h_add, ↓h_sub, ↓h_int, ↓h_intb, ↓h_x0, ↓h_x1, ↓h_x2, ↓h_x3, ↓h_if, ↓h_if2, ↓nP_int, ↓iP_int, ↓tP_bl, List.length_cons, List.length_nil, Nat.zero_add, Nat.reduceAdd, Nat.reduceLT, vP_some, oP_some, uP_some, k_NoneType_bool, k_NoneType_int, k_NoneType_str, k_NoneType_tuple, k_NoneType_list, k_NoneType_dict, k_bool_bool, k_bool_int, k_bool_str, k_bool_tuple, k_bool_list, k_bool_dict, k_int_bool, k_int_int, k_int_str, k_int_tuple, k_int_list, k_int_dict, k_str_bool, k_str_int, k_str_str, k_str_tuple, k_str_list, k_str_dict, k_tuple_bool, k_tuple_int, k_tuple_str, k_tuple_tuple, k_tuple_list, k_tuple_dict, k_list_bool, k_list_int, k_list_str, k_list_tuple, k_list_list, k_list_dict, k_dict_bool, k_dict_int, k_dict_str, k_dict_tuple, k_dict_list, k_dict_dict, n_non, n_int, n_bl, n_tup, n_str, n_ref])
section
variable {C : Cf} {S S' : Sto} {n j : Nat} {P : D → Sto → Prop} {E : Nat → D → Sto → Prop}
theorem insS_mem {i x : Int} : ∀ {l : List Int}, x ∈ insS i l ↔ x = i ∨ x ∈ l
  | [] => by simp [insS]
  | j :: r => by
    rw [insS]
    split
    · simp
    · rw [List.mem_cons, insS_mem, List.mem_cons]
      constructor
      · rintro (h | h | h) <;> simp [h]
      · rintro (h | h | h) <;> simp [h]
theorem sortI_mem {x : Int} : ∀ {l : List Int}, x ∈ sortI l ↔ x ∈ l
  | [] => by simp [sortI]
  | i :: r => by rw [sortI, insS_mem, sortI_mem, List.mem_cons]
theorem insS_len {i : Int} : ∀ {l : List Int}, (insS i l).length = l.length + 1
  | [] => rfl
  | j :: r => by
    rw [insS]
    split
    · rfl
    · rw [List.length_cons, insS_len, List.length_cons]
theorem sortI_len : ∀ {l : List Int}, (sortI l).length = l.length
  | [] => rfl
  | i :: r => by rw [sortI, insS_len, sortI_len, List.length_cons]
theorem nodup_inj {α β : Type} {f : α → β} : ∀ {l : List α} {x y : α}, (l.map f).Nodup → x ∈ l → y ∈ l → f x = f y → x = y
  | a :: r, x, y, nd, hx, hy, e => by
    rw [List.map_cons, List.nodup_cons] at nd
    rcases List.mem_cons.mp hx with hx1 | hx1
    · rcases List.mem_cons.mp hy with hy1 | hy1
      · rw [hx1, hy1]
      · exact absurd (List.mem_map.mpr ⟨y, hy1, by rw [← e, hx1]⟩) nd.1
    · rcases List.mem_cons.mp hy with hy1 | hy1
      · exact absurd (List.mem_map.mpr ⟨x, hx1, by rw [e, hy1]⟩) nd.1
      · exact nodup_inj nd.2 hx1 hy1 e
theorem nub_nodup : ∀ (l : List Int), (nubI l).Nodup
  | [] => by simp [nubI]
  | i :: r => by
    rw [nubI, List.nodup_cons]
    exact ⟨by simp, (nub_nodup r).filter _⟩
theorem putK_new {α : Type} {ks : List (Int × α)} {s : Int} {v : α} (h : getK ks s = none) : putK ks s v = ks ++ [(s, v)] := by
  unfold putK
  rw [if_neg]
  intro ha
  rw [List.any_eq_true] at ha
  obtain ⟨p, hp, e⟩ := ha
  exact getK_none h (List.mem_map.mpr ⟨p, hp, of_decide_eq_true e⟩)
theorem h_setd1 {α : Type} {f : α → D} {ks : List (Int × α)} {s : Int} {d : D} {v : α} {r : Nat} (h : S[r]? = some (.dct (kv f ks))) (hl : ks.length < 1000000) (g : getK ks s = some v) : uP P (mthD C .setd S (.ref r) (.int s :: d :: [])) = P (f v) S := by
  simp only [mthD, h, keyD, valD_kv, g]
  rw [if_pos (by simpa [kv] using hl)]
  rfl
theorem h_setd0 {α : Type} {f : α → D} {ks : List (Int × α)} {s : Int} {d : D} {v : α} {r : Nat} (h : S[r]? = some (.dct (kv f ks))) (hl : ks.length < 1000000) (g : getK ks s = none) (hd : d = f v) : uP P (mthD C .setd S (.ref r) (.int s :: d :: [])) = P d (S.set r (.dct (kv f (ks ++ [(s, v)])))) := by
  simp only [mthD, h, keyD, valD_kv, g]
  rw [if_pos (by simpa [kv] using hl), hd, putD_kv, putK_new g]
  rfl
theorem h_app {ds : List D} {d : D} {r : Nat} (h : S[r]? = some (.lst ds)) (hl : ds.length < sizeLine) : uP P (mthD C .append S (.ref r) (d :: [])) = P .non (S.set r (.lst (ds ++ [d]))) := by
  simp only [mthD, h]
  rw [if_pos hl]
  rfl
theorem h_xD {α : Type} {f : α → D} {ks : List (Int × α)} {s : Int} {v : α} {r : Nat} (h : S[r]? = some (.dct (kv f ks))) (g : getK ks s = some v) : oP P S' (ixD C S (.ref r) (.int s)) = P (f v) S' := by
  simp only [ixD, h, keyD, Option.bind_some, valD_kv, g]
  rfl
theorem h_sortD {α : Type} {f : α → D} {ks : List (Int × α)} {r : Nat} (h : S[r]? = some (.dct (kv f ks))) (hl : ks.length < 64) : uP P (bltD C .sorted S (.ref r :: [])) = P (.ref S.length) (S ++ [.lst ((sortI (ks.map (·.1))).map D.int)]) := by
  have e : (kv f ks).map (fun p => dKey p.1) = (ks.map (·.1)).map D.int := by
    simp only [kv, List.map_map]
    rfl
  simp only [bltD, h, e, ints_map]
  rw [if_pos (by simpa using hl)]
  rfl
theorem h_sset {is : List Int} {r : Nat} (h : S[r]? = some (.lst (is.map D.int))) (hl : (nubI is).length < 64) (hl' : is.length ≤ 4000) : uP P (bltD C .sset S (.ref r :: [])) = P (.ref S.length) (S ++ [.lst ((sortI (nubI is)).map D.int)]) := by
  simp only [bltD, h, ints_map]
  rw [if_pos ⟨hl, hl'⟩]
  rfl
theorem W_Lstar {cf : Nat → List D → Sto → Rs D} {ρ : Rho} {e : Ex} {es : Exs} {Pl : List D → Sto → Prop} : (evL C cf (.star e es) ρ S).W Pl E = (evE C cf e ρ S).W (fun d S1 => oP (fun xs S2 => (evL C cf es ρ S2).W (fun ds S3 => Pl (xs ++ ds) S3) E) S1 (seqD C S1 d)) E := by
  rw [evL, W_bind]
  congr 1; funext d S1
  rw [W_bind, W_liftP]
  congr 1; funext xs S2
  rw [W_bind]
  rfl
theorem h_sqT {ds : List D} {Pi : List D → Sto → Prop} : oP Pi S' (seqD C S (.tup ds)) = Pi ds S' := id rfl
/-! ### a month, plainly -/
def mineOf (bs : List Bi) (w : Int) : List Bi := bs.filter fun b => decide (b.w = w)
def monthRow (B w : Int) (mine : List Bi) : D := .tup [.int w, .int mine.length, .int (rd (topB B mine) B).1, .int (rd (topB B mine) B).2]
def monthL (B : Int) (bs : List Bi) : List D := (sortI (nubI (bs.map (·.w)))).map fun w => monthRow B w (mineOf bs w)
theorem mineOf_snoc {bs : List Bi} {b : Bi} {w : Int} : mineOf (bs ++ [b]) w = if b.w = w then mineOf bs w ++ [b] else mineOf bs w := by
  unfold mineOf
  rw [List.filter_append]
  by_cases h : b.w = w <;> simp [h]
theorem mineOf_sub {bs : List Bi} {w : Int} : ∀ b ∈ mineOf bs w, b ∈ bs := fun b hb => (List.mem_filter.mp hb).1
theorem lst_at {i r : Nat} {ds : List D} (h : S[r]? = some (.lst ds)) : (Iv.lst r).at C S i = some ds[i]? := by simp [Iv.at, h]
theorem lst_many {r : Nat} {ds : List D} (h : S[r]? = some (.lst ds)) : (Iv.lst r).many C S = ds.length := by simp [Iv.many, h]
theorem month_W (h : CfOk C) (hn : 5 ≤ n) {d : D} (ok : okT S d) (q : ∀ bs, d = .tup (bs.map Bi.d) → bs.length ≤ 1000 → (∀ b ∈ bs, b.ok) → ∃ B, Com B bs ∧ (nubI (bs.map (·.w))).length < 64 ∧ ∀ S', Kp [] S S' → P (.tup (monthL B bs)) S') (e : ∀ c i S', wrongB d = some (c, i) → Kp [] S S' → E c (.int i) S') (okA : okT (S ++ [.dct []]) d) : (callF C n 12 [d] S).W P E := by
  obtain ⟨m, rfl⟩ : ∃ m, n = m + 1 := ⟨n - 1, by omega⟩
  rw [W_call h.p12 rfl (by decide), ir12]
  try walk_at "mp"
  rw [W_for]
  try walk_at "mp"
  refine made_bills_W h (by omega) okA (fun wn S1 k1 => ?_) fun c i hw => e c i _ hw (Kp.app _ _)
  obtain ⟨bs, rfl, hl, bo⟩ := wrongB_none wn
  obtain ⟨B, hB, hk, q⟩ := q bs rfl hl bo
  rw [h_seqT]
  have K1 := (Kp.app S _).trans k1
  refine W_forK (xs := bs.map Bi.d) (fun i ρ S1 => (∃ o2, ρ = [some (.tup (bs.map Bi.d)), some (.ref S.length), o2, none]) ∧ Kp [] S S1 ∧ ∃ ks : List (Int × Nat), S1[S.length]? = some (.dct (kv .ref ks)) ∧ ks.map (·.1) = nubI ((bs.take i).map (·.w)) ∧ (ks.map (·.2)).Nodup ∧ ks.length ≤ i ∧ ∀ p ∈ ks, S.length < p.2 ∧ S1[p.2]? = some (.lst ((mineOf (bs.take i) p.1).map Bi.d))) (fun i ρ S1 hI => rfl) (fun i ρ S1 x hI hx => ?_) (fun ρ S1 hI => ?_) _ 0 _ _ ⟨⟨_, rfl⟩, K1, [], k1.at_ (new_at _ _) (by simp), by simp [nubI], by simp, by simp, nofun⟩ (Nat.zero_le _) (Nat.le_refl _)
  · obtain ⟨⟨o2, rfl⟩, k1, ks, e1, hks, nd, l1, g1⟩ := hI
    rw [List.getElem?_map, Option.map_eq_some_iff] at hx
    obtain ⟨b, hb, rfl⟩ := hx
    have hi := (List.getElem?_eq_some_iff.mp hb).1
    have ht : bs.take (i + 1) = bs.take i ++ [b] := by rw [List.take_add_one, hb]; rfl
    have ht1 := (List.getElem?_eq_some_iff.mp e1).1
    have kA := Kp.app S1 [.lst []]
    have e2 := kA.at_ e1 (by simp)
    rw [W_turn]
    try walk_at "mp"
    rw [if_pos (by rw [h_dct e1]; rfl)]
    simp only [Bi.d]
    try walk_at "mp"
    rw [if_pos (by decide)]
    cases hg : getK ks b.w with
    | some r =>
      have hm := getK_some hg
      have hw : b.w ∈ (bs.take i).map (·.w) := by
        rw [← nub_mem, ← hks]
        exact List.mem_map.mpr ⟨_, hm, rfl⟩
      obtain ⟨gr, er⟩ := g1 _ hm
      have er2 := kA.at_ er (by simp)
      rw [h_setd1 e2 (by omega) hg, if_pos (by rw [h_lst er2]; rfl), h_app er2 (by
        rw [List.length_map]
        refine Nat.lt_of_le_of_lt (List.length_filter_le _ _) (Nat.lt_of_le_of_lt (List.length_take_le _ _) (Nat.lt_of_lt_of_le (show i < 1000 by omega) (by decide))))]
      refine ⟨⟨_, rfl⟩, (k1.trans kA).setN (by omega), ks, ?_, ?_, nd, by omega, fun p hp => ⟨(g1 p hp).1, ?_⟩⟩
      · rw [List.getElem?_set_ne (by have := gr; omega)]
        exact e2
      · rw [ht, List.map_append, List.map_singleton, nub_snoc, if_pos hw]
        exact hks
      · rw [ht, mineOf_snoc]
        by_cases hp2 : p.2 = r
        · have : p = (b.w, r) := nodup_inj nd hp hm hp2
          subst this
          rw [if_pos rfl, at_set er2, List.map_append]
          rfl
        · have hne : b.w ≠ p.1 := by
            intro e'
            have nd' : (ks.map (·.1)).Nodup := by rw [hks]; exact nub_nodup _
            have : p = (b.w, r) := nodup_inj nd' hp hm e'.symm
            rw [this] at hp2
            exact hp2 rfl
          rw [if_neg hne, List.getElem?_set_ne (fun e' => hp2 e'.symm)]
          exact kA.at_ (g1 p hp).2 (by simp)
    | none =>
      have hw : ¬ b.w ∈ (bs.take i).map (·.w) := by
        rw [← nub_mem, ← hks]
        exact getK_none hg
      have e3 : ((S1 ++ [O.lst []]).set S.length (.dct (kv D.ref (ks ++ [(b.w, S1.length)]))))[S1.length]? = some (.lst []) := by
        rw [List.getElem?_set_ne (by omega)]
        exact new_at _ _
      rw [h_setd0 (v := S1.length) e2 (by omega) hg rfl, if_pos (by rw [h_lst e3]; rfl), h_app e3 (by decide)]
      refine ⟨⟨_, rfl⟩, ((k1.trans kA).setN (Nat.le_refl _)).setN (by omega), ks ++ [(b.w, S1.length)], ?_, ?_, ?_, by simp; omega, fun p hp => ?_⟩
      · rw [List.getElem?_set_ne (by omega)]
        exact at_set e2
      · rw [ht, List.map_append, List.map_append, List.map_singleton, List.map_singleton, nub_snoc, if_neg hw, hks]
      · rw [List.map_append, List.nodup_append]
        refine ⟨nd, by simp, fun a ha b hb => ?_⟩
        obtain ⟨p, hp, rfl⟩ := List.mem_map.mp ha
        have := (List.getElem?_eq_some_iff.mp (g1 p hp).2).1
        simp at hb
        omega
      · rw [ht, mineOf_snoc]
        rw [List.mem_append, List.mem_singleton] at hp
        rcases hp with hp | rfl
        · have hlt := (List.getElem?_eq_some_iff.mp (g1 p hp).2).1
          have hne : b.w ≠ p.1 := fun e' => getK_none hg (List.mem_map.mpr ⟨p, hp, e'.symm⟩)
          refine ⟨(g1 p hp).1, ?_⟩
          rw [if_neg hne, List.getElem?_set_ne (by omega), List.getElem?_set_ne (by have := (g1 p hp).1; omega)]
          exact kA.at_ (g1 p hp).2 (by simp)
        · refine ⟨ht1, ?_⟩
          have : mineOf (bs.take i) b.w = [] := by
            rw [mineOf, List.filter_eq_nil_iff]
            intro c hc e'
            exact hw (List.mem_map.mpr ⟨c, hc, of_decide_eq_true e'⟩)
          rw [if_pos rfl, this, at_set e3]
          rfl
  · obtain ⟨⟨o2, rfl⟩, k1, ks, e1, hks, nd, l1, g1⟩ := hI
    rw [List.length_map] at hks g1
    rw [List.take_of_length_le (Nat.le_refl _)] at hks g1
    have hl64 : ks.length < 64 := by
      rw [← hks, List.length_map] at hk
      exact hk
    try walk_at "mp"
    rw [W_comp]
    try walk_at "mp"
    rw [h_sortD e1 hl64, h_seqL (new_at _ _), hks]
    have kA := Kp.app S1 [.lst ((sortI (nubI (bs.map (·.w)))).map D.int)]
    have hmany : (Iv.lst S1.length).many C (S1 ++ [.lst ((sortI (nubI (bs.map (·.w)))).map D.int)]) = ((sortI (nubI (bs.map (·.w)))).map D.int).length := lst_many (new_at _ _)
    refine comp_map (xs := (sortI (nubI (bs.map (·.w)))).map D.int) (fun d => match d with
      | .int w => some (monthRow B w (mineOf bs w))
      | _ => none) (by simp [sortI_len]; omega) hmany (fun S2 i k2 => lst_at (k2.at_ (new_at _ _) (by simp))) (fun x S2 hx k2 => ?_) fun S2 e2 k2 => ?_
    · obtain ⟨w, hw, rfl⟩ := List.mem_map.mp hx
      rw [sortI_mem, ← hks] at hw
      obtain ⟨r, hg⟩ := getK_mem hw
      have e2 := k2.at_ (kA.at_ e1 (by simp)) (by simp)
      have e3 := k2.at_ (kA.at_ (g1 _ (getK_some hg)).2 (by simp)) (by simp)
      rw [W_turnC]
      simp only [wipeR]
      try walk_at "mp"
      simp only [W_Ifnil]
      try walk_at "mp"
      rw [h_xD e2 hg, h_lenL e3, W_Lstar]
      try walk_at "mp"
      rw [h_xD e2 hg]
      refine sum_of_W h (by omega) (hB.sub mineOf_sub) (Nat.le_trans (List.length_filter_le _ _) hl) (fun b hb => bo b (mineOf_sub b hb)) e3 fun S3 k3 => ?_
      rw [rdD, h_sqT]
      try walk_at "mp"
      rw [if_pos (by decide)]
      exact ⟨by simp only [monthRow, List.length_map], k3⟩
    · have ef : ((sortI (nubI (bs.map (·.w)))).map D.int).filterMap (fun d => match d with
        | .int w => some (monthRow B w (mineOf bs w))
        | _ => none) = monthL B bs := by
        rw [List.filterMap_map, monthL]
        exact (List.filterMap_eq_map (f := fun w : Int => monthRow B w (mineOf bs w))) ▸ rfl
      rw [ef] at e2
      rw [h_tupL e2]
      exact q _ (k1.trans (kA.trans k2))
end
end HB
end MWp
section MWq
set_option Elab.async false
set_option linter.all false
set_option maxRecDepth 100000
set_option maxHeartbeats 2000000
namespace HB
open PySem MP L2
local macro_rules | `(tactic| walk_at "mp") => `(tactic| simp only [↓W_seq, ↓W_nil, ↓W_if, ↓W_ret, ↓W_asg, ↓W_asgT, ↓W_Tname, ↓W_Ttup, ↓W_Tsnil, ↓W_Tscons, ↓W_Tsub, ↓W_Tfld, ↓W_Iseq, ↓W_Ienum, ↓W_Irng, ↓rP_int, ↓h_seqT, ↓h_enumT, ↓h_pow6, ↓h_pow12, ↓h_pow15, ↓W_expr, ↓W_raise, ↓W_par, ↓WB_or, ↓WB_and, ↓WB_not, ↓WB_cmpP, ↓WB_isiP, ↓WB_call, ↓WB_var, ↓h_isb, ↓h_isiS, ↓h_isiT, ↓h_isiI, ↓h_isiB, ↓h_isiN, ↓W_var, ↓W_cst, ↓W_bin, ↓W_neg, ↓W_cmp, ↓W_and, ↓W_or, ↓W_not, ↓W_ife, ↓W_tup, ↓W_lst, ↓W_dct, ↓W_callE, ↓W_blt, ↓W_mth, ↓W_fld, ↓W_idx, ↓W_slc, ↓W_Ono, ↓W_Oso, ↓W_Lnil, ↓W_Lcons, ↓W_heard, ↓W_tells, ↓W_refuses,
  ↓reduceIte, List.getElem?_cons_zero, List.getElem?_cons_succ, List.map_cons, List.map_nil, List.cons_append, List.nil_append, List.append_nil, Nat.sub_self, List.replicate_zero, List.replicate_succ, List.set_cons_zero, List.set_cons_succ, if_true, if_false, Bool.false_eq_true, Bool.not_true, Bool.not_false, ↓v0, ↓v1, ↓h_tn, ↓h_tb, ↓h_ti, ↓h_ts, ↓h_tt, ↓h_tscr, ↓h_bl, ↓h_le, ↓h_lt, ↓h_gt, ↓h_ge, ↓h_isn, ↓h_isnn, ↓h_eqi, ↓h_nei, ↓h_lenT, ↓h_add, ↓h_sub, ↓h_int, ↓h_intb, ↓h_x0, ↓h_x1, ↓h_x2, ↓h_x3, ↓h_if, ↓h_if2, ↓nP_int, ↓iP_int, ↓tP_bl, List.length_cons, List.length_nil, Nat.zero_add, Nat.reduceAdd, Nat.reduceLT, vP_some, oP_some, uP_some, k_NoneType_bool, k_NoneType_int, k_NoneType_str, k_NoneType_tuple, k_NoneType_list, k_NoneType_dict, k_bool_bool, k_bool_int, k_bool_str, k_bool_tuple, k_bool_list, k_bool_dict, k_int_bool, k_int_int, k_int_str, k_int_tuple, k_int_list, k_int_dict, k_str_bool, k_str_int, k_str_str, k_str_tuple, k_str_list, k_str_dict, k_tuple_bool, k_tuple_int, k_tuple_str, k_tuple_tuple, k_tuple_list, k_tuple_dict, k_list_bool, k_list_int, k_list_str, k_list_tuple, k_list_list, k_list_dict, k_dict_bool, k_dict_int, k_dict_str, k_dict_tuple, k_dict_list, k_dict_dict, n_non, n_int, n_bl, n_tup, n_str, n_ref])
section
variable {C : Cf} {S S' : Sto} {n j : Nat} {P : D → Sto → Prop} {E : Nat → D → Sto → Prop}
theorem rd_zero {B : Int} (h : 0 < B) : rdD 0 B = .tup [.int 0, .int 1] := by
  unfold rdD rd
  have e : (Int.gcd 0 B : Int) = B := by
    rw [Int.gcd_zero_left]
    omega
  rw [e, Int.zero_ediv, Int.ediv_self (by omega)]
theorem topB_nil {B : Int} : topB B [] = 0 := rfl
/-- one bill more -/
theorem added_bill_W (h : CfOk C) (hn : 2 ≤ n) {B T nu sc : Int} (B0 : 0 < B) (Bl : B.natAbs * 1000000 < lim) (hs : 1 ≤ sc) (hs1 : sc ≤ 1000000) (hd : sc ∣ B) (hu : nu.natAbs < 500000000000000000) (q : P (rdD (T + nu * (B / sc)) B) S) : (callF C n 20 [rdD T B, .tup [.int nu, .int sc]] S).W P E := by
  have hq := rd_add (T := T) (t := (rd T B).1) (d := (rd T B).2) (nu := nu) B0 rfl (show 0 < sc by omega) hd
  obtain ⟨d0, d1⟩ := rd_den (t := T) B0
  refine added_W h hn d0 (by omega) (by omega) hu ?_ ?_
  · refine Nat.lt_of_le_of_lt ?_ Bl
    rw [Int.natAbs_mul]
    exact Nat.mul_le_mul (by omega) (by omega)
  · unfold rdD at q ⊢
    rw [hq]
    exact q
def ofW (w : Int) : D → Option D
  | .tup (.int v :: r) => if v = w then some (.tup (.int v :: r)) else none
  | _ => none
theorem ofW_d {w : Int} {b : Bi} : ofW w b.d = if b.w = w then some b.d else none := rfl
theorem ofW_all {w : Int} : ∀ bs : List Bi, (bs.map Bi.d).filterMap (ofW w) = (mineOf bs w).map Bi.d
  | [] => rfl
  | b :: r => by
    have ih := ofW_all (w := w) r
    unfold mineOf at ih ⊢
    rw [List.map_cons, List.filterMap_cons, ofW_d]
    by_cases h : b.w = w
    · rw [if_pos h, List.filter_cons_of_pos (by simpa using h), List.map_cons, ih]
    · rw [if_neg h, List.filter_cons_of_neg (by simpa using h), ih]
theorem month_of_W (h : CfOk C) (hn : 4 ≤ n) {bs : List Bi} {B : Int} (hB : Com B bs) (hl : bs.length ≤ 1000) (bo : ∀ b ∈ bs, b.ok) (hk : (nubI (bs.map (·.w))).length < 64) (q : ∀ S', Kp [] S S' → P (.tup (monthL B bs)) S') : (callF C n 23 [.tup (bs.map Bi.d)] S).W P E := by
  obtain ⟨m, rfl⟩ : ∃ m, n = m + 1 := ⟨n - 1, by omega⟩
  rw [W_call h.p23 rfl (by decide), ir23]
  try walk_at "mp"
  rw [if_pos (by decide), W_for]
  try walk_at "mp"
  rw [W_comp]
  try walk_at "mp"
  refine comp_map (xs := bs.map Bi.d) (fun d => match d with
    | .tup (.int w :: _) => some (.int w)
    | _ => none) (by simp; omega) rfl (fun S1 i _ => rfl) (fun x S1 hx k1 => ?_) fun S1 e1 k1 => ?_
  · obtain ⟨b, hb, rfl⟩ := List.mem_map.mp hx
    rw [W_turnC]
    simp only [wipeR, Bi.d]
    try walk_at "mp"
    simp only [W_Ifnil]
    try walk_at "mp"
    exact ⟨by trivial, Kp.refl _ _⟩
  have ef : (bs.map Bi.d).filterMap (fun d => match d with
    | .tup (.int w :: _) => some (D.int w)
    | _ => none) = (bs.map (·.w)).map D.int := by
    rw [List.filterMap_map, List.map_map]
    exact (List.filterMap_eq_map (f := fun b : Bi => D.int b.w)) ▸ rfl
  rw [ef] at e1
  rw [h_sset e1 hk (by simp; omega), h_seqL (new_at _ _)]
  generalize hso : sortI (nubI (bs.map (·.w))) = so
  have sl : so.length < 64 := by rw [← hso, sortI_len]; exact hk
  have ml : monthL B bs = so.map fun w => monthRow B w (mineOf bs w) := by rw [monthL, hso]
  have ka := Kp.app S [O.lst []]
  have kb := Kp.app S1 [.lst (so.map D.int)]
  have K0 := ka.trans (k1.trans kb)
  have l1 : S.length < S1.length := by
    have := k1.1
    simp at this
    omega
  have f0 : (S1 ++ [O.lst (so.map D.int)])[S.length]? = some (.lst []) := kb.at_ (k1.at_ (new_at _ _) (by simp)) (by simp)
  refine W_forK (xs := so.map D.int) (fun i ρ S2 => (∃ o2 o3 o4 o5, ρ = [some (.tup (bs.map Bi.d)), some (.ref S.length), o2, o3, o4, o5]) ∧ Kp [] S S2 ∧ S1.length < S2.length ∧ S2[S1.length]? = some (.lst (so.map D.int)) ∧ S2[S.length]? = some (.lst ((so.map fun w => monthRow B w (mineOf bs w)).take i))) (fun i ρ S2 hI => lst_at hI.2.2.2.1) (fun i ρ S2 x hI hx => ?_) (fun ρ S2 hI => ?_) _ 0 _ _ ⟨⟨_, _, _, _, rfl⟩, K0, by simp, new_at _ _, f0⟩ (Nat.zero_le _) (by rw [lst_many (new_at _ _)]; exact Nat.le_refl _)
  · obtain ⟨⟨o2, o3, o4, o5, rfl⟩, k2, l2, e2, f2⟩ := hI
    rw [List.getElem?_map, Option.map_eq_some_iff] at hx
    obtain ⟨w, hw, rfl⟩ := hx
    have hi := (List.getElem?_eq_some_iff.mp hw).1
    rw [W_turn]
    try walk_at "mp"
    rw [W_comp]
    try walk_at "mp"
    refine comp_map (xs := bs.map Bi.d) (ofW w) (by simp; omega) rfl (fun S3 i _ => rfl) (fun x S3 hx k3 => ?_) fun S3 e3 k3 => ?_
    · obtain ⟨b, hb, rfl⟩ := List.mem_map.mp hx
      rw [W_turnC]
      simp only [wipeR, Bi.d]
      try walk_at "mp"
      rw [W_Ifcons]
      try walk_at "mp"
      by_cases hbw : b.w = w
      · rw [decide_eq_true hbw]
        simp only [if_true, W_Ifnil]
        try walk_at "mp"
        exact ⟨by show _ = ofW w b.d; rw [ofW_d, if_pos hbw]; rfl, Kp.refl _ _⟩
      · rw [decide_eq_false hbw]
        simp only [Bool.false_eq_true, if_false]
        exact ⟨by show _ = ofW w b.d; rw [ofW_d, if_neg hbw], Kp.refl _ _⟩
    rw [ofW_all] at e3
    rw [if_pos (by decide), W_for]
    try walk_at "mp"
    rw [h_seqL e3]
    have K3 := k2.trans k3
    refine W_forK (xs := (mineOf bs w).map Bi.d) (fun k ρ S4 => S4 = S3 ∧ ∃ o3, ρ = [some (.tup (bs.map Bi.d)), some (.ref S.length), some (.int w), o3, some (.ref S2.length), some (rdD (topB B ((mineOf bs w).take k)) B)]) (fun k ρ S4 hI => lst_at (by rw [hI.1]; exact e3)) (fun k ρ S4 x hI hx => ?_) (fun ρ S4 hI => ?_) _ 0 _ _ ⟨rfl, _, by rw [List.take_zero, topB_nil, rd_zero hB.pos]⟩ (Nat.zero_le _) (by rw [lst_many e3]; exact Nat.le_refl _)
    · obtain ⟨rfl, o3, rfl⟩ := hI
      rw [List.getElem?_map, Option.map_eq_some_iff] at hx
      obtain ⟨b, hb, rfl⟩ := hx
      have hm := mineOf_sub b (List.mem_of_getElem? hb)
      have b' := bo b hm
      rw [W_turn]
      simp only [Bi.d]
      try walk_at "mp"
      rw [if_pos (by decide)]
      have b1 := b'.n0
      have b2 := b'.n1
      refine added_bill_W h (by omega) hB.pos hB.lt b'.s0 b'.s1 (hB.dv b hm) (by omega) ?_
      refine ⟨by trivial, some b.d, ?_⟩
      rw [List.take_add_one, hb]
      simp only [Option.toList_some, topB_snoc, Bi.d]
    · obtain ⟨rfl, o3, rfl⟩ := hI
      rw [List.length_map, List.take_of_length_le (Nat.le_refl _)]
      have f3 := k3.at_ f2 (by simp)
      try walk_at "mp"
      rw [if_pos (by rw [h_lst f3]; rfl), h_lenL e3, if_pos (by decide), rdD, h_addT (by simp), h_app f3 (by
        refine Nat.lt_of_le_of_lt (List.length_take_le _ _) (Nat.lt_trans hi (Nat.lt_trans sl (by decide))))]
      refine ⟨⟨_, _, _, _, rfl⟩, K3.setN (Nat.le_refl _), ?_, ?_, ?_⟩
      · rw [List.length_set]
        exact Nat.lt_of_lt_of_le l2 k3.1
      · rw [List.getElem?_set_ne (by omega)]
        exact k3.at_ e2 (by simp)
      · rw [at_set f3, List.take_add_one, List.getElem?_map, hw]
        simp only [monthRow, List.length_map]
        rfl
  · obtain ⟨⟨o2, o3, o4, o5, rfl⟩, k2, l2, e2, f2⟩ := hI
    rw [List.length_map, List.take_of_length_le (by simp)] at f2
    try walk_at "mp"
    rw [h_tupL f2, ← ml]
    exact q _ k2
end
end HB
end MWq
section MWr
set_option Elab.async false
set_option linter.all false
set_option maxRecDepth 100000
set_option maxHeartbeats 2000000
namespace HB
open PySem MP L2
local macro_rules | `(tactic| walk_at "mp") => `(tactic| simp only [↓W_seq, ↓W_nil, ↓W_if, ↓W_ret, ↓W_asg, ↓W_asgT, ↓W_Tname, ↓W_Ttup, ↓W_Tsnil, ↓W_Tscons, ↓W_Tsub, ↓W_Tfld, ↓W_Iseq, ↓W_Ienum, ↓W_Irng, ↓rP_int, ↓h_seqT, ↓h_enumT, ↓h_pow6, ↓h_pow12, ↓h_pow15, ↓W_expr, ↓W_raise, ↓W_par, ↓WB_or, ↓WB_and, ↓WB_not, ↓WB_cmpP, ↓WB_isiP, ↓WB_call, ↓WB_var, ↓h_isb, ↓h_isiS, ↓h_isiT, ↓h_isiI, ↓h_isiB, ↓h_isiN, ↓W_var, ↓W_cst, ↓W_bin, ↓W_neg, ↓W_cmp, ↓W_and, ↓W_or, ↓W_not, ↓W_ife, ↓W_tup, ↓W_lst, ↓W_dct, ↓W_callE, ↓W_blt, ↓W_mth, ↓W_fld, ↓W_idx, ↓W_slc, ↓W_Ono, ↓W_Oso, ↓W_Lnil, ↓W_Lcons, ↓W_heard, ↓W_tells, ↓W_refuses,
  ↓reduceIte, List.getElem?_cons_zero, List.getElem?_cons_succ, List.map_cons, List.map_nil, List.cons_append, List.nil_append, List.append_nil, Nat.sub_self, List.replicate_zero, List.replicate_succ, List.set_cons_zero, List.set_cons_succ, if_true, if_false, Bool.false_eq_true, Bool.not_true, Bool.not_false, ↓v0, ↓v1, ↓h_tn, ↓h_tb, ↓h_ti, ↓h_ts, ↓h_tt, ↓h_tscr, ↓h_bl, ↓h_le, ↓h_lt, ↓h_gt, ↓h_ge, ↓h_isn, ↓h_isnn, ↓h_eqi, ↓h_nei, ↓h_lenT, ↓h_add, ↓h_sub, ↓h_int, ↓h_intb, ↓h_x0, ↓h_x1, ↓h_x2, ↓h_x3, ↓h_if, ↓h_if2, ↓nP_int, ↓iP_int, ↓tP_bl, List.length_cons, List.length_nil, Nat.zero_add, Nat.reduceAdd, Nat.reduceLT, vP_some, oP_some, uP_some, k_NoneType_bool, k_NoneType_int, k_NoneType_str, k_NoneType_tuple, k_NoneType_list, k_NoneType_dict, k_bool_bool, k_bool_int, k_bool_str, k_bool_tuple, k_bool_list, k_bool_dict, k_int_bool, k_int_int, k_int_str, k_int_tuple, k_int_list, k_int_dict, k_str_bool, k_str_int, k_str_str, k_str_tuple, k_str_list, k_str_dict, k_tuple_bool, k_tuple_int, k_tuple_str, k_tuple_tuple, k_tuple_list, k_tuple_dict, k_list_bool, k_list_int, k_list_str, k_list_tuple, k_list_list, k_list_dict, k_dict_bool, k_dict_int, k_dict_str, k_dict_tuple, k_dict_list, k_dict_dict, n_non, n_int, n_bl, n_tup, n_str, n_ref])
section
variable {C : Cf} {S S' : Sto} {n j : Nat} {P : D → Sto → Prop} {E : Nat → D → Sto → Prop}
/-! ### a course, plainly -/
def badN (x : D) : Bool := !isWh x (-1000000000000000) 1000000000000000
def badW (x : D) : Bool := !isWh x 0 99
def wrongP (d : D) : Option Int := match d with
  | .tup [sc, .tup nums] => if 30 < nums.length then some (-1) else if isWh sc 1 1000000 = true then (nums.findIdx? badN).map fun (i : Nat) => (i : Int) else some (-2)
  | _ => some (-1)
def manyOf (d : D) : Int := match d with
  | .tup [_, .tup nums] => nums.length
  | _ => 0
def isPr (many : Int) (d : D) : Bool := match d with
  | .tup [a, b] => isWh a 0 29 && isWh b 0 (many - 1)
  | _ => false
def badP (many : Int) (d : D) : Bool := !isPr many d
def wrongC (many : Int) (d : D) : Option Int := match d with
  | .tup ps => if 1000 < ps.length then some (-1) else (ps.findIdx? (badP many)).map fun (i : Nat) => (i : Int)
  | _ => some (-1)
def wrongW (d : D) : Option Int := match d with
  | .tup ws => (ws.findIdx? badW).map fun (i : Nat) => (i : Int)
  | _ => some (-1)
def bey (m : Nat) (d : D) : Bool := match d with
  | .tup (.int i :: _) => decide ((m : Int) ≤ i)
  | _ => false
def wrongY (pa wh : D) : Option Int := match pa, wh with
  | .tup ps, .tup ws => (ps.findIdx? (bey ws.length)).map fun (i : Nat) => (i : Int)
  | _, _ => none
def billO (sc : D) (nums ws : List D) (d : D) : D := match d with
  | .tup [.int i, .int x] => .tup [(ws[i.toNat]?).getD .non, .int x, (nums[x.toNat]?).getD .non, sc]
  | _ => .non
def billsO (po pa wh : D) : List D := match po, pa, wh with
  | .tup [sc, .tup nums], .tup ps, .tup ws => ps.map (billO sc nums ws)
  | _, _, _ => []
def wrongO (po pa wh : D) : Option (Nat × Int) := match wrongP po with
  | some i => some (15, i)
  | none => match wrongC (manyOf po) pa with
    | some i => some (16, i)
    | none => match wrongW wh with
      | some i => some (43, i)
      | none => match wrongY pa wh with
        | some i => some (16, i)
        | none => none
theorem all_ints {ds : List D} {lo hi : Int} (h : ∀ d ∈ ds, isWh d lo hi = true) : ∃ is : List Int, ds = is.map D.int ∧ ∀ z ∈ is, lo ≤ z ∧ z ≤ hi := by
  induction ds with
  | nil => exact ⟨[], rfl, nofun⟩
  | cons d r ih =>
    obtain ⟨bs, e, g⟩ := ih fun d hd => h d (by simp [hd])
    obtain ⟨b, e', o1, o2⟩ := isWh_some (h d (by simp))
    exact ⟨b :: bs, by rw [e, e']; rfl, fun x hx => by
      rcases List.mem_cons.mp hx with rfl | hx
      · exact ⟨o1, o2⟩
      · exact g x hx⟩
def prD (p : Int × Int) : D := .tup [.int p.1, .int p.2]
theorem isPr_some {many : Int} {d : D} (h : isPr many d = true) : ∃ p : Int × Int, d = prD p ∧ 0 ≤ p.1 ∧ p.1 ≤ 29 ∧ 0 ≤ p.2 ∧ p.2 ≤ many - 1 := by
  unfold isPr at h
  split at h
  · rw [Bool.and_eq_true] at h
    obtain ⟨a, rfl, a0, a1⟩ := isWh_some h.1
    obtain ⟨b, rfl, b0, b1⟩ := isWh_some h.2
    exact ⟨(a, b), rfl, a0, a1, b0, b1⟩
  · cases h
theorem all_prs {ds : List D} {many : Int} (h : ∀ d ∈ ds, isPr many d = true) : ∃ ps : List (Int × Int), ds = ps.map prD ∧ ∀ p ∈ ps, 0 ≤ p.1 ∧ p.1 ≤ 29 ∧ 0 ≤ p.2 ∧ p.2 ≤ many - 1 := by
  induction ds with
  | nil => exact ⟨[], rfl, nofun⟩
  | cons d r ih =>
    obtain ⟨bs, e, g⟩ := ih fun d hd => h d (by simp [hd])
    obtain ⟨b, e', o⟩ := isPr_some (h d (by simp))
    exact ⟨b :: bs, by rw [e, e']; rfl, fun x hx => by
      rcases List.mem_cons.mp hx with rfl | hx
      · exact o
      · exact g x hx⟩
theorem wrongP_none {d : D} (h : wrongP d = none) : ∃ (sc : Int) (nums : List Int), d = .tup [.int sc, .tup (nums.map D.int)] ∧ 1 ≤ sc ∧ sc ≤ 1000000 ∧ nums.length ≤ 30 ∧ ∀ z ∈ nums, -1000000000000000 ≤ z ∧ z ≤ 1000000000000000 := by
  unfold wrongP at h
  split at h
  · rename_i sc nums
    split at h
    · cases h
    · split at h
      · rename_i h1 h2
        rw [Option.map_eq_none_iff, List.findIdx?_eq_none_iff] at h
        obtain ⟨s, rfl, s0, s1⟩ := isWh_some h2
        obtain ⟨is, rfl, g⟩ := all_ints (ds := nums) (lo := -1000000000000000) (hi := 1000000000000000) fun d hd => by simpa [badN] using h d hd
        exact ⟨s, is, rfl, s0, s1, by simp at h1; omega, g⟩
      · cases h
  · cases h
theorem wrongC_none {many : Int} {d : D} (h : wrongC many d = none) : ∃ ps : List (Int × Int), d = .tup (ps.map prD) ∧ ps.length ≤ 1000 ∧ ∀ p ∈ ps, 0 ≤ p.1 ∧ p.1 ≤ 29 ∧ 0 ≤ p.2 ∧ p.2 ≤ many - 1 := by
  unfold wrongC at h
  split at h
  · rename_i ps
    split at h
    · cases h
    · rename_i h1
      rw [Option.map_eq_none_iff, List.findIdx?_eq_none_iff] at h
      obtain ⟨is, rfl, g⟩ := all_prs (ds := ps) (many := many) fun d hd => by simpa [badP] using h d hd
      exact ⟨is, rfl, by simp at h1; omega, g⟩
  · cases h
theorem wrongW_none {d : D} (h : wrongW d = none) : ∃ ws : List Int, d = .tup (ws.map D.int) ∧ ∀ z ∈ ws, 0 ≤ z ∧ z ≤ 99 := by
  unfold wrongW at h
  split at h
  · rename_i ws
    rw [Option.map_eq_none_iff, List.findIdx?_eq_none_iff] at h
    obtain ⟨is, rfl, g⟩ := all_ints (ds := ws) (lo := 0) (hi := 99) fun d hd => by simpa [badW] using h d hd
    exact ⟨is, rfl, g⟩
  · cases h
theorem asked_numbers_W (h : CfOk C) (hn : 2 ≤ n) {sc : D} {nums : List D} (o1 : okD S sc) (o2 : ∀ x ∈ nums, okD S x) (q : isWh sc 1 1000000 = true → nums.findIdx? badN = none → P .non S) (e1 : isWh sc 1 1000000 = false → E 15 (.int (-2)) S) (e2 : ∀ i : Nat, isWh sc 1 1000000 = true → nums.findIdx? badN = some i → E 15 (.int i) S) : (callF C n 1 [sc, .tup nums] S).W P E := by
  obtain ⟨m, rfl⟩ : ∃ m, n = m + 1 := ⟨n - 1, by omega⟩
  rw [W_call h.p1 rfl (by decide), ir1]
  try walk_at "mp"
  rw [is_whole_W h (by omega) o1]
  try walk_at "mp"
  cases hw : isWh sc 1 1000000 with
  | false =>
    rw [if_pos (by simp)]
    exact e1 hw
  | true =>
    rw [if_neg (by simp), W_for]
    try walk_at "mp"
    refine W_find (xs := nums) (fun i d => .tup [.int (i : Nat), d]) badN (fun ρ => ∃ o1 o2, ρ = [some sc, some (.tup nums), o1, o2]) (fun i => enum_at) (fun i ρ x hr hx hb => ?_) (fun i ρ x hr hx hb hf => ?_) (fun ρ hr hf => ?_) ⟨_, _, rfl⟩ (Nat.le_refl _)
    · obtain ⟨p1, p2, rfl⟩ := hr
      rw [W_turn]
      try walk_at "mp"
      rw [is_whole_W h (by omega) (o2 x (List.mem_of_getElem? hx))]
      try walk_at "mp"
      rw [show (!isWh x (-1000000000000000) 1000000000000000) = false from hb, if_neg (by decide)]
      exact ⟨⟨_, _, rfl⟩, by trivial⟩
    · obtain ⟨p1, p2, rfl⟩ := hr
      rw [W_turn]
      try walk_at "mp"
      rw [is_whole_W h (by omega) (o2 x (List.mem_of_getElem? hx))]
      try walk_at "mp"
      rw [show (!isWh x (-1000000000000000) 1000000000000000) = true from hb, if_pos rfl]
      exact e2 i hw hf
    · obtain ⟨p1, p2, rfl⟩ := hr
      exact q hw hf
theorem asked_prices_W (h : CfOk C) (hn : 3 ≤ n) {sc : D} {nums : List D} (o1 : okD S sc) (o2 : ∀ x ∈ nums, okD S x) (q : isWh sc 1 1000000 = true → nums.findIdx? badN = none → P .non S) (e1 : isWh sc 1 1000000 = false → E 15 (.int (-2)) S) (e2 : ∀ i : Nat, isWh sc 1 1000000 = true → nums.findIdx? badN = some i → E 15 (.int i) S) : (callF C n 2 [.int nums.length, .tup [sc, .tup nums]] S).W P E := by
  obtain ⟨m, rfl⟩ : ∃ m, n = m + 1 := ⟨n - 1, by omega⟩
  rw [W_call h.p2 rfl (by decide), ir2]
  try walk_at "mp"
  rw [if_neg (by simp)]
  try walk_at "mp"
  rw [if_neg (by simp)]
  exact asked_numbers_W h (by omega) o1 o2 q e1 e2
theorem asked_alone_W (h : CfOk C) (hn : 4 ≤ n) {d : D} (ok : okT S d) (q : wrongP d = none → P .non S) (e : ∀ i, wrongP d = some i → E 15 (.int i) S) : (callF C n 3 [d] S).W P E := by
  obtain ⟨m, rfl⟩ : ∃ m, n = m + 1 := ⟨n - 1, by omega⟩
  rw [W_call h.p3 rfl (by decide), ir3]
  cases d with
  | tup ds =>
    by_cases hl : ds.length = 2
    · obtain ⟨sc, b, rfl⟩ : ∃ a b, ds = [a, b] := by
        match ds, hl with
        | [a, b], _ => exact ⟨a, b, rfl⟩
      have o1 : okB S sc := ok sc (by simp)
      have o2 : okB S b := ok b (by simp)
      have o1' : okD S sc := by
        cases sc with
        | ref r => exact o1
        | _ => trivial
      cases b with
      | tup nums =>
        try walk_at "mp"
        rw [if_neg (by simp)]
        by_cases h3 : 30 < nums.length
        · rw [decide_eq_true (by omega), if_pos rfl]
          exact e _ (by simp [wrongP, h3])
        · rw [decide_eq_false (by omega), if_neg (by decide)]
          refine asked_prices_W h (by omega) o1' o2 (fun hw hf => q ?_) (fun hw => e _ ?_) (fun i hw hf => e _ ?_)
          · simp [wrongP, h3, hw, hf]
          · simp [wrongP, h3, hw]
          · simp [wrongP, h3, hw, hf]
      | ref r =>
        obtain ⟨xs, e'⟩ := o2
        try walk_at "mp"
        rw [if_neg (by simp), h_tref e']
        simp only [isiT]
        exact e _ rfl
      | _ =>
        try walk_at "mp"
        rw [if_neg (by simp)]
        exact e _ rfl
    · have wn : wrongP (.tup ds) = some (-1) := by
        match ds, hl with
        | [], _ => rfl
        | [_], _ => rfl
        | [_, _], hl => exact absurd rfl hl
        | _ :: b :: _ :: _, _ => cases b <;> rfl
      try walk_at "mp"
      rw [if_pos (by simp; omega)]
      exact e _ wn
  | ref r =>
    obtain ⟨ds, e'⟩ := ok
    try walk_at "mp"
    rw [h_tref e']
    simp only [isiT]
    exact e _ rfl
  | _ =>
    try walk_at "mp"
    exact e _ rfl
theorem is_pair_W (h : CfOk C) (hn : 2 ≤ n) {d : D} {many : Int} (ok : okB S d) : (callF C n 7 [d, .int many] S).W P E = P (.bl (isPr many d)) S := by
  obtain ⟨m, rfl⟩ : ∃ m, n = m + 1 := ⟨n - 1, by omega⟩
  rw [W_call h.p7 rfl (by decide), ir7]
  cases d with
  | tup ds =>
    by_cases hl : ds.length = 2
    · obtain ⟨a, b, rfl⟩ : ∃ a b, ds = [a, b] := by
        match ds, hl with
        | [a, b], _ => exact ⟨a, b, rfl⟩
      have oa : okD S a := ok a (by simp)
      have ob : okD S b := ok b (by simp)
      try walk_at "mp"
      rw [if_neg (by decide), is_whole_W h (by omega) oa, h_bl, is_whole_W h (by omega) ob]
      simp only [isPr]
      cases isWh a 0 29 <;> simp
    · have wn : isPr many (.tup ds) = false := by
        match ds, hl with
        | [], _ => rfl
        | [_], _ => rfl
        | [_, _], hl => exact absurd rfl hl
        | _ :: _ :: _ :: _, _ => rfl
      try walk_at "mp"
      rw [wn, if_pos (by simp; omega)]
  | ref r =>
    obtain ⟨ds, e⟩ := ok
    try walk_at "mp"
    simp [isPr, h_tref e, isiT]
  | _ =>
    try walk_at "mp"
    simp [isPr]
theorem asked_pairs_W (h : CfOk C) (hn : 3 ≤ n) {d : D} {many : Int} (ok : okT S d) (q : wrongC many d = none → P .non S) (e : ∀ i, wrongC many d = some i → E 16 (.int i) S) : (callF C n 8 [.int many, d] S).W P E := by
  obtain ⟨m, rfl⟩ : ∃ m, n = m + 1 := ⟨n - 1, by omega⟩
  rw [W_call h.p8 rfl (by decide), ir8]
  cases d with
  | tup ps =>
    try walk_at "mp"
    by_cases hl : 1000 < ps.length
    · rw [decide_eq_true (by omega), if_pos rfl]
      exact e _ (by simp [wrongC, hl])
    rw [decide_eq_false (by omega), if_neg (by decide), W_for]
    try walk_at "mp"
    refine W_find (xs := ps) (fun i d => .tup [.int (i : Nat), d]) (badP many) (fun ρ => ∃ o1 o2, ρ = [some (.int many), some (.tup ps), o1, o2]) (fun i => enum_at) (fun i ρ x hr hx hb => ?_) (fun i ρ x hr hx hb hf => ?_) (fun ρ hr hf => ?_) ⟨_, _, rfl⟩ (Nat.le_refl _)
    · obtain ⟨p1, p2, rfl⟩ := hr
      rw [W_turn]
      try walk_at "mp"
      rw [is_pair_W h (by omega) (ok x (List.mem_of_getElem? hx))]
      try walk_at "mp"
      rw [show (!isPr many x) = false from hb, if_neg (by decide)]
      exact ⟨⟨_, _, rfl⟩, by trivial⟩
    · obtain ⟨p1, p2, rfl⟩ := hr
      rw [W_turn]
      try walk_at "mp"
      rw [is_pair_W h (by omega) (ok x (List.mem_of_getElem? hx))]
      try walk_at "mp"
      rw [show (!isPr many x) = true from hb, if_pos rfl]
      exact e _ (by simp only [wrongC, if_neg hl, hf]; rfl)
    · obtain ⟨p1, p2, rfl⟩ := hr
      exact q (by simp only [wrongC, if_neg hl, hf]; rfl)
  | ref r =>
    obtain ⟨ds, e'⟩ := ok
    try walk_at "mp"
    rw [h_tref e']
    simp only [isiT]
    exact e _ rfl
  | _ =>
    try walk_at "mp"
    exact e _ rfl
end
end HB
end MWr
section MWs
set_option Elab.async false
set_option linter.all false
set_option maxRecDepth 100000
set_option maxHeartbeats 2000000
namespace HB
open PySem MP L2
local macro_rules | `(tactic| walk_at "mp") => `(tactic| simp only [↓W_seq, ↓W_nil, ↓W_if, ↓W_ret, ↓W_asg, ↓W_asgT, ↓W_Tname, ↓W_Ttup, ↓W_Tsnil, ↓W_Tscons, ↓W_Tsub, ↓W_Tfld, ↓W_Iseq, ↓W_Ienum, ↓W_Irng, ↓rP_int, ↓h_seqT, ↓h_enumT, ↓h_pow6, ↓h_pow12, ↓h_pow15, ↓W_expr, ↓W_raise, ↓W_par, ↓WB_or, ↓WB_and, ↓WB_not, ↓WB_cmpP, ↓WB_isiP, ↓WB_call, ↓WB_var, ↓h_isb, ↓h_isiS, ↓h_isiT, ↓h_isiI, ↓h_isiB, ↓h_isiN, ↓W_var, ↓W_cst, ↓W_bin, ↓W_neg, ↓W_cmp, ↓W_and, ↓W_or, ↓W_not, ↓W_ife, ↓W_tup, ↓W_lst, ↓W_dct, ↓W_callE, ↓W_blt, ↓W_mth, ↓W_fld, ↓W_idx, ↓W_slc, ↓W_Ono, ↓W_Oso, ↓W_Lnil, ↓W_Lcons, ↓W_heard, ↓W_tells, ↓W_refuses,
  ↓reduceIte, List.getElem?_cons_zero, List.getElem?_cons_succ, List.map_cons, List.map_nil, List.cons_append, List.nil_append, List.append_nil, Nat.sub_self, List.replicate_zero, List.replicate_succ, List.set_cons_zero, List.set_cons_succ, if_true, if_false, Bool.false_eq_true, Bool.not_true, Bool.not_false, ↓v0, ↓v1, ↓h_tn, ↓h_tb, ↓h_ti, ↓h_ts, ↓h_tt, ↓h_tscr, ↓h_bl, ↓h_le, ↓h_lt, ↓h_gt, ↓h_ge, ↓h_isn, ↓h_isnn, ↓h_eqi, ↓h_nei, ↓h_lenT, ↓h_add, ↓h_sub, ↓h_int, ↓h_intb, ↓h_x0, ↓h_x1, ↓h_x2, ↓h_x3, ↓h_if, ↓h_if2, ↓nP_int, ↓iP_int, ↓tP_bl, List.length_cons, List.length_nil, Nat.zero_add, Nat.reduceAdd, Nat.reduceLT, vP_some, oP_some, uP_some, k_NoneType_bool, k_NoneType_int, k_NoneType_str, k_NoneType_tuple, k_NoneType_list, k_NoneType_dict, k_bool_bool, k_bool_int, k_bool_str, k_bool_tuple, k_bool_list, k_bool_dict, k_int_bool, k_int_int, k_int_str, k_int_tuple, k_int_list, k_int_dict, k_str_bool, k_str_int, k_str_str, k_str_tuple, k_str_list, k_str_dict, k_tuple_bool, k_tuple_int, k_tuple_str, k_tuple_tuple, k_tuple_list, k_tuple_dict, k_list_bool, k_list_int, k_list_str, k_list_tuple, k_list_list, k_list_dict, k_dict_bool, k_dict_int, k_dict_str, k_dict_tuple, k_dict_list, k_dict_dict, n_non, n_int, n_bl, n_tup, n_str, n_ref])
section
variable {C : Cf} {S S' : Sto} {n j : Nat} {P : D → Sto → Prop} {E : Nat → D → Sto → Prop}
theorem fm_map {α : Type} {g : α → D} {xs : List α} : xs.filterMap (fun d => some (g d)) = xs.map g := by
  induction xs with
  | nil => rfl
  | cons a r ih => rw [List.filterMap_cons, ih, List.map_cons]
theorem bey_pr {m : Nat} {p : Int × Int} : bey m (prD p) = decide ((m : Int) ≤ p.1) := rfl
theorem billO_pr {sc : D} {nums ws : List D} {p : Int × Int} : billO sc nums ws (prD p) = .tup [(ws[p.1.toNat]?).getD .non, .int p.2, (nums[p.2.toNat]?).getD .non, sc] := rfl
theorem h_xI {ds : List D} {i : Int} (h0 : 0 ≤ i) (h1 : i < ds.length) : oP P S' (ixD C S (.tup ds) (.int i)) = P ((ds[i.toNat]?).getD .non) S' := by
  obtain ⟨k, rfl⟩ := Int.eq_ofNat_of_zero_le h0
  have hk : k < ds.length := by omega
  rw [h_xn (List.getElem?_eq_getElem hk), Int.toNat_natCast, List.getElem?_eq_getElem hk]
  rfl
theorem wrongY_none {ps : List (Int × Int)} {ws : List D} (h : wrongY (.tup (ps.map prD)) (.tup ws) = none) : ∀ p ∈ ps, p.1 < ws.length := by
  simp only [wrongY] at h
  rw [Option.map_eq_none_iff, List.findIdx?_eq_none_iff] at h
  intro p hp
  have := h _ (List.mem_map.mpr ⟨p, hp, rfl⟩)
  rw [bey_pr] at this
  simp at this
  omega
theorem bills_of_W (h : CfOk C) (hn : 5 ≤ n) {po pa wh : D} (o1 : okT S po) (o2 : okT S pa) (o3 : okB S wh) (q : wrongO po pa wh = none → ∀ S', Kp [] S S' → P (.tup (billsO po pa wh)) S') (e : ∀ c i, wrongO po pa wh = some (c, i) → E c (.int i) S) : (callF C n 9 [po, pa, wh] S).W P E := by
  obtain ⟨m, rfl⟩ : ∃ m, n = m + 1 := ⟨n - 1, by omega⟩
  rw [W_call h.p9 rfl (by decide), ir9]
  try walk_at "mp"
  refine asked_alone_W h (by omega) o1 (fun w1 => ?_) fun i w1 => e _ _ (by simp only [wrongO, w1])
  obtain ⟨sc, nums, rfl, s0, s1, nl, nb⟩ := wrongP_none w1
  try walk_at "mp"
  refine asked_pairs_W h (by omega) o2 (fun w2 => ?_) fun i w2 => e _ _ (by simp only [wrongO, w1, manyOf, w2])
  obtain ⟨ps, rfl, pl, pb⟩ := wrongC_none w2
  cases wh with
  | tup ws =>
    try walk_at "mp"
    rw [W_for]
    try walk_at "mp"
    refine W_find (xs := ws) (fun i d => .tup [.int (i : Nat), d]) badW (fun ρ => ∃ o1 o2, ρ = [some (.tup [.int sc, .tup (nums.map D.int)]), some (.tup (ps.map prD)), some (.tup ws), some (.int sc), some (.tup (nums.map D.int)), o1, o2, none, none, none]) (fun i => enum_at) (fun i ρ x hr hx hb => ?_) (fun i ρ x hr hx hb hf => ?_) (fun ρ hr hf => ?_) ⟨_, _, rfl⟩ (Nat.le_refl _)
    · obtain ⟨p1, p2, rfl⟩ := hr
      rw [W_turn]
      try walk_at "mp"
      rw [is_who_W h (by omega) (o3 x (List.mem_of_getElem? hx))]
      try walk_at "mp"
      rw [show (!isWh x 0 99) = false from hb, if_neg (by decide)]
      exact ⟨⟨_, _, rfl⟩, by trivial⟩
    · obtain ⟨p1, p2, rfl⟩ := hr
      rw [W_turn]
      try walk_at "mp"
      rw [is_who_W h (by omega) (o3 x (List.mem_of_getElem? hx))]
      try walk_at "mp"
      rw [show (!isWh x 0 99) = true from hb, if_pos rfl]
      exact e _ _ (by simp only [wrongO, w1, manyOf, w2, wrongW, hf]; rfl)
    · obtain ⟨p1, p2, rfl⟩ := hr
      have w3 : wrongW (.tup ws) = none := by simp only [wrongW, hf]; rfl
      rw [W_for]
      try walk_at "mp"
      refine W_find (xs := ps.map prD) (fun i d => .tup [.int (i : Nat), d]) (bey ws.length) (fun ρ => ∃ o1 o2 o3 o4, ρ = [some (.tup [.int sc, .tup (nums.map D.int)]), some (.tup (ps.map prD)), some (.tup ws), some (.int sc), some (.tup (nums.map D.int)), o1, o2, o3, o4, none]) (fun i => enum_at) (fun i ρ x hr hx hb => ?_) (fun i ρ x hr hx hb hf => ?_) (fun ρ hr hf => ?_) ⟨_, _, _, _, rfl⟩ (Nat.le_refl _)
      · obtain ⟨p1, p2, p3, p4, rfl⟩ := hr
        rw [List.getElem?_map, Option.map_eq_some_iff] at hx
        obtain ⟨p, hp, rfl⟩ := hx
        rw [bey_pr] at hb
        rw [W_turn]
        simp only [prD]
        try walk_at "mp"
        rw [hb, if_neg (by decide)]
        exact ⟨⟨_, _, _, _, rfl⟩, by trivial⟩
      · obtain ⟨p1, p2, p3, p4, rfl⟩ := hr
        rw [List.getElem?_map, Option.map_eq_some_iff] at hx
        obtain ⟨p, hp, rfl⟩ := hx
        rw [bey_pr] at hb
        rw [W_turn]
        simp only [prD]
        try walk_at "mp"
        rw [hb, if_pos rfl]
        exact e _ _ (by simp only [wrongO, w1, manyOf, w2, w3, wrongY, hf]; rfl)
      · obtain ⟨p1, p2, p3, p4, rfl⟩ := hr
        have w4 : wrongY (.tup (ps.map prD)) (.tup ws) = none := by simp only [wrongY, hf]; rfl
        have hy := wrongY_none w4
        try walk_at "mp"
        rw [W_comp]
        try walk_at "mp"
        refine comp_map (xs := ps.map prD) (fun d => some (billO (.int sc) (nums.map D.int) ws d)) (by simp; omega) rfl (fun S1 i _ => rfl) (fun x S1 hx k1 => ?_) fun S1 e1 k1 => ?_
        · obtain ⟨p, hp, rfl⟩ := List.mem_map.mp hx
          obtain ⟨a0, a1, b0, b1⟩ := pb p hp
          have a2 := hy p hp
          rw [W_turnC]
          simp only [wipeR, prD]
          try walk_at "mp"
          simp only [W_Ifnil]
          try walk_at "mp"
          rw [h_xI a0 a2, h_xI b0 (by simp at b1 ⊢; omega), if_pos (by decide)]
          exact ⟨rfl, Kp.refl _ _⟩
        · rw [h_tupL e1, fm_map]
          exact q (by simp only [wrongO, w1, manyOf, w2, w3, w4]) _ k1
  | ref r =>
    obtain ⟨ds, e'⟩ := o3
    try walk_at "mp"
    rw [h_tref e']
    simp only [isiT]
    exact e _ _ (by simp only [wrongO, w1, manyOf, w2, wrongW])
  | _ =>
    try walk_at "mp"
    exact e _ _ (by simp only [wrongO, w1, manyOf, w2, wrongW])
end
end HB
end MWs
section MWt
set_option Elab.async false
set_option linter.all false
set_option maxRecDepth 100000
set_option maxHeartbeats 2000000
namespace HB
open PySem MP L2
local macro_rules | `(tactic| walk_at "mp") => `(tactic| simp only [↓W_seq, ↓W_nil, ↓W_if, ↓W_ret, ↓W_asg, ↓W_asgT, ↓W_Tname, ↓W_Ttup, ↓W_Tsnil, ↓W_Tscons, ↓W_Tsub, ↓W_Tfld, ↓W_Iseq, ↓W_Ienum, ↓W_Irng, ↓rP_int, ↓h_seqT, ↓h_enumT, ↓h_pow6, ↓h_pow12, ↓h_pow15, ↓W_expr, ↓W_raise, ↓W_par, ↓WB_or, ↓WB_and, ↓WB_not, ↓WB_cmpP, ↓WB_isiP, ↓WB_call, ↓WB_var, ↓h_isb, ↓h_isiS, ↓h_isiT, ↓h_isiI, ↓h_isiB, ↓h_isiN, ↓W_var, ↓W_cst, ↓W_bin, ↓W_neg, ↓W_cmp, ↓W_and, ↓W_or, ↓W_not, ↓W_ife, ↓W_tup, ↓W_lst, ↓W_dct, ↓W_callE, ↓W_blt, ↓W_mth, ↓W_fld, ↓W_idx, ↓W_slc, ↓W_Ono, ↓W_Oso, ↓W_Lnil, ↓W_Lcons, ↓W_heard, ↓W_tells, ↓W_refuses,
  ↓reduceIte, List.getElem?_cons_zero, List.getElem?_cons_succ, List.map_cons, List.map_nil, List.cons_append, List.nil_append, List.append_nil, Nat.sub_self, List.replicate_zero, List.replicate_succ, List.set_cons_zero, List.set_cons_succ, if_true, if_false, Bool.false_eq_true, Bool.not_true, Bool.not_false, ↓v0, ↓v1, ↓h_tn, ↓h_tb, ↓h_ti, ↓h_ts, ↓h_tt, ↓h_tscr, ↓h_bl, ↓h_le, ↓h_lt, ↓h_gt, ↓h_ge, ↓h_isn, ↓h_isnn, ↓h_eqi, ↓h_nei, ↓h_lenT, ↓h_add, ↓h_sub, ↓h_int, ↓h_intb, ↓h_x0, ↓h_x1, ↓h_x2, ↓h_x3, ↓h_if, ↓h_if2, ↓nP_int, ↓iP_int, ↓tP_bl, List.length_cons, List.length_nil, Nat.zero_add, Nat.reduceAdd, Nat.reduceLT, vP_some, oP_some, uP_some, k_NoneType_bool, k_NoneType_int, k_NoneType_str, k_NoneType_tuple, k_NoneType_list, k_NoneType_dict, k_bool_bool, k_bool_int, k_bool_str, k_bool_tuple, k_bool_list, k_bool_dict, k_int_bool, k_int_int, k_int_str, k_int_tuple, k_int_list, k_int_dict, k_str_bool, k_str_int, k_str_str, k_str_tuple, k_str_list, k_str_dict, k_tuple_bool, k_tuple_int, k_tuple_str, k_tuple_tuple, k_tuple_list, k_tuple_dict, k_list_bool, k_list_int, k_list_str, k_list_tuple, k_list_list, k_list_dict, k_dict_bool, k_dict_int, k_dict_str, k_dict_tuple, k_dict_list, k_dict_dict, n_non, n_int, n_bl, n_tup, n_str, n_ref])
section
variable {C : Cf} {S S' : Sto} {n j : Nat} {P : D → Sto → Prop} {E : Nat → D → Sto → Prop}
theorem W_find2 {iv : Iv} {xs : List D} (item : Nat → D → D) (bad : D → Bool) (R : Rho → Prop) {turn : D → Rho → Sto → Fr} {nx bk ct : Rho → Sto → Prop} {rt : D → Sto → Prop}
    (hat : ∀ i, iv.at C S i = some (xs[i]?.map (item i)))
    (step : ∀ i ρ x, R ρ → xs[i]? = some x → (bad x = true → xs.findIdx? bad = some i) → (turn (item i x) ρ S).W (fun ρ' S' => bad x = false ∧ R ρ' ∧ S' = S) rt nx (fun ρ' S' => bad x = false ∧ R ρ' ∧ S' = S) E)
    (fin : ∀ ρ, R ρ → xs.findIdx? bad = none → nx ρ S) {k : Nat} {ρ : Rho} (hr : R ρ) (hk : xs.length ≤ k) : (forK C iv turn k 0 ρ S).W nx rt bk ct E := by
  refine W_find item bad R hat (fun i ρ x hr hx hb => ?_) (fun i ρ x hr hx hb hf => ?_) fin hr hk
  · exact Fr.W_mono (step i ρ x hr hx fun hb' => by rw [hb] at hb'; cases hb') (fun _ _ z => z.2) (fun _ _ z => z) (fun _ _ z => z) (fun _ _ z => z.2) (fun _ _ _ z => z)
  · refine Fr.W_mono (step i ρ x hr hx fun _ => hf) (fun _ _ z => ?_) (fun _ _ z => z) (fun _ _ z => z) (fun _ _ z => ?_) (fun _ _ _ z => z)
    · rw [hb] at z; cases z.1
    · rw [hb] at z; cases z.1
theorem wrong_prices_W (h : CfOk C) (hn : 3 ≤ n) {sc : D} {nums : List D} (o1 : okD S sc) (o2 : ∀ x ∈ nums, okD S x) (hl : nums.length ≤ 30) (q : ∀ S', Kp [] S S' → P (wD C ((wrongP (.tup [sc, .tup nums])).map fun i => (15, i))) S') : (callF C n 18 [.int nums.length, .tup [sc, .tup nums]] S).W P E := by
  obtain ⟨m, rfl⟩ : ∃ m, n = m + 1 := ⟨n - 1, by omega⟩
  rw [W_call h.p18 rfl (by decide), ir18]
  have w15 := h.wd.1
  try walk_at "mp"
  rw [if_neg (by simp), if_neg (by simp), law_is_number_W h (by omega) o1]
  try walk_at "mp"
  cases hw : isWh sc 1 1000000 with
  | false =>
    rw [if_pos (by simp), if_pos (by decide)]
    have := q S (Kp.refl _ _)
    simp only [wrongP, hw, if_neg (show ¬ 30 < nums.length by omega), Bool.false_eq_true, if_false, Option.map_some, wD, w15] at this
    exact this
  | true =>
    rw [if_neg (by simp), W_comp]
    try walk_at "mp"
    rw [h_rng (by omega) (by omega)]
    refine comp_find badN (xs := nums) (by simp) (by simp; omega) (fun i x S1 k1 hx => ?_) fun is S1 h1 e1 k1 => ?_
    · rw [W_turnC]
      simp only [wipeR]
      try walk_at "mp"
      rw [W_Ifcons]
      try walk_at "mp"
      rw [h_xn hx, law_is_number_W h (by omega) ((o2 x (List.mem_of_getElem? hx)).kp k1)]
      try walk_at "mp"
      cases hb : isWh x (-1000000000000000) 1000000000000000 with
      | true =>
        simp [badN, hb]
        exact Kp.refl _ _
      | false =>
        simp only [Bool.not_false, if_true, W_Ifnil, badN, hb]
        try walk_at "mp"
        exact ⟨by trivial, Kp.refl _ _⟩
    · have wn : wrongP (.tup [sc, .tup nums]) = is.head? := by
        rw [wrongP, if_neg (by omega), if_pos hw, h1]
      rw [wn] at q
      rw [if_pos (by decide)]
      have k2 := k1.trans (Kp.app S1 [.lst []])
      have e2 := (Kp.app S1 [.lst []]).at_ e1 (by simp)
      rw [h_neL e2 (new_at _ _)]
      cases is with
      | nil =>
        rw [if_neg (by simp)]
        exact q _ k2
      | cons i r =>
        rw [if_pos (by simp), h_xLz (x := .int i) e2 rfl, if_pos (by decide)]
        have := q _ k2
        simp only [List.head?_cons, Option.map_some, wD, w15] at this
        exact this
/-- what the law has of a course -/
def owedD (C : Cf) (po pa wh : D) : D := match wrongO po pa wh with
  | some (c, i) => .tup [.str (C.wd c), .int i]
  | none => .tup [.str C.told, .tup (billsO po pa wh)]
theorem bills_owed_W (h : CfOk C) (hn : 5 ≤ n) {po pa wh : D} (o1 : okT S po) (o2 : okT S pa) (o3 : okB S wh) (hws : ∀ ws, wh = .tup ws → ws.length ≤ 1000000) (q : ∀ S', Kp [] S S' → P (owedD C po pa wh) S') : (callF C n 24 [po, pa, wh] S).W P E := by
  obtain ⟨m, rfl⟩ : ∃ m, n = m + 1 := ⟨n - 1, by omega⟩
  rw [W_call h.p24 rfl (by decide), ir24]
  have w15 := h.wd.1
  have w16 := h.wd.2.1
  have w43 := h.wd.2.2.2.2.1
  have tl := h.told
  have bad1 : wrongP po = some (-1) → P (.tup [.str "BadPrices", .int (-1)]) S := fun w => by
    have := q S (Kp.refl _ _)
    simp only [owedD, wrongO, w, w15] at this
    exact this
  cases po with
  | tup ds =>
    by_cases hl : ds.length = 2
    · obtain ⟨sc, b, rfl⟩ : ∃ a b, ds = [a, b] := by
        match ds, hl with
        | [a, b], _ => exact ⟨a, b, rfl⟩
      have oa : okB S sc := o1 sc (by simp)
      have ob : okB S b := o1 b (by simp)
      have oa' : okD S sc := by
        cases sc with
        | ref r => exact oa
        | _ => trivial
      cases b with
      | tup nums =>
        try walk_at "mp"
        rw [if_neg (by decide)]
        by_cases h3 : 30 < nums.length
        · rw [decide_eq_true (by omega), if_pos rfl, if_pos (by decide)]
          exact bad1 (by simp [wrongP, h3])
        · rw [decide_eq_false (by omega), if_neg (by decide)]
          refine wrong_prices_W h (by omega) oa' ob (by omega) fun S1 k1 => ?_
          cases w1 : wrongP (.tup [sc, .tup nums]) with
          | some i =>
            simp only [Option.map_some, wD]
            try walk_at "mp"
            have := q S1 k1
            simp only [owedD, wrongO, w1] at this
            exact this
          | none =>
            simp only [Option.map_none, wD]
            try walk_at "mp"
            have bad2 : ∀ i, wrongC nums.length pa = some i → P (.tup [.str "BadCourse", .int i]) S1 := fun i w => by
              have := q S1 k1
              simp only [owedD, wrongO, w1, manyOf, w, w16] at this
              exact this
            obtain ⟨isc, inums, eP, s0, s1, nl, nb⟩ := wrongP_none w1
            cases eP
            cases pa with
            | tup ps =>
              try walk_at "mp"
              by_cases h10 : 1000 < ps.length
              · rw [decide_eq_true (by omega), if_pos rfl, if_pos (by decide)]
                exact bad2 _ (by simp [wrongC, h10])
              rw [decide_eq_false (by omega), if_neg (by decide), W_for]
              try walk_at "mp"
              rw [h_rng (by omega) (by omega)]
              refine W_find2 (xs := ps) (fun i d => .int (i : Nat)) (badP (inums.map D.int).length) (fun ρ => ∃ o1 o2, ρ = [some (.tup [.int isc, .tup (inums.map D.int)]), some (.tup ps), some wh, some (.int (inums.map D.int).length), some .non, o1, o2, none, none]) (fun i => rng_at' (by simp)) (fun i ρ x hr hx hf => ?_) (fun ρ hr hf => ?_) ⟨_, _, rfl⟩ (by simp [Iv.many])
              · obtain ⟨p1, p2, rfl⟩ := hr
                have ox : okB S1 x := (o2 x (List.mem_of_getElem? hx)).kp k1
                have evil : badP (inums.map D.int).length x = true → P (.tup [.str "BadCourse", .int i]) S1 := fun hb => bad2 _ (by
                  simp only [wrongC, if_neg h10, hf hb]
                  rfl)
                rw [W_turn]
                try walk_at "mp"
                rw [h_xn hx]
                cases x with
                | tup xs =>
                  by_cases hxl : xs.length = 2
                  · obtain ⟨a, b, rfl⟩ : ∃ a b, xs = [a, b] := by
                      match xs, hxl with
                      | [a, b], _ => exact ⟨a, b, rfl⟩
                    try walk_at "mp"
                    rw [if_neg (by decide), law_is_number_W h (by omega) (ox a (by simp))]
                    try walk_at "mp"
                    cases ha : isWh a 0 29 with
                    | false =>
                      rw [if_pos (by decide), if_pos (by decide)]
                      exact evil (by simp [badP, isPr, ha])
                    | true =>
                      rw [if_neg (by decide), law_is_number_W h (by omega) (ox b (by simp))]
                      try walk_at "mp"
                      cases hb : isWh b 0 ((inums.map D.int).length - 1) with
                      | false =>
                        rw [if_pos (by decide), if_pos (by decide)]
                        exact evil (by simp only [badP, isPr, ha, hb]; rfl)
                      | true =>
                        rw [if_neg (by decide)]
                        exact ⟨by simp only [badP, isPr, ha, hb]; rfl, ⟨_, _, rfl⟩, by trivial⟩
                  · try walk_at "mp"
                    rw [if_pos (by simp; omega), if_pos (by decide)]
                    refine evil ?_
                    match xs, hxl with
                    | [], _ => rfl
                    | [_], _ => rfl
                    | [_, _], hl => exact absurd rfl hl
                    | _ :: b :: _ :: _, _ => rfl
                | ref r =>
                  obtain ⟨ys, e'⟩ := ox
                  try walk_at "mp"
                  rw [h_tref e']
                  simp only [isiT]
                  exact evil rfl
                | _ =>
                  try walk_at "mp"
                  rw [if_pos (by decide)]
                  exact evil rfl
              · obtain ⟨p1, p2, rfl⟩ := hr
                have w2 : wrongC (inums.map D.int).length (.tup ps) = none := by
                  simp only [wrongC, if_neg h10, hf]
                  rfl
                obtain ⟨ips, eC, pl, pb⟩ := wrongC_none w2
                cases eC
                have bad3 : ∀ i, wrongW wh = some i → P (.tup [.str "BadWho", .int i]) S1 := fun i w => by
                  have := q S1 k1
                  simp only [owedD, wrongO, w1, manyOf, w2, w, w43] at this
                  exact this
                cases wh with
                | tup ws =>
                  try walk_at "mp"
                  rw [W_for]
                  try walk_at "mp"
                  rw [h_rng (by omega) (by have := hws ws rfl; omega)]
                  refine W_find2 (xs := ws) (fun i d => .int (i : Nat)) badW (fun ρ => ∃ o1 o2, ρ = [some (.tup [.int isc, .tup (inums.map D.int)]), some (.tup (ips.map prD)), some (.tup ws), some (.int (inums.map D.int).length), some .non, o1, o2, none, none]) (fun i => rng_at' (by simp)) (fun i ρ x hr hx hf => ?_) (fun ρ hr hf => ?_) ⟨_, _, rfl⟩ (by simp [Iv.many])
                  · obtain ⟨p1, p2, rfl⟩ := hr
                    have ox : okD S1 x := (o3 x (List.mem_of_getElem? hx)).kp k1
                    have evil : badW x = true → P (.tup [.str "BadWho", .int i]) S1 := fun hb => bad3 _ (by
                      simp only [wrongW, hf hb]
                      rfl)
                    rw [W_turn]
                    try walk_at "mp"
                    rw [h_xn hx, law_is_number_W h (by omega) ox]
                    try walk_at "mp"
                    cases ha : isWh x 0 99 with
                    | false =>
                      rw [if_pos (by decide), if_pos (by decide)]
                      exact evil (by simp only [badW, ha]; rfl)
                    | true =>
                      rw [if_neg (by decide)]
                      exact ⟨by simp only [badW, ha]; rfl, ⟨_, _, rfl⟩, by trivial⟩
                  · obtain ⟨p1, p2, rfl⟩ := hr
                    have w3 : wrongW (.tup ws) = none := by
                      simp only [wrongW, hf]
                      rfl
                    rw [W_for]
                    try walk_at "mp"
                    rw [h_rng (by omega) (by simp; omega)]
                    refine W_find2 (xs := ips.map prD) (fun i d => .int (i : Nat)) (bey ws.length) (fun ρ => ∃ o1 o2, ρ = [some (.tup [.int isc, .tup (inums.map D.int)]), some (.tup (ips.map prD)), some (.tup ws), some (.int (inums.map D.int).length), some .non, o1, o2, none, none]) (fun i => rng_at' (by simp)) (fun i ρ x hr hx hf => ?_) (fun ρ hr hf => ?_) ⟨_, _, rfl⟩ (by simp [Iv.many])
                    · obtain ⟨p1, p2, rfl⟩ := hr
                      have evil : bey ws.length x = true → P (.tup [.str "BadCourse", .int i]) S1 := fun hb => by
                        have w4 : wrongY (.tup (ips.map prD)) (.tup ws) = some (i : Int) := by
                          simp only [wrongY, hf hb]
                          rfl
                        have := q S1 k1
                        simp only [owedD, wrongO, w1, manyOf, w2, w3, w4, w16] at this
                        exact this
                      rw [W_turn]
                      try walk_at "mp"
                      rw [h_xn hx]
                      rw [List.getElem?_map, Option.map_eq_some_iff] at hx
                      obtain ⟨p, hp, rfl⟩ := hx
                      rw [bey_pr] at evil ⊢
                      simp only [prD]
                      try walk_at "mp"
                      cases hb : decide ((ws.length : Int) ≤ p.1) with
                      | true =>
                        rw [if_pos rfl, if_pos (by decide)]
                        exact evil hb
                      | false =>
                        rw [if_neg (by decide)]
                        exact ⟨by trivial, ⟨_, _, rfl⟩, by trivial⟩
                    · obtain ⟨p1, p2, rfl⟩ := hr
                      have w4 : wrongY (.tup (ips.map prD)) (.tup ws) = none := by
                        simp only [wrongY, hf]
                        rfl
                      have hy := wrongY_none w4
                      try walk_at "mp"
                      rw [W_comp]
                      try walk_at "mp"
                      refine comp_map (xs := ips.map prD) (fun d => some (billO (.int isc) (inums.map D.int) ws d)) (by simp; omega) rfl (fun S1 i _ => rfl) (fun x S2 hx k2 => ?_) fun S2 e2 k2 => ?_
                      · obtain ⟨p, hp, rfl⟩ := List.mem_map.mp hx
                        obtain ⟨a0, a1, b0, b1⟩ := pb p hp
                        have a2 := hy p hp
                        rw [W_turnC]
                        simp only [wipeR, prD]
                        try walk_at "mp"
                        simp only [W_Ifnil]
                        try walk_at "mp"
                        rw [h_xI a0 a2, h_xI b0 (by simp at b1 ⊢; omega), if_pos (by decide)]
                        exact ⟨rfl, Kp.refl _ _⟩
                      · rw [h_tupL e2, fm_map, if_pos (by decide)]
                        have := q S2 (k1.trans k2)
                        simp only [owedD, wrongO, w1, manyOf, w2, w3, w4, tl] at this
                        exact this
                | ref r =>
                  obtain ⟨ys, e'⟩ := MP.okD.kp (S := S) (d := .ref r) o3 k1
                  try walk_at "mp"
                  rw [h_tref e']
                  simp only [isiT]
                  exact bad3 _ rfl
                | _ =>
                  try walk_at "mp"
                  rw [if_pos (by decide)]
                  exact bad3 _ rfl
            | ref r =>
              obtain ⟨ys, e'⟩ := MP.okD.kp (S := S) (d := .ref r) o2 k1
              try walk_at "mp"
              rw [h_tref e']
              simp only [isiT]
              exact bad2 _ rfl
            | _ =>
              try walk_at "mp"
              rw [if_pos (by decide)]
              exact bad2 _ rfl
      | ref r =>
        obtain ⟨xs, e'⟩ := ob
        try walk_at "mp"
        rw [if_neg (by decide), h_tref e']
        simp only [isiT]
        exact bad1 rfl
      | _ =>
        try walk_at "mp"
        rw [if_neg (by decide)]
        exact bad1 rfl
    · have wn : wrongP (.tup ds) = some (-1) := by
        match ds, hl with
        | [], _ => rfl
        | [_], _ => rfl
        | [_, _], hl => exact absurd rfl hl
        | _ :: b :: _ :: _, _ => cases b <;> rfl
      try walk_at "mp"
      rw [if_pos (by simp; omega)]
      exact bad1 wn
  | ref r =>
    obtain ⟨ds, e'⟩ := o1
    try walk_at "mp"
    rw [h_tref e']
    simp only [isiT]
    exact bad1 rfl
  | _ =>
    try walk_at "mp"
    exact bad1 rfl
end
end HB
end MWt
section MWu
set_option Elab.async false
set_option linter.all false
set_option maxRecDepth 100000
set_option maxHeartbeats 2000000
namespace HB
open PySem MP L2
local macro_rules | `(tactic| walk_at "mp") => `(tactic| simp only [↓W_seq, ↓W_nil, ↓W_if, ↓W_ret, ↓W_asg, ↓W_asgT, ↓W_Tname, ↓W_Ttup, ↓W_Tsnil, ↓W_Tscons, ↓W_Tsub, ↓W_Tfld, ↓W_Iseq, ↓W_Ienum, ↓W_Irng, ↓rP_int, ↓h_seqT, ↓h_enumT, ↓h_pow6, ↓h_pow12, ↓h_pow15, ↓W_expr, ↓W_raise, ↓W_par, ↓WB_or, ↓WB_and, ↓WB_not, ↓WB_cmpP, ↓WB_isiP, ↓WB_call, ↓WB_var, ↓h_isb, ↓h_isiS, ↓h_isiT, ↓h_isiI, ↓h_isiB, ↓h_isiN, ↓W_var, ↓W_cst, ↓W_bin, ↓W_neg, ↓W_cmp, ↓W_and, ↓W_or, ↓W_not, ↓W_ife, ↓W_tup, ↓W_lst, ↓W_dct, ↓W_callE, ↓W_blt, ↓W_mth, ↓W_fld, ↓W_idx, ↓W_slc, ↓W_Ono, ↓W_Oso, ↓W_Lnil, ↓W_Lcons, ↓W_heard, ↓W_tells, ↓W_refuses,
  ↓reduceIte, List.getElem?_cons_zero, List.getElem?_cons_succ, List.map_cons, List.map_nil, List.cons_append, List.nil_append, List.append_nil, Nat.sub_self, List.replicate_zero, List.replicate_succ, List.set_cons_zero, List.set_cons_succ, if_true, if_false, Bool.false_eq_true, Bool.not_true, Bool.not_false, ↓v0, ↓v1, ↓h_tn, ↓h_tb, ↓h_ti, ↓h_ts, ↓h_tt, ↓h_tscr, ↓h_bl, ↓h_le, ↓h_lt, ↓h_gt, ↓h_ge, ↓h_isn, ↓h_isnn, ↓h_eqi, ↓h_nei, ↓h_lenT, ↓h_add, ↓h_sub, ↓h_int, ↓h_intb, ↓h_x0, ↓h_x1, ↓h_x2, ↓h_x3, ↓h_if, ↓h_if2, ↓nP_int, ↓iP_int, ↓tP_bl, List.length_cons, List.length_nil, Nat.zero_add, Nat.reduceAdd, Nat.reduceLT, vP_some, oP_some, uP_some, k_NoneType_bool, k_NoneType_int, k_NoneType_str, k_NoneType_tuple, k_NoneType_list, k_NoneType_dict, k_bool_bool, k_bool_int, k_bool_str, k_bool_tuple, k_bool_list, k_bool_dict, k_int_bool, k_int_int, k_int_str, k_int_tuple, k_int_list, k_int_dict, k_str_bool, k_str_int, k_str_str, k_str_tuple, k_str_list, k_str_dict, k_tuple_bool, k_tuple_int, k_tuple_str, k_tuple_tuple, k_tuple_list, k_tuple_dict, k_list_bool, k_list_int, k_list_str, k_list_tuple, k_list_list, k_list_dict, k_dict_bool, k_dict_int, k_dict_str, k_dict_tuple, k_dict_list, k_dict_dict, n_non, n_int, n_bl, n_tup, n_str, n_ref])
section
variable {C : Cf} {S S' : Sto} {n j : Nat} {P : D → Sto → Prop} {E : Nat → D → Sto → Prop}
theorem okT.kp {d : D} (h : okT S d) (k : Kp [] S S') : okT S' d := by
  cases d with
  | tup ds => exact fun x hx => okB.kp (h x hx) k
  | ref r =>
    obtain ⟨ds, e⟩ := h
    exact ⟨ds, k.at_ e (by simp)⟩
  | _ => trivial
/-- two lists of the same -/
theorem sameL_W (h : CfOk C) {k a b : Nat} {ds : List D} (hp : ∀ x ∈ ds, Pl k x) (hl : ds.length ≤ 1000000) (hn : k + 3 ≤ n) (ea : S[a]? = some (.lst ds)) (eb : S[b]? = some (.lst ds)) (q : P (.bl true) S) : (callF C n 35 [.ref a, .ref b] S).W P E := by
  obtain ⟨m, rfl⟩ : ∃ m, n = m + 1 := ⟨n - 1, by omega⟩
  rw [W_call h.p35 rfl (by decide), ir35]
  try walk_at "mp"
  rw [h_tref eb]
  try walk_at "mp"
  rw [h_tref eb]
  try walk_at "mp"
  rw [h_tref eb]
  try walk_at "mp"
  rw [h_tref eb]
  try walk_at "mp"
  rw [h_tref eb]
  try walk_at "mp"
  rw [h_tref ea]
  try walk_at "mp"
  rw [h_lenL ea, h_lenL eb, h_neiS]
  try walk_at "mp"
  rw [W_for]
  try walk_at "mp"
  rw [h_lenL eb, rP_int, h_rng (by omega) (by omega)]
  refine W_forK (xs := (List.range ds.length).map fun (j : Nat) => D.int j) (fun i ρ S' => (∃ o, ρ = [some (.ref a), some (.ref b), o]) ∧ S' = S) (fun i ρ S' _ => ?_) (fun i ρ S' x hI hx => ?_) (fun ρ S' hI => ?_) _ 0 _ _ ⟨⟨none, rfl⟩, rfl⟩ (Nat.zero_le _) ?_
  · rw [Int.toNat_natCast]
    exact rng_at
  · obtain ⟨⟨o, rfl⟩, rfl⟩ := hI
    rw [W_turn]
    rw [List.getElem?_map, Option.map_eq_some_iff] at hx
    obtain ⟨j, hj, rfl⟩ := hx
    have hlt : i < ds.length := by
      have := (List.getElem?_eq_some_iff.mp hj).1
      simpa using this
    rw [List.getElem?_range hlt] at hj
    cases hj
    have hx := List.getElem?_eq_getElem hlt
    try walk_at "mp"
    rw [h_xLn ea hx, h_xLn eb hx]
    refine same_W h k (hp _ (List.getElem_mem hlt)) (by omega) ?_
    simp [tP_bl]
  · rw [hI.2]
    try walk_at "mp"
    exact q
  · simp [Iv.many]
def prodS (bs : List Bi) : Nat := bs.foldr (fun b p => b.sc.natAbs * p) 1
theorem prodS_dv : ∀ {bs : List Bi}, ∀ b ∈ bs, b.sc ∣ (prodS bs : Int)
  | a :: r, b, hb => by
    have e : (prodS (a :: r) : Int) = (a.sc.natAbs : Int) * (prodS r : Int) := by
      rw [← Int.natCast_mul]
      rfl
    rw [e]
    rcases List.mem_cons.mp hb with rfl | hb
    · exact Int.dvd_trans (Int.dvd_natAbs_self ..) (Int.dvd_mul_right _ _)
    · exact Int.dvd_trans (prodS_dv b hb) (Int.dvd_mul_left _ _)
theorem prodS_le : ∀ {bs : List Bi}, (∀ b ∈ bs, b.ok) → 0 < prodS bs ∧ prodS bs ≤ (2 ^ 20) ^ bs.length
  | [], _ => by simp [prodS]
  | a :: r, ok => by
    obtain ⟨p0, p1⟩ := prodS_le (bs := r) fun b hb => ok b (by simp [hb])
    have oa := ok a (by simp)
    have h0 := oa.s0
    have h1 := oa.s1
    refine ⟨Nat.mul_pos (by omega) p0, ?_⟩
    rw [List.length_cons, Nat.pow_succ, Nat.mul_comm]
    exact Nat.mul_le_mul (Nat.le_trans (show a.sc.natAbs ≤ 1000000 by omega) (by decide)) p1
/-- few bills have a common scale -/
theorem com_small {bs : List Bi} (ok : ∀ b ∈ bs, b.ok) (hl : bs.length ≤ 60) : ∃ B, Com B bs := by
  obtain ⟨p0, p1⟩ := prodS_le ok
  refine ⟨prodS bs, by omega, ?_, prodS_dv⟩
  rw [Int.natAbs_natCast]
  have h1 : prodS bs ≤ 2 ^ 1200 := Nat.le_trans p1 (by
    rw [← Nat.pow_mul]
    exact Nat.pow_le_pow_right (by decide) (by omega))
  have h2 : prodS bs * 1000000 ≤ 2 ^ 1200 * 2 ^ 20 := Nat.mul_le_mul h1 (by decide)
  rw [← Nat.pow_add] at h2
  exact Nat.lt_of_le_of_lt h2 (Nat.pow_lt_pow_right (by decide) (by decide))
theorem nub_len : ∀ (l : List Int), (nubI l).length ≤ l.length
  | [] => Nat.le_refl _
  | i :: r => by
    rw [nubI, List.length_cons, List.length_cons]
    have := nub_len r
    have := List.length_filter_le (· != i) (nubI r)
    omega
theorem Bi.pl (b : Bi) : Pl 2 b.d := .tup (fun x hx => by
  simp only [List.mem_cons, List.not_mem_nil, or_false] at hx
  rcases hx with rfl | rfl | rfl | rfl <;> exact .int) (by simp)
theorem bs_pl {bs : List Bi} (hl : bs.length ≤ 1000000) : Pl 3 (.tup (bs.map Bi.d)) := .tup (fun x hx => by
  obtain ⟨b, _, rfl⟩ := List.mem_map.mp hx
  exact b.pl) (by simpa using hl)
theorem month_pl {B : Int} {bs : List Bi} (hk : (nubI (bs.map (·.w))).length < 64) : Pl 3 (.tup (monthL B bs)) := .tup (fun x hx => by
  obtain ⟨w, _, rfl⟩ := List.mem_map.mp hx
  refine .tup (fun y hy => ?_) (by simp)
  simp only [List.mem_cons, List.not_mem_nil, or_false] at hy
  rcases hy with rfl | rfl | rfl | rfl <;> exact .int) (by rw [monthL, List.length_map, sortI_len]; omega)
theorem told_pl {k : Nat} {d : D} (h : Pl (k + 1) d) : Pl (k + 2) (.tup [.str "told", d]) := .tup (fun x hx => by
  simp only [List.mem_cons, List.not_mem_nil, or_false] at hx
  rcases hx with rfl | rfl
  · exact .str (by decide +kernel)
  · exact h) (by simp)
theorem wd_pl {k : Nat} {s : Str} {d : D} (h : Pl (k + 1) d) (hs : PyData.strOk s = true) : Pl (k + 2) (.tup [.str s, d]) := .tup (fun x hx => by
  simp only [List.mem_cons, List.not_mem_nil, or_false] at hx
  rcases hx with rfl | rfl
  · exact .str hs
  · exact h) (by simp)
theorem GB.is {d : D} (h : GB d) : isBl d = true := by
  obtain ⟨w, x, nu, sc, rfl, h1, h2, h3, h4, h5, h6, h7, h8⟩ := h
  exact Bi.is (b := ⟨w, x, nu, sc⟩) ⟨h1, h2, h3, h4, h5, h6, h7, h8⟩
theorem GB.all {ds : List D} (h : ∀ d ∈ ds, GB d) : ∃ bs : List Bi, ds = bs.map Bi.d ∧ ∀ b ∈ bs, b.ok := all_Bi fun d hd => (h d hd).is
theorem bs_okT {bs : List Bi} : okT S (.tup (bs.map Bi.d)) := by
  intro x hx
  obtain ⟨b, _, rfl⟩ := List.mem_map.mp hx
  intro y hy
  simp only [List.mem_cons, List.not_mem_nil, or_false] at hy
  rcases hy with rfl | rfl | rfl | rfl <;> trivial
/-- months of few bills -/
theorem month_small_W (h : CfOk C) (hn : 5 ≤ n) {d : D} (ok : okT S d) (sm : ∀ bs : List Bi, d = .tup (bs.map Bi.d) → bs.length ≤ 1000 → bs.length ≤ 60) (q : ∀ bs : List Bi, d = .tup (bs.map Bi.d) → bs.length ≤ 60 → (∀ b ∈ bs, b.ok) → ∀ B, Com B bs → ∀ S', Kp [] S S' → P (.tup (monthL B bs)) S') (e : ∀ c i S', wrongB d = some (c, i) → Kp [] S S' → E c (.int i) S') : (callF C n 12 [d] S).W P E := by
  refine month_W h hn ok (fun bs e' hl bo => ?_) e (ok.kp (Kp.app _ _))
  have l := sm bs e' hl
  obtain ⟨B, hB⟩ := com_small bo l
  refine ⟨B, hB, ?_, fun S' k => q bs e' l bo B hB S' k⟩
  have := nub_len (bs.map (·.w))
  rw [List.length_map] at this
  omega
theorem h_mulT {k : Int} {xs : List D} (h0 : 2 ≤ k) (h1 : k ≤ 2000) (h2 : xs.length ≤ 1000) : uP P (binD .Mult S (.tup xs) (.int k)) = P (.tup (List.replicate k.toNat xs).flatten) S := by
  simp only [binD, mulD]
  rw [if_pos ⟨h0, h1, h2⟩]
  rfl
end
end HB
end MWu
section MWv
set_option Elab.async false
set_option linter.all false
set_option maxRecDepth 100000
set_option maxHeartbeats 2000000
namespace HB
open PySem MP L2
local macro_rules | `(tactic| walk_at "mp") => `(tactic| simp only [↓W_seq, ↓W_nil, ↓W_if, ↓W_ret, ↓W_asg, ↓W_asgT, ↓W_Tname, ↓W_Ttup, ↓W_Tsnil, ↓W_Tscons, ↓W_Tsub, ↓W_Tfld, ↓W_Iseq, ↓W_Ienum, ↓W_Irng, ↓rP_int, ↓h_seqT, ↓h_enumT, ↓h_pow6, ↓h_pow12, ↓h_pow15, ↓W_expr, ↓W_raise, ↓W_par, ↓WB_or, ↓WB_and, ↓WB_not, ↓WB_cmpP, ↓WB_isiP, ↓WB_call, ↓WB_var, ↓h_isb, ↓h_isiS, ↓h_isiT, ↓h_isiI, ↓h_isiB, ↓h_isiN, ↓W_var, ↓W_cst, ↓W_bin, ↓W_neg, ↓W_cmp, ↓W_and, ↓W_or, ↓W_not, ↓W_ife, ↓W_tup, ↓W_lst, ↓W_dct, ↓W_callE, ↓W_blt, ↓W_mth, ↓W_fld, ↓W_idx, ↓W_slc, ↓W_Ono, ↓W_Oso, ↓W_Lnil, ↓W_Lcons, ↓W_heard, ↓W_tells, ↓W_refuses,
  ↓h_slcT, ↓h_lstT, ↓reduceIte, List.getElem?_cons_zero, List.getElem?_cons_succ, List.map_cons, List.map_nil, List.cons_append, List.nil_append, List.append_nil, Nat.sub_self, List.replicate_zero, List.replicate_succ, List.set_cons_zero, List.set_cons_succ, if_true, if_false, Bool.false_eq_true, Bool.not_true, Bool.not_false, ↓v0, ↓v1, ↓h_tn, ↓h_tb, ↓h_ti, ↓h_ts, ↓h_tt, ↓h_tscr, ↓h_bl, ↓h_le, ↓h_lt, ↓h_gt, ↓h_ge, ↓h_isn, ↓h_isnn, ↓h_eqi, ↓h_nei, ↓h_lenT, ↓h_add, ↓h_sub, ↓h_int, ↓h_intb, ↓h_x0, ↓h_x1, ↓h_x2, ↓h_x3, ↓h_if, ↓h_if2, ↓nP_int, ↓iP_int, ↓tP_bl, List.length_cons, List.length_nil, Nat.zero_add, Nat.reduceAdd, Nat.reduceLT, vP_some, oP_some, uP_some, k_NoneType_bool, k_NoneType_int, k_NoneType_str, k_NoneType_tuple, k_NoneType_list, k_NoneType_dict, k_bool_bool, k_bool_int, k_bool_str, k_bool_tuple, k_bool_list, k_bool_dict, k_int_bool, k_int_int, k_int_str, k_int_tuple, k_int_list, k_int_dict, k_str_bool, k_str_int, k_str_str, k_str_tuple, k_str_list, k_str_dict, k_tuple_bool, k_tuple_int, k_tuple_str, k_tuple_tuple, k_tuple_list, k_tuple_dict, k_list_bool, k_list_int, k_list_str, k_list_tuple, k_list_list, k_list_dict, k_dict_bool, k_dict_int, k_dict_str, k_dict_tuple, k_dict_list, k_dict_dict, n_non, n_int, n_bl, n_tup, n_str, n_ref])
section
variable {C : Cf} {S S' : Sto} {n j : Nat} {P : D → Sto → Prop} {E : Nat → D → Sto → Prop}
theorem wd_ok (h : CfOk C) {c : Nat} {i : Int} {d : D} (hw : wrongB d = some (c, i)) : PyData.strOk (C.wd c) = true := by
  have w42 := h.wd.2.2.2.1
  have w51 := h.wd.2.2.2.2.2.2
  have hc : c = 42 ∨ c = 51 := by
    unfold wrongB at hw
    split at hw
    · split at hw
      · cases hw
        exact .inr rfl
      · rw [Option.map_eq_some_iff] at hw
        obtain ⟨i, _, e⟩ := hw
        cases e
        exact .inl rfl
    · cases hw
      exact .inl rfl
  rcases hc with rfl | rfl
  · rw [w42]; decide +kernel
  · rw [w51]; decide +kernel
theorem Bi.inj {a b : Bi} (h : a.d = b.d) : a = b := by
  cases a; cases b
  simp only [Bi.d, D.tup.injEq, List.cons.injEq, D.int.injEq] at h
  obtain ⟨rfl, rfl, rfl, rfl, _⟩ := h
  rfl
theorem bs_inj : ∀ {as bs : List Bi}, as.map Bi.d = bs.map Bi.d → as = bs
  | [], [], _ => rfl
  | [], b :: r, h => by cases h
  | a :: r, [], h => by cases h
  | a :: r, b :: s, h => by
    rw [List.map_cons, List.map_cons, List.cons.injEq] at h
    rw [Bi.inj h.1, bs_inj h.2]
/-- one thing, asked of both -/
theorem turn41_W (h : CfOk C) (hn : 8 ≤ n) {x a b c d : D} {o5 o6 o7 : Option D} {nx bk ct : Rho → Sto → Prop} {rt : D → Sto → Prop} (ok : okT S x) (sm : ∀ bs : List Bi, x = .tup (bs.map Bi.d) → bs.length ≤ 1000 → bs.length ≤ 60) (q : ∀ o5 o6 o7 S', Kp [] S S' → nx [some a, some b, some c, some d, some x, o5, o6, o7] S') :
    (evSs C (callF C n) [.asg (.name 5) (.call 22 (.cons (.var 4) .nil)), .asg (.name 6) (.lst (.cons (.heard (.call 6 (.cons (.var 4) .nil))) .nil)), .expr (.mth .append (.var 6) (.cons (.heard (.call 12 (.cons (.var 4) .nil))) .nil)), .asg (.name 7) (.ife (.cmp .IsNot (.var 5) (.cst .non)) (.bin .Mult (.lst (.cons (.var 5) .nil)) (.cst (.int 2))) (.lst (.cons (.tup (.cons (.cst (.str "told")) (.cons (.var 4) .nil))) (.cons (.tup (.cons (.cst (.str "told")) (.cons (.call 23 (.cons (.var 4) .nil)) .nil))) .nil)))), .ife (.not (.call 35 (.cons (.var 6) (.cons (.var 7) .nil)))) [.ret (.cst (.bl false))] []] [some a, some b, some c, some d, some x, o5, o6, o7] S).W nx rt bk ct E := by
  have tl := h.told
  try walk_at "mp"
  refine wrong_bills_W h (by omega) ok fun S1 k1 => ?_
  have ok1 := ok.kp k1
  refine made_bills_W h (by omega) ok1 (fun wn S2 k2 => ?_) (fun c i ew => ?_)
  · rw [wn]
    simp only [wD]
    rw [if_pos (by decide)]
    have ka := Kp.app S2 [.lst [.tup [.str C.told, x]]]
    have k12 := k2.trans ka
    have k02 := k1.trans k12
    rw [if_pos (by rw [h_lst (new_at _ _)]; rfl)]
    refine month_small_W h (by omega) (ok1.kp k12) sm (fun bs eb hl bo B hB S3 k3 => ?_) (fun c i S' e => by rw [wn] at e; cases e)
    have e3 := k3.at_ (new_at S2 (.lst [.tup [.str C.told, x]])) (by simp)
    rw [h_app e3 (show 1 < sizeLine by decide)]
    try walk_at "mp"
    rw [if_pos (by decide)]
    subst eb
    have hk : (nubI (bs.map (·.w))).length < 64 := by
      have := nub_len (bs.map (·.w))
      rw [List.length_map] at this
      omega
    refine month_of_W h (by omega) hB (by omega) bo hk fun S4 k4 => ?_
    have e4 := k4.at_ (at_set e3) (by simp)
    rw [if_pos (by decide), if_pos (by decide)]
    have kb := Kp.app S4 [.lst [.tup [.str "told", .tup (bs.map Bi.d)], .tup [.str "told", .tup (monthL B bs)]]]
    have ea := kb.at_ e4 (by simp)
    rw [tl] at ea
    refine sameL_W h (k := 4) (ds := [.tup [.str "told", .tup (bs.map Bi.d)], .tup [.str "told", .tup (monthL B bs)]]) (fun y hy => ?_) (by simp) (by omega) ea (new_at _ _) ?_
    · simp only [List.mem_cons, List.not_mem_nil, or_false] at hy
      rcases hy with rfl | rfl
      · exact told_pl (bs_pl (by omega))
      · exact told_pl (month_pl hk)
    · try walk_at "mp"
      exact q _ _ _ _ ((((k02.trans k3).setN (k1.trans k2).1).trans k4).trans kb)
  · rw [ew]
    simp only [wD]
    rw [if_pos (by decide)]
    have ka := Kp.app S1 [.lst [.tup [.str (C.wd c), .int i]]]
    rw [if_pos (by rw [h_lst (new_at _ _)]; rfl)]
    refine month_small_W h (by omega) (ok1.kp ka) sm (fun bs eb hl bo B hB S3 k3 => ?_) (fun c' i' S3 e k3 => ?_)
    · subst eb
      rw [wrongB_bs (by omega) bo] at ew
      cases ew
    rw [ew] at e
    cases e
    have e3 := k3.at_ (new_at S1 (.lst [.tup [.str (C.wd c), .int i]])) (by simp)
    rw [h_app e3 (show 1 < sizeLine by decide)]
    try walk_at "mp"
    rw [if_pos (by decide), h_mulL (new_at _ _) (by decide) (by decide) (by simp)]
    try walk_at "mp"
    have ea := (Kp.app _ [.lst (List.replicate (2 : Int).toNat [D.tup [.str (C.wd c), .int i]]).flatten]).at_ ((Kp.app _ [.lst [.tup [.str (C.wd c), .int i]]]).at_ (at_set (o' := .lst ([.tup [.str (C.wd c), .int i]] ++ [.tup [.str (C.wd c), .int i]])) e3) (by simp)) (by simp)
    refine sameL_W h (k := 2) (ds := [.tup [.str (C.wd c), .int i], .tup [.str (C.wd c), .int i]]) (fun y hy => ?_) (by simp) (by omega) ea (new_at _ _) ?_
    · simp only [List.mem_cons, List.not_mem_nil, or_false] at hy
      rcases hy with rfl | rfl <;> exact wd_pl (k := 0) .int (wd_ok h ew)
    · try walk_at "mp"
      exact q _ _ _ _ (((((k1.trans ka).trans k3).setN k1.1).trans (Kp.app _ _)).trans (Kp.app _ _))
theorem bills_right_W (h : CfOk C) (hn : 9 ≤ n) (hj : JarAt S j) {ds : List D} (hg : ∀ d ∈ ds, GB d) (hl : ds.length ≤ 20) (q : ∀ S', JarAt S' j → Kp [j] S S' → P (.bl true) S') : (callF C n 41 [.ref j, .tup ds] S).W P E := by
  obtain ⟨m, rfl⟩ : ∃ m, n = m + 1 := ⟨n - 1, by omega⟩
  rw [W_call h.p41 rfl (by decide), ir41]
  obtain ⟨bs, rfl, bo⟩ := GB.all hg
  rw [List.length_map] at hl
  have tl := h.told
  have wn : wrongB (.tup (bs.map Bi.d)) = none := wrongB_bs (by omega) bo
  obtain ⟨B, hB⟩ := com_small bo (by omega)
  have hk : (nubI (bs.map (·.w))).length < 64 := by
    have := nub_len (bs.map (·.w))
    rw [List.length_map] at this
    omega
  try walk_at "mp"
  rw [WB_any]
  try walk_at "mp"
  refine made_bills_W h (by omega) bs_okT (fun _ S1 k1 => ?_) fun c i e => by rw [wn] at e; cases e
  rw [tl]
  refine same_W h 4 (told_pl (bs_pl (by omega))) (by omega) ?_
  try walk_at "mp"
  rw [WB_any]
  try walk_at "mp"
  refine month_of_W h (by omega) hB (by omega) bo hk fun S2 k2 => ?_
  refine month_W h (by omega) bs_okT (fun bs' eb hl' bo' => ?_) (fun c i S' e _ => by rw [wn] at e; cases e) bs_okT
  obtain rfl : bs = bs' := (bs_inj (D.tup.inj eb))
  refine ⟨B, hB, hk, fun S3 k3 => ?_⟩
  rw [tl]
  refine same_W h 4 (told_pl (month_pl hk)) (by omega) ?_
  try walk_at "mp"
  have K3 := k1.trans (k2.trans k3)
  refine take_W h (by omega) (hj.kp K3 (by simp)) (by omega) (by simp; omega) fun i4 S4 a4 b4 j4 k4 => ?_
  refine drawn_bill_W h (by omega) j4 fun d5 S5 g5 j5 k5 => ?_
  obtain ⟨xs, rfl, xl, xo⟩ := g5.bs
  refine bent_bill_W h (by omega) j5 (xo j S5) (by omega) fun d6 S6 o6 j6 k6 => ?_
  have K6 : Kp [j] S S6 := K3.to.trans (k4.trans (k5.trans k6))
  have o6 := o6.ok
  rw [W_for]
  try walk_at "mp"
  have c1 : (cutL (bs.map Bi.d) none (some i4)).length ≤ 20 := Nat.le_trans cutL_len (by simpa using hl)
  have c2 : (cutL (bs.map Bi.d) (some i4) none).length ≤ 20 := Nat.le_trans cutL_len (by simpa using hl)
  have c3 : (cutL (bs.map Bi.d) (some (i4 + 1)) none).length ≤ 20 := Nat.le_trans cutL_len (by simpa using hl)
  rw [if_pos (by decide), h_addT (by simp; omega), h_addT (by simp; omega), if_pos (by decide), h_mulT (by decide) (by decide) (by simp), h_addT (by simp; omega), h_addT (by simp; omega), if_pos (by decide), h_mulT (by decide) (by decide) (by simp), if_pos (by decide), h_seqL (new_at _ _)]
  generalize hd1 : cutL (bs.map Bi.d) none (some i4) ++ [d6] ++ cutL (bs.map Bi.d) (some i4) none = x1
  generalize hd2 : cutL (bs.map Bi.d) none (some i4) ++ (List.replicate (Int.toNat 2) [d6]).flatten ++ cutL (bs.map Bi.d) (some (i4 + 1)) none = x2
  have kA := (Kp.app S6 [.lst (bs.map Bi.d)]).trans (Kp.app _ [.lst [D.tup x1, D.tup x2, D.ref S6.length, D.non, D.tup (List.replicate (Int.toNat 1001) [D.non]).flatten]])
  have okb : ∀ y ∈ bs.map Bi.d, okB S6 y := bs_okT (S := S6) (bs := bs)
  have key : ∀ x ∈ [D.tup x1, D.tup x2, D.ref S6.length, D.non, D.tup (List.replicate (Int.toNat 1001) [D.non]).flatten], okT (S6 ++ [.lst (bs.map Bi.d)] ++ [.lst [D.tup x1, D.tup x2, D.ref S6.length, D.non, D.tup (List.replicate (Int.toNat 1001) [D.non]).flatten]]) x ∧ (∀ bs : List Bi, x = .tup (bs.map Bi.d) → bs.length ≤ 1000 → bs.length ≤ 60) := by
    intro x hx
    simp only [List.mem_cons, List.not_mem_nil, or_false] at hx
    rcases hx with rfl | rfl | rfl | rfl | rfl
    · refine ⟨okT.kp (S := S6) (d := .tup x1) (fun y hy => ?_) kA, fun bs' e _ => ?_⟩
      · rw [← hd1, List.mem_append, List.mem_append, List.mem_singleton] at hy
        rcases hy with (hy | rfl) | hy
        · exact okb y (cutL_mem hy)
        · exact o6
        · exact okb y (cutL_mem hy)
      · have := congrArg List.length (D.tup.inj e)
        rw [← hd1] at this
        simp at this
        omega
    · refine ⟨okT.kp (S := S6) (d := .tup x2) (fun y hy => ?_) kA, fun bs' e _ => ?_⟩
      · rw [← hd2, List.mem_append, List.mem_append] at hy
        rcases hy with (hy | hy) | hy
        · exact okb y (cutL_mem hy)
        · simp at hy
          rw [hy]
          exact o6
        · exact okb y (cutL_mem hy)
      · have := congrArg List.length (D.tup.inj e)
        rw [← hd2] at this
        simp at this
        omega
    · exact ⟨⟨_, (Kp.app _ _).at_ (new_at S6 (.lst (bs.map Bi.d))) (by simp)⟩, nofun⟩
    · exact ⟨trivial, nofun⟩
    · refine ⟨fun y hy => ?_, fun bs' e l => ?_⟩
      · simp at hy
        rw [hy]
        trivial
      · have := congrArg List.length (D.tup.inj e)
        simp at this
        omega
  generalize [D.tup x1, D.tup x2, D.ref S6.length, D.non, D.tup (List.replicate (Int.toNat 1001) [D.non]).flatten] = five at key kA ⊢
  refine W_forK (xs := five) (fun i ρ S' => (∃ o4 o5 o6 o7, ρ = [some (.ref j), some (.tup (bs.map Bi.d)), some (.int i4), some d6, o4, o5, o6, o7]) ∧ Kp [] (S6 ++ [.lst (bs.map Bi.d)] ++ [.lst five]) S') (fun i ρ S' hI => lst_at (hI.2.at_ (new_at _ _) (by simp))) (fun i ρ S' x hI hx => ?_) (fun ρ S' hI => ?_) _ 0 _ _ ⟨⟨_, _, _, _, rfl⟩, Kp.refl _ _⟩ (Nat.zero_le _) (by rw [lst_many (new_at _ _)]; exact Nat.le_refl _)
  · obtain ⟨⟨p4, p5, p6, p7, rfl⟩, k7⟩ := hI
    obtain ⟨ox, smx⟩ := key x (List.mem_of_getElem? hx)
    rw [W_turn, W_Tname, if_pos (by simp)]
    exact turn41_W h (by omega) (ox.kp k7) smx fun p5 p6 p7 S8 k8 => ⟨⟨_, _, _, _, rfl⟩, k7.trans k8⟩
  · have K7 := kA.trans hI.2
    obtain ⟨⟨p4, p5, p6, p7, rfl⟩, _⟩ := hI
    exact q _ (j6.kp K7 (by simp)) (K6.trans K7.to)
end
end HB
end MWv
section MWw
set_option Elab.async false
set_option linter.all false
set_option maxRecDepth 100000
set_option maxHeartbeats 2000000
namespace HB
open PySem MP L2
section
variable {p : Prop}
theorem sz0 : (if 0 ≤ sizeLine then p else False) = p := if_pos (by decide)
theorem sz1 : (if 1 ≤ sizeLine then p else False) = p := if_pos (by decide)
theorem sz2 : (if 2 ≤ sizeLine then p else False) = p := if_pos (by decide)
theorem sz3 : (if 3 ≤ sizeLine then p else False) = p := if_pos (by decide)
theorem sz4 : (if 4 ≤ sizeLine then p else False) = p := if_pos (by decide)
theorem sz5 : (if 5 ≤ sizeLine then p else False) = p := if_pos (by decide)
theorem sz6 : (if 6 ≤ sizeLine then p else False) = p := if_pos (by decide)
theorem sz7 : (if 7 ≤ sizeLine then p else False) = p := if_pos (by decide)
theorem sz8 : (if 8 ≤ sizeLine then p else False) = p := if_pos (by decide)
theorem sz9 : (if 9 ≤ sizeLine then p else False) = p := if_pos (by decide)
theorem sz10 : (if 10 ≤ sizeLine then p else False) = p := if_pos (by decide)
end
local macro_rules | `(tactic| walk_at "mp") => `(tactic| simp only [↓W_seq, ↓W_nil, ↓W_if, ↓W_ret, ↓W_asg, ↓W_asgT, ↓W_Tname, ↓W_Ttup, ↓W_Tsnil, ↓W_Tscons, ↓W_Tsub, ↓W_Tfld, ↓W_Iseq, ↓W_Ienum, ↓W_Irng, ↓rP_int, ↓h_seqT, ↓h_enumT, ↓h_pow6, ↓h_pow12, ↓h_pow15, ↓W_expr, ↓W_raise, ↓W_par, ↓WB_or, ↓WB_and, ↓WB_not, ↓WB_cmpP, ↓WB_isiP, ↓WB_call, ↓WB_var, ↓h_isb, ↓h_isiS, ↓h_isiT, ↓h_isiI, ↓h_isiB, ↓h_isiN, ↓W_var, ↓W_cst, ↓W_bin, ↓W_neg, ↓W_cmp, ↓W_and, ↓W_or, ↓W_not, ↓W_ife, ↓W_tup, ↓W_lst, ↓W_dct, ↓W_callE, ↓W_blt, ↓W_mth, ↓W_fld, ↓W_idx, ↓W_slc, ↓W_Ono, ↓W_Oso, ↓W_Lnil, ↓W_Lcons, ↓W_heard, ↓W_tells, ↓W_refuses,
  ↓h_slcT, ↓h_lstT, sz0, sz1, sz2, sz3, sz4, sz5, sz6, sz7, sz8, sz9, sz10, ↓reduceIte, List.getElem?_cons_zero, List.getElem?_cons_succ, List.map_cons, List.map_nil, List.cons_append, List.nil_append, List.append_nil, Nat.sub_self, List.replicate_zero, List.replicate_succ, List.set_cons_zero, List.set_cons_succ, if_true, if_false, Bool.false_eq_true, Bool.not_true, Bool.not_false, ↓v0, ↓v1, ↓h_tn, ↓h_tb, ↓h_ti, ↓h_ts, ↓h_tt, ↓h_tscr, ↓h_bl, ↓h_le, ↓h_lt, ↓h_gt, ↓h_ge, ↓h_isn, ↓h_isnn, ↓h_eqi, ↓h_nei, ↓h_lenT, ↓h_add, ↓h_sub, ↓h_int, ↓h_intb, ↓h_x0, ↓h_x1, ↓h_x2, ↓h_x3, ↓h_if, ↓h_if2, ↓nP_int, ↓iP_int, ↓tP_bl, List.length_cons, List.length_nil, Nat.zero_add, Nat.reduceAdd, Nat.reduceLT, vP_some, oP_some, uP_some, k_NoneType_bool, k_NoneType_int, k_NoneType_str, k_NoneType_tuple, k_NoneType_list, k_NoneType_dict, k_bool_bool, k_bool_int, k_bool_str, k_bool_tuple, k_bool_list, k_bool_dict, k_int_bool, k_int_int, k_int_str, k_int_tuple, k_int_list, k_int_dict, k_str_bool, k_str_int, k_str_str, k_str_tuple, k_str_list, k_str_dict, k_tuple_bool, k_tuple_int, k_tuple_str, k_tuple_tuple, k_tuple_list, k_tuple_dict, k_list_bool, k_list_int, k_list_str, k_list_tuple, k_list_list, k_list_dict, k_dict_bool, k_dict_int, k_dict_str, k_dict_tuple, k_dict_list, k_dict_dict, n_non, n_int, n_bl, n_tup, n_str, n_ref])
section
variable {C : Cf} {S S' : Sto} {n j : Nat} {P : D → Sto → Prop} {E : Nat → D → Sto → Prop}
structure Tri (S : Sto) (po pa wh : D) : Prop where
  o1 : okT S po
  o2 : okT S pa
  o3 : okB S wh
  l3 : ∀ ws, wh = .tup ws → ws.length ≤ 1000000
  l2 : ∀ ps, pa = .tup ps → ps.length ≤ 60 ∨ 1000 < ps.length
theorem Tri.kp {po pa wh : D} (h : Tri S po pa wh) (k : Kp [] S S') : Tri S' po pa wh := ⟨h.o1.kp k, h.o2.kp k, h.o3.kp k, h.l3, h.l2⟩
theorem bent_days_W (h : CfOk C) (hn : 4 ≤ n) (hj : JarAt S j) {sc : Int} {nums pairs whos : List D} (dy : Day sc nums pairs whos) (q : ∀ r ts S', S'[r]? = some (.lst ts) → (∀ d ∈ ts, ∃ po pa wh, d = .tup [po, pa, wh] ∧ Tri S' po pa wh) → ts.length ≤ 20 → JarAt S' j → Kp [j] S S' → P (.ref r) S') : (callF C n 43 [.ref j, .tup [.tup [.int sc, .tup nums], .tup pairs, .tup whos]] S).W P E := by
  obtain ⟨m, rfl⟩ : ∃ m, n = m + 1 := ⟨n - 1, by omega⟩
  rw [W_call h.p43 rfl (by decide), ir43]
  have w0 := dy.wl.1
  have w1 := dy.wl.2
  have p0 := dy.pl
  have n0 := dy.nl
  try walk_at "mp"
  refine take_W h (by omega) hj (by omega) (by omega) fun i1 S1 a1 b1 j1 k1 => ?_
  refine take_W h (by omega) j1 (by omega) (by omega) fun i2 S2 a2 b2 j2 k2 => ?_
  try walk_at "mp"
  have kz := Kp.app S2 [O.lst [.int 0, .int 0]]
  refine oneL_W h (by omega) (j2.kp kz (by simp)) (by simp) (by simp) fun d7 S3 m7 j3 k3 => ?_
  refine oneL_W h (by omega) j3 (by simp) (by simp) fun d8 S4 m8 j4 k4 => ?_
  have c1 : (cutL pairs none (some i1)).length ≤ 8 := Nat.le_trans cutL_len p0
  have c2 : (cutL pairs (some i1) none).length ≤ 8 := Nat.le_trans cutL_len p0
  have c3 : (cutL whos none (some i2)).length ≤ 30 := Nat.le_trans cutL_len w1
  have c4 : (cutL whos (some (i2 + 1)) none).length ≤ 30 := Nat.le_trans cutL_len w1
  rw [h_mulT (by decide) (by decide) (by simp), h_addT (by simp; omega), h_addL (xs := [D.non, .tup [.int 0, .tup nums], .tup [.int sc], .tup [.int sc, .ref S4.length], .tup [.int sc, .tup (List.replicate (Int.toNat 31) [D.int 0]).flatten], .tup [.int sc, .tup (nums ++ [.int (1000000000000000 + 1)])]]) (by simp) (new_at _ _) (by simp; decide)]
  have kq := Kp.app S4 [O.lst nums]
  have kw := kq.trans ((Kp.app _ [O.lst [D.non, .tup [.int 0, .tup nums], .tup [.int sc], .tup [.int sc, .ref S4.length], .tup [.int sc, .tup (List.replicate (Int.toNat 31) [D.int 0]).flatten], .tup [.int sc, .tup (nums ++ [.int (1000000000000000 + 1)])]]]).trans (Kp.app _ [O.lst [.int sc, .tup nums]]))
  have eA := kw.at_ (o := .lst nums) (i := S4.length)
  refine one_W h (by omega) ?_ (new_at _ _) ?_ (by simp) (by simp) fun d5 S5 m5 j5 k5 => ?_
  · exact ((j4.kp kw (by simp)).kp (Kp.app _ _) (by simp)).kp (Kp.app _ _) (by simp)
  · have := j4.lt
    simp
    omega
  rw [h_addT (by simp; omega), h_addT (by simp; omega), h_addT (by simp; omega), h_addT (by simp; omega), h_addT (by simp; omega), h_addT (by simp; omega), h_mulT (by decide) (by decide) (by simp)]
  rw [h_addL (xs := [D.tup [D.tup [.int sc, .tup nums], .tup (cutL pairs none (some i1) ++ [d7] ++ cutL pairs (some i1) none), .tup whos], .tup [D.tup [.int sc, .tup nums], .tup pairs, .tup (cutL whos none (some i2) ++ [d8] ++ cutL whos (some (i2 + 1)) none)], .tup [D.tup [.int sc, .tup nums], .tup pairs, .tup (cutL whos none (some i2))], .tup [d5, .tup pairs, .tup whos]]) ((((Kp.app _ _).trans ((Kp.app _ _).trans (Kp.app _ _))).at_ (new_at S5 _) (by simp))) (new_at _ _) (by simp; decide)]
  rw [h_addT (by simp; omega), h_addT (by simp; omega), h_addT (by simp; omega), h_mulT (by decide) (by decide) (by omega)]
  rw [h_addL ((Kp.app _ _).at_ (new_at _ _) (by simp)) (new_at _ _) (by simp; decide)]
  have kf := (Kp.app S5 [O.lst [D.tup [D.tup [.int sc, .tup nums], .tup (cutL pairs none (some i1) ++ [d7] ++ cutL pairs (some i1) none), .tup whos], .tup [D.tup [.int sc, .tup nums], .tup pairs, .tup (cutL whos none (some i2) ++ [d8] ++ cutL whos (some (i2 + 1)) none)], .tup [D.tup [.int sc, .tup nums], .tup pairs, .tup (cutL whos none (some i2))], .tup [d5, .tup pairs, .tup whos]]]).trans ((Kp.app _ [O.lst pairs]).trans ((Kp.app _ [O.lst whos]).trans ((Kp.app _ [O.lst [D.tup [d5, .tup (cutL pairs none (some i1) ++ [d7] ++ cutL pairs (some i1) none), .non], .tup [D.tup [.int sc, .tup nums], .ref (S5 ++ [O.lst [D.tup [D.tup [.int sc, .tup nums], .tup (cutL pairs none (some i1) ++ [d7] ++ cutL pairs (some i1) none), .tup whos], .tup [D.tup [.int sc, .tup nums], .tup pairs, .tup (cutL whos none (some i2) ++ [d8] ++ cutL whos (some (i2 + 1)) none)], .tup [D.tup [.int sc, .tup nums], .tup pairs, .tup (cutL whos none (some i2))], .tup [d5, .tup pairs, .tup whos]]]).length, .non], .tup [D.tup [.int sc, .tup nums], .tup pairs, .ref (S5 ++ [O.lst [D.tup [D.tup [.int sc, .tup nums], .tup (cutL pairs none (some i1) ++ [d7] ++ cutL pairs (some i1) none), .tup whos], .tup [D.tup [.int sc, .tup nums], .tup pairs, .tup (cutL whos none (some i2) ++ [d8] ++ cutL whos (some (i2 + 1)) none)], .tup [D.tup [.int sc, .tup nums], .tup pairs, .tup (cutL whos none (some i2))], .tup [d5, .tup pairs, .tup whos]]] ++ [O.lst pairs]).length], .tup [D.tup [.int sc, .tup nums], .tup pairs, .non], .tup [D.tup [.int sc, .tup nums], .tup (List.replicate (Int.toNat 1001) [D.tup [.int 0, .int 0]]).flatten, .tup whos]]]).trans ((Kp.app _ [O.lst ([D.tup [D.tup [.int sc, .tup nums], .tup (cutL pairs none (some i1) ++ [d7] ++ cutL pairs (some i1) none), .tup whos], .tup [D.tup [.int sc, .tup nums], .tup pairs, .tup (cutL whos none (some i2) ++ [d8] ++ cutL whos (some (i2 + 1)) none)], .tup [D.tup [.int sc, .tup nums], .tup pairs, .tup (cutL whos none (some i2))], .tup [d5, .tup pairs, .tup whos]] ++ [D.tup [d5, .tup (cutL pairs none (some i1) ++ [d7] ++ cutL pairs (some i1) none), .non], .tup [D.tup [.int sc, .tup nums], .ref (S5 ++ [O.lst [D.tup [D.tup [.int sc, .tup nums], .tup (cutL pairs none (some i1) ++ [d7] ++ cutL pairs (some i1) none), .tup whos], .tup [D.tup [.int sc, .tup nums], .tup pairs, .tup (cutL whos none (some i2) ++ [d8] ++ cutL whos (some (i2 + 1)) none)], .tup [D.tup [.int sc, .tup nums], .tup pairs, .tup (cutL whos none (some i2))], .tup [d5, .tup pairs, .tup whos]]]).length, .non], .tup [D.tup [.int sc, .tup nums], .tup pairs, .ref (S5 ++ [O.lst [D.tup [D.tup [.int sc, .tup nums], .tup (cutL pairs none (some i1) ++ [d7] ++ cutL pairs (some i1) none), .tup whos], .tup [D.tup [.int sc, .tup nums], .tup pairs, .tup (cutL whos none (some i2) ++ [d8] ++ cutL whos (some (i2 + 1)) none)], .tup [D.tup [.int sc, .tup nums], .tup pairs, .tup (cutL whos none (some i2))], .tup [d5, .tup pairs, .tup whos]]] ++ [O.lst pairs]).length], .tup [D.tup [.int sc, .tup nums], .tup pairs, .non], .tup [D.tup [.int sc, .tup nums], .tup (List.replicate (Int.toNat 1001) [D.tup [.int 0, .int 0]]).flatten, .tup whos]])]).trans ((Kp.app _ [O.lst [D.tup [D.tup [.int sc, .tup nums], .tup (cutL pairs none (some i1) ++ [d7] ++ cutL pairs (some i1) none), .tup (cutL whos none (some i2) ++ [d8])], .tup [D.tup [.int sc, .tup nums], .tup (List.replicate (Int.toNat 2) pairs).flatten, .tup whos], .tup [D.tup [.int sc, .tup nums], .non, .non]]]).trans (Kp.app _ [O.lst ([D.tup [D.tup [.int sc, .tup nums], .tup (cutL pairs none (some i1) ++ [d7] ++ cutL pairs (some i1) none), .tup whos], .tup [D.tup [.int sc, .tup nums], .tup pairs, .tup (cutL whos none (some i2) ++ [d8] ++ cutL whos (some (i2 + 1)) none)], .tup [D.tup [.int sc, .tup nums], .tup pairs, .tup (cutL whos none (some i2))], .tup [d5, .tup pairs, .tup whos]] ++ [D.tup [d5, .tup (cutL pairs none (some i1) ++ [d7] ++ cutL pairs (some i1) none), .non], .tup [D.tup [.int sc, .tup nums], .ref (S5 ++ [O.lst [D.tup [D.tup [.int sc, .tup nums], .tup (cutL pairs none (some i1) ++ [d7] ++ cutL pairs (some i1) none), .tup whos], .tup [D.tup [.int sc, .tup nums], .tup pairs, .tup (cutL whos none (some i2) ++ [d8] ++ cutL whos (some (i2 + 1)) none)], .tup [D.tup [.int sc, .tup nums], .tup pairs, .tup (cutL whos none (some i2))], .tup [d5, .tup pairs, .tup whos]]]).length, .non], .tup [D.tup [.int sc, .tup nums], .tup pairs, .ref (S5 ++ [O.lst [D.tup [D.tup [.int sc, .tup nums], .tup (cutL pairs none (some i1) ++ [d7] ++ cutL pairs (some i1) none), .tup whos], .tup [D.tup [.int sc, .tup nums], .tup pairs, .tup (cutL whos none (some i2) ++ [d8] ++ cutL whos (some (i2 + 1)) none)], .tup [D.tup [.int sc, .tup nums], .tup pairs, .tup (cutL whos none (some i2))], .tup [d5, .tup pairs, .tup whos]]] ++ [O.lst pairs]).length], .tup [D.tup [.int sc, .tup nums], .tup pairs, .non], .tup [D.tup [.int sc, .tup nums], .tup (List.replicate (Int.toNat 1001) [D.tup [.int 0, .int 0]]).flatten, .tup whos]] ++ [D.tup [D.tup [.int sc, .tup nums], .tup (cutL pairs none (some i1) ++ [d7] ++ cutL pairs (some i1) none), .tup (cutL whos none (some i2) ++ [d8])], .tup [D.tup [.int sc, .tup nums], .tup (List.replicate (Int.toNat 2) pairs).flatten, .tup whos], .tup [D.tup [.int sc, .tup nums], .non, .non]])]))))))
  refine q _ _ _ (new_at _ _) ?_ (by simp) (j5.kp kf (by simp)) ?_
  · have er1 := ((Kp.app _ [O.lst whos]).trans ((Kp.app _ [O.lst [D.tup [d5, .tup (cutL pairs none (some i1) ++ [d7] ++ cutL pairs (some i1) none), .non], .tup [D.tup [.int sc, .tup nums], .ref (S5 ++ [O.lst [D.tup [D.tup [.int sc, .tup nums], .tup (cutL pairs none (some i1) ++ [d7] ++ cutL pairs (some i1) none), .tup whos], .tup [D.tup [.int sc, .tup nums], .tup pairs, .tup (cutL whos none (some i2) ++ [d8] ++ cutL whos (some (i2 + 1)) none)], .tup [D.tup [.int sc, .tup nums], .tup pairs, .tup (cutL whos none (some i2))], .tup [d5, .tup pairs, .tup whos]]]).length, .non], .tup [D.tup [.int sc, .tup nums], .tup pairs, .ref (S5 ++ [O.lst [D.tup [D.tup [.int sc, .tup nums], .tup (cutL pairs none (some i1) ++ [d7] ++ cutL pairs (some i1) none), .tup whos], .tup [D.tup [.int sc, .tup nums], .tup pairs, .tup (cutL whos none (some i2) ++ [d8] ++ cutL whos (some (i2 + 1)) none)], .tup [D.tup [.int sc, .tup nums], .tup pairs, .tup (cutL whos none (some i2))], .tup [d5, .tup pairs, .tup whos]]] ++ [O.lst pairs]).length], .tup [D.tup [.int sc, .tup nums], .tup pairs, .non], .tup [D.tup [.int sc, .tup nums], .tup (List.replicate (Int.toNat 1001) [D.tup [.int 0, .int 0]]).flatten, .tup whos]]]).trans ((Kp.app _ [O.lst ([D.tup [D.tup [.int sc, .tup nums], .tup (cutL pairs none (some i1) ++ [d7] ++ cutL pairs (some i1) none), .tup whos], .tup [D.tup [.int sc, .tup nums], .tup pairs, .tup (cutL whos none (some i2) ++ [d8] ++ cutL whos (some (i2 + 1)) none)], .tup [D.tup [.int sc, .tup nums], .tup pairs, .tup (cutL whos none (some i2))], .tup [d5, .tup pairs, .tup whos]] ++ [D.tup [d5, .tup (cutL pairs none (some i1) ++ [d7] ++ cutL pairs (some i1) none), .non], .tup [D.tup [.int sc, .tup nums], .ref (S5 ++ [O.lst [D.tup [D.tup [.int sc, .tup nums], .tup (cutL pairs none (some i1) ++ [d7] ++ cutL pairs (some i1) none), .tup whos], .tup [D.tup [.int sc, .tup nums], .tup pairs, .tup (cutL whos none (some i2) ++ [d8] ++ cutL whos (some (i2 + 1)) none)], .tup [D.tup [.int sc, .tup nums], .tup pairs, .tup (cutL whos none (some i2))], .tup [d5, .tup pairs, .tup whos]]]).length, .non], .tup [D.tup [.int sc, .tup nums], .tup pairs, .ref (S5 ++ [O.lst [D.tup [D.tup [.int sc, .tup nums], .tup (cutL pairs none (some i1) ++ [d7] ++ cutL pairs (some i1) none), .tup whos], .tup [D.tup [.int sc, .tup nums], .tup pairs, .tup (cutL whos none (some i2) ++ [d8] ++ cutL whos (some (i2 + 1)) none)], .tup [D.tup [.int sc, .tup nums], .tup pairs, .tup (cutL whos none (some i2))], .tup [d5, .tup pairs, .tup whos]]] ++ [O.lst pairs]).length], .tup [D.tup [.int sc, .tup nums], .tup pairs, .non], .tup [D.tup [.int sc, .tup nums], .tup (List.replicate (Int.toNat 1001) [D.tup [.int 0, .int 0]]).flatten, .tup whos]])]).trans ((Kp.app _ [O.lst [D.tup [D.tup [.int sc, .tup nums], .tup (cutL pairs none (some i1) ++ [d7] ++ cutL pairs (some i1) none), .tup (cutL whos none (some i2) ++ [d8])], .tup [D.tup [.int sc, .tup nums], .tup (List.replicate (Int.toNat 2) pairs).flatten, .tup whos], .tup [D.tup [.int sc, .tup nums], .non, .non]]]).trans (Kp.app _ [O.lst ([D.tup [D.tup [.int sc, .tup nums], .tup (cutL pairs none (some i1) ++ [d7] ++ cutL pairs (some i1) none), .tup whos], .tup [D.tup [.int sc, .tup nums], .tup pairs, .tup (cutL whos none (some i2) ++ [d8] ++ cutL whos (some (i2 + 1)) none)], .tup [D.tup [.int sc, .tup nums], .tup pairs, .tup (cutL whos none (some i2))], .tup [d5, .tup pairs, .tup whos]] ++ [D.tup [d5, .tup (cutL pairs none (some i1) ++ [d7] ++ cutL pairs (some i1) none), .non], .tup [D.tup [.int sc, .tup nums], .ref (S5 ++ [O.lst [D.tup [D.tup [.int sc, .tup nums], .tup (cutL pairs none (some i1) ++ [d7] ++ cutL pairs (some i1) none), .tup whos], .tup [D.tup [.int sc, .tup nums], .tup pairs, .tup (cutL whos none (some i2) ++ [d8] ++ cutL whos (some (i2 + 1)) none)], .tup [D.tup [.int sc, .tup nums], .tup pairs, .tup (cutL whos none (some i2))], .tup [d5, .tup pairs, .tup whos]]]).length, .non], .tup [D.tup [.int sc, .tup nums], .tup pairs, .ref (S5 ++ [O.lst [D.tup [D.tup [.int sc, .tup nums], .tup (cutL pairs none (some i1) ++ [d7] ++ cutL pairs (some i1) none), .tup whos], .tup [D.tup [.int sc, .tup nums], .tup pairs, .tup (cutL whos none (some i2) ++ [d8] ++ cutL whos (some (i2 + 1)) none)], .tup [D.tup [.int sc, .tup nums], .tup pairs, .tup (cutL whos none (some i2))], .tup [d5, .tup pairs, .tup whos]]] ++ [O.lst pairs]).length], .tup [D.tup [.int sc, .tup nums], .tup pairs, .non], .tup [D.tup [.int sc, .tup nums], .tup (List.replicate (Int.toNat 1001) [D.tup [.int 0, .int 0]]).flatten, .tup whos]] ++ [D.tup [D.tup [.int sc, .tup nums], .tup (cutL pairs none (some i1) ++ [d7] ++ cutL pairs (some i1) none), .tup (cutL whos none (some i2) ++ [d8])], .tup [D.tup [.int sc, .tup nums], .tup (List.replicate (Int.toNat 2) pairs).flatten, .tup whos], .tup [D.tup [.int sc, .tup nums], .non, .non]])]))))).at_ (new_at (S5 ++ [O.lst [D.tup [D.tup [.int sc, .tup nums], .tup (cutL pairs none (some i1) ++ [d7] ++ cutL pairs (some i1) none), .tup whos], .tup [D.tup [.int sc, .tup nums], .tup pairs, .tup (cutL whos none (some i2) ++ [d8] ++ cutL whos (some (i2 + 1)) none)], .tup [D.tup [.int sc, .tup nums], .tup pairs, .tup (cutL whos none (some i2))], .tup [d5, .tup pairs, .tup whos]]]) (.lst pairs)) (by simp)
    have er2 := (((Kp.app _ [O.lst [D.tup [d5, .tup (cutL pairs none (some i1) ++ [d7] ++ cutL pairs (some i1) none), .non], .tup [D.tup [.int sc, .tup nums], .ref (S5 ++ [O.lst [D.tup [D.tup [.int sc, .tup nums], .tup (cutL pairs none (some i1) ++ [d7] ++ cutL pairs (some i1) none), .tup whos], .tup [D.tup [.int sc, .tup nums], .tup pairs, .tup (cutL whos none (some i2) ++ [d8] ++ cutL whos (some (i2 + 1)) none)], .tup [D.tup [.int sc, .tup nums], .tup pairs, .tup (cutL whos none (some i2))], .tup [d5, .tup pairs, .tup whos]]]).length, .non], .tup [D.tup [.int sc, .tup nums], .tup pairs, .ref (S5 ++ [O.lst [D.tup [D.tup [.int sc, .tup nums], .tup (cutL pairs none (some i1) ++ [d7] ++ cutL pairs (some i1) none), .tup whos], .tup [D.tup [.int sc, .tup nums], .tup pairs, .tup (cutL whos none (some i2) ++ [d8] ++ cutL whos (some (i2 + 1)) none)], .tup [D.tup [.int sc, .tup nums], .tup pairs, .tup (cutL whos none (some i2))], .tup [d5, .tup pairs, .tup whos]]] ++ [O.lst pairs]).length], .tup [D.tup [.int sc, .tup nums], .tup pairs, .non], .tup [D.tup [.int sc, .tup nums], .tup (List.replicate (Int.toNat 1001) [D.tup [.int 0, .int 0]]).flatten, .tup whos]]]).trans ((Kp.app _ [O.lst ([D.tup [D.tup [.int sc, .tup nums], .tup (cutL pairs none (some i1) ++ [d7] ++ cutL pairs (some i1) none), .tup whos], .tup [D.tup [.int sc, .tup nums], .tup pairs, .tup (cutL whos none (some i2) ++ [d8] ++ cutL whos (some (i2 + 1)) none)], .tup [D.tup [.int sc, .tup nums], .tup pairs, .tup (cutL whos none (some i2))], .tup [d5, .tup pairs, .tup whos]] ++ [D.tup [d5, .tup (cutL pairs none (some i1) ++ [d7] ++ cutL pairs (some i1) none), .non], .tup [D.tup [.int sc, .tup nums], .ref (S5 ++ [O.lst [D.tup [D.tup [.int sc, .tup nums], .tup (cutL pairs none (some i1) ++ [d7] ++ cutL pairs (some i1) none), .tup whos], .tup [D.tup [.int sc, .tup nums], .tup pairs, .tup (cutL whos none (some i2) ++ [d8] ++ cutL whos (some (i2 + 1)) none)], .tup [D.tup [.int sc, .tup nums], .tup pairs, .tup (cutL whos none (some i2))], .tup [d5, .tup pairs, .tup whos]]]).length, .non], .tup [D.tup [.int sc, .tup nums], .tup pairs, .ref (S5 ++ [O.lst [D.tup [D.tup [.int sc, .tup nums], .tup (cutL pairs none (some i1) ++ [d7] ++ cutL pairs (some i1) none), .tup whos], .tup [D.tup [.int sc, .tup nums], .tup pairs, .tup (cutL whos none (some i2) ++ [d8] ++ cutL whos (some (i2 + 1)) none)], .tup [D.tup [.int sc, .tup nums], .tup pairs, .tup (cutL whos none (some i2))], .tup [d5, .tup pairs, .tup whos]]] ++ [O.lst pairs]).length], .tup [D.tup [.int sc, .tup nums], .tup pairs, .non], .tup [D.tup [.int sc, .tup nums], .tup (List.replicate (Int.toNat 1001) [D.tup [.int 0, .int 0]]).flatten, .tup whos]])]).trans ((Kp.app _ [O.lst [D.tup [D.tup [.int sc, .tup nums], .tup (cutL pairs none (some i1) ++ [d7] ++ cutL pairs (some i1) none), .tup (cutL whos none (some i2) ++ [d8])], .tup [D.tup [.int sc, .tup nums], .tup (List.replicate (Int.toNat 2) pairs).flatten, .tup whos], .tup [D.tup [.int sc, .tup nums], .non, .non]]]).trans (Kp.app _ [O.lst ([D.tup [D.tup [.int sc, .tup nums], .tup (cutL pairs none (some i1) ++ [d7] ++ cutL pairs (some i1) none), .tup whos], .tup [D.tup [.int sc, .tup nums], .tup pairs, .tup (cutL whos none (some i2) ++ [d8] ++ cutL whos (some (i2 + 1)) none)], .tup [D.tup [.int sc, .tup nums], .tup pairs, .tup (cutL whos none (some i2))], .tup [d5, .tup pairs, .tup whos]] ++ [D.tup [d5, .tup (cutL pairs none (some i1) ++ [d7] ++ cutL pairs (some i1) none), .non], .tup [D.tup [.int sc, .tup nums], .ref (S5 ++ [O.lst [D.tup [D.tup [.int sc, .tup nums], .tup (cutL pairs none (some i1) ++ [d7] ++ cutL pairs (some i1) none), .tup whos], .tup [D.tup [.int sc, .tup nums], .tup pairs, .tup (cutL whos none (some i2) ++ [d8] ++ cutL whos (some (i2 + 1)) none)], .tup [D.tup [.int sc, .tup nums], .tup pairs, .tup (cutL whos none (some i2))], .tup [d5, .tup pairs, .tup whos]]]).length, .non], .tup [D.tup [.int sc, .tup nums], .tup pairs, .ref (S5 ++ [O.lst [D.tup [D.tup [.int sc, .tup nums], .tup (cutL pairs none (some i1) ++ [d7] ++ cutL pairs (some i1) none), .tup whos], .tup [D.tup [.int sc, .tup nums], .tup pairs, .tup (cutL whos none (some i2) ++ [d8] ++ cutL whos (some (i2 + 1)) none)], .tup [D.tup [.int sc, .tup nums], .tup pairs, .tup (cutL whos none (some i2))], .tup [d5, .tup pairs, .tup whos]]] ++ [O.lst pairs]).length], .tup [D.tup [.int sc, .tup nums], .tup pairs, .non], .tup [D.tup [.int sc, .tup nums], .tup (List.replicate (Int.toNat 1001) [D.tup [.int 0, .int 0]]).flatten, .tup whos]] ++ [D.tup [D.tup [.int sc, .tup nums], .tup (cutL pairs none (some i1) ++ [d7] ++ cutL pairs (some i1) none), .tup (cutL whos none (some i2) ++ [d8])], .tup [D.tup [.int sc, .tup nums], .tup (List.replicate (Int.toNat 2) pairs).flatten, .tup whos], .tup [D.tup [.int sc, .tup nums], .non, .non]])]))))).at_ (new_at (S5 ++ [O.lst [D.tup [D.tup [.int sc, .tup nums], .tup (cutL pairs none (some i1) ++ [d7] ++ cutL pairs (some i1) none), .tup whos], .tup [D.tup [.int sc, .tup nums], .tup pairs, .tup (cutL whos none (some i2) ++ [d8] ++ cutL whos (some (i2 + 1)) none)], .tup [D.tup [.int sc, .tup nums], .tup pairs, .tup (cutL whos none (some i2))], .tup [d5, .tup pairs, .tup whos]]] ++ [O.lst pairs]) (.lst whos)) (by simp)
    revert er1 er2 kf
    generalize S5 ++ [O.lst [D.tup [D.tup [.int sc, .tup nums], .tup (cutL pairs none (some i1) ++ [d7] ++ cutL pairs (some i1) none), .tup whos], .tup [D.tup [.int sc, .tup nums], .tup pairs, .tup (cutL whos none (some i2) ++ [d8] ++ cutL whos (some (i2 + 1)) none)], .tup [D.tup [.int sc, .tup nums], .tup pairs, .tup (cutL whos none (some i2))], .tup [d5, .tup pairs, .tup whos]]] ++ [O.lst pairs] ++ [O.lst whos] ++ [O.lst [D.tup [d5, .tup (cutL pairs none (some i1) ++ [d7] ++ cutL pairs (some i1) none), .non], .tup [D.tup [.int sc, .tup nums], .ref (S5 ++ [O.lst [D.tup [D.tup [.int sc, .tup nums], .tup (cutL pairs none (some i1) ++ [d7] ++ cutL pairs (some i1) none), .tup whos], .tup [D.tup [.int sc, .tup nums], .tup pairs, .tup (cutL whos none (some i2) ++ [d8] ++ cutL whos (some (i2 + 1)) none)], .tup [D.tup [.int sc, .tup nums], .tup pairs, .tup (cutL whos none (some i2))], .tup [d5, .tup pairs, .tup whos]]]).length, .non], .tup [D.tup [.int sc, .tup nums], .tup pairs, .ref (S5 ++ [O.lst [D.tup [D.tup [.int sc, .tup nums], .tup (cutL pairs none (some i1) ++ [d7] ++ cutL pairs (some i1) none), .tup whos], .tup [D.tup [.int sc, .tup nums], .tup pairs, .tup (cutL whos none (some i2) ++ [d8] ++ cutL whos (some (i2 + 1)) none)], .tup [D.tup [.int sc, .tup nums], .tup pairs, .tup (cutL whos none (some i2))], .tup [d5, .tup pairs, .tup whos]]] ++ [O.lst pairs]).length], .tup [D.tup [.int sc, .tup nums], .tup pairs, .non], .tup [D.tup [.int sc, .tup nums], .tup (List.replicate (Int.toNat 1001) [D.tup [.int 0, .int 0]]).flatten, .tup whos]]] ++ [O.lst ([D.tup [D.tup [.int sc, .tup nums], .tup (cutL pairs none (some i1) ++ [d7] ++ cutL pairs (some i1) none), .tup whos], .tup [D.tup [.int sc, .tup nums], .tup pairs, .tup (cutL whos none (some i2) ++ [d8] ++ cutL whos (some (i2 + 1)) none)], .tup [D.tup [.int sc, .tup nums], .tup pairs, .tup (cutL whos none (some i2))], .tup [d5, .tup pairs, .tup whos]] ++ [D.tup [d5, .tup (cutL pairs none (some i1) ++ [d7] ++ cutL pairs (some i1) none), .non], .tup [D.tup [.int sc, .tup nums], .ref (S5 ++ [O.lst [D.tup [D.tup [.int sc, .tup nums], .tup (cutL pairs none (some i1) ++ [d7] ++ cutL pairs (some i1) none), .tup whos], .tup [D.tup [.int sc, .tup nums], .tup pairs, .tup (cutL whos none (some i2) ++ [d8] ++ cutL whos (some (i2 + 1)) none)], .tup [D.tup [.int sc, .tup nums], .tup pairs, .tup (cutL whos none (some i2))], .tup [d5, .tup pairs, .tup whos]]]).length, .non], .tup [D.tup [.int sc, .tup nums], .tup pairs, .ref (S5 ++ [O.lst [D.tup [D.tup [.int sc, .tup nums], .tup (cutL pairs none (some i1) ++ [d7] ++ cutL pairs (some i1) none), .tup whos], .tup [D.tup [.int sc, .tup nums], .tup pairs, .tup (cutL whos none (some i2) ++ [d8] ++ cutL whos (some (i2 + 1)) none)], .tup [D.tup [.int sc, .tup nums], .tup pairs, .tup (cutL whos none (some i2))], .tup [d5, .tup pairs, .tup whos]]] ++ [O.lst pairs]).length], .tup [D.tup [.int sc, .tup nums], .tup pairs, .non], .tup [D.tup [.int sc, .tup nums], .tup (List.replicate (Int.toNat 1001) [D.tup [.int 0, .int 0]]).flatten, .tup whos]])] ++ [O.lst [D.tup [D.tup [.int sc, .tup nums], .tup (cutL pairs none (some i1) ++ [d7] ++ cutL pairs (some i1) none), .tup (cutL whos none (some i2) ++ [d8])], .tup [D.tup [.int sc, .tup nums], .tup (List.replicate (Int.toNat 2) pairs).flatten, .tup whos], .tup [D.tup [.int sc, .tup nums], .non, .non]]] ++ [O.lst ([D.tup [D.tup [.int sc, .tup nums], .tup (cutL pairs none (some i1) ++ [d7] ++ cutL pairs (some i1) none), .tup whos], .tup [D.tup [.int sc, .tup nums], .tup pairs, .tup (cutL whos none (some i2) ++ [d8] ++ cutL whos (some (i2 + 1)) none)], .tup [D.tup [.int sc, .tup nums], .tup pairs, .tup (cutL whos none (some i2))], .tup [d5, .tup pairs, .tup whos]] ++ [D.tup [d5, .tup (cutL pairs none (some i1) ++ [d7] ++ cutL pairs (some i1) none), .non], .tup [D.tup [.int sc, .tup nums], .ref (S5 ++ [O.lst [D.tup [D.tup [.int sc, .tup nums], .tup (cutL pairs none (some i1) ++ [d7] ++ cutL pairs (some i1) none), .tup whos], .tup [D.tup [.int sc, .tup nums], .tup pairs, .tup (cutL whos none (some i2) ++ [d8] ++ cutL whos (some (i2 + 1)) none)], .tup [D.tup [.int sc, .tup nums], .tup pairs, .tup (cutL whos none (some i2))], .tup [d5, .tup pairs, .tup whos]]]).length, .non], .tup [D.tup [.int sc, .tup nums], .tup pairs, .ref (S5 ++ [O.lst [D.tup [D.tup [.int sc, .tup nums], .tup (cutL pairs none (some i1) ++ [d7] ++ cutL pairs (some i1) none), .tup whos], .tup [D.tup [.int sc, .tup nums], .tup pairs, .tup (cutL whos none (some i2) ++ [d8] ++ cutL whos (some (i2 + 1)) none)], .tup [D.tup [.int sc, .tup nums], .tup pairs, .tup (cutL whos none (some i2))], .tup [d5, .tup pairs, .tup whos]]] ++ [O.lst pairs]).length], .tup [D.tup [.int sc, .tup nums], .tup pairs, .non], .tup [D.tup [.int sc, .tup nums], .tup (List.replicate (Int.toNat 1001) [D.tup [.int 0, .int 0]]).flatten, .tup whos]] ++ [D.tup [D.tup [.int sc, .tup nums], .tup (cutL pairs none (some i1) ++ [d7] ++ cutL pairs (some i1) none), .tup (cutL whos none (some i2) ++ [d8])], .tup [D.tup [.int sc, .tup nums], .tup (List.replicate (Int.toNat 2) pairs).flatten, .tup whos], .tup [D.tup [.int sc, .tup nums], .non, .non]])] = T
    generalize (S5 ++ [O.lst [D.tup [D.tup [.int sc, .tup nums], .tup (cutL pairs none (some i1) ++ [d7] ++ cutL pairs (some i1) none), .tup whos], .tup [D.tup [.int sc, .tup nums], .tup pairs, .tup (cutL whos none (some i2) ++ [d8] ++ cutL whos (some (i2 + 1)) none)], .tup [D.tup [.int sc, .tup nums], .tup pairs, .tup (cutL whos none (some i2))], .tup [d5, .tup pairs, .tup whos]]] ++ [O.lst pairs]).length = r2
    generalize (S5 ++ [O.lst [D.tup [D.tup [.int sc, .tup nums], .tup (cutL pairs none (some i1) ++ [d7] ++ cutL pairs (some i1) none), .tup whos], .tup [D.tup [.int sc, .tup nums], .tup pairs, .tup (cutL whos none (some i2) ++ [d8] ++ cutL whos (some (i2 + 1)) none)], .tup [D.tup [.int sc, .tup nums], .tup pairs, .tup (cutL whos none (some i2))], .tup [d5, .tup pairs, .tup whos]]]).length = r1
    intro kf er1 er2
    have nok : ∀ (T : Sto), ∀ x ∈ nums, okD T x := fun T x hx => by
      obtain ⟨z, rfl, _⟩ := dy.nm x hx
      trivial
    have pok : ∀ (T : Sto), ∀ x ∈ pairs, okB T x := fun T x hx => by
      obtain ⟨a, b, rfl, _⟩ := dy.pr x hx
      intro y hy
      simp only [List.mem_cons, List.not_mem_nil, or_false] at hy
      rcases hy with rfl | rfl <;> trivial
    have wok : ∀ (T : Sto), ∀ x ∈ whos, okD T x := fun T x hx => by
      obtain ⟨z, rfl, _⟩ := dy.wm x hx
      trivial
    have o8 : ∀ T, okD T d8 := fun T => by
      simp only [List.mem_cons, List.not_mem_nil, or_false] at m8
      rcases m8 with rfl | rfl | rfl | rfl | rfl | rfl <;> trivial
    have hj2 := j2.lt
    have hj4 := j4.lt
    have o7 : okBJ j S3 d7 := by
      simp only [List.mem_cons, List.not_mem_nil, or_false] at m7
      have fl : ∀ a b : D, (∀ r, a ≠ .ref r) → (∀ r, b ≠ .ref r) → okBJ j S3 (.tup [a, b]) := fun a b ha hb y hy => by
        simp only [List.mem_cons, List.not_mem_nil, or_false] at hy
        rcases hy with rfl | rfl
        · cases y with
          | ref r => exact absurd rfl (ha r)
          | _ => exact ⟨trivial, nofun⟩
        · cases y with
          | ref r => exact absurd rfl (hb r)
          | _ => exact ⟨trivial, nofun⟩
      rcases m7 with rfl | rfl | rfl | rfl | rfl | rfl | rfl | rfl | rfl | rfl
      · exact fl _ _ nofun nofun
      · exact fl _ _ nofun nofun
      · exact fl _ _ nofun nofun
      · exact fl _ _ nofun nofun
      · intro y hy
        simp only [List.mem_cons, List.not_mem_nil, or_false] at hy
        rw [hy]
        exact ⟨trivial, nofun⟩
      · refine ⟨⟨[.int 0, .int 0], k3.at_ (new_at _ _) (by simp; omega)⟩, fun e => ?_⟩
        have := D.ref.inj e
        omega
      · exact fl _ _ nofun nofun
      · exact ⟨trivial, nofun⟩
      · exact fl _ _ nofun nofun
      · exact fl _ _ nofun nofun
    have o7' : okB T d7 := ((o7.kp (k4.trans (kw.to.trans ((Kp.app _ _).to.trans ((Kp.app _ _).to.trans k5))))).ok).kp kf
    have oP0 : okT T (D.tup [.int sc, .tup nums]) := fun x hx => by
      simp only [List.mem_cons, List.not_mem_nil, or_false] at hx
      rcases hx with rfl | rfl
      · trivial
      · exact nok T
    have o5 : okT T d5 := by
      refine okT.kp (S := S5) ?_ kf
      simp only [List.mem_append, List.mem_cons, List.not_mem_nil, or_false] at m5
      have two : ∀ a b : D, okB S5 a → okB S5 b → okT S5 (.tup [a, b]) := fun a b ha hb y hy => by
        simp only [List.mem_cons, List.not_mem_nil, or_false] at hy
        rcases hy with rfl | rfl
        · exact ha
        · exact hb
      rcases m5 with (rfl | rfl | rfl | rfl | rfl | rfl) | rfl | rfl
      · trivial
      · exact two _ _ trivial (nok _)
      · intro y hy
        simp only [List.mem_cons, List.not_mem_nil, or_false] at hy
        rw [hy]
        trivial
      · exact two _ _ trivial ⟨nums, k5.at_ (((Kp.app _ _).trans ((Kp.app _ _).trans ((Kp.app _ _).trans (Kp.app _ _)))).at_ (new_at S4 (O.lst nums)) (by simp)) (by simp; omega)⟩
      · refine two _ _ trivial fun y hy => ?_
        simp at hy
        rw [hy]
        trivial
      · refine two _ _ trivial fun y hy => ?_
        rw [List.mem_append, List.mem_singleton] at hy
        rcases hy with hy | rfl
        · exact nok _ y hy
        · trivial
      · exact ⟨[.int sc, .tup nums], k5.at_ (((Kp.app _ _).trans (Kp.app _ _)).at_ (new_at _ _) (by simp)) (by simp; omega)⟩
      · exact two _ _ trivial (nok _)
    have oA : okT T (.tup (cutL pairs none (some i1) ++ [d7] ++ cutL pairs (some i1) none)) := fun x hx => by
      rw [List.mem_append, List.mem_append, List.mem_singleton] at hx
      rcases hx with (hx | rfl) | hx
      · exact pok T x (cutL_mem hx)
      · exact o7'
      · exact pok T x (cutL_mem hx)
    have oW1 : okB T (.tup (cutL whos none (some i2) ++ [d8] ++ cutL whos (some (i2 + 1)) none)) := fun x hx => by
      rw [List.mem_append, List.mem_append, List.mem_singleton] at hx
      rcases hx with (hx | rfl) | hx
      · exact wok T x (cutL_mem hx)
      · exact o8 T
      · exact wok T x (cutL_mem hx)
    have oW2 : okB T (.tup (cutL whos none (some i2))) := fun x hx => wok T x (cutL_mem hx)
    have oW3 : okB T (.tup (cutL whos none (some i2) ++ [d8])) := fun x hx => by
      rw [List.mem_append, List.mem_singleton] at hx
      rcases hx with hx | rfl
      · exact wok T x (cutL_mem hx)
      · exact o8 T
    have lA : ∀ ps, D.tup (cutL pairs none (some i1) ++ [d7] ++ cutL pairs (some i1) none) = .tup ps → ps.length ≤ 60 ∨ 1000 < ps.length := fun ps e => .inl (by
      rw [← D.tup.inj e]
      simp
      omega)
    have lP : ∀ ps, D.tup pairs = .tup ps → ps.length ≤ 60 ∨ 1000 < ps.length := fun ps e => .inl (by
      rw [← D.tup.inj e]
      omega)
    have lw : ∀ ws, D.tup whos = .tup ws → ws.length ≤ 1000000 := fun ws e => by
      rw [← D.tup.inj e]
      omega
    intro d hd
    simp only [List.mem_append, List.mem_cons, List.not_mem_nil, or_false] at hd
    rcases hd with ((rfl | rfl | rfl | rfl) | rfl | rfl | rfl | rfl | rfl) | rfl | rfl | rfl
    · exact ⟨_, _, _, rfl, oP0, oA, wok T, lw, lA⟩
    · exact ⟨_, _, _, rfl, oP0, pok T, oW1, fun ws e => by rw [← D.tup.inj e]; simp; omega, lP⟩
    · exact ⟨_, _, _, rfl, oP0, pok T, oW2, fun ws e => by rw [← D.tup.inj e]; omega, lP⟩
    · exact ⟨_, _, _, rfl, o5, pok T, wok T, lw, lP⟩
    · exact ⟨_, _, _, rfl, o5, oA, trivial, nofun, lA⟩
    · exact ⟨_, _, _, rfl, oP0, ⟨_, er1⟩, trivial, nofun, nofun⟩
    · exact ⟨_, _, _, rfl, oP0, pok T, ⟨_, er2⟩, nofun, lP⟩
    · exact ⟨_, _, _, rfl, oP0, pok T, trivial, nofun, lP⟩
    · refine ⟨_, _, _, rfl, oP0, fun x hx => ?_, wok T, lw, fun ps e => .inr (by rw [← D.tup.inj e]; simp)⟩
      simp at hx
      rw [hx]
      intro y hy
      simp only [List.mem_cons, List.not_mem_nil, or_false] at hy
      rcases hy with rfl | rfl <;> trivial
    · exact ⟨_, _, _, rfl, oP0, oA, oW3, fun ws e => by rw [← D.tup.inj e]; simp; omega, lA⟩
    · refine ⟨_, _, _, rfl, oP0, fun x hx => ?_, wok T, lw, fun ps e => .inl (by rw [← D.tup.inj e]; simp; omega)⟩
      simp at hx
      exact pok T x hx
    · exact ⟨_, _, _, rfl, oP0, trivial, trivial, nofun, nofun⟩
  · exact (k1.trans (k2.trans (kz.to.trans (k3.trans (k4.trans (kw.to.trans ((Kp.app _ _).to.trans ((Kp.app _ _).to.trans (k5.trans kf.to)))))))))
end
end HB
end MWw
section MWx
set_option Elab.async false
set_option linter.all false
set_option maxRecDepth 100000
set_option maxHeartbeats 2000000
namespace HB
open PySem MP L2
local macro_rules | `(tactic| walk_at "mp") => `(tactic| simp only [↓W_seq, ↓W_nil, ↓W_if, ↓W_ret, ↓W_asg, ↓W_asgT, ↓W_Tname, ↓W_Ttup, ↓W_Tsnil, ↓W_Tscons, ↓W_Tsub, ↓W_Tfld, ↓W_Iseq, ↓W_Ienum, ↓W_Irng, ↓rP_int, ↓h_seqT, ↓h_enumT, ↓h_pow6, ↓h_pow12, ↓h_pow15, ↓W_expr, ↓W_raise, ↓W_par, ↓WB_or, ↓WB_and, ↓WB_not, ↓WB_cmpP, ↓WB_isiP, ↓WB_call, ↓WB_var, ↓h_isb, ↓h_isiS, ↓h_isiT, ↓h_isiI, ↓h_isiB, ↓h_isiN, ↓W_var, ↓W_cst, ↓W_bin, ↓W_neg, ↓W_cmp, ↓W_and, ↓W_or, ↓W_not, ↓W_ife, ↓W_tup, ↓W_lst, ↓W_dct, ↓W_callE, ↓W_blt, ↓W_mth, ↓W_fld, ↓W_idx, ↓W_slc, ↓W_Ono, ↓W_Oso, ↓W_Lnil, ↓W_Lcons, ↓W_heard, ↓W_tells, ↓W_refuses,
  ↓h_slcT, ↓h_lstT, sz0, sz1, sz2, sz3, sz4, sz5, sz6, sz7, sz8, sz9, sz10, ↓reduceIte, List.getElem?_cons_zero, List.getElem?_cons_succ, List.map_cons, List.map_nil, List.cons_append, List.nil_append, List.append_nil, Nat.sub_self, List.replicate_zero, List.replicate_succ, List.set_cons_zero, List.set_cons_succ, if_true, if_false, Bool.false_eq_true, Bool.not_true, Bool.not_false, ↓v0, ↓v1, ↓h_tn, ↓h_tb, ↓h_ti, ↓h_ts, ↓h_tt, ↓h_tscr, ↓h_bl, ↓h_le, ↓h_lt, ↓h_gt, ↓h_ge, ↓h_isn, ↓h_isnn, ↓h_eqi, ↓h_nei, ↓h_lenT, ↓h_add, ↓h_sub, ↓h_int, ↓h_intb, ↓h_x0, ↓h_x1, ↓h_x2, ↓h_x3, ↓h_if, ↓h_if2, ↓nP_int, ↓iP_int, ↓tP_bl, List.length_cons, List.length_nil, Nat.zero_add, Nat.reduceAdd, Nat.reduceLT, vP_some, oP_some, uP_some, k_NoneType_bool, k_NoneType_int, k_NoneType_str, k_NoneType_tuple, k_NoneType_list, k_NoneType_dict, k_bool_bool, k_bool_int, k_bool_str, k_bool_tuple, k_bool_list, k_bool_dict, k_int_bool, k_int_int, k_int_str, k_int_tuple, k_int_list, k_int_dict, k_str_bool, k_str_int, k_str_str, k_str_tuple, k_str_list, k_str_dict, k_tuple_bool, k_tuple_int, k_tuple_str, k_tuple_tuple, k_tuple_list, k_tuple_dict, k_list_bool, k_list_int, k_list_str, k_list_tuple, k_list_list, k_list_dict, k_dict_bool, k_dict_int, k_dict_str, k_dict_tuple, k_dict_list, k_dict_dict, n_non, n_int, n_bl, n_tup, n_str, n_ref])
section
variable {C : Cf} {S S' : Sto} {n j : Nat} {P : D → Sto → Prop} {E : Nat → D → Sto → Prop}
theorem get_int {is : List Int} {k : Nat} (h : k < is.length) : ∃ z, ((is.map D.int)[k]?).getD .non = .int z ∧ z ∈ is := by
  refine ⟨is[k], ?_, List.getElem_mem h⟩
  rw [List.getElem?_map, List.getElem?_eq_getElem h]
  rfl
theorem billsO_none {po pa wh : D} (h : wrongO po pa wh = none) : ∃ bs : List Bi, billsO po pa wh = bs.map Bi.d ∧ (∀ b ∈ bs, b.ok) ∧ ∃ ps, pa = .tup ps ∧ ps.length ≤ 1000 ∧ bs.length = ps.length := by
  unfold wrongO at h
  split at h
  · cases h
  rename_i w1
  split at h
  · cases h
  rename_i w2
  split at h
  · cases h
  rename_i w3
  split at h
  · cases h
  rename_i w4
  obtain ⟨sc, nums, rfl, s0, s1, nl, nb⟩ := wrongP_none w1
  obtain ⟨ps, rfl, pl, pb⟩ := wrongC_none w2
  obtain ⟨ws, rfl, wb⟩ := wrongW_none w3
  have hy := wrongY_none w4
  obtain ⟨bs, eb, bo⟩ := all_Bi (ds := billsO (.tup [.int sc, .tup (nums.map D.int)]) (.tup (ps.map prD)) (.tup (ws.map D.int))) (fun d hd => by
    obtain ⟨x, hx, rfl⟩ := List.mem_map.mp hd
    obtain ⟨p, hp, rfl⟩ := List.mem_map.mp hx
    obtain ⟨a0, a1, b0, b1⟩ := pb p hp
    have a2 := hy p hp
    rw [List.length_map] at a2
    simp only [manyOf, List.length_map] at b1
    obtain ⟨z, ez, hz⟩ := get_int (is := ws) (k := p.1.toNat) (by omega)
    obtain ⟨y, ey, hy'⟩ := get_int (is := nums) (k := p.2.toNat) (by omega)
    rw [billO_pr, ez, ey]
    have z1 := wb z hz
    have y1 := nb y hy'
    have p29 : p.2 ≤ 29 := by omega
    simp [isBl, isWh, z1, y1, b0, p29, s0, s1])
  refine ⟨bs, eb, bo, _, rfl, by simpa using pl, ?_⟩
  have := congrArg List.length eb
  simp only [billsO, List.length_map] at this ⊢
  exact this.symm
theorem wdO {po pa wh : D} {c : Nat} {i : Int} (h : CfOk C) (e : wrongO po pa wh = some (c, i)) : PyData.strOk (C.wd c) = true ∧ decide (C.wd c = ("told" : Str)) = false := by
  have hc : c = 15 ∨ c = 16 ∨ c = 43 := by
    unfold wrongO at e
    split at e
    · cases e; exact .inl rfl
    split at e
    · cases e; exact .inr (.inl rfl)
    split at e
    · cases e; exact .inr (.inr rfl)
    split at e
    · cases e; exact .inr (.inl rfl)
    · cases e
  rcases hc with rfl | rfl | rfl
  · rw [h.wd.1]; exact ⟨by decide +kernel, by decide +kernel⟩
  · rw [h.wd.2.1]; exact ⟨by decide +kernel, by decide +kernel⟩
  · rw [h.wd.2.2.2.2.1]; exact ⟨by decide +kernel, by decide +kernel⟩
theorem told_ok : PyData.strOk ("told" : Str) = true := by decide +kernel
theorem days_right_W (h : CfOk C) (hn : 9 ≤ n) (hj : JarAt S j) {sc : Int} {nums pairs whos : List D} (dy : Day sc nums pairs whos) (q : ∀ S', JarAt S' j → Kp [j] S S' → P (.bl true) S') : (callF C n 44 [.ref j, .tup [.tup [.int sc, .tup nums], .tup pairs, .tup whos]] S).W P E := by
  obtain ⟨m, rfl⟩ : ∃ m, n = m + 1 := ⟨n - 1, by omega⟩
  rw [W_call h.p44 rfl (by decide), ir44]
  have tl := h.told
  try walk_at "mp"
  rw [W_for]
  try walk_at "mp"
  have k0 := Kp.app S [.lst [.tup [.tup [.int sc, .tup nums], .tup pairs, .tup whos]]]
  refine bent_days_W h (by omega) (hj.kp k0 (by simp)) dy fun r ts S1 e1 t1 l1 j1 k1 => ?_
  have hj' := hj.lt
  rw [h_addL (k1.at_ (new_at _ _) (by simp; omega)) e1 (by simp; exact Nat.le_trans (show 1 + ts.length ≤ 21 by omega) (by decide)), h_seqL (new_at _ _)]
  have kA := Kp.app S1 [.lst ([.tup [.tup [.int sc, .tup nums], .tup pairs, .tup whos]] ++ ts)]
  have key : ∀ x ∈ [D.tup [.tup [.int sc, .tup nums], .tup pairs, .tup whos]] ++ ts, ∃ po pa wh, x = .tup [po, pa, wh] ∧ Tri (S1 ++ [.lst ([.tup [.tup [.int sc, .tup nums], .tup pairs, .tup whos]] ++ ts)]) po pa wh := by
    intro x hx
    rw [List.mem_append, List.mem_singleton] at hx
    rcases hx with rfl | hx
    · have w1 := dy.wl.2
      have p0 := dy.pl
      refine ⟨_, _, _, rfl, fun y hy => ?_, fun y hy => ?_, fun y hy => ?_, fun ws e => by rw [← D.tup.inj e]; omega, fun ws e => .inl (by rw [← D.tup.inj e]; omega)⟩
      · simp only [List.mem_cons, List.not_mem_nil, or_false] at hy
        rcases hy with rfl | rfl
        · trivial
        · intro z hz
          obtain ⟨z', rfl, _⟩ := dy.nm z hz
          trivial
      · obtain ⟨a, b, rfl, _⟩ := dy.pr y hy
        intro z hz
        simp only [List.mem_cons, List.not_mem_nil, or_false] at hz
        rcases hz with rfl | rfl <;> trivial
      · obtain ⟨z, rfl, _⟩ := dy.wm y hy
        trivial
    · obtain ⟨po, pa, wh, rfl, t⟩ := t1 x hx
      exact ⟨_, _, _, rfl, t.kp kA⟩
  generalize [D.tup [.tup [.int sc, .tup nums], .tup pairs, .tup whos]] ++ ts = tt at key kA ⊢
  refine W_forK (xs := tt) (fun i ρ S' => (∃ o2 o3 o4 o5, ρ = [some (.ref j), some (.tup [.tup [.int sc, .tup nums], .tup pairs, .tup whos]), o2, o3, o4, o5]) ∧ Kp [] (S1 ++ [.lst tt]) S') (fun i ρ S' hI => lst_at (hI.2.at_ (new_at _ _) (by simp))) (fun i ρ S' x hI hx => ?_) (fun ρ S' hI => ?_) _ 0 _ _ ⟨⟨_, _, _, _, rfl⟩, Kp.refl _ _⟩ (Nat.zero_le _) (by rw [lst_many (new_at _ _)]; exact Nat.le_refl _)
  · obtain ⟨⟨p2, p3, p4, p5, rfl⟩, k7⟩ := hI
    obtain ⟨po, pa, wh, rfl, t⟩ := key x (List.mem_of_getElem? hx)
    have t := t.kp k7
    rw [W_turn]
    try walk_at "mp"
    refine bills_owed_W h (by omega) t.o1 t.o2 t.o3 t.l3 fun S8 k8 => ?_
    have t8 := t.kp k8
    refine bills_of_W h (by omega) t8.o1 t8.o2 t8.o3 (fun wn S9 k9 => ?_) (fun c i we => ?_)
    · obtain ⟨bs, eb, bo, ps, rfl, pl, bl⟩ := billsO_none wn
      have l60 : bs.length ≤ 60 := by
        have := t.l2 ps rfl
        omega
      obtain ⟨B, hB⟩ := com_small bo l60
      have hk : (nubI (bs.map (·.w))).length < 64 := by
        have := nub_len (bs.map (·.w))
        rw [List.length_map] at this
        omega
      simp only [owedD, wn, tl, eb]
      refine same_W h 4 (told_pl (bs_pl (by omega))) (by omega) ?_
      try walk_at "mp"
      rw [h_eqs told_ok told_ok, decide_eq_true rfl, if_pos rfl, WB_any]
      try walk_at "mp"
      refine month_of_W h (by omega) hB (by omega) bo hk fun S10 k10 => ?_
      refine month_W h (by omega) bs_okT (fun bs' eb' _ _ => ?_) (fun c i S' e _ => ?_) bs_okT
      · obtain rfl := bs_inj (D.tup.inj eb')
        refine ⟨B, hB, hk, fun S11 k11 => ?_⟩
        rw [tl]
        refine same_W h 4 (told_pl (month_pl hk)) (by omega) ?_
        try walk_at "mp"
        exact ⟨⟨_, _, _, _, rfl⟩, k7.trans (k8.trans (k9.trans (k10.trans k11)))⟩
      · rw [wrongB_bs (by omega) bo] at e
        cases e
    · obtain ⟨w1, w2⟩ := wdO h we
      simp only [owedD, we]
      refine same_W h 2 (wd_pl .int w1) (by omega) ?_
      try walk_at "mp"
      rw [h_eqs w1 told_ok, w2, if_neg (by decide)]
      exact ⟨⟨_, _, _, _, rfl⟩, k7.trans k8⟩
  · have K7 := kA.trans hI.2
    obtain ⟨⟨p4, p5, p6, p7, rfl⟩, _⟩ := hI
    try walk_at "mp"
    exact q _ (j1.kp K7 (by simp)) (k0.to.trans (k1.trans K7.to))
end
end HB
end MWx
section MXa
set_option Elab.async false
set_option linter.all false
set_option maxRecDepth 100000
set_option maxHeartbeats 2000000
namespace HB
open PySem MP L2
local macro_rules | `(tactic| walk_at "mp") => `(tactic| simp only [↓W_seq, ↓W_nil, ↓W_if, ↓W_ret, ↓W_asg, ↓W_asgT, ↓W_Tname, ↓W_Ttup, ↓W_Tsnil, ↓W_Tscons, ↓W_Tsub, ↓W_Tfld, ↓W_Iseq, ↓W_Ienum, ↓W_Irng, ↓rP_int, ↓h_seqT, ↓h_enumT, ↓h_pow6, ↓h_pow12, ↓h_pow15, ↓W_expr, ↓W_raise, ↓W_par, ↓WB_or, ↓WB_and, ↓WB_not, ↓WB_cmpP, ↓WB_isiP, ↓WB_call, ↓WB_var, ↓h_isb, ↓h_isiS, ↓h_isiT, ↓h_isiI, ↓h_isiB, ↓h_isiN, ↓W_var, ↓W_cst, ↓W_bin, ↓W_neg, ↓W_cmp, ↓W_and, ↓W_or, ↓W_not, ↓W_ife, ↓W_tup, ↓W_lst, ↓W_dct, ↓W_callE, ↓W_blt, ↓W_mth, ↓W_fld, ↓W_idx, ↓W_slc, ↓W_Ono, ↓W_Oso, ↓W_Lnil, ↓W_Lcons, ↓W_heard, ↓W_tells, ↓W_refuses,
  ↓h_slcT, ↓h_lstT, sz0, sz1, sz2, sz3, sz4, sz5, sz6, sz7, sz8, sz9, sz10, ↓reduceIte, List.getElem?_cons_zero, List.getElem?_cons_succ, List.map_cons, List.map_nil, List.cons_append, List.nil_append, List.append_nil, Nat.sub_self, List.replicate_zero, List.replicate_succ, List.set_cons_zero, List.set_cons_succ, if_true, if_false, Bool.false_eq_true, Bool.not_true, Bool.not_false, ↓v0, ↓v1, ↓h_tn, ↓h_tb, ↓h_ti, ↓h_ts, ↓h_tt, ↓h_tscr, ↓h_bl, ↓h_le, ↓h_lt, ↓h_gt, ↓h_ge, ↓h_isn, ↓h_isnn, ↓h_eqi, ↓h_nei, ↓h_lenT, ↓h_add, ↓h_sub, ↓h_int, ↓h_intb, ↓h_x0, ↓h_x1, ↓h_x2, ↓h_x3, ↓h_if, ↓h_if2, ↓nP_int, ↓iP_int, ↓tP_bl, List.length_cons, List.length_nil, Nat.zero_add, Nat.reduceAdd, Nat.reduceLT, vP_some, oP_some, uP_some, k_NoneType_bool, k_NoneType_int, k_NoneType_str, k_NoneType_tuple, k_NoneType_list, k_NoneType_dict, k_bool_bool, k_bool_int, k_bool_str, k_bool_tuple, k_bool_list, k_bool_dict, k_int_bool, k_int_int, k_int_str, k_int_tuple, k_int_list, k_int_dict, k_str_bool, k_str_int, k_str_str, k_str_tuple, k_str_list, k_str_dict, k_tuple_bool, k_tuple_int, k_tuple_str, k_tuple_tuple, k_tuple_list, k_tuple_dict, k_list_bool, k_list_int, k_list_str, k_list_tuple, k_list_list, k_list_dict, k_dict_bool, k_dict_int, k_dict_str, k_dict_tuple, k_dict_list, k_dict_dict, n_non, n_int, n_bl, n_tup, n_str, n_ref])
section
variable {C : Cf} {S S' : Sto} {n j : Nat} {P : D → Sto → Prop} {E : Nat → D → Sto → Prop}
/-! ### accounts, plainly -/
inductive Dde where
  | bill (b : Bi)
  | pay (w a : Int)
def Dde.ok : Dde → Prop
  | .bill b => b.ok
  | .pay w a => 0 ≤ w ∧ w ≤ 99 ∧ 1 ≤ a ∧ a ≤ 1000000000000
def Dde.who : Dde → Int
  | .bill b => b.w
  | .pay w _ => w
def Dde.row : Dde → D
  | .bill b => .tup [.int b.w, .tup [.str "bill", .int b.x, .int b.nu, .int b.sc]]
  | .pay w a => .tup [.int w, .tup [.str "pay", .int a]]
def Dde.deed : Dde → D
  | .bill b => .tup [.str "book", b.d]
  | .pay w a => .tup [.str "pay", .int w, .int a]
def Dde.bi : Dde → Option Bi
  | .bill b => some b
  | _ => none
def Dde.am : Dde → Int
  | .pay _ a => a
  | _ => 0
def billsK (ks : List Dde) : List Bi := ks.filterMap Dde.bi
def payK (ks : List Dde) : Int := (ks.map Dde.am).sum
def ownK (ks : List Dde) (w : Int) : List Dde := ks.filter fun d => decide (d.who = w)
structure Acc (S : Sto) (o r : Nat) (ks : List Dde) : Prop where
  eo : S[o]? = some (.ins 0 [("_rows", .ref r)])
  er : S[r]? = some (.lst (ks.map Dde.row))
  ok : ∀ d ∈ ks, d.ok
theorem Acc.kp {J : List Nat} {o r : Nat} {ks : List Dde} (h : Acc S o r ks) (k : Kp J S S') (ho : o ∉ J) (hr : r ∉ J) : Acc S' o r ks := ⟨k.at_ h.eo ho, k.at_ h.er hr, h.ok⟩
theorem W_omtV {cf : Nat → List D → Sto → Rs D} {ρ : Rho} {m : Str} {i a f : Nat} {es : Exs} {fs : List (Str × D)} (hv : ρ[i]? = some (some (.ref a))) (ha : S[a]? = some (.ins 0 fs)) (hm : C.mt 0 m = some f) (hf : fs.lookup m = none) : (evE C cf (.omt m (.var i) es) ρ S).W P E = (evL C cf es ρ S).W (fun ds S2 => (cf f (.ref a :: ds) S2).W P E) E := by
  rw [evE, evE, hv, W_bind, W_ok]
  simp only [ha, hm, hf, Option.isNone_none, if_true]
  rw [W_bind]
theorem h_fldR {o r : Nat} (h : S[o]? = some (.ins 0 [("_rows", .ref r)])) : oP P S' (fldD S "_rows" (.ref o)) = P (.ref r) S' := by
  have e : fldD S "_rows" (.ref o) = some (.ref r) := by
    simp only [fldD, h]
    simp [List.lookup]
  rw [e]
  rfl
theorem mt_bills (h : CfOk C) : C.mt 0 "_bills" = some 50 := by rw [h.mt]; decide +kernel
theorem mt_paid (h : CfOk C) : C.mt 0 "_paid" = some 51 := by rw [h.mt]; decide +kernel
theorem mt_own (h : CfOk C) : C.mt 0 "_own" = some 52 := by rw [h.mt]; decide +kernel
theorem mt_book (h : CfOk C) : C.mt 0 "book" = some 53 := by rw [h.mt]; decide +kernel
theorem mt_pay (h : CfOk C) : C.mt 0 "pay" = some 54 := by rw [h.mt]; decide +kernel
theorem mt_undo (h : CfOk C) : C.mt 0 "undo" = some 55 := by rw [h.mt]; decide +kernel
theorem mt_balance (h : CfOk C) : C.mt 0 "balance" = some 56 := by rw [h.mt]; decide +kernel
theorem mt_statement (h : CfOk C) : C.mt 0 "statement" = some 57 := by rw [h.mt]; decide +kernel
theorem mt_total (h : CfOk C) : C.mt 0 "total" = some 58 := by rw [h.mt]; decide +kernel
theorem lk {m : Str} {r : Nat} (h : (m == ("_rows" : Str)) = false) : ([("_rows", D.ref r)] : List (Str × D)).lookup m = none := by
  simp [List.lookup, h]
theorem cut1 {a : D} {r : List D} : cutL (a :: r) (some 1) none = r := by
  unfold cutL HT.sIx
  simp
theorem cut2 {a b : D} {r : List D} : cutL (a :: b :: r) (some 2) none = r := by
  unfold cutL HT.sIx
  simp
theorem cutEnd {r : List D} : cutL r none (some (-1)) = r.dropLast := by
  unfold cutL HT.sIx
  simp
  rw [List.dropLast_eq_take]
  congr 1
  omega
theorem bill_ok : PyData.strOk ("bill" : Str) = true := by decide +kernel
theorem pay_ok : PyData.strOk ("pay" : Str) = true := by decide +kernel
theorem book_ok : PyData.strOk ("book" : Str) = true := by decide +kernel
theorem undo_ok : PyData.strOk ("undo" : Str) = true := by decide +kernel
theorem bill_pay : decide (("bill" : Str) = "pay") = false := by decide +kernel
theorem pay_bill : decide (("pay" : Str) = "bill") = false := by decide +kernel
theorem book_pay : decide (("book" : Str) = "pay") = false := by decide +kernel
theorem pay_book : decide (("pay" : Str) = "book") = false := by decide +kernel
theorem book_undo : decide (("book" : Str) = "undo") = false := by decide +kernel
theorem pay_undo : decide (("pay" : Str) = "undo") = false := by decide +kernel
theorem comp_list {α : Type} {r : Nat} {xs : List α} {g : α → D} {turn : D → Sto → Rs (Option D)} (f : α → Option D) (hr : S[r]? = some (.lst (xs.map g))) (hl : xs.length ≤ 1000000)
    (step : ∀ x S1, x ∈ xs → Kp [] S S1 → (turn (g x) S1).W (fun r S2 => r = f x ∧ Kp [] S1 S2) E)
    (q : ∀ S', S'[S.length]? = some (.lst (xs.filterMap f)) → Kp [] S S' → P (.ref S.length) S') :
    (compK C (.lst r) S.length turn (Iv.many C S (.lst r)) 0 (S ++ [.lst []])).W P E := by
  refine W_compK (xs := xs.map g) (fun i acc S1 => Kp [] S S1 ∧ S1[S.length]? = some (.lst acc) ∧ acc = (xs.take i).filterMap f) (fun i acc S1 hI => ⟨lst_at (hI.1.at_ hr (by simp)), hI.2.1⟩) (fun i acc S1 x hI hx => ?_) (fun acc S1 hI => ?_) _ 0 [] _ ⟨Kp.app _ _, new_at _ _, rfl⟩ (Nat.zero_le _) (by rw [lst_many hr]; exact Nat.le_refl _)
  · obtain ⟨k1, e1, rfl⟩ := hI
    rw [List.getElem?_map, Option.map_eq_some_iff] at hx
    obtain ⟨y, hy, rfl⟩ := hx
    obtain ⟨hlt, rfl⟩ := List.getElem?_eq_some_iff.mp hy
    refine W_mono (step _ S1 (List.getElem_mem hlt) k1) (fun r S2 h => ?_) fun _ _ _ h => h
    obtain ⟨rfl, k2⟩ := h
    have e2 := k2.at_ e1 (by simp)
    have et : (xs.take (i + 1)).filterMap f = (xs.take i).filterMap f ++ (f xs[i]).toList := by
      rw [List.take_add_one, hy, List.filterMap_append]
      cases h : f xs[i] <;> simp [h]
    cases hf : f xs[i] with
    | none =>
      rw [hf] at et
      exact ⟨k1.trans k2, e2, by rw [et]; simp⟩
    | some e =>
      rw [hf] at et
      refine ⟨?_, e2, (k1.trans k2).setN (Nat.le_refl _), at_set e2, by rw [et]; rfl⟩
      refine Nat.lt_of_le_of_lt (List.length_filterMap_le _ _) ?_
      rw [List.length_take]
      exact Nat.lt_of_lt_of_le (show min i xs.length < 1000000 by omega) (by decide)
  · obtain ⟨k1, e1, rfl⟩ := hI
    refine q S1 ?_ k1
    rw [e1, List.length_map, List.take_of_length_le (Nat.le_refl _)]
theorem bills_W (h : CfOk C) (hn : 1 ≤ n) {o r : Nat} {ks : List Dde} (er : S[r]? = some (.lst (ks.map Dde.row))) (hl : ks.length ≤ 1000) (q : ∀ S', S'[S.length]? = some (.lst ((billsK ks).map Bi.d)) → Kp [] S S' → P (.ref S.length) S') : (callF C n 50 [.ref o, .ref r] S).W P E := by
  obtain ⟨m, rfl⟩ : ∃ m, n = m + 1 := ⟨n - 1, by omega⟩
  rw [W_call h.p50 rfl (by decide), ir50]
  try walk_at "mp"
  rw [W_comp]
  try walk_at "mp"
  rw [h_seqL er]
  refine comp_list (fun d => d.bi.map Bi.d) er (by omega) (fun d S1 hd k1 => ?_) fun S1 e1 k1 => ?_
  · rw [W_turnC]
    cases d with
    | bill b =>
      simp only [wipeR, Dde.row]
      try walk_at "mp"
      rw [W_Ifcons]
      try walk_at "mp"
      rw [h_eqs bill_ok bill_ok, decide_eq_true rfl]
      simp only [if_true, W_Ifnil]
      try walk_at "mp"
      rw [W_Lstar]
      try walk_at "mp"
      rw [cut1, h_sqT]
      try walk_at "mp"
      exact ⟨rfl, Kp.refl _ _⟩
    | pay w a =>
      simp only [wipeR, Dde.row]
      try walk_at "mp"
      rw [W_Ifcons]
      try walk_at "mp"
      rw [h_eqs pay_ok bill_ok, pay_bill]
      simp only [Bool.false_eq_true, if_false]
      exact ⟨by trivial, Kp.refl _ _⟩
  · refine q S1 ?_ k1
    rw [e1]
    congr 2
    unfold billsK
    rw [List.map_filterMap]
theorem paid_W (h : CfOk C) (hn : 1 ≤ n) {o r : Nat} {ks : List Dde} (er : S[r]? = some (.lst (ks.map Dde.row))) (hl : ks.length ≤ 1000) (q : ∀ S', Kp [] S S' → P (.int (payK ks)) S') : (callF C n 51 [.ref o, .ref r] S).W P E := by
  obtain ⟨m, rfl⟩ : ∃ m, n = m + 1 := ⟨n - 1, by omega⟩
  rw [W_call h.p51 rfl (by decide), ir51]
  try walk_at "mp"
  rw [W_comp]
  try walk_at "mp"
  rw [h_seqL er]
  refine comp_list (fun d => match d with
    | .pay _ a => some (.int a)
    | _ => none) er (by omega) (fun d S1 hd k1 => ?_) fun S1 e1 k1 => ?_
  · rw [W_turnC]
    cases d with
    | pay w a =>
      simp only [wipeR, Dde.row]
      try walk_at "mp"
      rw [W_Ifcons]
      try walk_at "mp"
      rw [h_eqs pay_ok pay_ok, decide_eq_true rfl]
      simp only [if_true, W_Ifnil]
      try walk_at "mp"
      exact ⟨by trivial, Kp.refl _ _⟩
    | bill b =>
      simp only [wipeR, Dde.row]
      try walk_at "mp"
      rw [W_Ifcons]
      try walk_at "mp"
      rw [h_eqs bill_ok pay_ok, bill_pay]
      simp only [Bool.false_eq_true, if_false]
      exact ⟨by trivial, Kp.refl _ _⟩
  · have ef : ∀ ks : List Dde, ∃ is : List Int, ks.filterMap (fun d => match d with
      | .pay _ a => some (D.int a)
      | _ => none) = is.map D.int ∧ is.sum = payK ks := by
      intro ks
      induction ks with
      | nil => exact ⟨[], rfl, rfl⟩
      | cons d r ih =>
        obtain ⟨is, e1, e2⟩ := ih
        cases d with
        | bill b => exact ⟨is, by rw [List.filterMap_cons]; exact e1, by simp [payK, Dde.am] at e2 ⊢; exact e2⟩
        | pay w a => exact ⟨a :: is, by rw [List.filterMap_cons]; simp only [e1]; rfl, by simp [payK, Dde.am] at e2 ⊢; rw [e2]⟩
    obtain ⟨is, e2, e3⟩ := ef ks
    rw [e2] at e1
    rw [h_sum e1, e3]
    exact q S1 k1
theorem asked_who_W (h : CfOk C) (hn : 3 ≤ n) {d : D} (ok : okD S d) (q : isWh d 0 99 = true → P .non S) (e : isWh d 0 99 = false → E 43 d S) : (callF C n 13 [d] S).W P E := by
  obtain ⟨m, rfl⟩ : ∃ m, n = m + 1 := ⟨n - 1, by omega⟩
  rw [W_call h.p13 rfl (by decide), ir13]
  try walk_at "mp"
  rw [is_who_W h (by omega) ok]
  try walk_at "mp"
  cases hw : isWh d 0 99 with
  | true =>
    rw [if_neg (by decide)]
    exact q hw
  | false =>
    rw [if_pos (by decide)]
    exact e hw
theorem own_all {w : Int} : ∀ ks : List Dde, ks.filterMap (fun d => if d.who = w then some d.row else none) = (ownK ks w).map Dde.row
  | [] => rfl
  | d :: r => by
    have ih := own_all (w := w) r
    unfold ownK at ih ⊢
    rw [List.filterMap_cons]
    by_cases h : d.who = w
    · rw [if_pos h, List.filter_cons_of_pos (by simpa using h), List.map_cons, ih]
    · rw [if_neg h, List.filter_cons_of_neg (by simpa using h), ih]
theorem own_W (h : CfOk C) (hn : 4 ≤ n) {o r : Nat} {ks : List Dde} {w : Int} (ac : Acc S o r ks) (hl : ks.length ≤ 1000) (h0 : 0 ≤ w) (h1 : w ≤ 99) (q : ∀ S', S'[S.length]? = some (.lst ((ownK ks w).map Dde.row)) → Kp [] S S' → P (.ref S.length) S') : (callF C n 52 [.ref o, .int w] S).W P E := by
  obtain ⟨m, rfl⟩ : ∃ m, n = m + 1 := ⟨n - 1, by omega⟩
  rw [W_call h.p52 rfl (by decide), ir52]
  have hw : isWh (.int w) 0 99 = true := by simp [isWh, h0, h1]
  try walk_at "mp"
  refine asked_who_W h (by omega) trivial (fun _ => ?_) (fun e => by rw [hw] at e; cases e)
  rw [W_comp]
  try walk_at "mp"
  rw [h_fldR ac.eo, h_seqL ac.er]
  refine comp_list (fun d => if d.who = w then some d.row else none) ac.er (by omega) (fun d S1 hd k1 => ?_) fun S1 e1 k1 => ?_
  · rw [W_turnC]
    have e0 : ∃ y, d.row = .tup [.int d.who, y] := by cases d <;> exact ⟨_, rfl⟩
    obtain ⟨y, ey⟩ := e0
    rw [ey]
    simp only [wipeR]
    try walk_at "mp"
    rw [W_Ifcons]
    try walk_at "mp"
    by_cases hd : d.who = w
    · rw [decide_eq_true hd]
      simp only [if_true, W_Ifnil]
      try walk_at "mp"
      exact ⟨by rw [if_pos hd], Kp.refl _ _⟩
    · rw [decide_eq_false hd]
      simp only [Bool.false_eq_true, if_false]
      exact ⟨by rw [if_neg hd], Kp.refl _ _⟩
  · refine q S1 ?_ k1
    rw [e1]
    congr 2
    exact own_all ks
theorem own_bad_W (h : CfOk C) (hn : 4 ≤ n) {o : Nat} {d : D} (ok : okD S d) (hw : isWh d 0 99 = false) (e : E 43 d S) : (callF C n 52 [.ref o, d] S).W P E := by
  obtain ⟨m, rfl⟩ : ∃ m, n = m + 1 := ⟨n - 1, by omega⟩
  rw [W_call h.p52 rfl (by decide), ir52]
  try walk_at "mp"
  exact asked_who_W h (by omega) ok (fun e => by rw [hw] at e; cases e) (fun _ => e)
end
end HB
end MXa
section MXb
set_option Elab.async false
set_option linter.all false
set_option maxRecDepth 100000
set_option maxHeartbeats 2000000
namespace HB
open PySem MP L2
local macro_rules | `(tactic| walk_at "mp") => `(tactic| simp only [↓W_seq, ↓W_nil, ↓W_if, ↓W_ret, ↓W_asg, ↓W_asgT, ↓W_Tname, ↓W_Ttup, ↓W_Tsnil, ↓W_Tscons, ↓W_Tsub, ↓W_Tfld, ↓W_Iseq, ↓W_Ienum, ↓W_Irng, ↓rP_int, ↓h_seqT, ↓h_enumT, ↓h_pow6, ↓h_pow12, ↓h_pow15, ↓W_expr, ↓W_raise, ↓W_par, ↓WB_or, ↓WB_and, ↓WB_not, ↓WB_cmpP, ↓WB_isiP, ↓WB_call, ↓WB_var, ↓h_isb, ↓h_isiS, ↓h_isiT, ↓h_isiI, ↓h_isiB, ↓h_isiN, ↓W_var, ↓W_cst, ↓W_bin, ↓W_neg, ↓W_cmp, ↓W_and, ↓W_or, ↓W_not, ↓W_ife, ↓W_tup, ↓W_lst, ↓W_dct, ↓W_callE, ↓W_blt, ↓W_mth, ↓W_fld, ↓W_idx, ↓W_slc, ↓W_Ono, ↓W_Oso, ↓W_Lnil, ↓W_Lcons, ↓W_heard, ↓W_tells, ↓W_refuses,
  ↓h_slcT, ↓h_lstT, sz0, sz1, sz2, sz3, sz4, sz5, sz6, sz7, sz8, sz9, sz10, ↓reduceIte, List.getElem?_cons_zero, List.getElem?_cons_succ, List.map_cons, List.map_nil, List.cons_append, List.nil_append, List.append_nil, Nat.sub_self, List.replicate_zero, List.replicate_succ, List.set_cons_zero, List.set_cons_succ, if_true, if_false, Bool.false_eq_true, Bool.not_true, Bool.not_false, ↓v0, ↓v1, ↓h_tn, ↓h_tb, ↓h_ti, ↓h_ts, ↓h_tt, ↓h_tscr, ↓h_bl, ↓h_le, ↓h_lt, ↓h_gt, ↓h_ge, ↓h_isn, ↓h_isnn, ↓h_eqi, ↓h_nei, ↓h_lenT, ↓h_add, ↓h_sub, ↓h_int, ↓h_intb, ↓h_x0, ↓h_x1, ↓h_x2, ↓h_x3, ↓h_if, ↓h_if2, ↓nP_int, ↓iP_int, ↓tP_bl, List.length_cons, List.length_nil, Nat.zero_add, Nat.reduceAdd, Nat.reduceLT, vP_some, oP_some, uP_some, k_NoneType_bool, k_NoneType_int, k_NoneType_str, k_NoneType_tuple, k_NoneType_list, k_NoneType_dict, k_bool_bool, k_bool_int, k_bool_str, k_bool_tuple, k_bool_list, k_bool_dict, k_int_bool, k_int_int, k_int_str, k_int_tuple, k_int_list, k_int_dict, k_str_bool, k_str_int, k_str_str, k_str_tuple, k_str_list, k_str_dict, k_tuple_bool, k_tuple_int, k_tuple_str, k_tuple_tuple, k_tuple_list, k_tuple_dict, k_list_bool, k_list_int, k_list_str, k_list_tuple, k_list_list, k_list_dict, k_dict_bool, k_dict_int, k_dict_str, k_dict_tuple, k_dict_list, k_dict_dict, n_non, n_int, n_bl, n_tup, n_str, n_ref])
section
variable {C : Cf} {S S' : Sto} {n j : Nat} {P : D → Sto → Prop} {E : Nat → D → Sto → Prop}
theorem pl_pys {k m : Nat} (ih : ∀ {d : D}, Pl k d → ∃ p, pyD C S m d = some p ∧ p.canLay0 = true ∧ p.depth ≤ k) : ∀ {ds : List D}, (∀ x ∈ ds, Pl k x) → ∃ ps, pyDs C S (m + 1) ds = some ps ∧ PyData.canLayAll0 ps = true ∧ PyData.depthAll ps ≤ k ∧ ps.isEmpty = ds.isEmpty
  | [], _ => ⟨[], by simp [pyDs], by simp [PyData.canLayAll0], by simp [PyData.depthAll], rfl⟩
  | d :: r, h => by
    obtain ⟨p, e1, l1, d1⟩ := ih (h d (by simp))
    obtain ⟨ps, e2, l2, d2, _⟩ := pl_pys ih (ds := r) fun x hx => h x (by simp [hx])
    exact ⟨p :: ps, by simp [pyDs, e1, e2], by simp [PyData.canLayAll0, l1, l2], by simp [PyData.depthAll]; omega, rfl⟩
theorem pl_py : ∀ (k : Nat) {m : Nat} {d : D}, Pl k d → 2 * k ≤ m → ∃ p, pyD C S m d = some p ∧ p.canLay0 = true ∧ p.depth ≤ k := by
  intro k
  induction k with
  | zero => intro m d h; cases h
  | succ k ih =>
    intro m d h hm
    obtain ⟨m, rfl⟩ : ∃ m', m = m' + 2 := ⟨m - 2, by omega⟩
    cases h with
    | non => exact ⟨.none, by simp [pyD], by simp [PyData.canLay0], by simp [PyData.depth]⟩
    | bl => exact ⟨.bool _, by simp [pyD]; rfl, by simp [PyData.canLay0], by simp [PyData.depth]⟩
    | int => exact ⟨.int _, by simp [pyD]; rfl, by simp [PyData.canLay0], by simp [PyData.depth]⟩
    | str hx => exact ⟨.str _, by simp [pyD]; rfl, by simp [PyData.canLay0, hx], by simp [PyData.depth]⟩
    | tup hx hl =>
      obtain ⟨ps, e, l, dd, _⟩ := pl_pys (C := C) (S := S) (m := m) (fun h => ih h (by omega)) hx
      exact ⟨.tuple ps, by simp [pyD, e], by simp [PyData.canLay0, l], by simp [PyData.depth]; omega⟩
theorem shaped_nil : SeqAt.shaped (.list []) = true ∧ SeqAt.shaped (.tuple []) = true := by
  constructor <;> simp [SeqAt.shaped, PyData.canLay0, PyData.depth, PyData.canLayAll0, PyData.depthAll]
theorem h_eqEL {r t k : Nat} {ds : List D} {Pb : Bool → Sto → Prop} (h : S[r]? = some (.lst ds)) (h' : S[t]? = some (.lst [])) (hp : ∀ x ∈ ds, Pl k x) (hk : k ≤ 20) : oP Pb S' (cmpD C .Eq S (.ref r) (.ref t)) = Pb ds.isEmpty S' := by
  obtain ⟨ps, e, l, dd, em⟩ := pl_pys (C := C) (S := S) (m := 58) (fun h => pl_py k h (by omega)) hp
  have ee : eqD C S (.ref r) (.ref t) = some ds.isEmpty := by
    simp only [eqD, pyD, h, h', e, pyDs, Option.map_some]
    rw [if_pos ⟨by simp [SeqAt.shaped, PyData.canLay0, PyData.depth, l]; omega, shaped_nil.1⟩, ← em]
    cases ps <;> simp [PyData.eqv, PyData.eqvAll]
  simp only [cmpD, ee]
  rfl
theorem h_eqET {k : Nat} {ds : List D} {Pb : Bool → Sto → Prop} (hp : ∀ x ∈ ds, Pl k x) (hk : k ≤ 20) : oP Pb S' (cmpD C .Eq S (.tup ds) (.tup [])) = Pb ds.isEmpty S' := by
  obtain ⟨ps, e, l, dd, em⟩ := pl_pys (C := C) (S := S) (m := 58) (fun h => pl_py k h (by omega)) hp
  have ee : eqD C S (.tup ds) (.tup []) = some ds.isEmpty := by
    simp only [eqD, pyD, e, pyDs, Option.map_some]
    rw [if_pos ⟨by simp [SeqAt.shaped, PyData.canLay0, PyData.depth, l]; omega, shaped_nil.2⟩, ← em]
    cases ps <;> simp [PyData.eqv, PyData.eqvAll]
  simp only [cmpD, ee]
  rfl
theorem row_pl (d : Dde) : Pl 3 d.row := by
  cases d with
  | bill b =>
    refine .tup (fun x hx => ?_) (by simp)
    simp only [List.mem_cons, List.not_mem_nil, or_false] at hx
    rcases hx with rfl | rfl
    · exact .int
    · refine .tup (fun x hx => ?_) (by simp)
      simp only [List.mem_cons, List.not_mem_nil, or_false] at hx
      rcases hx with rfl | rfl | rfl | rfl
      · exact .str bill_ok
      · exact .int
      · exact .int
      · exact .int
  | pay w a =>
    refine .tup (fun x hx => ?_) (by simp)
    simp only [List.mem_cons, List.not_mem_nil, or_false] at hx
    rcases hx with rfl | rfl
    · exact .int
    · refine .tup (fun x hx => ?_) (by simp)
      simp only [List.mem_cons, List.not_mem_nil, or_false] at hx
      rcases hx with rfl | rfl
      · exact .str pay_ok
      · exact .int
theorem deed_pl (d : Dde) : Pl 3 d.deed := by
  cases d with
  | bill b =>
    refine .tup (fun x hx => ?_) (by simp)
    simp only [List.mem_cons, List.not_mem_nil, or_false] at hx
    rcases hx with rfl | rfl
    · exact .str book_ok
    · exact b.pl
  | pay w a =>
    refine .tup (fun x hx => ?_) (by simp)
    simp only [List.mem_cons, List.not_mem_nil, or_false] at hx
    rcases hx with rfl | rfl | rfl
    · exact .str pay_ok
    · exact .int
    · exact .int
theorem h_pop {ds : List D} {r : Nat} {y : D} (h : S[r]? = some (.lst ds)) (hy : ds[ds.length - 1]? = some y) : uP P (mthD C .pop S (.ref r) []) = P y (S.set r (.lst ds.dropLast)) := by
  simp only [mthD, h, hy]
  rfl
theorem book_W (h : CfOk C) (hn : 4 ≤ n) {o r : Nat} {ks : List Dde} {d : D} (ac : Acc S o r ks) (hl : ks.length ≤ 1000) (ok : okB S d) (q : ∀ b : Bi, d = b.d → b.ok → P .non (S.set r (.lst ((ks ++ [Dde.bill b]).map Dde.row)))) (e : isBl d = false → E 42 (.int 0) S) : (callF C n 53 [.ref o, d] S).W P E := by
  obtain ⟨m, rfl⟩ : ∃ m, n = m + 1 := ⟨n - 1, by omega⟩
  rw [W_call h.p53 rfl (by decide), ir53]
  try walk_at "mp"
  rw [is_bill_W h (by omega) ok]
  try walk_at "mp"
  cases hb : isBl d with
  | false =>
    rw [if_pos (by decide)]
    exact e hb
  | true =>
    rw [if_neg (by decide)]
    obtain ⟨b, rfl, bo⟩ := isBl_Bi hb
    have q := q b rfl bo
    simp only [Bi.d]
    try walk_at "mp"
    rw [h_fldR ac.eo, if_pos (by rw [h_lst ac.er]; rfl), h_app ac.er (by rw [List.length_map]; exact Nat.lt_of_le_of_lt hl (by decide))]
    rw [List.map_append] at q
    exact q
theorem pay_W (h : CfOk C) (hn : 4 ≤ n) {o r : Nat} {ks : List Dde} {d1 d2 : D} (ac : Acc S o r ks) (hl : ks.length ≤ 1000) (ok1 : okD S d1) (ok2 : okD S d2) (q : ∀ w a : Int, d1 = .int w → d2 = .int a → Dde.ok (.pay w a) → P .non (S.set r (.lst ((ks ++ [Dde.pay w a]).map Dde.row)))) (e1 : isWh d1 0 99 = false → E 43 d1 S) (e2 : isWh d1 0 99 = true → isWh d2 1 1000000000000 = false → E 44 d2 S) : (callF C n 54 [.ref o, d1, d2] S).W P E := by
  obtain ⟨m, rfl⟩ : ∃ m, n = m + 1 := ⟨n - 1, by omega⟩
  rw [W_call h.p54 rfl (by decide), ir54]
  try walk_at "mp"
  refine asked_who_W h (by omega) ok1 (fun hw => ?_) e1
  rw [is_whole_W h (by omega) ok2]
  try walk_at "mp"
  cases ha : isWh d2 1 1000000000000 with
  | false =>
    rw [if_pos (by decide)]
    exact e2 hw ha
  | true =>
    rw [if_neg (by decide)]
    obtain ⟨w, rfl, w0, w1⟩ := isWh_some hw
    obtain ⟨a, rfl, a0, a1⟩ := isWh_some ha
    have q := q w a rfl rfl ⟨w0, w1, a0, a1⟩
    rw [h_fldR ac.eo, if_pos (by rw [h_lst ac.er]; rfl), h_app ac.er (by rw [List.length_map]; exact Nat.lt_of_le_of_lt hl (by decide))]
    rw [List.map_append] at q
    exact q
theorem undo_W (h : CfOk C) (hn : 1 ≤ n) {o r : Nat} {ks : List Dde} (ac : Acc S o r ks) (q : ks ≠ [] → P .non ((S ++ [O.lst []]).set r (.lst (ks.dropLast.map Dde.row)))) (e : ks = [] → E 20 (.int 0) (S ++ [.lst []])) : (callF C n 55 [.ref o] S).W P E := by
  obtain ⟨m, rfl⟩ : ∃ m, n = m + 1 := ⟨n - 1, by omega⟩
  rw [W_call h.p55 rfl (by decide), ir55]
  have ka := Kp.app S [.lst []]
  have ac' := ac.kp ka (by simp) (by simp)
  try walk_at "mp"
  rw [h_fldR ac.eo, h_eqEL ac'.er (new_at _ _) (k := 3) (fun x hx => by
    obtain ⟨d, _, rfl⟩ := List.mem_map.mp hx
    exact row_pl d) (by decide)]
  cases hk : ks with
  | nil =>
    rw [if_pos (by simp)]
    exact e hk
  | cons d0 rr =>
    rw [if_neg (by simp), h_fldR ac'.eo, if_pos (by rw [h_lst ac'.er]; rfl)]
    have hne : ks ≠ [] := by rw [hk]; simp
    have hl : ks.length - 1 < ks.length := by rw [hk]; simp
    rw [h_pop (y := (ks[ks.length - 1]).row) ac'.er (by rw [List.length_map, List.getElem?_map, List.getElem?_eq_getElem hl]; rfl), ← List.map_dropLast]
    exact q hne
theorem payK_le : ∀ {ks : List Dde}, (∀ d ∈ ks, d.ok) → 0 ≤ payK ks ∧ payK ks ≤ ks.length * 1000000000000
  | [], _ => by simp [payK]
  | d :: r, h => by
    obtain ⟨a, b⟩ := payK_le (ks := r) fun x hx => h x (by simp [hx])
    have o := h d (by simp)
    have e : payK (d :: r) = d.am + payK r := by simp [payK]
    have : 0 ≤ d.am ∧ d.am ≤ 1000000000000 := by
      cases d with
      | bill b => simp [Dde.am]
      | pay w x => exact ⟨by have := o.2.2.1; simp [Dde.am]; omega, by have := o.2.2.2; simp [Dde.am]; omega⟩
    rw [e, List.length_cons]
    omega
theorem rd_sub {T B p : Int} (hB : 0 < B) : rd ((rd T B).1 - p * (rd T B).2) (rd T B).2 = rd (T - p * B) B := by
  have g0 : 0 < (Int.gcd T B : Int) := by
    have := Int.gcd_pos_of_ne_zero_right T (show B ≠ 0 by omega)
    omega
  have eT : T = (Int.gcd T B : Int) * (rd T B).1 := by
    unfold rd
    rw [Int.mul_ediv_cancel']
    exact Int.gcd_dvd_left ..
  have eB : B = (Int.gcd T B : Int) * (rd T B).2 := by
    unfold rd
    rw [Int.mul_ediv_cancel']
    exact Int.gcd_dvd_right ..
  rw [← rd_mul g0]
  generalize (Int.gcd T B : Int) = g at *
  generalize (rd T B).1 = t at *
  generalize (rd T B).2 = d at *
  subst eT
  subst eB
  congr 1
  grind
theorem billsK_ok {ks : List Dde} (h : ∀ d ∈ ks, d.ok) : ∀ b ∈ billsK ks, b.ok := by
  intro b hb
  obtain ⟨d, hd, e⟩ := List.mem_filterMap.mp hb
  cases d with
  | bill b' => cases e; exact h _ hd
  | pay w a => cases e
theorem billsK_len {ks : List Dde} : (billsK ks).length ≤ ks.length := List.length_filterMap_le _ _
theorem ownK_sub {ks : List Dde} {w : Int} : ∀ d ∈ ownK ks w, d ∈ ks := fun d hd => (List.mem_filter.mp hd).1
theorem ownK_len {ks : List Dde} {w : Int} : (ownK ks w).length ≤ ks.length := List.length_filter_le _ _
theorem billsK_sub {ks ls : List Dde} (h : ∀ d ∈ ks, d ∈ ls) : ∀ b ∈ billsK ks, b ∈ billsK ls := by
  intro b hb
  obtain ⟨d, hd, e⟩ := List.mem_filterMap.mp hb
  exact List.mem_filterMap.mpr ⟨d, h d hd, e⟩
def balB (B : Int) (ks : List Dde) : D := rdD (topB B (billsK ks) - payK ks * B) B
theorem balance_W (h : CfOk C) (hn : 5 ≤ n) {o r : Nat} {ks : List Dde} {w B : Int} (ac : Acc S o r ks) (hl : ks.length ≤ 1000) (h0 : 0 ≤ w) (h1 : w ≤ 99) (hB : Com B (billsK ks)) (q : ∀ S', Kp [] S S' → P (balB B (ownK ks w)) S') : (callF C n 56 [.ref o, .int w] S).W P E := by
  obtain ⟨m, rfl⟩ : ∃ m, n = m + 1 := ⟨n - 1, by omega⟩
  rw [W_call h.p56 rfl (by decide), ir56]
  try walk_at "mp"
  rw [W_omtV rfl ac.eo (mt_own h) (lk (by decide +kernel))]
  try walk_at "mp"
  refine own_W h (by omega) ac hl h0 h1 fun S1 e1 k1 => ?_
  have ac1 := ac.kp k1 (by simp) (by simp)
  have ol : (ownK ks w).length ≤ 1000 := Nat.le_trans ownK_len hl
  rw [W_omtV rfl ac1.eo (mt_bills h) (lk (by decide +kernel))]
  try walk_at "mp"
  refine bills_W h (by omega) e1 ol fun S2 e2 k2 => ?_
  have ook : ∀ d ∈ ownK ks w, d.ok := fun d hd => ac.ok d (ownK_sub d hd)
  refine sum_of_W h (by omega) (hB.sub (billsK_sub ownK_sub)) (Nat.le_trans billsK_len ol) (billsK_ok ook) e2 fun S3 k3 => ?_
  obtain ⟨d0, d1⟩ := rd_den (t := topB B (billsK (ownK ks w))) hB.pos
  have lt := hB.lt
  rw [rdD]
  try walk_at "mp"
  have ac3 := ac1.kp (k2.trans k3) (by simp) (by simp)
  rw [W_omtV rfl ac3.eo (mt_paid h) (lk (by decide +kernel))]
  try walk_at "mp"
  refine paid_W h (by omega) ((k2.trans k3).at_ e1 (by simp)) ol fun S4 k4 => ?_
  obtain ⟨p0, p1⟩ := payK_le ook
  rw [h_mul (.inl (bits_lt (by decide) (by omega))), h_sub]
  refine lowest_W h (by omega) d0 (by omega) ?_
  rw [rdD, rd_sub hB.pos]
  exact q _ (k1.trans (k2.trans (k3.trans k4)))
def stD : Dde → D
  | .bill b => .tup [.str "bill", .int b.x, .int b.nu, .int b.sc]
  | .pay _ a => .tup [.str "pay", .int a]
theorem statement_W (h : CfOk C) (hn : 5 ≤ n) {o r : Nat} {ks : List Dde} {w : Int} (ac : Acc S o r ks) (hl : ks.length ≤ 1000) (h0 : 0 ≤ w) (h1 : w ≤ 99) (q : ∀ S', Kp [] S S' → P (.tup ((ownK ks w).map stD)) S') : (callF C n 57 [.ref o, .int w] S).W P E := by
  obtain ⟨m, rfl⟩ : ∃ m, n = m + 1 := ⟨n - 1, by omega⟩
  rw [W_call h.p57 rfl (by decide), ir57]
  try walk_at "mp"
  rw [W_comp]
  try walk_at "mp"
  rw [W_omtV rfl ac.eo (mt_own h) (lk (by decide +kernel))]
  try walk_at "mp"
  refine own_W h (by omega) ac hl h0 h1 fun S1 e1 k1 => ?_
  have ol : (ownK ks w).length ≤ 1000 := Nat.le_trans ownK_len hl
  rw [h_seqL e1]
  refine comp_list (fun d => some (stD d)) e1 (by omega) (fun d S2 hd k2 => ?_) fun S2 e2 k2 => ?_
  · rw [W_turnC]
    have e0 : d.row = .tup [.int d.who, stD d] := by cases d <;> rfl
    rw [e0]
    simp only [wipeR]
    try walk_at "mp"
    simp only [W_Ifnil]
    try walk_at "mp"
    exact ⟨by trivial, Kp.refl _ _⟩
  · rw [h_tupL e2, fm_map]
    exact q _ (k1.trans k2)
theorem total_W (h : CfOk C) (hn : 3 ≤ n) {o r : Nat} {ks : List Dde} {B : Int} (ac : Acc S o r ks) (hl : ks.length ≤ 1000) (hB : Com B (billsK ks)) (q : ∀ S', Kp [] S S' → P (.tup [rdD (topB B (billsK ks)) B, .tup [.int (payK ks), .int 1]]) S') : (callF C n 58 [.ref o] S).W P E := by
  obtain ⟨m, rfl⟩ : ∃ m, n = m + 1 := ⟨n - 1, by omega⟩
  rw [W_call h.p58 rfl (by decide), ir58]
  try walk_at "mp"
  rw [W_omtV rfl ac.eo (mt_bills h) (lk (by decide +kernel))]
  try walk_at "mp"
  rw [h_fldR ac.eo]
  refine bills_W h (by omega) ac.er hl fun S1 e1 k1 => ?_
  refine sum_of_W h (by omega) hB (Nat.le_trans billsK_len hl) (billsK_ok ac.ok) e1 fun S2 k2 => ?_
  have ac2 := ac.kp (k1.trans k2) (by simp) (by simp)
  rw [W_omtV rfl ac2.eo (mt_paid h) (lk (by decide +kernel))]
  try walk_at "mp"
  rw [h_fldR ac2.eo]
  refine paid_W h (by omega) ac2.er hl fun S3 k3 => ?_
  exact q _ (k1.trans (k2.trans k3))
theorem balance_bad_W (h : CfOk C) (hn : 5 ≤ n) {o r : Nat} {ks : List Dde} {d : D} (ac : Acc S o r ks) (ok : okD S d) (hw : isWh d 0 99 = false) (e : E 43 d S) : (callF C n 56 [.ref o, d] S).W P E := by
  obtain ⟨m, rfl⟩ : ∃ m, n = m + 1 := ⟨n - 1, by omega⟩
  rw [W_call h.p56 rfl (by decide), ir56]
  try walk_at "mp"
  rw [W_omtV rfl ac.eo (mt_own h) (lk (by decide +kernel))]
  try walk_at "mp"
  exact own_bad_W h (by omega) ok hw e
theorem statement_bad_W (h : CfOk C) (hn : 5 ≤ n) {o r : Nat} {ks : List Dde} {d : D} (ac : Acc S o r ks) (ok : okD S d) (hw : isWh d 0 99 = false) (e : E 43 d S) : (callF C n 57 [.ref o, d] S).W P E := by
  obtain ⟨m, rfl⟩ : ∃ m, n = m + 1 := ⟨n - 1, by omega⟩
  rw [W_call h.p57 rfl (by decide), ir57]
  try walk_at "mp"
  rw [W_comp]
  try walk_at "mp"
  rw [W_omtV rfl ac.eo (mt_own h) (lk (by decide +kernel))]
  try walk_at "mp"
  exact own_bad_W h (by omega) ok hw e
end
end HB
end MXb
section MXc
set_option Elab.async false
set_option linter.all false
set_option maxRecDepth 100000
set_option maxHeartbeats 2000000
namespace HB
open PySem MP L2
local macro_rules | `(tactic| walk_at "mp") => `(tactic| simp only [↓W_seq, ↓W_nil, ↓W_if, ↓W_ret, ↓W_asg, ↓W_asgT, ↓W_Tname, ↓W_Ttup, ↓W_Tsnil, ↓W_Tscons, ↓W_Tsub, ↓W_Tfld, ↓W_Iseq, ↓W_Ienum, ↓W_Irng, ↓rP_int, ↓h_seqT, ↓h_enumT, ↓h_pow6, ↓h_pow12, ↓h_pow15, ↓W_expr, ↓W_raise, ↓W_par, ↓WB_or, ↓WB_and, ↓WB_not, ↓WB_cmpP, ↓WB_isiP, ↓WB_call, ↓WB_var, ↓h_isb, ↓h_isiS, ↓h_isiT, ↓h_isiI, ↓h_isiB, ↓h_isiN, ↓W_var, ↓W_cst, ↓W_bin, ↓W_neg, ↓W_cmp, ↓W_and, ↓W_or, ↓W_not, ↓W_ife, ↓W_tup, ↓W_lst, ↓W_dct, ↓W_callE, ↓W_blt, ↓W_mth, ↓W_fld, ↓W_idx, ↓W_slc, ↓W_Ono, ↓W_Oso, ↓W_Lnil, ↓W_Lcons, ↓W_heard, ↓W_tells, ↓W_refuses,
  ↓h_slcT, ↓h_lstT, sz0, sz1, sz2, sz3, sz4, sz5, sz6, sz7, sz8, sz9, sz10, ↓reduceIte, List.getElem?_cons_zero, List.getElem?_cons_succ, List.map_cons, List.map_nil, List.cons_append, List.nil_append, List.append_nil, Nat.sub_self, List.replicate_zero, List.replicate_succ, List.set_cons_zero, List.set_cons_succ, if_true, if_false, Bool.false_eq_true, Bool.not_true, Bool.not_false, ↓v0, ↓v1, ↓h_tn, ↓h_tb, ↓h_ti, ↓h_ts, ↓h_tt, ↓h_tscr, ↓h_bl, ↓h_le, ↓h_lt, ↓h_gt, ↓h_ge, ↓h_isn, ↓h_isnn, ↓h_eqi, ↓h_nei, ↓h_lenT, ↓h_add, ↓h_sub, ↓h_int, ↓h_intb, ↓h_x0, ↓h_x1, ↓h_x2, ↓h_x3, ↓h_if, ↓h_if2, ↓nP_int, ↓iP_int, ↓tP_bl, List.length_cons, List.length_nil, Nat.zero_add, Nat.reduceAdd, Nat.reduceLT, vP_some, oP_some, uP_some, k_NoneType_bool, k_NoneType_int, k_NoneType_str, k_NoneType_tuple, k_NoneType_list, k_NoneType_dict, k_bool_bool, k_bool_int, k_bool_str, k_bool_tuple, k_bool_list, k_bool_dict, k_int_bool, k_int_int, k_int_str, k_int_tuple, k_int_list, k_int_dict, k_str_bool, k_str_int, k_str_str, k_str_tuple, k_str_list, k_str_dict, k_tuple_bool, k_tuple_int, k_tuple_str, k_tuple_tuple, k_tuple_list, k_tuple_dict, k_list_bool, k_list_int, k_list_str, k_list_tuple, k_list_list, k_list_dict, k_dict_bool, k_dict_int, k_dict_str, k_dict_tuple, k_dict_list, k_dict_dict, n_non, n_int, n_bl, n_tup, n_str, n_ref])
section
variable {C : Cf} {S S' : Sto} {n j : Nat} {P : D → Sto → Prop} {E : Nat → D → Sto → Prop}
theorem did_undo_W (h : CfOk C) (hn : 1 ≤ n) {ks : List Dde} (hl : ks.length ≤ 1000) (q0 : ks = [] → P (.tup [.tup [.str "NothingToUndo", .int 0], .tup []]) S) (q1 : ks ≠ [] → P (.tup [.tup [.str "told", .non], .tup (ks.dropLast.map Dde.deed)]) S) : (callF C n 25 [.tup (ks.map Dde.deed), .tup [.str "undo"]] S).W P E := by
  obtain ⟨m, rfl⟩ : ∃ m, n = m + 1 := ⟨n - 1, by omega⟩
  rw [W_call h.p25 rfl (by decide), ir25]
  try walk_at "mp"
  rw [h_eqs undo_ok undo_ok, decide_eq_true rfl, if_pos rfl, h_eqET (k := 3) (fun x hx => by
    obtain ⟨d, _, rfl⟩ := List.mem_map.mp hx
    exact deed_pl d) (by decide)]
  cases ks with
  | nil =>
    rw [if_pos (by simp)]
    exact q0 rfl
  | cons d0 rr =>
    rw [if_neg (by simp), cutEnd, ← List.map_dropLast]
    exact q1 (by simp)
theorem did_book_W (h : CfOk C) (hn : 4 ≤ n) {ks : List Dde} {d : D} (hl : ks.length ≤ 1000) (ok : okB S d) (q0 : isBl d = false → P (.tup [.tup [.str "BadBills", .int 0], .tup (ks.map Dde.deed)]) S) (q1 : ∀ b : Bi, d = b.d → b.ok → P (.tup [.tup [.str "told", .non], .tup ((ks ++ [Dde.bill b]).map Dde.deed)]) S) : (callF C n 25 [.tup (ks.map Dde.deed), .tup [.str "book", d]] S).W P E := by
  obtain ⟨m, rfl⟩ : ∃ m, n = m + 1 := ⟨n - 1, by omega⟩
  rw [W_call h.p25 rfl (by decide), ir25]
  try walk_at "mp"
  rw [h_eqs book_ok undo_ok, book_undo, if_neg (by decide), h_eqs book_ok book_ok, decide_eq_true rfl, if_pos rfl, law_is_bill_W h (by omega) ok]
  try walk_at "mp"
  cases hb : isBl d with
  | false =>
    rw [if_neg (by decide)]
    exact q0 hb
  | true =>
    obtain ⟨b, rfl, bo⟩ := isBl_Bi hb
    have q1 := q1 b rfl bo
    rw [List.map_append] at q1
    rw [if_pos rfl, h_addT (by simp; omega)]
    exact q1
theorem did_pay_W (h : CfOk C) (hn : 4 ≤ n) {ks : List Dde} {d1 d2 : D} (hl : ks.length ≤ 1000) (ok1 : okD S d1) (ok2 : okD S d2) (q0 : isWh d1 0 99 = false → P (.tup [.tup [.str "BadWho", d1], .tup (ks.map Dde.deed)]) S) (q1 : isWh d1 0 99 = true → isWh d2 1 1000000000000 = false → P (.tup [.tup [.str "BadAmount", d2], .tup (ks.map Dde.deed)]) S) (q2 : ∀ w a : Int, d1 = .int w → d2 = .int a → Dde.ok (.pay w a) → P (.tup [.tup [.str "told", .non], .tup ((ks ++ [Dde.pay w a]).map Dde.deed)]) S) : (callF C n 25 [.tup (ks.map Dde.deed), .tup [.str "pay", d1, d2]] S).W P E := by
  obtain ⟨m, rfl⟩ : ∃ m, n = m + 1 := ⟨n - 1, by omega⟩
  rw [W_call h.p25 rfl (by decide), ir25]
  try walk_at "mp"
  rw [h_eqs pay_ok undo_ok, pay_undo, if_neg (by decide), h_eqs pay_ok book_ok, pay_book, if_neg (by decide), law_is_number_W h (by omega) ok1]
  try walk_at "mp"
  cases hw : isWh d1 0 99 with
  | false =>
    rw [if_pos (by decide)]
    exact q0 hw
  | true =>
    rw [if_neg (by decide), law_is_number_W h (by omega) ok2]
    try walk_at "mp"
    cases ha : isWh d2 1 1000000000000 with
    | false =>
      rw [if_neg (by decide)]
      exact q1 hw ha
    | true =>
      obtain ⟨w, rfl, w0, w1⟩ := isWh_some hw
      obtain ⟨a, rfl, a0, a1⟩ := isWh_some ha
      have q2 := q2 w a rfl rfl ⟨w0, w1, a0, a1⟩
      rw [List.map_append] at q2
      rw [if_pos rfl, h_addT (by simp; omega)]
      exact q2
theorem did_on_undo_W (h : CfOk C) (hn : 2 ≤ n) {o r : Nat} {ks : List Dde} (ac : Acc S o r ks) (q : ks ≠ [] → P .non ((S ++ [O.lst []]).set r (.lst (ks.dropLast.map Dde.row)))) (e : ks = [] → E 20 (.int 0) (S ++ [O.lst []])) : (callF C n 26 [.ref o, .tup [.str "undo"]] S).W P E := by
  obtain ⟨m, rfl⟩ : ∃ m, n = m + 1 := ⟨n - 1, by omega⟩
  rw [W_call h.p26 rfl (by decide), ir26]
  try walk_at "mp"
  rw [h_eqs undo_ok undo_ok, decide_eq_true rfl, if_pos rfl, W_omtV rfl ac.eo (mt_undo h) (lk (by decide +kernel))]
  try walk_at "mp"
  exact undo_W h (by omega) ac q e
theorem did_on_book_W (h : CfOk C) (hn : 5 ≤ n) {o r : Nat} {ks : List Dde} {d : D} (ac : Acc S o r ks) (hl : ks.length ≤ 1000) (ok : okB S d) (q : ∀ b : Bi, d = b.d → b.ok → P .non (S.set r (.lst ((ks ++ [Dde.bill b]).map Dde.row)))) (e : isBl d = false → E 42 (.int 0) S) : (callF C n 26 [.ref o, .tup [.str "book", d]] S).W P E := by
  obtain ⟨m, rfl⟩ : ∃ m, n = m + 1 := ⟨n - 1, by omega⟩
  rw [W_call h.p26 rfl (by decide), ir26]
  try walk_at "mp"
  rw [h_eqs book_ok undo_ok, book_undo, if_neg (by decide), h_eqs book_ok book_ok, decide_eq_true rfl, if_pos rfl, W_omtV rfl ac.eo (mt_book h) (lk (by decide +kernel))]
  try walk_at "mp"
  exact book_W h (by omega) ac hl ok q e
theorem did_on_pay_W (h : CfOk C) (hn : 5 ≤ n) {o r : Nat} {ks : List Dde} {d1 d2 : D} (ac : Acc S o r ks) (hl : ks.length ≤ 1000) (ok1 : okD S d1) (ok2 : okD S d2) (q : ∀ w a : Int, d1 = .int w → d2 = .int a → Dde.ok (.pay w a) → P .non (S.set r (.lst ((ks ++ [Dde.pay w a]).map Dde.row)))) (e1 : isWh d1 0 99 = false → E 43 d1 S) (e2 : isWh d1 0 99 = true → isWh d2 1 1000000000000 = false → E 44 d2 S) : (callF C n 26 [.ref o, .tup [.str "pay", d1, d2]] S).W P E := by
  obtain ⟨m, rfl⟩ : ∃ m, n = m + 1 := ⟨n - 1, by omega⟩
  rw [W_call h.p26 rfl (by decide), ir26]
  try walk_at "mp"
  rw [h_eqs pay_ok undo_ok, pay_undo, if_neg (by decide), h_eqs pay_ok book_ok, pay_book, if_neg (by decide), W_omtV rfl ac.eo (mt_pay h) (lk (by decide +kernel))]
  try walk_at "mp"
  exact pay_W h (by omega) ac hl ok1 ok2 q e1 e2
theorem Fl.pl {d : D} (h : Fl d) : Pl 1 d := by
  cases d with
  | non => exact .non
  | bl b => exact .bl
  | int i => exact .int
  | _ => exact h.elim
theorem Fl.okD {d : D} (h : Fl d) : MP.okD S d := by
  cases d with
  | ref r => exact h.elim
  | _ => trivial
/-- a deed, done by both -/
theorem deed_right_W (h : CfOk C) (hn : 6 ≤ n) {o r jj : Nat} {ks : List Dde} {d : D} (ac : Acc S o r ks) (hor : o ≠ r) (hl : ks.length ≤ 999) (dd : Deed jj S d) (q : ∀ ks' S', ks'.length ≤ ks.length + 1 → (d = .tup [.str "undo"] → ks'.length ≤ ks.length) → Acc S' o r ks' → Kp [r] S S' → P (.tup [.bl true, .tup (ks'.map Dde.deed)]) S') : (callF C n 45 [.ref o, .tup (ks.map Dde.deed), d] S).W P E := by
  obtain ⟨m, rfl⟩ : ∃ m, n = m + 1 := ⟨n - 1, by omega⟩
  rw [W_call h.p45 rfl (by decide), ir45]
  have tl := h.told
  have w20 := h.wd.2.2.1
  have w42 := h.wd.2.2.2.1
  have w43 := h.wd.2.2.2.2.1
  have w44 := h.wd.2.2.2.2.2.1
  have done : ∀ {ks' : List Dde} {S1 : Sto}, Kp [r] S S1 → ks'.length ≤ ks.length + 1 → (d = .tup [.str "undo"] → ks'.length ≤ ks.length) → (∀ x ∈ ks', x.ok) → r < S1.length → P (.tup [.bl true, .tup (ks'.map Dde.deed)]) (S1.set r (.lst (ks'.map Dde.row))) := fun k hl1 hu ok lt => q _ _ hl1 hu ⟨by rw [List.getElem?_set_ne (fun e => hor e.symm)]; exact k.at_ ac.eo (by simp [hor]), by rw [List.getElem?_set_self lt], ok⟩ (k.trans (Kp.set (by simp)))
  have same : ∀ {S1 : Sto}, Kp [] S S1 → P (.tup [.bl true, .tup (ks.map Dde.deed)]) S1 := fun k => q ks _ (by omega) (fun _ => Nat.le_refl _) (ac.kp k (by simp) (by simp)) k.to
  have lr : r < S.length := (List.getElem?_eq_some_iff.mp ac.er).1
  have toldnon : Pl 2 (.tup [.str "told", .non]) := told_pl .non
  cases dd with
  | undo =>
    try walk_at "mp"
    refine did_undo_W h (by omega) (by omega) (fun e0 => ?_) (fun e1 => ?_)
    · try walk_at "mp"
      refine did_on_undo_W h (by omega) ac (fun e => absurd e0 e) (fun _ => ?_)
      rw [w20]
      refine same_W h 2 (wd_pl .int (by decide +kernel)) (by omega) ?_
      try walk_at "mp"
      have := same (Kp.app S [.lst []])
      rw [e0] at this
      exact this
    · try walk_at "mp"
      refine did_on_undo_W h (by omega) ac (fun _ => ?_) (fun e => absurd e e1)
      rw [tl]
      refine same_W h 2 toldnon (by omega) ?_
      try walk_at "mp"
      exact done (Kp.app S [.lst []]).to (by simp; omega) (fun _ => by simp) (fun x hx => ac.ok x (List.dropLast_subset _ hx)) (by simp; omega)
  | book ok =>
    have ok := ok.ok
    try walk_at "mp"
    refine did_book_W h (by omega) (by omega) ok (fun e0 => ?_) (fun b eb bo => ?_)
    · try walk_at "mp"
      refine did_on_book_W h (by omega) ac (by omega) ok (fun b eb bo => ?_) (fun _ => ?_)
      · rw [eb, Bi.is bo] at e0
        cases e0
      rw [w42]
      refine same_W h 2 (wd_pl .int (by decide +kernel)) (by omega) ?_
      try walk_at "mp"
      exact same (Kp.refl _ _)
    · try walk_at "mp"
      refine did_on_book_W h (by omega) ac (by omega) ok (fun b' eb' bo' => ?_) (fun e => ?_)
      · rw [eb] at eb'
        obtain rfl := Bi.inj eb'
        rw [tl]
        refine same_W h 2 toldnon (by omega) ?_
        try walk_at "mp"
        refine done (Kp.refl _ _) (by simp) nofun (fun x hx => ?_) lr
        rw [List.mem_append, List.mem_singleton] at hx
        rcases hx with hx | rfl
        · exact ac.ok x hx
        · exact bo
      · rw [eb, Bi.is bo] at e
        cases e
  | pay f1 f2 =>
    try walk_at "mp"
    refine did_pay_W h (by omega) (by omega) f1.okD f2.okD (fun e0 => ?_) (fun e1 e2 => ?_) (fun w a ew ea wo => ?_)
    · try walk_at "mp"
      refine did_on_pay_W h (by omega) ac (by omega) f1.okD f2.okD (fun w a ew ea wo => ?_) (fun _ => ?_) (fun e _ => ?_)
      · rw [ew] at e0
        simp [isWh, wo.1, wo.2.1] at e0
      · rw [w43]
        refine same_W h 2 (wd_pl f1.pl (by decide +kernel)) (by omega) ?_
        try walk_at "mp"
        exact same (Kp.refl _ _)
      · rw [e0] at e
        cases e
    · try walk_at "mp"
      refine did_on_pay_W h (by omega) ac (by omega) f1.okD f2.okD (fun w a ew ea wo => ?_) (fun e => ?_) (fun _ _ => ?_)
      · rw [ea] at e2
        simp [isWh, wo.2.2.1, wo.2.2.2] at e2
      · rw [e] at e1
        cases e1
      · rw [w44]
        refine same_W h 2 (wd_pl f2.pl (by decide +kernel)) (by omega) ?_
        try walk_at "mp"
        exact same (Kp.refl _ _)
    · try walk_at "mp"
      refine did_on_pay_W h (by omega) ac (by omega) f1.okD f2.okD (fun w' a' ew' ea' wo' => ?_) (fun e => ?_) (fun _ e => ?_)
      · rw [ew] at ew'
        rw [ea] at ea'
        cases ew'
        cases ea'
        rw [tl]
        refine same_W h 2 toldnon (by omega) ?_
        try walk_at "mp"
        refine done (Kp.refl _ _) (by simp) nofun (fun x hx => ?_) lr
        rw [List.mem_append, List.mem_singleton] at hx
        rcases hx with hx | rfl
        · exact ac.ok x hx
        · exact wo
      · rw [ew] at e
        simp [isWh, wo.1, wo.2.1] at e
      · rw [ea] at e
        simp [isWh, wo.2.2.1, wo.2.2.2] at e
end
end HB
end MXc
section MXd
set_option Elab.async false
set_option linter.all false
set_option maxRecDepth 100000
set_option maxHeartbeats 2000000
namespace HB
open PySem MP L2
local macro_rules | `(tactic| walk_at "mp") => `(tactic| simp only [↓W_seq, ↓W_nil, ↓W_if, ↓W_ret, ↓W_asg, ↓W_asgT, ↓W_Tname, ↓W_Ttup, ↓W_Tsnil, ↓W_Tscons, ↓W_Tsub, ↓W_Tfld, ↓W_Iseq, ↓W_Ienum, ↓W_Irng, ↓rP_int, ↓h_seqT, ↓h_enumT, ↓h_pow6, ↓h_pow12, ↓h_pow15, ↓W_expr, ↓W_raise, ↓W_par, ↓WB_or, ↓WB_and, ↓WB_not, ↓WB_cmpP, ↓WB_isiP, ↓WB_call, ↓WB_var, ↓h_isb, ↓h_isiS, ↓h_isiT, ↓h_isiI, ↓h_isiB, ↓h_isiN, ↓W_var, ↓W_cst, ↓W_bin, ↓W_neg, ↓W_cmp, ↓W_and, ↓W_or, ↓W_not, ↓W_ife, ↓W_tup, ↓W_lst, ↓W_dct, ↓W_callE, ↓W_blt, ↓W_mth, ↓W_fld, ↓W_idx, ↓W_slc, ↓W_Ono, ↓W_Oso, ↓W_Lnil, ↓W_Lcons, ↓W_heard, ↓W_tells, ↓W_refuses,
  ↓h_slcT, ↓h_lstT, sz0, sz1, sz2, sz3, sz4, sz5, sz6, sz7, sz8, sz9, sz10, ↓reduceIte, List.getElem?_cons_zero, List.getElem?_cons_succ, List.map_cons, List.map_nil, List.cons_append, List.nil_append, List.append_nil, Nat.sub_self, List.replicate_zero, List.replicate_succ, List.set_cons_zero, List.set_cons_succ, if_true, if_false, Bool.false_eq_true, Bool.not_true, Bool.not_false, ↓v0, ↓v1, ↓h_tn, ↓h_tb, ↓h_ti, ↓h_ts, ↓h_tt, ↓h_tscr, ↓h_bl, ↓h_le, ↓h_lt, ↓h_gt, ↓h_ge, ↓h_isn, ↓h_isnn, ↓h_eqi, ↓h_nei, ↓h_lenT, ↓h_add, ↓h_sub, ↓h_int, ↓h_intb, ↓h_x0, ↓h_x1, ↓h_x2, ↓h_x3, ↓h_if, ↓h_if2, ↓nP_int, ↓iP_int, ↓tP_bl, List.length_cons, List.length_nil, Nat.zero_add, Nat.reduceAdd, Nat.reduceLT, vP_some, oP_some, uP_some, k_NoneType_bool, k_NoneType_int, k_NoneType_str, k_NoneType_tuple, k_NoneType_list, k_NoneType_dict, k_bool_bool, k_bool_int, k_bool_str, k_bool_tuple, k_bool_list, k_bool_dict, k_int_bool, k_int_int, k_int_str, k_int_tuple, k_int_list, k_int_dict, k_str_bool, k_str_int, k_str_str, k_str_tuple, k_str_list, k_str_dict, k_tuple_bool, k_tuple_int, k_tuple_str, k_tuple_tuple, k_tuple_list, k_tuple_dict, k_list_bool, k_list_int, k_list_str, k_list_tuple, k_list_list, k_list_dict, k_dict_bool, k_dict_int, k_dict_str, k_dict_tuple, k_dict_list, k_dict_dict, n_non, n_int, n_bl, n_tup, n_str, n_ref])
section
variable {C : Cf} {S S' : Sto} {n j : Nat} {P : D → Sto → Prop} {E : Nat → D → Sto → Prop}
theorem statement_of_W (h : CfOk C) (hn : 1 ≤ n) {ks : List Dde} {w : Int} (hl : ks.length ≤ 1000) (q : ∀ S', Kp [] S S' → P (.tup ((ownK ks w).map stD)) S') : (callF C n 27 [.tup (ks.map Dde.deed), .int w] S).W P E := by
  obtain ⟨m, rfl⟩ : ∃ m, n = m + 1 := ⟨n - 1, by omega⟩
  rw [W_call h.p27 rfl (by decide), ir27]
  try walk_at "mp"
  rw [W_for]
  try walk_at "mp"
  refine W_forK (xs := ks.map Dde.deed) (fun i ρ S1 => (∃ o3, ρ = [some (.tup (ks.map Dde.deed)), some (.int w), some (.ref S.length), o3]) ∧ Kp [] S S1 ∧ S1[S.length]? = some (.lst ((ownK (ks.take i) w).map stD))) (fun i ρ S1 _ => rfl) (fun i ρ S1 x hI hx => ?_) (fun ρ S1 hI => ?_) _ 0 _ _ ⟨⟨_, rfl⟩, Kp.app _ _, new_at _ _⟩ (Nat.zero_le _) (Nat.le_refl _)
  · obtain ⟨⟨o3, rfl⟩, k1, e1⟩ := hI
    rw [List.getElem?_map, Option.map_eq_some_iff] at hx
    obtain ⟨d, hd, rfl⟩ := hx
    have ht : ks.take (i + 1) = ks.take i ++ [d] := by rw [List.take_add_one, hd]; rfl
    have sz : ((ownK (ks.take i) w).map stD).length < sizeLine := by
      rw [List.length_map]
      have a := ownK_len (ks := ks.take i) (w := w)
      have b := List.length_take_le' i ks
      exact Nat.lt_of_le_of_lt (show _ ≤ 1000 by omega) (by decide)
    have own : ownK (ks.take i ++ [d]) w = ownK (ks.take i) w ++ (if d.who = w then [d] else []) := by
      unfold ownK
      rw [List.filter_append]
      by_cases h : d.who = w <;> simp [h]
    rw [ht, own]
    rw [W_turn]
    cases d with
    | bill b =>
      simp only [Dde.deed, Bi.d]
      try walk_at "mp"
      rw [h_eqs book_ok book_ok, decide_eq_true rfl, if_pos rfl]
      by_cases hw : b.w = w
      · rw [decide_eq_true hw, if_pos rfl, if_pos (by rw [h_lst e1]; rfl), cut1, h_addT (by simp), h_app e1 sz]
        rw [h_eqs book_ok pay_ok, book_pay, if_neg (by decide)]
        refine ⟨⟨_, rfl⟩, k1.setN (Nat.le_refl _), ?_⟩
        rw [at_set e1, if_pos (show Dde.who (.bill b) = w from hw), List.map_append]
        rfl
      · rw [decide_eq_false hw, if_neg (by decide)]
        rw [h_eqs book_ok pay_ok, book_pay, if_neg (by decide)]
        refine ⟨⟨_, rfl⟩, k1, ?_⟩
        rw [e1, if_neg (show ¬ Dde.who (.bill b) = w from hw), List.append_nil]
    | pay v a =>
      simp only [Dde.deed]
      try walk_at "mp"
      rw [h_eqs pay_ok book_ok, pay_book, if_neg (by decide), h_eqs pay_ok pay_ok, decide_eq_true rfl, if_pos rfl]
      by_cases hw : v = w
      · rw [decide_eq_true hw, if_pos rfl, if_pos (by rw [h_lst e1]; rfl), h_app e1 sz]
        refine ⟨⟨_, rfl⟩, k1.setN (Nat.le_refl _), ?_⟩
        rw [at_set e1, if_pos (show Dde.who (.pay v a) = w from hw), List.map_append]
        rfl
      · rw [decide_eq_false hw, if_neg (by decide)]
        refine ⟨⟨_, rfl⟩, k1, ?_⟩
        rw [e1, if_neg (show ¬ Dde.who (.pay v a) = w from hw), List.append_nil]
  · obtain ⟨⟨o3, rfl⟩, k1, e1⟩ := hI
    rw [List.length_map, List.take_of_length_le (Nat.le_refl _)] at e1
    try walk_at "mp"
    rw [h_tupL e1]
    exact q _ k1
def inK (is : List Int) (ks : List Dde) : List Dde := ks.filter fun d => decide (d.who ∈ is)
theorem eqF_any {w : Int} : ∀ is : List Int, ((is.map D.int).any fun y => eqF y (.int w)) = decide (w ∈ is)
  | [] => rfl
  | i :: r => by
    rw [List.map_cons, List.any_cons, eqF_any r]
    by_cases h : i = w
    · subst h; simp [eqF]
    · have : (w = i) = False := by simp; exact fun e => h e.symm
      simp [eqF, h, this]
theorem h_in {w : Int} {is : List Int} {Pb : Bool → Sto → Prop} : oP Pb S' (cmpD C .In S (.int w) (.tup (is.map D.int))) = Pb (decide (w ∈ is)) S' := by
  have f : (flatD (.int w) && (is.map D.int).all flatD) = true := by
    simp [flatD]
  simp only [cmpD, inD]
  rw [if_pos f, eqF_any]
  rfl
theorem rd_one {x : Int} : rdD x 1 = .tup [.int x, .int 1] := by
  unfold rdD rd
  simp
theorem sums_of_W (h : CfOk C) (hn : 3 ≤ n) {ks : List Dde} {is : List Int} {B : Int} (ok : ∀ d ∈ ks, d.ok) (hl : ks.length ≤ 1000) (hB : Com B (billsK ks)) (q : P (.tup [rdD (topB B (billsK (inK is ks))) B, .tup [.int (payK (inK is ks)), .int 1]]) S) : (callF C n 28 [.tup (ks.map Dde.deed), .tup (is.map D.int)] S).W P E := by
  obtain ⟨m, rfl⟩ : ∃ m, n = m + 1 := ⟨n - 1, by omega⟩
  rw [W_call h.p28 rfl (by decide), ir28]
  try walk_at "mp"
  rw [W_for]
  try walk_at "mp"
  refine W_forK (xs := ks.map Dde.deed) (fun i ρ S1 => S1 = S ∧ ∃ o4, ρ = [some (.tup (ks.map Dde.deed)), some (.tup (is.map D.int)), some (rdD (topB B (billsK (inK is (ks.take i)))) B), some (.tup [.int (payK (inK is (ks.take i))), .int 1]), o4]) (fun i ρ S1 _ => rfl) (fun i ρ S1 x hI hx => ?_) (fun ρ S1 hI => ?_) _ 0 _ _ ⟨rfl, none, by
      rw [show topB B (billsK (inK is (ks.take 0))) = 0 from rfl, rd_zero hB.pos]
      rfl⟩ (Nat.zero_le _) (Nat.le_refl _)
  · obtain ⟨rfl, o4, rfl⟩ := hI
    rw [List.getElem?_map, Option.map_eq_some_iff] at hx
    obtain ⟨d, hd, rfl⟩ := hx
    have ht : ks.take (i + 1) = ks.take i ++ [d] := by rw [List.take_add_one, hd]; rfl
    have hm := List.mem_of_getElem? hd
    have od := ok d hm
    have inn : inK is (ks.take i ++ [d]) = inK is (ks.take i) ++ (if d.who ∈ is then [d] else []) := by
      unfold inK
      rw [List.filter_append]
      by_cases h : d.who ∈ is <;> simp [h]
    rw [ht, inn]
    rw [W_turn]
    cases d with
    | bill b =>
      have b1 := od.n0
      have b2 := od.n1
      simp only [Dde.deed, Bi.d]
      try walk_at "mp"
      rw [h_eqs book_ok book_ok, decide_eq_true rfl, if_pos rfl, h_in]
      by_cases hw : b.w ∈ is
      · rw [decide_eq_true hw, if_pos rfl, cut2]
        refine added_bill_W h (by omega) hB.pos hB.lt od.s0 od.s1 (hB.dv b (List.mem_filterMap.mpr ⟨_, hm, rfl⟩)) (by omega) ?_
        rw [h_eqs book_ok pay_ok, book_pay, if_neg (by decide), if_pos (show Dde.who (.bill b) ∈ is from hw)]
        refine ⟨by trivial, some (.tup [.str "book", .tup [.int b.w, .int b.x, .int b.nu, .int b.sc]]), ?_⟩
        have e1 : billsK (inK is (ks.take i) ++ [Dde.bill b]) = billsK (inK is (ks.take i)) ++ [b] := by simp [billsK, Dde.bi]
        have e2 : payK (inK is (ks.take i) ++ [Dde.bill b]) = payK (inK is (ks.take i)) := by simp [payK, Dde.am]
        rw [e1, e2, topB_snoc]
      · rw [decide_eq_false hw, if_neg (by decide)]
        rw [h_eqs book_ok pay_ok, book_pay, if_neg (by decide), if_neg (show ¬ Dde.who (.bill b) ∈ is from hw), List.append_nil]
        exact ⟨by trivial, _, rfl⟩
    | pay v a =>
      simp only [Dde.deed]
      try walk_at "mp"
      rw [h_eqs pay_ok book_ok, pay_book, if_neg (by decide), h_eqs pay_ok pay_ok, decide_eq_true rfl, if_pos rfl, h_in]
      have a0 := od.2.2.1
      have a1 := od.2.2.2
      by_cases hw : v ∈ is
      · rw [decide_eq_true hw, if_pos rfl]
        refine added_W h (by omega) (by decide) (by decide) (by decide) (by omega) (by exact Nat.lt_of_lt_of_le (show ((1 : Int) * 1).natAbs < 2 by decide) (show 2 ≤ lim from Nat.le_self_pow (by decide) 2)) ?_
        rw [if_pos (show Dde.who (.pay v a) ∈ is from hw)]
        refine ⟨by trivial, some (.tup [.str "pay", .int v, .int a]), ?_⟩
        have e1 : billsK (inK is (ks.take i) ++ [Dde.pay v a]) = billsK (inK is (ks.take i)) := by simp [billsK, Dde.bi]
        have e2 : payK (inK is (ks.take i) ++ [Dde.pay v a]) = payK (inK is (ks.take i)) + a := by simp [payK, Dde.am]
        rw [e1, e2, Int.mul_one, Int.mul_one, Int.mul_one, rd_one]
      · rw [decide_eq_false hw, if_neg (by decide), if_neg (show ¬ Dde.who (.pay v a) ∈ is from hw), List.append_nil]
        exact ⟨by trivial, _, rfl⟩
  · obtain ⟨rfl, o4, rfl⟩ := hI
    rw [List.length_map, List.take_of_length_le (Nat.le_refl _)]
    try walk_at "mp"
    exact q
theorem inK_one {ks : List Dde} {w : Int} : inK [w] ks = ownK ks w := by
  unfold inK ownK
  congr 1
  funext d
  simp
theorem inK_all {ks : List Dde} (ok : ∀ d ∈ ks, d.ok) : inK ((List.range 100).map fun (j : Nat) => (j : Int)) ks = ks := by
  unfold inK
  rw [List.filter_eq_self]
  intro d hd
  have o := ok d hd
  have w : 0 ≤ d.who ∧ d.who ≤ 99 := by
    cases d with
    | bill b => exact ⟨o.w0, o.w1⟩
    | pay v a => exact ⟨o.1, o.2.1⟩
  rw [decide_eq_true_iff, List.mem_map]
  exact ⟨d.who.toNat, by rw [List.mem_range]; omega, by omega⟩
theorem balance_of_W (h : CfOk C) (hn : 4 ≤ n) {ks : List Dde} {w B : Int} (ok : ∀ d ∈ ks, d.ok) (hl : ks.length ≤ 1000) (hB : Com B (billsK ks)) (q : P (balB B (ownK ks w)) S) : (callF C n 29 [.tup (ks.map Dde.deed), .int w] S).W P E := by
  obtain ⟨m, rfl⟩ : ∃ m, n = m + 1 := ⟨n - 1, by omega⟩
  rw [W_call h.p29 rfl (by decide), ir29]
  try walk_at "mp"
  refine sums_of_W h (by omega) (is := [w]) ok hl hB ?_
  try walk_at "mp"
  rw [inK_one]
  obtain ⟨p0, p1⟩ := payK_le (ks := ownK ks w) fun d hd => ok d (ownK_sub d hd)
  have ol := ownK_len (ks := ks) (w := w)
  refine added_bill_W h (by omega) hB.pos hB.lt (by decide) (by decide) (Int.one_dvd _) (by omega) ?_
  rw [Int.ediv_one]
  have e : topB B (billsK (ownK ks w)) + -payK (ownK ks w) * B = topB B (billsK (ownK ks w)) - payK (ownK ks w) * B := by
    rw [Int.neg_mul]
    omega
  rw [e]
  exact q
theorem h_tupR : uP P (bltD C .tupR S (.int 100 :: [])) = P (.tup (((List.range 100).map fun (j : Nat) => (j : Int)).map D.int)) S := by
  have e : ((List.range 100).map fun (j : Nat) => (j : Int)).map D.int = (List.range (100 : Int).toNat).map fun (j : Nat) => D.int j := by
    rw [List.map_map]
    rfl
  rw [e]
  simp only [bltD]
  rw [if_pos ⟨by decide, by decide⟩]
  rfl
theorem rd_pl {T B : Int} : Pl 2 (rdD T B) := .tup (fun x hx => by
  simp only [List.mem_cons, List.not_mem_nil, or_false] at hx
  rcases hx with rfl | rfl <;> exact .int) (by simp)
theorem st_pl (d : Dde) : Pl 2 (stD d) := by
  cases d with
  | bill b =>
    refine .tup (fun x hx => ?_) (by simp)
    simp only [List.mem_cons, List.not_mem_nil, or_false] at hx
    rcases hx with rfl | rfl | rfl | rfl
    · exact .str bill_ok
    · exact .int
    · exact .int
    · exact .int
  | pay v a =>
    refine .tup (fun x hx => ?_) (by simp)
    simp only [List.mem_cons, List.not_mem_nil, or_false] at hx
    rcases hx with rfl | rfl
    · exact .str pay_ok
    · exact .int
theorem Pl.up {k : Nat} : ∀ {d : D}, Pl k d → Pl (k + 1) d := by
  induction k with
  | zero => intro d h; cases h
  | succ k ih =>
    intro d h
    cases h with
    | non => exact .non
    | bl => exact .bl
    | int => exact .int
    | str hx => exact .str hx
    | tup hx hl => exact .tup (fun x h => ih (hx x h)) hl
def bsD (B : Int) (ks : List Dde) (w : Int) : D := .tup [balB B (ownK ks w), .tup ((ownK ks w).map stD)]
theorem bs_pl' {B w : Int} {ks : List Dde} (hl : ks.length ≤ 1000) : Pl 4 (bsD B ks w) := .tup (fun x hx => by
  simp only [List.mem_cons, List.not_mem_nil, or_false] at hx
  rcases hx with rfl | rfl
  · exact rd_pl.up
  · exact .tup (fun x hx => by
      obtain ⟨d, _, rfl⟩ := List.mem_map.mp hx
      exact st_pl d) (by
        rw [List.length_map]
        have := ownK_len (ks := ks) (w := w)
        omega)) (by simp)
theorem book_told_W (h : CfOk C) (hn : 8 ≤ n) {o r : Nat} {ks : List Dde} {ws : List Int} (ac : Acc S o r ks) (hl : ks.length ≤ 60) (hw : ∀ w ∈ ws, 0 ≤ w ∧ w ≤ 99) (wl : ws.length ≤ 100) (q : ∀ S', Kp [] S S' → P (.bl true) S') : (callF C n 30 [.ref o, .tup (ks.map Dde.deed), .tup (ws.map D.int)] S).W P E := by
  obtain ⟨m, rfl⟩ : ∃ m, n = m + 1 := ⟨n - 1, by omega⟩
  rw [W_call h.p30 rfl (by decide), ir30]
  obtain ⟨B, hB⟩ := com_small (billsK_ok ac.ok) (Nat.le_trans billsK_len hl)
  try walk_at "mp"
  rw [W_omtV rfl ac.eo (mt_total h) (lk (by decide +kernel))]
  try walk_at "mp"
  refine total_W h (by omega) ac (by omega) hB fun S1 k1 => ?_
  rw [h_tupR]
  refine sums_of_W h (by omega) ac.ok (by omega) hB ?_
  rw [inK_all ac.ok]
  refine same_W h 3 (.tup (fun x hx => ?_) (by simp)) (by omega) ?_
  · simp only [List.mem_cons, List.not_mem_nil, or_false] at hx
    rcases hx with rfl | rfl
    · exact rd_pl
    · exact .tup (fun x hx => by
        simp only [List.mem_cons, List.not_mem_nil, or_false] at hx
        rcases hx with rfl | rfl <;> exact .int) (by simp)
  try walk_at "mp"
  rw [W_comp]
  try walk_at "mp"
  have ac1 := ac.kp k1 (by simp) (by simp)
  refine comp_map (xs := ws.map D.int) (fun d => match d with
    | .int w => some (bsD B ks w)
    | _ => none) (by simp; omega) rfl (fun S1 i _ => rfl) (fun x S2 hx k2 => ?_) fun S2 e2 k2 => ?_
  · obtain ⟨w, hww, rfl⟩ := List.mem_map.mp hx
    obtain ⟨w0, w1⟩ := hw w hww
    have ac2 := ac1.kp k2 (by simp) (by simp)
    rw [W_turnC]
    simp only [wipeR]
    try walk_at "mp"
    simp only [W_Ifnil]
    try walk_at "mp"
    rw [W_omtV rfl ac2.eo (mt_balance h) (lk (by decide +kernel))]
    try walk_at "mp"
    refine balance_W h (by omega) ac2 (by omega) w0 w1 hB fun S3 k3 => ?_
    have ac3 := ac2.kp k3 (by simp) (by simp)
    rw [W_omtV rfl ac3.eo (mt_statement h) (lk (by decide +kernel))]
    try walk_at "mp"
    refine statement_W h (by omega) ac3 (by omega) w0 w1 fun S4 k4 => ?_
    exact ⟨rfl, k3.trans k4⟩
  rw [W_comp]
  try walk_at "mp"
  refine comp_map (xs := ws.map D.int) (fun d => match d with
    | .int w => some (bsD B ks w)
    | _ => none) (by simp; omega) rfl (fun S1 i _ => rfl) (fun x S3 hx k3 => ?_) fun S3 e3 k3 => ?_
  · obtain ⟨w, hww, rfl⟩ := List.mem_map.mp hx
    rw [W_turnC]
    simp only [wipeR]
    try walk_at "mp"
    simp only [W_Ifnil]
    try walk_at "mp"
    refine balance_of_W h (by omega) ac.ok (by omega) hB ?_
    refine statement_of_W h (by omega) (by omega) fun S4 k4 => ?_
    exact ⟨rfl, k4⟩
  refine sameL_W h (k := 4) (fun y hy => ?_) (by
    refine Nat.le_trans (List.length_filterMap_le _ _) ?_
    rw [List.length_map]
    omega) (by omega) (k3.at_ e2 (by simp)) e3 ?_
  · obtain ⟨x, hx, e⟩ := List.mem_filterMap.mp hy
    obtain ⟨w, _, rfl⟩ := List.mem_map.mp hx
    cases e
    exact bs_pl' (by omega)
  · try walk_at "mp"
    exact q _ (k1.trans (k2.trans k3))
theorem odd_asked_W (h : CfOk C) (hn : 6 ≤ n) {o r : Nat} {ks : List Dde} (hj : JarAt S j) (ac : Acc S o r ks) (ho : o ≠ j) (hr : r ≠ j) (q : ∀ S', JarAt S' j → Kp [j] S S' → P (.bl true) S') : (callF C n 46 [.ref j, .ref o] S).W P E := by
  obtain ⟨m, rfl⟩ : ∃ m, n = m + 1 := ⟨n - 1, by omega⟩
  rw [W_call h.p46 rfl (by decide), ir46]
  have w43 := h.wd.2.2.2.2.1
  try walk_at "mp"
  refine oneL_W h (by omega) hj (by simp) (by simp) fun d1 S1 m1 j1 k1 => ?_
  have ac1 := ac.kp k1 (by simp [ho]) (by simp [hr])
  have key : okD S1 d1 ∧ isWh d1 0 99 = false ∧ Pl 2 d1 := by
    simp only [List.mem_cons, List.not_mem_nil, or_false] at m1
    rcases m1 with rfl | rfl | rfl | rfl | rfl | rfl
    · exact ⟨trivial, by decide, .int⟩
    · exact ⟨trivial, by decide, .int⟩
    · exact ⟨trivial, rfl, .bl⟩
    · exact ⟨trivial, rfl, .non⟩
    · exact ⟨trivial, rfl, .str (by decide +kernel)⟩
    · refine ⟨trivial, rfl, .tup (fun x hx => ?_) (by simp)⟩
      simp only [List.mem_cons, List.not_mem_nil, or_false] at hx
      rw [hx]
      exact .int
  obtain ⟨ok, hw, pl⟩ := key
  try walk_at "mp"
  rw [WB_any]
  try walk_at "mp"
  rw [W_omtV rfl ac1.eo (mt_balance h) (lk (by decide +kernel))]
  try walk_at "mp"
  refine balance_bad_W h (by omega) ac1 ok hw ?_
  rw [w43]
  refine same_W h 3 (wd_pl pl (by decide +kernel)) (by omega) ?_
  try walk_at "mp"
  rw [W_omtV rfl ac1.eo (mt_statement h) (lk (by decide +kernel))]
  try walk_at "mp"
  refine statement_bad_W h (by omega) ac1 ok hw ?_
  rw [w43]
  refine same_W h 3 (wd_pl pl (by decide +kernel)) (by omega) ?_
  exact q _ j1 k1
end
end HB
end MXd
section MXe
set_option Elab.async false
set_option linter.all false
set_option maxRecDepth 100000
set_option maxHeartbeats 2000000
namespace HB
open PySem MP L2
local macro_rules | `(tactic| walk_at "mp") => `(tactic| simp only [↓W_seq, ↓W_nil, ↓W_if, ↓W_ret, ↓W_asg, ↓W_asgT, ↓W_Tname, ↓W_Ttup, ↓W_Tsnil, ↓W_Tscons, ↓W_Tsub, ↓W_Tfld, ↓W_Iseq, ↓W_Ienum, ↓W_Irng, ↓rP_int, ↓h_seqT, ↓h_enumT, ↓h_pow6, ↓h_pow12, ↓h_pow15, ↓W_expr, ↓W_raise, ↓W_par, ↓WB_or, ↓WB_and, ↓WB_not, ↓WB_cmpP, ↓WB_isiP, ↓WB_call, ↓WB_var, ↓h_isb, ↓h_isiS, ↓h_isiT, ↓h_isiI, ↓h_isiB, ↓h_isiN, ↓W_var, ↓W_cst, ↓W_bin, ↓W_neg, ↓W_cmp, ↓W_and, ↓W_or, ↓W_not, ↓W_ife, ↓W_tup, ↓W_lst, ↓W_dct, ↓W_callE, ↓W_blt, ↓W_mth, ↓W_fld, ↓W_idx, ↓W_slc, ↓W_Ono, ↓W_Oso, ↓W_Lnil, ↓W_Lcons, ↓W_heard, ↓W_tells, ↓W_refuses,
  ↓h_slcT, ↓h_lstT, sz0, sz1, sz2, sz3, sz4, sz5, sz6, sz7, sz8, sz9, sz10, ↓reduceIte, List.getElem?_cons_zero, List.getElem?_cons_succ, List.map_cons, List.map_nil, List.cons_append, List.nil_append, List.append_nil, Nat.sub_self, List.replicate_zero, List.replicate_succ, List.set_cons_zero, List.set_cons_succ, if_true, if_false, Bool.false_eq_true, Bool.not_true, Bool.not_false, ↓v0, ↓v1, ↓h_tn, ↓h_tb, ↓h_ti, ↓h_ts, ↓h_tt, ↓h_tscr, ↓h_bl, ↓h_le, ↓h_lt, ↓h_gt, ↓h_ge, ↓h_isn, ↓h_isnn, ↓h_eqi, ↓h_nei, ↓h_lenT, ↓h_add, ↓h_sub, ↓h_int, ↓h_intb, ↓h_x0, ↓h_x1, ↓h_x2, ↓h_x3, ↓h_if, ↓h_if2, ↓nP_int, ↓iP_int, ↓tP_bl, List.length_cons, List.length_nil, Nat.zero_add, Nat.reduceAdd, Nat.reduceLT, vP_some, oP_some, uP_some, k_NoneType_bool, k_NoneType_int, k_NoneType_str, k_NoneType_tuple, k_NoneType_list, k_NoneType_dict, k_bool_bool, k_bool_int, k_bool_str, k_bool_tuple, k_bool_list, k_bool_dict, k_int_bool, k_int_int, k_int_str, k_int_tuple, k_int_list, k_int_dict, k_str_bool, k_str_int, k_str_str, k_str_tuple, k_str_list, k_str_dict, k_tuple_bool, k_tuple_int, k_tuple_str, k_tuple_tuple, k_tuple_list, k_tuple_dict, k_list_bool, k_list_int, k_list_str, k_list_tuple, k_list_list, k_list_dict, k_dict_bool, k_dict_int, k_dict_str, k_dict_tuple, k_dict_list, k_dict_dict, n_non, n_int, n_bl, n_tup, n_str, n_ref])
section
variable {C : Cf} {S S' : Sto} {n j : Nat} {P : D → Sto → Prop} {E : Nat → D → Sto → Prop}
theorem init_W (h : CfOk C) (hn : 1 ≤ n) {o : Nat} (e : S[o]? = some (.ins 0 [])) (q : P .non ((S ++ [O.lst []]).set o (.ins 0 [("_rows", .ref S.length)]))) : (callF C n 49 [.ref o] S).W P E := by
  obtain ⟨m, rfl⟩ : ∃ m, n = m + 1 := ⟨n - 1, by omega⟩
  rw [W_call h.p49 rfl (by decide), ir49]
  try walk_at "mp"
  have e' := (Kp.app S [O.lst []]).at_ e (by simp)
  have es : setA (S ++ [O.lst []]) "_rows" (.ref S.length) (.ref o) = some ((S ++ [O.lst []]).set o (.ins 0 [("_rows", .ref S.length)])) := by
    simp only [setA, e']
    rw [if_pos (by decide)]
    rfl
  rw [es]
  exact q
theorem mk_W (h : CfOk C) (hn : 1 ≤ n) {ρ : Rho} (q : ∀ S', Acc S' S.length (S.length + 1) [] → Kp [] S S' → S'.length = S.length + 2 → P (.ref S.length) S') : (evE C (callF C n) (.mk 0 .nil) ρ S).W P E := by
  rw [evE, W_bind, W_Lnil]
  simp only [h.ini]
  rw [W_bind]
  refine init_W h hn (new_at _ _) ?_
  show P (.ref S.length) _
  have e1 := (Kp.app (S ++ [.ins 0 []]) [O.lst []]).at_ (new_at S (.ins 0 [])) (by simp)
  refine q _ ⟨?_, ?_, nofun⟩ ?_ ?_
  · rw [at_set e1]
    simp
  · rw [List.getElem?_set_ne (by omega)]
    have := new_at (S ++ [.ins 0 []]) (O.lst [])
    simp only [List.length_append, List.length_cons, List.length_nil, Nat.zero_add] at this
    exact this
  · exact ((Kp.app S _).trans (Kp.app _ _)).setN (Nat.le_refl _)
  · simp
theorem sel {α : Type} {a : Nat → α} {i : Nat} (h : i < 2) : [a 0, a 1][i]? = some (a i) := by
  match i, h with
  | 0, _ => rfl
  | 1, _ => rfl
def upd {α : Type} (a : Nat → α) (i : Nat) (x : α) : Nat → α := fun k => if k = i then x else a k
theorem sel_set {α : Type} {a : Nat → α} {i : Nat} {x : α} (h : i < 2) : [a 0, a 1].set i x = [upd a i x 0, upd a i x 1] := by
  match i, h with
  | 0, _ => rfl
  | 1, _ => rfl
theorem h_setL {xs : List D} {r i : Nat} {v : D} {Q : Sto → Prop} (h : S[r]? = some (.lst xs)) (hi : i < xs.length) : sP Q (setD S (.ref r) (.int (i : Nat)) v) = Q (S.set r (.lst (xs.set i v))) := by
  have e : setD S (.ref r) (.int (i : Nat)) v = some (S.set r (.lst (xs.set i v))) := by
    simp only [setD, h]
    unfold L2.ixN
    rw [if_pos (by omega), if_pos (by omega)]
    simp
  rw [e]
  rfl
/-- all places are apart -/
structure Ap (j s k : Nat) (o r : Nat → Nat) : Prop where
  js : j ≠ s
  jk : j ≠ k
  sk : s ≠ k
  oj : ∀ i, i < 2 → o i ≠ j
  rj : ∀ i, i < 2 → r i ≠ j
  os : ∀ i, i < 2 → o i ≠ s
  rs : ∀ i, i < 2 → r i ≠ s
  ok : ∀ i, i < 2 → o i ≠ k
  rk : ∀ i, i < 2 → r i ≠ k
  or : ∀ i l, i < 2 → l < 2 → o i ≠ r l
  rr : ∀ i l, i < 2 → l < 2 → i ≠ l → r i ≠ r l
structure St (S : Sto) (j s k : Nat) (o r : Nat → Nat) (ks : Nat → List Dde) : Prop where
  jar : JarAt S j
  es : S[s]? = some (.lst [.ref (o 0), .ref (o 1)])
  ek : S[k]? = some (.lst [.tup ((ks 0).map Dde.deed), .tup ((ks 1).map Dde.deed)])
  ac : ∀ i, i < 2 → Acc S (o i) (r i) (ks i)
section
variable {s k : Nat} {o r : Nat → Nat} {ks : Nat → List Dde}
theorem St.kp (a : Ap j s k o r) (t : St S j s k o r ks) (c : Kp [j] S S') (hj : JarAt S' j) : St S' j s k o r ks := ⟨hj, c.at_ t.es (by simp; exact a.js.symm), c.at_ t.ek (by simp; exact a.jk.symm), fun i hi => (t.ac i hi).kp c (by simp; exact a.oj i hi) (by simp; exact a.rj i hi)⟩
theorem St.kp0 (a : Ap j s k o r) (t : St S j s k o r ks) (c : Kp [] S S') : St S' j s k o r ks := t.kp a c.to (t.jar.kp c (by simp))
theorem St.did (a : Ap j s k o r) (t : St S j s k o r ks) {i : Nat} (hi : i < 2) {ks' : List Dde} (c : Kp [r i] S S') (ac : Acc S' (o i) (r i) ks') : St (S'.set k (.lst [.tup ((upd ks i ks' 0).map Dde.deed), .tup ((upd ks i ks' 1).map Dde.deed)])) j s k o r (upd ks i ks') := by
  have ck : S'[k]? = some (.lst [.tup ((ks 0).map Dde.deed), .tup ((ks 1).map Dde.deed)]) := c.at_ t.ek (by simp; exact fun e => a.rk i hi e.symm)
  have cc : Kp [k] S' (S'.set k (.lst [.tup ((upd ks i ks' 0).map Dde.deed), .tup ((upd ks i ks' 1).map Dde.deed)])) := Kp.set (by simp)
  refine ⟨(t.jar.kp c (by simp; exact fun e => a.rj i hi e.symm)).kp cc (by simp; exact a.jk), cc.at_ (c.at_ t.es (by simp; exact fun e => a.rs i hi e.symm)) (by simp; exact a.sk), at_set ck, fun l hl => ?_⟩
  by_cases e : l = i
  · subst e
    have : upd ks l ks' l = ks' := if_pos rfl
    rw [this]
    exact ac.kp cc (by simp; exact a.ok l hl) (by simp; exact a.rk l hl)
  · have : upd ks i ks' l = ks l := if_neg e
    rw [this]
    exact ((t.ac l hl).kp c (by simp; exact a.or l i hl hi) (by simp; exact a.rr l i hl hi e)).kp cc (by simp; exact a.ok l hl) (by simp; exact a.rk l hl)
theorem St.xs (t : St S j s k o r ks) {i : Nat} (hi : i < 2) {P : D → Sto → Prop} : oP P S' (ixD C S (.ref s) (.int (i : Nat))) = P (.ref (o i)) S' := h_xLn t.es (sel (a := fun i => D.ref (o i)) hi)
theorem St.xk (t : St S j s k o r ks) {i : Nat} (hi : i < 2) {P : D → Sto → Prop} : oP P S' (ixD C S (.ref k) (.int (i : Nat))) = P (.tup ((ks i).map Dde.deed)) S' := h_xLn t.ek (sel (a := fun i => D.tup ((ks i).map Dde.deed)) hi)
theorem accounts_right_W (h : CfOk C) (hn : 9 ≤ n) (hj : JarAt S j) (q : ∀ S', P (.bl true) S') : (callF C n 47 [.ref j] S).W P E := by
  obtain ⟨m, rfl⟩ : ∃ m, n = m + 1 := ⟨n - 1, by omega⟩
  rw [W_call h.p47 rfl (by decide), ir47]
  try walk_at "mp"
  refine mk_W h (by omega) fun S1 ac1 k1 l1 => ?_
  refine mk_W h (by omega) fun S2 ac2 k2 l2 => ?_
  try walk_at "mp"
  have hj0 := hj.lt
  have kA := Kp.app S2 [.lst [.ref S.length, .ref S1.length]]
  have kB := Kp.app (S2 ++ [.lst [.ref S.length, .ref S1.length]]) [.lst [.tup [], .tup []]]
  have ap : Ap j S2.length (S2 ++ [O.lst [.ref S.length, .ref S1.length]]).length (fun i => if i = 0 then S.length else S1.length) (fun i => if i = 0 then S.length + 1 else S1.length + 1) := by
    simp only [List.length_append, List.length_cons, List.length_nil]
    constructor <;> (try intro i) <;> (try intro l) <;> (try split) <;> (try split) <;> omega
  have t0 : St (S2 ++ [O.lst [.ref S.length, .ref S1.length]] ++ [O.lst [.tup [], .tup []]]) j S2.length (S2 ++ [O.lst [.ref S.length, .ref S1.length]]).length (fun i => if i = 0 then S.length else S1.length) (fun i => if i = 0 then S.length + 1 else S1.length + 1) (fun _ => []) := by
    refine ⟨(((hj.kp k1 (by simp)).kp k2 (by simp)).kp kA (by simp)).kp kB (by simp), kB.at_ (new_at _ _) (by simp), new_at _ _, fun i hi => ?_⟩
    match i, hi with
    | 0, _ => exact ((ac1.kp k2 (by simp) (by simp)).kp kA (by simp) (by simp)).kp kB (by simp) (by simp)
    | 1, _ => exact (ac2.kp kA (by simp) (by simp)).kp kB (by simp) (by simp)
  revert ap t0
  generalize (S2 ++ [O.lst [.ref S.length, .ref S1.length]] ++ [O.lst [.tup [], .tup []]]) = S3
  generalize (S2 ++ [O.lst [.ref S.length, .ref S1.length]]).length = k
  generalize S2.length = s
  generalize (fun i => if i = 0 then S.length else S1.length) = o
  generalize (fun i => if i = 0 then S.length + 1 else S1.length + 1) = r
  intro ap t0
  rw [W_for]
  try walk_at "mp"
  rw [h_rng (by decide) (by decide)]
  refine W_forK (xs := (List.range 60).map fun (j : Nat) => D.int j) (fun i ρ S' => (∃ o3 o4 o5, ρ = [some (.ref j), some (.ref s), some (.ref k), o3, o4, o5]) ∧ i ≤ 60 ∧ ∃ ks, St S' j s k o r ks ∧ ∀ a, a < 2 → (ks a).length ≤ i) (fun i ρ S' _ => rng_at) (fun i ρ S4 x hI hx => ?_) (fun ρ S4 hI => ?_) _ 0 _ _ ⟨⟨_, _, _, rfl⟩, by decide, _, t0, fun a _ => Nat.le_refl _⟩ (Nat.zero_le _) (by simp [Iv.many])
  · obtain ⟨⟨o3, o4, o5, rfl⟩, i60, ks, t, kl⟩ := hI
    rw [List.getElem?_map, Option.map_eq_some_iff] at hx
    obtain ⟨jj, hjj, rfl⟩ := hx
    have hi : i < 60 := by
      have := (List.getElem?_eq_some_iff.mp hjj).1
      simpa using this
    rw [List.getElem?_range hi] at hjj
    cases hjj
    rw [W_turn]
    try walk_at "mp"
    refine take_W h (by omega) t.jar (by omega) (by omega) fun x S5 x0 x1 j5 k5 => ?_
    obtain ⟨a, rfl⟩ := Int.eq_ofNat_of_zero_le x0
    have ha : a < 2 := by omega
    have t5 := t.kp ap k5 j5
    try walk_at "mp"
    rw [t5.xs ha, t5.xk ha]
    refine drawn_book_W h (by omega) t5.jar fun d S6 dd j6 k6 => ?_
    have t6 := t5.kp ap k6 j6
    refine deed_right_W h (by omega) (t6.ac a ha) (ap.or a a ha ha) (by have := kl a ha; omega) dd fun ks' S7 kl' _ ac7 k7 => ?_
    have t8 := t6.did ap ha k7 ac7
    have e7 : S7[k]? = some (.lst [.tup ((ks 0).map Dde.deed), .tup ((ks 1).map Dde.deed)]) := k7.at_ t6.ek (by simp; exact fun e => ap.rk a ha e.symm)
    try walk_at "mp"
    rw [h_setL e7 (by simpa using ha), sel_set (a := fun i => D.tup ((ks i).map Dde.deed)) ha]
    have eu : ∀ l, upd (fun i => D.tup ((ks i).map Dde.deed)) a (.tup (ks'.map Dde.deed)) l = .tup ((upd ks a ks' l).map Dde.deed) := fun l => by
      unfold upd
      split <;> rfl
    rw [eu, eu]
    have kl8 : ∀ l, l < 2 → (upd ks a ks' l).length ≤ i + 1 := fun l hl => by
      unfold upd
      split
      · have := kl a ha
        omega
      · have := kl l hl
        omega
    generalize upd ks a ks' = ks8 at t8 kl8 ⊢
    generalize S7.set k (.lst [.tup ((ks8 0).map Dde.deed), .tup ((ks8 1).map Dde.deed)]) = S8 at t8 ⊢
    try walk_at "mp"
    rw [h_mod (by decide), h_eqi]
    cases decide ((i : Int) % 5 = 0) with
    | true =>
      rw [if_pos rfl, t8.xs ha, t8.xk ha]
      refine book_told_W h (by omega) (ws := [0, 1, 2, 99, 50]) (t8.ac a ha) (Nat.le_trans (kl8 a ha) (by omega)) (by decide) (by simp) fun S9 k9 => ?_
      have t9 := t8.kp0 ap k9
      try walk_at "mp"
      rw [h_mod (by decide), h_eqi]
      cases decide ((i : Int) % 9 = 4) with
      | true =>
        rw [if_pos rfl, (show (1 - (a : Int)) = ((1 - a : Nat) : Int) by omega), t9.xs (by omega), t9.xk (by omega)]
        refine book_told_W h (by omega) (ws := [0, 2, 99]) (t9.ac _ (by omega)) (Nat.le_trans (kl8 _ (by omega)) (by omega)) (by decide) (by simp) fun S10 k10 => ?_
        have t10 := t9.kp0 ap k10
        try walk_at "mp"
        rw [t10.xs ha]
        refine odd_asked_W h (by omega) t10.jar (t10.ac a ha) (ap.oj a ha) (ap.rj a ha) fun S11 j11 k11 => ?_
        try walk_at "mp"
        exact ⟨⟨_, _, _, rfl⟩, by omega, ks8, t10.kp ap k11 j11, kl8⟩
      | false =>
        rw [if_neg (by decide)]
        exact ⟨⟨_, _, _, rfl⟩, by omega, ks8, t9, kl8⟩
    | false =>
      rw [if_neg (by decide)]
      have t9 := t8
      try walk_at "mp"
      rw [h_mod (by decide), h_eqi]
      cases decide ((i : Int) % 9 = 4) with
      | true =>
        rw [if_pos rfl, (show (1 - (a : Int)) = ((1 - a : Nat) : Int) by omega), t9.xs (by omega), t9.xk (by omega)]
        refine book_told_W h (by omega) (ws := [0, 2, 99]) (t9.ac _ (by omega)) (Nat.le_trans (kl8 _ (by omega)) (by omega)) (by decide) (by simp) fun S10 k10 => ?_
        have t10 := t9.kp0 ap k10
        try walk_at "mp"
        rw [t10.xs ha]
        refine odd_asked_W h (by omega) t10.jar (t10.ac a ha) (ap.oj a ha) (ap.rj a ha) fun S11 j11 k11 => ?_
        try walk_at "mp"
        exact ⟨⟨_, _, _, rfl⟩, by omega, ks8, t10.kp ap k11 j11, kl8⟩
      | false =>
        rw [if_neg (by decide)]
        exact ⟨⟨_, _, _, rfl⟩, by omega, ks8, t9, kl8⟩
  · obtain ⟨⟨o3, o4, o5, rfl⟩, _, ks, t, kl⟩ := hI
    rw [List.length_map, List.length_range] at kl
    have kl0 := kl 0 (by decide)
    rw [W_for]
    try walk_at "mp"
    rw [h_xL0 t.ek]
    try walk_at "mp"
    rw [h_rng (by omega) (by simp; omega)]
    refine W_forK (xs := (List.range ((((ks 0).map Dde.deed).length : Int) + 1).toNat).map fun (j : Nat) => D.int j) (fun i ρ S' => (∃ o3 o4 o5, ρ = [some (.ref j), some (.ref s), some (.ref k), o3, o4, o5]) ∧ ∃ ks, St S' j s k o r ks ∧ ∀ a, a < 2 → (ks a).length ≤ 60) (fun i ρ S' _ => rng_at) (fun i ρ S4 x hI hx => ?_) (fun ρ S4 hI => ?_) _ 0 _ _ ⟨⟨_, _, _, rfl⟩, _, t, kl⟩ (Nat.zero_le _) (by simp [Iv.many])
    · obtain ⟨⟨o3, o4, o5, rfl⟩, ks, t, kl⟩ := hI
      rw [List.getElem?_map, Option.map_eq_some_iff] at hx
      obtain ⟨jj, hjj, rfl⟩ := hx
      have kl0 := kl 0 (by decide)
      rw [W_turn]
      try walk_at "mp"
      rw [h_xL0 t.es, h_xL0 t.ek]
      refine deed_right_W h (by omega) (t.ac 0 (by decide)) (ap.or 0 0 (by decide) (by decide)) (by omega) (Deed.undo (j := j) (S := S4)) fun ks' S7 _ kl' ac7 k7 => ?_
      have kl' := kl' rfl
      have t8 : St (S7.set k (.lst [.tup (ks'.map Dde.deed), .tup ((ks 1).map Dde.deed)])) j s k o r (upd ks 0 ks') := t.did ap (by decide) k7 ac7
      have e7 : S7[k]? = some (.lst [.tup ((ks 0).map Dde.deed), .tup ((ks 1).map Dde.deed)]) := k7.at_ t.ek (by simp; exact fun e => ap.rk 0 (by decide) e.symm)
      try walk_at "mp"
      rw [h_set0 e7]
      have kl8 : ∀ l, l < 2 → (upd ks 0 ks' l).length ≤ 60 := fun l hl => by
        unfold upd
        split
        · omega
        · exact kl l hl
      generalize upd ks 0 ks' = ks8 at t8 kl8 ⊢
      generalize S7.set k (.lst [.tup (ks'.map Dde.deed), .tup ((ks 1).map Dde.deed)]) = S8 at t8 ⊢
      try walk_at "mp"
      rw [h_mod (by decide), h_eqi]
      cases decide ((jj : Int) % 4 = 0) with
      | true =>
        rw [if_pos rfl, h_xL0 t8.es, h_xL0 t8.ek]
        refine book_told_W h (by omega) (ws := [0, 1, 2, 99]) (t8.ac 0 (by decide)) (kl8 0 (by decide)) (by decide) (by simp) fun S9 k9 => ?_
        try walk_at "mp"
        exact ⟨⟨_, _, _, rfl⟩, ks8, t8.kp0 ap k9, kl8⟩
      | false =>
        rw [if_neg (by decide)]
        exact ⟨⟨_, _, _, rfl⟩, ks8, t8, kl8⟩
    · obtain ⟨⟨o3, o4, o5, rfl⟩, ks, t, kl⟩ := hI
      try walk_at "mp"
      rw [h_xL0 t.es, h_xL0 t.ek]
      refine book_told_W h (by omega) (ws := [0, 1, 2, 99]) (t.ac 0 (by decide)) (kl 0 (by decide)) (by decide) (by simp) fun S9 k9 => ?_
      have t9 := t.kp0 ap k9
      try walk_at "mp"
      rw [h_xL1 t9.es, h_xL1 t9.ek]
      refine book_told_W h (by omega) (ws := [0, 1, 2, 99]) (t9.ac 1 (by decide)) (kl 1 (by decide)) (by decide) (by simp) fun S10 k10 => ?_
      exact q _
end
end
end HB
end MXe
section MXf
set_option Elab.async false
set_option linter.all false
set_option maxRecDepth 100000
set_option maxHeartbeats 2000000
namespace HB
open PySem MP L2
local macro_rules | `(tactic| walk_at "mp") => `(tactic| simp only [↓W_seq, ↓W_nil, ↓W_if, ↓W_ret, ↓W_asg, ↓W_asgT, ↓W_Tname, ↓W_Ttup, ↓W_Tsnil, ↓W_Tscons, ↓W_Tsub, ↓W_Tfld, ↓W_Iseq, ↓W_Ienum, ↓W_Irng, ↓rP_int, ↓h_seqT, ↓h_enumT, ↓h_pow6, ↓h_pow12, ↓h_pow15, ↓W_expr, ↓W_raise, ↓W_par, ↓WB_or, ↓WB_and, ↓WB_not, ↓WB_cmpP, ↓WB_isiP, ↓WB_call, ↓WB_var, ↓h_isb, ↓h_isiS, ↓h_isiT, ↓h_isiI, ↓h_isiB, ↓h_isiN, ↓W_var, ↓W_cst, ↓W_bin, ↓W_neg, ↓W_cmp, ↓W_and, ↓W_or, ↓W_not, ↓W_ife, ↓W_tup, ↓W_lst, ↓W_dct, ↓W_callE, ↓W_blt, ↓W_mth, ↓W_fld, ↓W_idx, ↓W_slc, ↓W_Ono, ↓W_Oso, ↓W_Lnil, ↓W_Lcons, ↓W_heard, ↓W_tells, ↓W_refuses,
  ↓h_slcT, ↓h_lstT, sz0, sz1, sz2, sz3, sz4, sz5, sz6, sz7, sz8, sz9, sz10, ↓reduceIte, List.getElem?_cons_zero, List.getElem?_cons_succ, List.map_cons, List.map_nil, List.cons_append, List.nil_append, List.append_nil, Nat.sub_self, List.replicate_zero, List.replicate_succ, List.set_cons_zero, List.set_cons_succ, if_true, if_false, Bool.false_eq_true, Bool.not_true, Bool.not_false, ↓v0, ↓v1, ↓h_tn, ↓h_tb, ↓h_ti, ↓h_ts, ↓h_tt, ↓h_tscr, ↓h_bl, ↓h_le, ↓h_lt, ↓h_gt, ↓h_ge, ↓h_isn, ↓h_isnn, ↓h_eqi, ↓h_nei, ↓h_lenT, ↓h_add, ↓h_sub, ↓h_int, ↓h_intb, ↓h_x0, ↓h_x1, ↓h_x2, ↓h_x3, ↓h_if, ↓h_if2, ↓nP_int, ↓iP_int, ↓tP_bl, List.length_cons, List.length_nil, Nat.zero_add, Nat.reduceAdd, Nat.reduceLT, vP_some, oP_some, uP_some, k_NoneType_bool, k_NoneType_int, k_NoneType_str, k_NoneType_tuple, k_NoneType_list, k_NoneType_dict, k_bool_bool, k_bool_int, k_bool_str, k_bool_tuple, k_bool_list, k_bool_dict, k_int_bool, k_int_int, k_int_str, k_int_tuple, k_int_list, k_int_dict, k_str_bool, k_str_int, k_str_str, k_str_tuple, k_str_list, k_str_dict, k_tuple_bool, k_tuple_int, k_tuple_str, k_tuple_tuple, k_tuple_list, k_tuple_dict, k_list_bool, k_list_int, k_list_str, k_list_tuple, k_list_list, k_list_dict, k_dict_bool, k_dict_int, k_dict_str, k_dict_tuple, k_dict_list, k_dict_dict, n_non, n_int, n_bl, n_tup, n_str, n_ref])
section
variable {C : Cf} {S S' : Sto} {n j : Nat} {P : D → Sto → Prop} {E : Nat → D → Sto → Prop}
theorem nub_rep {x : Int} : ∀ k : Nat, nubI (List.replicate (k + 1) x) = [x]
  | 0 => by simp [nubI]
  | k + 1 => by
    rw [List.replicate_succ, nubI, nub_rep k]
    simp
def wideB : Bi := ⟨3, 1, 1, 3⟩
def wide : List Bi := List.replicate 1000 wideB
theorem wideB_ok : wideB.ok := ⟨by decide, by decide, by decide, by decide, by decide, by decide, by decide, by decide⟩
theorem wide_ok : ∀ b ∈ wide, b.ok := fun b hb => by
  rw [List.eq_of_mem_replicate hb]
  exact wideB_ok
theorem wide_nub : nubI (wide.map (·.w)) = [3] := by
  rw [wide, List.map_replicate]
  exact nub_rep 999
theorem wide_com : Com 3 wide := by
  refine ⟨by decide, ?_, fun b hb => ?_⟩
  · exact Nat.lt_of_lt_of_le (show (3 : Int).natAbs * 1000000 < 2 ^ 22 by decide) (Nat.pow_le_pow_right (by decide) (by decide))
  · rw [List.eq_of_mem_replicate hb]
    exact ⟨1, by decide⟩
theorem sum_rep {x : Int} : ∀ k : Nat, (List.replicate k x).sum = k * x
  | 0 => by simp
  | k + 1 => by
    rw [List.replicate_succ, List.sum_cons, sum_rep k, Int.natCast_add, Int.add_mul]
    omega
theorem wide_month : monthL 3 wide = [.tup [.int 3, .int 1000, .int 1000, .int 3]] := by
  have m : mineOf wide 3 = wide := by
    rw [mineOf, List.filter_eq_self]
    intro b hb
    rw [List.eq_of_mem_replicate hb]
    rfl
  have t : topB 3 wide = 1000 := by
    rw [topB, wide, List.map_replicate, sum_rep]
    decide
  rw [monthL, wide_nub]
  show [monthRow 3 3 (mineOf wide 3)] = _
  rw [m, monthRow, t, wide, List.length_replicate]
  have e : rd 1000 3 = (1000, 3) := by decide
  rw [e]
  rfl
theorem law_W (h : CfOk C) (q : ∀ S', P (.bl true) S') : (callF C 16 48 [.scr] S).W P E := by
  rw [W_call h.p48 rfl (by decide), ir48]
  have tl := h.told
  have w51 := h.wd.2.2.2.2.2.2
  try walk_at "mp"
  rw [W_for]
  try walk_at "mp"
  rw [h_rng (by decide) (by decide)]
  refine W_forK (xs := (List.range 3).map fun (j : Nat) => D.int j) (fun i ρ S' => ∃ o1 o2, ρ = [some .scr, o1, o2, none]) (fun i ρ S' _ => rng_at) (fun i ρ S1 x hI hx => ?_) (fun ρ S1 hI => ?_) _ 0 _ _ ⟨_, _, rfl⟩ (Nat.zero_le _) (by simp [Iv.many])
  · obtain ⟨o1, o2, rfl⟩ := hI
    rw [List.getElem?_map, Option.map_eq_some_iff] at hx
    obtain ⟨jj, hjj, rfl⟩ := hx
    have hi : i < 3 := by
      have := (List.getElem?_eq_some_iff.mp hjj).1
      simpa using this
    rw [List.getElem?_range hi] at hjj
    cases hjj
    rw [W_turn]
    try walk_at "mp"
    refine pool_W h (by decide) (by omega) fun r S2 j2 _ _ => ?_
    try walk_at "mp"
    refine some_bills_W h (by decide) j2 fun bs S3 g3 l3 j3 _ => ?_
    refine bills_right_W h (by decide) j3 g3 l3 fun S4 j4 _ => ?_
    try walk_at "mp"
    refine some_day_W h (by decide) j4 fun sc nums pairs whos S5 dy j5 _ => ?_
    refine days_right_W h (by decide) j5 dy fun S6 j6 _ => ?_
    try walk_at "mp"
    refine accounts_right_W h (by decide) j6 fun S7 => ?_
    try walk_at "mp"
    exact ⟨_, _, rfl⟩
  · obtain ⟨o1, o2, rfl⟩ := hI
    have ew : (List.replicate (Int.toNat 1000) [D.tup [.int 3, .int 1, .int 1, .int 3]]).flatten = wide.map Bi.d := by
      rw [wide, List.map_replicate, List.flatten_replicate_singleton]
      rfl
    try walk_at "mp"
    rw [h_mulT (by decide) (by decide) (by simp), ew, WB_any]
    try walk_at "mp"
    refine month_W h (by decide) bs_okT (fun bs eb _ _ => ?_) (fun c i S' e _ => ?_) bs_okT
    · obtain rfl := bs_inj (D.tup.inj eb)
      refine ⟨3, wide_com, by rw [wide_nub]; decide, fun S2 k2 => ?_⟩
      rw [tl, ← wide_month]
      refine same_W h 4 (told_pl (month_pl (by rw [wide_nub]; decide))) (by decide) ?_
      try walk_at "mp"
      rw [h_addT (by rw [List.length_map, wide, List.length_replicate]; decide)]
      have ea : wide.map Bi.d ++ [D.tup [.int 3, .int 1, .int 1, .int 3]] = (wide ++ [wideB]).map Bi.d := by rw [List.map_append]; rfl
      rw [ea]
      have la : (wide ++ [wideB]).length = 1001 := by rw [List.length_append, wide, List.length_replicate]; rfl
      have wn : wrongB (.tup ((wide ++ [wideB]).map Bi.d)) = some (51, 1001) := by
        rw [wrongB, List.length_map, la, if_pos (by decide)]
        rfl
      refine month_W h (by decide) bs_okT (fun bs eb hl _ => ?_) (fun c i S' e _ => ?_) bs_okT
      · obtain rfl := bs_inj (D.tup.inj eb)
        rw [la] at hl
        omega
      · rw [wn] at e
        cases e
        rw [w51]
        exact same_W h 2 (wd_pl .int (by decide +kernel)) (by decide) (q _)
    · rw [wrongB_bs (by rw [wide, List.length_replicate]; decide) wide_ok] at e
      cases e
end
end HB
end MXf
section MXg
set_option Elab.async false
set_option linter.all false
set_option maxRecDepth 100000
namespace HB
open PySem MP L2
theorem cfOf_ok (ns : List Int) : CfOk (cfOf ns) := by
  constructor
  case wf =>
    intro k hk
    show k < wfN
    unfold wfN
    exact Nat.lt_trans hk (Nat.pow_lt_pow_right (by decide) (by decide))
  case mt => intro m; rfl
  case ini => rfl
  case told => rfl
  case wd => exact ⟨rfl, rfl, rfl, rfl, rfl, rfl, rfl⟩
  all_goals rfl
theorem pure_holds : Pure := by
  intro ns _ _
  obtain ⟨d, S, e, q⟩ := W_ok_iff.mp (law_W (P := fun d _ => d = .bl true) (E := fun _ _ _ => False) (S := []) (cfOf_ok ns) fun _ => rfl)
  exact ⟨S, by rw [e, q]⟩
theorem law_holds : (PySem.Challenge.rw_pricesalone_k83_bills_months_and_account).Holds := holds pure_holds
end HB
end MXg
open PySem PySem.W PyProof.Rows
set_option Elab.async false
set_option maxRecDepth 100000 in
set_option maxHeartbeats 8000000 in
theorem PySem.Challenge.cw_pricesalone_k83_bills_months_and_account_holds : PySem.Challenge.rw_pricesalone_k83_bills_months_and_account.Holds := by
  exact HB.law_holds
