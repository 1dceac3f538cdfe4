import PyProof.Rows.All
import Wide.All
import OpenK.AllK
import Wide.FinOn
import HandS.ForMost
import HandS.ForExc
import HandS.Walk
import HandS.IsInst
import HandS.TupAny
import HandS.Zip
import HandS.Wide
import HandS.CallSlots
import HandS.Defaults
import HandS.HeadHook1
import HandS.HeadHook2
import HandS.HeadHook4
import KE.DataEq
import HandS.Head0
import HandS.Head1
import HandS.Head2
import HandS.HeadEnd
import KE.KStateDown
import PySem.Challenge.RW_kindsigns_k03_values_that_are_expression
set_option Elab.async false
set_option linter.all false
set_option maxRecDepth 100000
set_option maxHeartbeats 4000000
namespace DL
open PySem L2

/-! ### data -/
inductive D where
  | non | bl (b : Bool) | int (i : Int) | str (x : Str)
  | tup (xs : List D) | lst (xs : List D) | dct (kvs : List (Key × D)) | obj (C : Str) (fs : List (Str × D)) | ex (k : Nat)

/-- an exception: its class, its own attributes -/
abbrev XD := Str × List (Str × D)
/-- a local: its data, and, where the list (dict, object) is this def's own and may change, its address -/
abbrev En := Option (D × Option Addr)
abbrev Ev := List En
abbrev XP := XD → Ev → Prop
abbrev DEt := Ev → (D → Prop) → XP → Prop
abbrev DTt := Ev → (Bool → Prop) → XP → Prop
abbrev DAt := Ev → (List D → Prop) → XP → Prop
structure DK where
  nx : Ev → Prop
  rt : Ev → D → Prop
  bk : Ev → Prop
  ct : Ev → Prop
  xc : XP
abbrev DSt := Ev → DK → Prop

/-- what may change behind our back, and what stands of it -/
structure Wd where
  vol : Addr → Prop
  inv : Hp → Prop
  ex : Nat → V → Prop
  alloc : ∀ H, inv H → ∀ a, vol a → ∃ o, H a = some o
  keep : ∀ H H', inv H → (∀ a, vol a → H' a = H a) → inv H'
def pureW : Wd := ⟨fun _ => False, fun _ => True, fun _ _ => False, fun _ _ _ h => h.elim, fun _ _ _ _ => trivial⟩

/-! ### representation -/
mutual
def Rp (W : Wd) (K : PySem.W.Frag) (O : Addr → Prop) (H : Hp) : D → V → Prop
  | .non, v => v = .non
  | .bl b, v => v = .bl b
  | .int i, v => v = .int i
  | .str x, v => v = .str x
  | .tup ds, v => ∃ a xs, v = .ref a ∧ ((H a = some (.tup xs) ∧ ¬ O a) ∨ (∃ (o : Obj) (its : Array Value) (n : Nat), K.lookup a = some o ∧ o.cls = .type "tuple" ∧ o.data = .seq its n ∧ its.size ≤ sizeLine ∧ Vals xs its.toList)) ∧ RpAll W K O H ds xs
  | .lst ds, v => ∃ a xs, v = .ref a ∧ H a = some (.lst xs) ∧ ¬ O a ∧ RpAll W K O H ds xs
  | .dct ds, v => ∃ a xs, v = .ref a ∧ H a = some (.dK xs) ∧ ¬ O a ∧ RpKV W K O H ds xs
  | .obj C ds, v => ∃ a dx xs, v = .ref a ∧ H a = some (.ins (He.ga K C) dx xs) ∧ ¬ O a ∧ RpFs W K O H ds xs
  | .ex k, v => W.ex k v
def RpAll (W : Wd) (K : PySem.W.Frag) (O : Addr → Prop) (H : Hp) : List D → List V → Prop
  | [], vs => vs = []
  | d :: ds, vs => ∃ v r, vs = v :: r ∧ Rp W K O H d v ∧ RpAll W K O H ds r
def RpKV (W : Wd) (K : PySem.W.Frag) (O : Addr → Prop) (H : Hp) : List (Key × D) → List (Key × V) → Prop
  | [], vs => vs = []
  | d :: ds, vs => ∃ v r, vs = (d.1, v) :: r ∧ Rp W K O H d.2 v ∧ RpKV W K O H ds r
def RpFs (W : Wd) (K : PySem.W.Frag) (O : Addr → Prop) (H : Hp) : List (Str × D) → List (Str × V) → Prop
  | [], vs => vs = []
  | d :: ds, vs => ∃ v r, vs = (d.1, v) :: r ∧ Rp W K O H d.2 v ∧ RpFs W K O H ds r
end

/-- what is not in O stands -/
def StO (O : Addr → Prop) (H H' : Hp) : Prop := ∀ a o, ¬ O a → H a = some o → H' a = some o
theorem StO.refl {O : Addr → Prop} (H : Hp) : StO O H H := fun _ _ _ h => h
theorem StO.trans {O : Addr → Prop} {H H1 H2 : Hp} (a : StO O H H1) (b : StO O H1 H2) : StO O H H2 := fun c o n h => b c o n (a c o n h)
theorem StO.mono {O O' : Addr → Prop} {H H1 : Hp} (a : StO O H H1) (h : ∀ b, O b → O' b) : StO O' H H1 := fun c o n q => a c o (fun z => n (h c z)) q
theorem StO.new {O : Addr → Prop} {H : Hp} {p : Addr} {o : HO} (h : H p = none) : StO O H (upd H p o) := fun a u _ e => by
  rw [upd_ne (ne_of_none e h)]
  exact e
theorem StO.fresh {O : Addr → Prop} {H H1 : Hp} {p : Addr} (a : StO O H H1) (n : ¬ O p) (h : H1 p = none) : H p = none := by
  cases e : H p with
  | none => rfl
  | some o => rw [a p o n e] at h; cases h

section
variable {W : Wd} {K : PySem.W.Frag} {O O' : Addr → Prop} {H H' : Hp}
mutual
theorem Rp.mono (ho : ∀ a o, ¬ O a → H a = some o → H' a = some o ∧ ¬ O' a) : ∀ (d : D) (v : V), Rp W K O H d v → Rp W K O' H' d v
  | .non, _, h => by unfold Rp at h ⊢; exact h
  | .bl _, _, h => by unfold Rp at h ⊢; exact h
  | .int _, _, h => by unfold Rp at h ⊢; exact h
  | .str _, _, h => by unfold Rp at h ⊢; exact h
  | .ex _, _, h => by unfold Rp at h ⊢; exact h
  | .tup ds, _, h => by
    unfold Rp at h ⊢
    obtain ⟨a, xs, e, h1, h2⟩ := h
    refine ⟨a, xs, e, ?_, RpAll.mono ho ds xs h2⟩
    rcases h1 with ⟨h1, n⟩ | h1
    · exact .inl (ho a _ n h1)
    · exact .inr h1
  | .lst ds, _, h => by
    unfold Rp at h ⊢
    obtain ⟨a, xs, e, h1, n, h2⟩ := h
    exact ⟨a, xs, e, (ho a _ n h1).1, (ho a _ n h1).2, RpAll.mono ho ds xs h2⟩
  | .dct ds, _, h => by
    unfold Rp at h ⊢
    obtain ⟨a, xs, e, h1, n, h2⟩ := h
    exact ⟨a, xs, e, (ho a _ n h1).1, (ho a _ n h1).2, RpKV.mono ho ds xs h2⟩
  | .obj C ds, _, h => by
    unfold Rp at h ⊢
    obtain ⟨a, dx, xs, e, h1, n, h2⟩ := h
    exact ⟨a, dx, xs, e, (ho a _ n h1).1, (ho a _ n h1).2, RpFs.mono ho ds xs h2⟩
theorem RpAll.mono (ho : ∀ a o, ¬ O a → H a = some o → H' a = some o ∧ ¬ O' a) : ∀ (ds : List D) (vs : List V), RpAll W K O H ds vs → RpAll W K O' H' ds vs
  | [], _, h => by unfold RpAll at h ⊢; exact h
  | d :: ds, _, h => by
    unfold RpAll at h ⊢
    obtain ⟨v, r, e, h1, h2⟩ := h
    exact ⟨v, r, e, Rp.mono ho d v h1, RpAll.mono ho ds r h2⟩
theorem RpKV.mono (ho : ∀ a o, ¬ O a → H a = some o → H' a = some o ∧ ¬ O' a) : ∀ (ds : List (Key × D)) (vs : List (Key × V)), RpKV W K O H ds vs → RpKV W K O' H' ds vs
  | [], _, h => by unfold RpKV at h ⊢; exact h
  | (k, d) :: ds, _, h => by
    unfold RpKV at h ⊢
    obtain ⟨v, r, e, h1, h2⟩ := h
    exact ⟨v, r, e, Rp.mono ho d v h1, RpKV.mono ho ds r h2⟩
theorem RpFs.mono (ho : ∀ a o, ¬ O a → H a = some o → H' a = some o ∧ ¬ O' a) : ∀ (ds : List (Str × D)) (vs : List (Str × V)), RpFs W K O H ds vs → RpFs W K O' H' ds vs
  | [], _, h => by unfold RpFs at h ⊢; exact h
  | (k, d) :: ds, _, h => by
    unfold RpFs at h ⊢
    obtain ⟨v, r, e, h1, h2⟩ := h
    exact ⟨v, r, e, Rp.mono ho d v h1, RpFs.mono ho ds r h2⟩
end
theorem Rp.st {d : D} {v : V} (h : Rp W K O H d v) (s : StO O H H') : Rp W K O H' d v := Rp.mono (fun a o n e => ⟨s a o n e, n⟩) d v h
theorem RpAll.st {d : List D} {v : List V} (h : RpAll W K O H d v) (s : StO O H H') : RpAll W K O H' d v := RpAll.mono (fun a o n e => ⟨s a o n e, n⟩) d v h
theorem RpFs.st {d : List (Str × D)} {v : List (Str × V)} (h : RpFs W K O H d v) (s : StO O H H') : RpFs W K O H' d v := RpFs.mono (fun a o n e => ⟨s a o n e, n⟩) d v h
theorem RpKV.st {d : List (Key × D)} {v : List (Key × V)} (h : RpKV W K O H d v) (s : StO O H H') : RpKV W K O H' d v := RpKV.mono (fun a o n e => ⟨s a o n e, n⟩) d v h
/-- a smaller set of what is avoided -/
theorem Rp.less {d : D} {v : V} (h : Rp W K O H d v) (s : ∀ a, O' a → O a) : Rp W K O' H d v := Rp.mono (fun a o n e => ⟨e, fun z => n (s a z)⟩) d v h
theorem RpAll.less {d : List D} {v : List V} (h : RpAll W K O H d v) (s : ∀ a, O' a → O a) : RpAll W K O' H d v := RpAll.mono (fun a o n e => ⟨e, fun z => n (s a z)⟩) d v h
theorem RpFs.less {d : List (Str × D)} {v : List (Str × V)} (h : RpFs W K O H d v) (s : ∀ a, O' a → O a) : RpFs W K O' H d v := RpFs.mono (fun a o n e => ⟨e, fun z => n (s a z)⟩) d v h
/-- what is avoided grows by what was not there -/
theorem Rp.more {d : D} {v : V} {p : Addr} (h : Rp W K O H d v) (hp : H p = none) : Rp W K (fun a => O a ∨ a = p) H d v := Rp.mono (fun a o n e => ⟨e, fun z => z.elim n (ne_of_none e hp)⟩) d v h
theorem RpAll.more {d : List D} {v : List V} {p : Addr} (h : RpAll W K O H d v) (hp : H p = none) : RpAll W K (fun a => O a ∨ a = p) H d v := RpAll.mono (fun a o n e => ⟨e, fun z => z.elim n (ne_of_none e hp)⟩) d v h
theorem rpAll_cons {d : D} {ds : List D} {v : V} {vs : List V} (h : Rp W K O H d v) (r : RpAll W K O H ds vs) : RpAll W K O H (d :: ds) (v :: vs) := by
  unfold RpAll
  exact ⟨v, vs, rfl, h, r⟩
theorem rpAll_nil : RpAll W K O H [] [] := by
  unfold RpAll
  rfl
theorem RpAll.len : ∀ {ds : List D} {vs : List V}, RpAll W K O H ds vs → vs.length = ds.length
  | [], _, h => by
    unfold RpAll at h
    rw [h]
    rfl
  | d :: ds, _, h => by
    unfold RpAll at h
    obtain ⟨v, r, e, _, h2⟩ := h
    rw [e, List.length_cons, List.length_cons, RpAll.len h2]
theorem RpAll.get : ∀ {ds : List D} {vs : List V} {i : Nat} {v : V}, RpAll W K O H ds vs → vs[i]? = some v → ∃ d, ds[i]? = some d ∧ Rp W K O H d v
  | [], _, _, _, h, e => by
    unfold RpAll at h
    rw [h] at e
    cases e
  | d :: ds, _, i, v, h, e => by
    unfold RpAll at h
    obtain ⟨w, r, e', h1, h2⟩ := h
    subst e'
    cases i with
    | zero =>
      cases e
      exact ⟨d, rfl, h1⟩
    | succ i => exact RpAll.get (i := i) h2 (by simpa using e)
theorem RpAll.get' : ∀ {ds : List D} {vs : List V} {i : Nat} {d : D}, RpAll W K O H ds vs → ds[i]? = some d → ∃ v, vs[i]? = some v ∧ Rp W K O H d v := fun {ds vs i d} h e => by
  have l := h.len
  have hi : i < vs.length := by rw [l]; exact (List.getElem?_eq_some_iff.mp e).1
  obtain ⟨d', e', r⟩ := h.get (i := i) (List.getElem?_eq_getElem hi)
  rw [e] at e'
  cases e'
  exact ⟨_, List.getElem?_eq_getElem hi, r⟩
theorem RpAll.append : ∀ {ds es : List D} {vs us : List V}, RpAll W K O H ds vs → RpAll W K O H es us → RpAll W K O H (ds ++ es) (vs ++ us)
  | [], _, _, _, h, g => by
    unfold RpAll at h
    rw [h]
    exact g
  | d :: ds, es, _, us, h, g => by
    unfold RpAll at h
    obtain ⟨w, r, e', h1, h2⟩ := h
    subst e'
    exact rpAll_cons h1 (RpAll.append h2 g)
theorem RpAll.drop : ∀ {ds : List D} {vs : List V} (n : Nat), RpAll W K O H ds vs → RpAll W K O H (ds.drop n) (vs.drop n)
  | [], _, n, h => by
    unfold RpAll at h
    rw [h]
    simp only [List.drop_nil]
    exact rpAll_nil
  | d :: ds, _, 0, h => h
  | d :: ds, _, n + 1, h => by
    unfold RpAll at h
    obtain ⟨w, r, e', h1, h2⟩ := h
    subst e'
    exact RpAll.drop n h2
theorem RpAll.take : ∀ {ds : List D} {vs : List V} (n : Nat), RpAll W K O H ds vs → RpAll W K O H (ds.take n) (vs.take n)
  | [], _, n, h => by
    unfold RpAll at h
    rw [h]
    simp only [List.take_nil]
    exact rpAll_nil
  | d :: ds, _, 0, h => rpAll_nil
  | d :: ds, _, n + 1, h => by
    unfold RpAll at h
    obtain ⟨w, r, e', h1, h2⟩ := h
    subst e'
    exact rpAll_cons h1 (RpAll.take n h2)
end

/-! ### the big word: what stands in a def's body -/
/-- the content at a of a composite -/
def At (W : Wd) (K : PySem.W.Frag) (O : Addr → Prop) (H : Hp) (a : Addr) : D → Prop
  | .lst ds => ∃ xs, H a = some (.lst xs) ∧ RpAll W K O H ds xs
  | .dct ds => ∃ xs, H a = some (.dK xs) ∧ RpKV W K O H ds xs
  | .obj C ds => ∃ dx xs, H a = some (.ins (He.ga K C) dx xs) ∧ RpFs W K O H ds xs
  | _ => False
/-- one's own: fresh since the entry, in O, not volatile -/
def OwnAt (W : Wd) (K : PySem.W.Frag) (H0 : Hp) (O : Addr → Prop) (H : Hp) (a : Addr) (d : D) : Prop := O a ∧ ¬ W.vol a ∧ H0 a = none ∧ At W K O H a d
def Own (W : Wd) (K : PySem.W.Frag) (H0 : Hp) (O : Addr → Prop) (H : Hp) (d : D) (v : V) : Prop := ∃ a, v = .ref a ∧ OwnAt W K H0 O H a d
structure EnvR (W : Wd) (K : PySem.W.Frag) (H0 : Hp) (O : Addr → Prop) (H : Hp) (σ : L2.St) (env : Ev) : Prop where
  len : σ.length = env.length
  sh : ∀ (i : Nat) (d : D), env[i]? = some (some (d, none)) → ∃ v : V, σ[i]? = some (some v) ∧ Rp W K O H d v
  ow : ∀ (i : Nat) (d : D) (a : Addr), env[i]? = some (some (d, some a)) → σ[i]? = some (some (.ref a)) ∧ OwnAt W K H0 O H a d
  apart : ∀ (i j : Nat) (d e : D) (a : Addr), env[i]? = some (some (d, some a)) → env[j]? = some (some (e, some a)) → i = j
/-- what has changed since (O, H): what is in O, and what is new -/
structure Rl (O : Addr → Prop) (H : Hp) (O' : Addr → Prop) (H' : Hp) : Prop where
  st : StO O H H'
  up : ∀ a, O a → O' a
  dn : ∀ a, O' a → O a ∨ H a = none
theorem Rl.refl {O : Addr → Prop} {H : Hp} : Rl O H O H := ⟨StO.refl H, fun _ h => h, fun _ h => .inl h⟩
theorem Rl.trans {O O1 O2 : Addr → Prop} {H H1 H2 : Hp} (a : Rl O H O1 H1) (b : Rl O1 H1 O2 H2) : Rl O H O2 H2 := by
  have key : ∀ c o, ¬ O c → H c = some o → ¬ O1 c := fun c o n e z => (a.dn c z).elim n (by rw [e]; intro q; cases q)
  refine ⟨fun c o n e => b.st c o (key c o n e) (a.st c o n e), fun c h => b.up c (a.up c h), fun c h => ?_⟩
  rcases b.dn c h with h | h
  · exact a.dn c h
  · by_cases hc : O c
    · exact .inl hc
    · refine .inr ?_
      cases e : H c with
      | none => rfl
      | some o => rw [a.st c o hc e] at h; cases h
/-- the entry of the def, and a base in it (the start of a loop, of a try) -/
structure Bs where
  H0 : Hp
  O0 : Addr → Prop
  Hb : Hp
  Ob : Addr → Prop
structure Good (W : Wd) (K : PySem.W.Frag) (B : Bs) (O : Addr → Prop) (H : Hp) (σ : L2.St) (env : Ev) : Prop where
  inv : W.inv H
  sub : ∀ a, B.O0 a → O a
  vol : ∀ a, W.vol a → B.O0 a
  volb : ∀ a, W.vol a → B.Ob a
  al : ∀ a, O a → ∃ o, H a = some o
  al0 : ∀ a, B.O0 a → ∃ o, B.H0 a = some o
  st : StO W.vol B.H0 H
  rl : Rl B.Ob B.Hb O H
  env : EnvR W K B.H0 O H σ env

section
variable {W : Wd} {K : PySem.W.Frag} {B : Bs} {H0 : Hp} {O : Addr → Prop} {H H' : Hp} {σ : L2.St} {env : Ev}
theorem Good.volO (g : Good W K B O H σ env) (a : Addr) (h : W.vol a) : O a := g.sub a (g.vol a h)
theorem Good.nofresh (g : Good W K B O H σ env) {p : Addr} (h : H p = none) : ¬ O p := fun z => by
  obtain ⟨o, e⟩ := g.al p z
  rw [h] at e
  cases e
theorem Good.toO (g : Good W K B O H σ env) (s : StO W.vol H H') : StO O H H' := s.mono g.volO
theorem OwnAt.st {a : Addr} {d : D} (hv : ∀ a, W.vol a → O a) (h : OwnAt W K H0 O H a d) (s : StO W.vol H H') : OwnAt W K H0 O H' a d := by
  obtain ⟨ha, na, f, r⟩ := h
  refine ⟨ha, na, f, ?_⟩
  cases d with
  | lst ds =>
    obtain ⟨xs, h1, h2⟩ := r
    exact ⟨xs, s a _ na h1, h2.st (s.mono hv)⟩
  | dct ds =>
    obtain ⟨xs, h1, h2⟩ := r
    exact ⟨xs, s a _ na h1, h2.st (s.mono hv)⟩
  | obj C ds =>
    obtain ⟨dx, xs, h1, h2⟩ := r
    exact ⟨dx, xs, s a _ na h1, h2.st (s.mono hv)⟩
  | _ => exact r
theorem EnvR.step (g : EnvR W K H0 O H σ env) (hv : ∀ a, W.vol a → O a) (s : StO W.vol H H') : EnvR W K H0 O H' σ env := by
  refine ⟨g.len, fun i d e => ?_, fun i d a e => ?_, g.apart⟩
  · obtain ⟨v, e1, r⟩ := g.sh i d e
    exact ⟨v, e1, r.st (s.mono hv)⟩
  · obtain ⟨e1, r⟩ := g.ow i d a e
    exact ⟨e1, r.st hv s⟩
theorem Good.step (g : Good W K B O H σ env) (s : StO W.vol H H') (hi : W.inv H') : Good W K B O H' σ env := by
  refine ⟨hi, g.sub, g.vol, g.volb, fun a ha => ?_, g.al0, g.st.trans s, ⟨g.rl.st.trans (s.mono g.volb), g.rl.up, g.rl.dn⟩, g.env.step g.volO s⟩
  by_cases hv : W.vol a
  · exact W.alloc H' hi a hv
  · obtain ⟨o, e⟩ := g.al a ha
    exact ⟨o, s a o hv e⟩
/-- a new object leaves the volatile ones -/
theorem Good.invNew (g : Good W K B O H σ env) {p : Addr} {o : HO} (h : H p = none) : W.inv (upd H p o) := W.keep H _ g.inv fun a ha => by
  refine upd_ne fun e => ?_
  subst e
  exact g.nofresh h (g.volO _ ha)
end

/-! ### sizes -/
structure Sized (K : PySem.W.Frag) (H : Hp) : Prop where
  l : ∀ a xs, SqL K H a xs → xs.length ≤ sizeLine
  t : ∀ a xs, SqT K H a xs → xs.length ≤ sizeLine
  d : ∀ a kvs, H a = some (.dK kvs) → kvs.length ≤ sizeLine
theorem sized_of {X : Cx} {pins : List (Addr × Obj)} {σ : L2.St} {H : Hp} {s : Shared} (I : Inv X pins σ H s) : Sized X.K H := by
  refine ⟨fun a xs h => ?_, fun a xs h => ?_, fun a kvs h => ?_⟩
  · rcases h with h | ⟨o, its, n, _, _, _, _, hz, r⟩
    · obtain ⟨z, _⟩ := h.ok I.hok
      exact z
    · rw [r.length]
      simpa using hz
  · rcases h with h | ⟨o, its, n, _, _, _, hz, r⟩
    · obtain ⟨z, _⟩ := h.ok I.hok
      exact z
    · rw [r.length]
      simpa using hz
  · obtain ⟨z, _⟩ := I.hok a _ h
    exact z

/-! ### exceptions -/
def RpX (W : Wd) (K : PySem.W.Frag) (O : Addr → Prop) (H : Hp) (cls : Value) (d : Option Addr) (x : XD) : Prop :=
  cls = .ref (He.ga K x.1) ∧ ∃ dx fs, d = some dx ∧ H dx = some (.xd fs) ∧ ¬ O dx ∧ RpFs W K O H x.2 fs
/-- what is raised is wished for -/
def XOk (W : Wd) (K : PySem.W.Frag) (B : Bs) (Wx : WX) (R : XP) : Prop :=
  ∀ (x : XD) (O : Addr → Prop) (H : Hp) (σ : L2.St) (env : Ev) (cls : Value) (d : Option Addr), Good W K B O H σ env → RpX W K O H cls d x → R x env → Wx cls d σ H

/-! ### the readings made of data -/
def tD (W : Wd) (K : PySem.W.Frag) (Wx : WX) (de : DEt) : TE := fun σ H Q =>
  ∃ (B : Bs) (O : Addr → Prop) (env : Ev) (P : D → Prop) (R : XP), Good W K B O H σ env ∧ XOk W K B Wx R ∧ de env P R ∧
    ∀ d v H', P d → StO W.vol H H' → W.inv H' → Sized K H' → Rp W K O H' d v → Q v H'
/-- of a value that is only looked into: its own list may be one's own -/
def RpQ (W : Wd) (K : PySem.W.Frag) (H0 : Hp) (O : Addr → Prop) (H : Hp) (d : D) (v : V) : Prop := Rp W K O H d v ∨ Own W K H0 O H d v
def tDQ (W : Wd) (K : PySem.W.Frag) (Wx : WX) (de : DEt) : TE := fun σ H Q =>
  ∃ (B : Bs) (O : Addr → Prop) (env : Ev) (P : D → Prop) (R : XP), Good W K B O H σ env ∧ XOk W K B Wx R ∧ de env P R ∧
    ∀ d v H', P d → StO W.vol H H' → W.inv H' → Sized K H' → RpQ W K B.H0 O H' d v → Q v H'
def tDT (W : Wd) (K : PySem.W.Frag) (Wx : WX) (dt : DTt) : TT := fun σ H Q =>
  ∃ (B : Bs) (O : Addr → Prop) (env : Ev) (P : Bool → Prop) (R : XP), Good W K B O H σ env ∧ XOk W K B Wx R ∧ dt env P R ∧
    ∀ b H', P b → StO W.vol H H' → W.inv H' → Sized K H' → Q b H'
def tDA (W : Wd) (K : PySem.W.Frag) (Wx : WX) (da : DAt) : TA := fun σ H Q =>
  ∃ (B : Bs) (O : Addr → Prop) (env : Ev) (P : List D → Prop) (R : XP), Good W K B O H σ env ∧ XOk W K B Wx R ∧ da env P R ∧
    ∀ ds vs H', P ds → StO W.vol H H' → W.inv H' → Sized K H' → RpAll W K O H' ds vs → Q vs H'
def tDS (W : Wd) (K : PySem.W.Frag) (Wx : WX) (ds : DSt) : TS := fun Dn σ H =>
  ∃ (B : Bs) (O : Addr → Prop) (env : Ev) (k : DK), Good W K B O H σ env ∧ XOk W K B Wx k.xc ∧ ds env k ∧
    (∀ O' σ' H' env', Good W K B O' H' σ' env' → k.nx env' → Dn.nx σ' H') ∧
    (∀ O' σ' H' env' v d, Good W K B O' H' σ' env' → Rp W K O' H' d v → k.rt env' d → Dn.rt v H') ∧
    (∀ O' σ' H' env', Good W K B O' H' σ' env' → k.bk env' → Dn.bk σ' H') ∧
    (∀ O' σ' H' env', Good W K B O' H' σ' env' → k.ct env' → Dn.ct σ' H')

/-! ### the judgements -/
def DE (W : Wd) (X : Cx) (Wx : WX) (e : Expr) (de : DEt) : Prop := PE X e (tD W X.K Wx de)
def DQ (W : Wd) (X : Cx) (Wx : WX) (e : Expr) (de : DEt) : Prop := PE X e (tDQ W X.K Wx de)
def DT (W : Wd) (X : Cx) (Wx : WX) (e : Expr) (dt : DTt) : Prop := PT X e (tDT W X.K Wx dt)
def DA (W : Wd) (X : Cx) (Wx : WX) (es : List Expr) (da : DAt) : Prop := PA X es (tDA W X.K Wx da)
def DS (W : Wd) (X : Cx) (Wx : WX) (st : Stmt) (ds : DSt) : Prop := PS X st (tDS W X.K Wx ds)
def DB (W : Wd) (X : Cx) (Wx : WX) (st : List Stmt) (ds : DSt) : Prop := PSs X st (tDS W X.K Wx ds)

section
variable {W : Wd} {X : Cx} {Wx : WX} {e : Expr}
theorem de_of {t : TE} {de : DEt} (h : PE X e t) (s : ∀ σ H (Q : VK), Sized X.K H → tD W X.K Wx de σ H Q → t σ H (fun v H' => Sized X.K H' → Q v H')) : DE W X Wx e de :=
  ⟨fun pins sh σ H Q I z => thn (h.run pins sh σ H _ I (s σ H Q (sized_of I) z)) fun u s1 ⟨v, H', I', r, q⟩ => ⟨v, H', I', r, q (sized_of I')⟩⟩
theorem dq_of {t : TE} {de : DEt} (h : PE X e t) (s : ∀ σ H (Q : VK), Sized X.K H → tDQ W X.K Wx de σ H Q → t σ H (fun v H' => Sized X.K H' → Q v H')) : DQ W X Wx e de :=
  ⟨fun pins sh σ H Q I z => thn (h.run pins sh σ H _ I (s σ H Q (sized_of I) z)) fun u s1 ⟨v, H', I', r, q⟩ => ⟨v, H', I', r, q (sized_of I')⟩⟩
theorem dt_of {t : TT} {dt : DTt} (h : PT X e t) (s : ∀ σ H (Q : Bool → Hp → Prop), Sized X.K H → tDT W X.K Wx dt σ H Q → t σ H (fun v H' => Sized X.K H' → Q v H')) : DT W X Wx e dt :=
  ⟨fun pins sh σ H Q I z => thn (h.run pins sh σ H _ I (s σ H Q (sized_of I) z)) fun u s1 ⟨H', I', q⟩ => ⟨H', I', q (sized_of I')⟩⟩
theorem da_of {es : List Expr} {t : TA} {da : DAt} (h : PA X es t) (s : ∀ σ H (Q : List V → Hp → Prop), Sized X.K H → tDA W X.K Wx da σ H Q → t σ H (fun v H' => Sized X.K H' → Q v H')) : DA W X Wx es da :=
  ⟨fun pos pins sh σ H Q I z => thn (h.run pos pins sh σ H _ I (s σ H Q (sized_of I) z)) fun u s1 ⟨v, H', I', r, q⟩ => ⟨v, H', I', r, q (sized_of I')⟩⟩
theorem ds_of {st : Stmt} {t : TS} {ds : DSt} (h : PS X st t) (s : ∀ Dn σ H, Sized X.K H → tDS W X.K Wx ds Dn σ H → t Dn σ H) : DS W X Wx st ds :=
  ⟨fun pins sh σ H Dn I z => h.run pins sh σ H Dn I (s Dn σ H (sized_of I) z)⟩
theorem db_of {st : List Stmt} {t : TS} {ds : DSt} (h : PSs X st t) (s : ∀ Dn σ H, Sized X.K H → tDS W X.K Wx ds Dn σ H → t Dn σ H) : DB W X Wx st ds :=
  ⟨fun pins sh σ H Dn I z => h.run pins sh σ H Dn I (s Dn σ H (sized_of I) z)⟩
/-- a value is one that may be looked into -/
theorem DE.q {de : DEt} (h : DE W X Wx e de) : DQ W X Wx e de := dq_of h fun σ H Q _ ⟨B, O, env, P, R, g, xo, d, k⟩ =>
  ⟨B, O, env, P, R, g, xo, d, fun d v H' p s i z r _ => k d v H' p s i z (.inl r)⟩
end

/-! ### reading what a value is -/
section
variable {W : Wd} {K : PySem.W.Frag} {H0 : Hp} {O : Addr → Prop} {H H' : Hp} {v : V}
theorem Own.st {d : D} (hv : ∀ a, W.vol a → O a) (h : Own W K H0 O H d v) (s : StO W.vol H H') : Own W K H0 O H' d v := by
  obtain ⟨a, e, r⟩ := h
  exact ⟨a, e, r.st hv s⟩
theorem RpQ.st {d : D} (hv : ∀ a, W.vol a → O a) (h : RpQ W K H0 O H d v) (s : StO W.vol H H') : RpQ W K H0 O H' d v := by
  rcases h with h | h
  · exact .inl (h.st (s.mono hv))
  · exact .inr (h.st hv s)
theorem rp_non (h : Rp W K O H .non v) : v = .non := by unfold Rp at h; exact h
theorem rp_bl {b : Bool} (h : Rp W K O H (.bl b) v) : v = .bl b := by unfold Rp at h; exact h
theorem rp_int {i : Int} (h : Rp W K O H (.int i) v) : v = .int i := by unfold Rp at h; exact h
theorem rp_str {x : Str} (h : Rp W K O H (.str x) v) : v = .str x := by unfold Rp at h; exact h
theorem rp_tup {ds : List D} (h : Rp W K O H (.tup ds) v) : ∃ a xs, v = .ref a ∧ SqT K H a xs ∧ RpAll W K O H ds xs := by
  unfold Rp at h
  obtain ⟨a, xs, e, h1, h2⟩ := h
  refine ⟨a, xs, e, ?_, h2⟩
  rcases h1 with ⟨h1, _⟩ | h1
  · exact .inl (.inl h1)
  · exact .inr h1
theorem rp_lst {ds : List D} (h : Rp W K O H (.lst ds) v) : ∃ a xs, v = .ref a ∧ H a = some (.lst xs) ∧ RpAll W K O H ds xs := by
  unfold Rp at h
  obtain ⟨a, xs, e, h1, _, h2⟩ := h
  exact ⟨a, xs, e, h1, h2⟩
theorem rpq_non (h : RpQ W K H0 O H .non v) : v = .non := h.elim rp_non fun ⟨_, _, _, _, _, z⟩ => z.elim
theorem rpq_bl {b : Bool} (h : RpQ W K H0 O H (.bl b) v) : v = .bl b := h.elim rp_bl fun ⟨_, _, _, _, _, z⟩ => z.elim
theorem rpq_int {i : Int} (h : RpQ W K H0 O H (.int i) v) : v = .int i := h.elim rp_int fun ⟨_, _, _, _, _, z⟩ => z.elim
theorem rpq_str {x : Str} (h : RpQ W K H0 O H (.str x) v) : v = .str x := h.elim rp_str fun ⟨_, _, _, _, _, z⟩ => z.elim
theorem rpq_tup {ds : List D} (h : RpQ W K H0 O H (.tup ds) v) : ∃ a xs, v = .ref a ∧ SqT K H a xs ∧ RpAll W K O H ds xs := h.elim rp_tup fun ⟨_, _, _, _, _, z⟩ => z.elim
theorem rpq_lst {ds : List D} (h : RpQ W K H0 O H (.lst ds) v) : ∃ a xs, v = .ref a ∧ H a = some (.lst xs) ∧ RpAll W K O H ds xs :=
  h.elim rp_lst fun ⟨a, e, _, _, _, xs, h1, h2⟩ => ⟨a, xs, e, h1, h2⟩
theorem rpq_ex {k : Nat} (h : RpQ W K H0 O H (.ex k) v) : W.ex k v := h.elim (fun h => by unfold Rp at h; exact h) fun ⟨_, _, _, _, _, z⟩ => z.elim
theorem rp_mk_tup {ds : List D} {xs : List V} {p : Addr} (hp : H p = some (.tup xs)) (n : ¬ O p) (r : RpAll W K O H ds xs) : Rp W K O H (.tup ds) (.ref p) := by
  unfold Rp
  exact ⟨p, xs, rfl, .inl ⟨hp, n⟩, r⟩
theorem rp_mk_lst {ds : List D} {xs : List V} {p : Addr} (hp : H p = some (.lst xs)) (n : ¬ O p) (r : RpAll W K O H ds xs) : Rp W K O H (.lst ds) (.ref p) := by
  unfold Rp
  exact ⟨p, xs, rfl, hp, n, r⟩
theorem rp_i {i : Int} : Rp W K O H (.int i) (.int i) := by unfold Rp; rfl
theorem rp_b {i : Bool} : Rp W K O H (.bl i) (.bl i) := by unfold Rp; rfl
theorem rp_s {i : Str} : Rp W K O H (.str i) (.str i) := by unfold Rp; rfl
theorem rp_n : Rp W K O H .non .non := by unfold Rp; rfl
/-- a new tuple, a new list -/
theorem rp_new_tup {ds : List D} {xs : List V} {p : Addr} (hp : H p = none) (n : ¬ O p) (r : RpAll W K O H ds xs) : Rp W K O (upd H p (.tup xs)) (.tup ds) (.ref p) :=
  rp_mk_tup upd_same n (r.st (StO.new hp))
theorem rp_new_lst {ds : List D} {xs : List V} {p : Addr} (hp : H p = none) (n : ¬ O p) (r : RpAll W K O H ds xs) : Rp W K O (upd H p (.lst xs)) (.lst ds) (.ref p) :=
  rp_mk_lst upd_same n (r.st (StO.new hp))
end
end DL

namespace DL
open PySem L2

/-! ### what the operations do to data -/
def dOp (f : D → D → (D → Prop) → Prop) (da db : DEt) : DEt := fun env P R => da env (fun x => db env (fun y => f x y P) R) R
def dUn (f : D → (D → Prop) → Prop) (da : DEt) : DEt := fun env P R => da env (fun x => f x P) R
def dCallB (f : List D → (D → Prop) → Prop) (da : DAt) : DEt := fun env P R => da env (fun xs => f xs P) R
/-- an operation's rule and what it does to data -/
def S2 (W : Wd) (K : PySem.W.Frag) (f : D → D → (D → Prop) → Prop) (r : R2) : Prop :=
  ∀ {B : Bs} {O : Addr → Prop} {H : Hp} {σ : L2.St} {env : Ev} {x y : V} {dx dy : D} {P : D → Prop} {Q : VK}, Good W K B O H σ env → Sized K H → RpQ W K B.H0 O H dx x → RpQ W K B.H0 O H dy y → f dx dy P →
    (∀ d v H', P d → StO W.vol H H' → W.inv H' → Rp W K O H' d v → Q v H') → r x y H Q
def S1 (W : Wd) (K : PySem.W.Frag) (f : D → (D → Prop) → Prop) (r : V → Hp → VK → Prop) : Prop :=
  ∀ {B : Bs} {O : Addr → Prop} {H : Hp} {σ : L2.St} {env : Ev} {x : V} {dx : D} {P : D → Prop} {Q : VK}, Good W K B O H σ env → Sized K H → RpQ W K B.H0 O H dx x → f dx P →
    (∀ d v H', P d → StO W.vol H H' → W.inv H' → Rp W K O H' d v → Q v H') → r x H Q
def RpAllQ (W : Wd) (K : PySem.W.Frag) (H0 : Hp) (O : Addr → Prop) (H : Hp) : List D → List V → Prop
  | [], vs => vs = []
  | d :: ds, vs => ∃ v r, vs = v :: r ∧ RpQ W K H0 O H d v ∧ RpAllQ W K H0 O H ds r
def SC (W : Wd) (K : PySem.W.Frag) (f : List D → (D → Prop) → Prop) (r : List V → Hp → VK → Prop) : Prop :=
  ∀ {B : Bs} {O : Addr → Prop} {H : Hp} {σ : L2.St} {env : Ev} {xs : List V} {ds : List D} {P : D → Prop} {Q : VK}, Good W K B O H σ env → Sized K H → RpAllQ W K B.H0 O H ds xs → f ds P →
    (∀ d v H', P d → StO W.vol H H' → W.inv H' → Rp W K O H' d v → Q v H') → r xs H Q
theorem rpAllQ_one {W : Wd} {K : PySem.W.Frag} {H0 : Hp} {O : Addr → Prop} {H : Hp} {d : D} {vs : List V} (h : RpAllQ W K H0 O H [d] vs) : ∃ v, vs = [v] ∧ RpQ W K H0 O H d v := by
  obtain ⟨v, r, e, h1, h2⟩ := h
  have h3 : r = [] := h2
  subst h3
  exact ⟨v, e, h1⟩
theorem rpAllQ_two {W : Wd} {K : PySem.W.Frag} {H0 : Hp} {O : Addr → Prop} {H : Hp} {d d' : D} {vs : List V} (h : RpAllQ W K H0 O H [d, d'] vs) : ∃ v u, vs = [v, u] ∧ RpQ W K H0 O H d v ∧ RpQ W K H0 O H d' u := by
  obtain ⟨v, r, e, h1, h2⟩ := h
  obtain ⟨u, e2, h3⟩ := rpAllQ_one h2
  subst e2
  exact ⟨v, u, e, h1, h3⟩
def tDAQ (W : Wd) (K : PySem.W.Frag) (Wx : WX) (da : DAt) : TA := fun σ H Q =>
  ∃ (B : Bs) (O : Addr → Prop) (env : Ev) (P : List D → Prop) (R : XP), Good W K B O H σ env ∧ XOk W K B Wx R ∧ da env P R ∧
    ∀ ds vs H', P ds → StO W.vol H H' → W.inv H' → Sized K H' → RpAllQ W K B.H0 O H' ds vs → Q vs H'
def DAQ (W : Wd) (X : Cx) (Wx : WX) (es : List Expr) (da : DAt) : Prop := PA X es (tDAQ W X.K Wx da)
def DW (W : Wd) (X : Cx) (Wx : WX) (e : Expr) (dt : DTt) : Prop := PW X e (tDT W X.K Wx dt)
def dNil : DAt := fun _ P _ => P []
def dCons (de : DEt) (da : DAt) : DAt := fun env P R => de env (fun d => da env (fun ds => P (d :: ds)) R) R

section
variable {W : Wd} {X : Cx} {Wx : WX} {e a b c : Expr} {es : List Expr} {pos : Pos} {da db dc de : DEt} {ta tb : DTt} {ga : DAt}

/-! ### names and constants -/
def dVar (i : Nat) : DEt := fun env P _ => match env[i]? with
  | some (some (d, none)) => P d
  | _ => False
def dVarQ (i : Nat) : DEt := fun env P _ => match env[i]? with
  | some (some (d, _)) => P d
  | _ => False
def dC (d : D) : DEt := fun _ P _ => P d
theorem de_var (i : Nat) {x : Str} (hN : X.N[i]? = some x := by rfl) (hv : Vis X.env.scope x := by first | exact Or.inl rfl | exact Or.inr (Or.inl rfl) | exact Or.inr (Or.inr rfl)) (hd : (x == ("__debug__" : Str)) = false := by decide)
    (hcd : (x == ("__classdict__" : Str)) = false := by decide) : DE W X Wx (.Name x pos) (dVar i) := de_of (pv i hN hv hd hcd) fun σ H Q sz ⟨B, O, env, P, R, g, xo, d, k⟩ => by
  unfold dVar at d
  split at d
  · rename_i d' e'
    obtain ⟨v, e1, r⟩ := g.env.sh i d' e'
    exact ⟨v, e1, fun z => k d' v H d (StO.refl H) g.inv z r⟩
  · exact d.elim
theorem dq_var (i : Nat) {x : Str} (hN : X.N[i]? = some x := by rfl) (hv : Vis X.env.scope x := by first | exact Or.inl rfl | exact Or.inr (Or.inl rfl) | exact Or.inr (Or.inr rfl)) (hd : (x == ("__debug__" : Str)) = false := by decide)
    (hcd : (x == ("__classdict__" : Str)) = false := by decide) : DQ W X Wx (.Name x pos) (dVarQ i) := dq_of (pv i hN hv hd hcd) fun σ H Q sz ⟨B, O, env, P, R, g, xo, d, k⟩ => by
  unfold dVarQ at d
  split at d
  · rename_i d' b' e'
    cases b' with
    | none =>
      obtain ⟨v, e1, r⟩ := g.env.sh i d' e'
      exact ⟨v, e1, fun z => k d' v H d (StO.refl H) g.inv z (.inl r)⟩
    | some a =>
      obtain ⟨e1, r⟩ := g.env.ow i d' a e'
      exact ⟨_, e1, fun z => k d' _ H d (StO.refl H) g.inv z (.inr ⟨a, rfl, r⟩)⟩
  · exact d.elim
theorem de_c {v : V} {d : D} (h : PE X e (tC v)) (r : ∀ O H, Rp W X.K O H d v) : DE W X Wx e (dC d) := de_of h fun σ H Q sz ⟨B, O, env, P, R, g, xo, p, k⟩ =>
  fun z => k d v H p (StO.refl H) g.inv z (r O H)
theorem de_int {i j} : DE W X Wx (.Constant (.int i) j pos) (dC (.int i)) := de_c pe_int fun _ _ => rp_i
theorem de_bl {i j} : DE W X Wx (.Constant (.bool i) j pos) (dC (.bl i)) := de_c pe_bl fun _ _ => rp_b
theorem de_non {j} : DE W X Wx (.Constant .none j pos) (dC .non) := de_c pe_non fun _ _ => rp_n
theorem de_str {x j} : DE W X Wx (.Constant (.str x) j pos) (dC (.str x)) := de_c pe_str fun _ _ => rp_s
/-- a constant of the module -/
def GlobOk (W : Wd) (K : PySem.W.Frag) (mg : Str → Option Value) (x : Str) (d : D) : Prop := ∃ u v, mg x = some u ∧ RelV v u ∧ ∀ O H, Rp W K O H d v
theorem de_glob {x : Str} {d : D} (h : GlobOk W X.K X.mg x d) (hg : Gl X x := by rfl) (hd : (x == ("__debug__" : Str)) = false := by decide) : DE W X Wx (.Name x pos) (dC d) := by
  obtain ⟨u, v, h1, h2, h3⟩ := h
  exact de_c (pe_glob hg h1 h2 hd) h3

/-! ### two-place operations, comparisons, tests -/
theorem op_core {r : R2} {f : D → D → (D → Prop) → Prop} (s : S2 W X.K f r) {σ : L2.St} {H : Hp} {Q : VK} (h : tD W X.K Wx (dOp f da db) σ H Q) : tOp r (tDQ W X.K Wx da) (tDQ W X.K Wx db) σ H (fun v H' => Sized X.K H' → Q v H') := by
  obtain ⟨B, O, env, P, R, g, xo, d, k⟩ := h
  refine ⟨B, O, env, _, R, g, xo, d, fun dx x H1 p1 s1 i1 z1 r1 => ?_⟩
  have g1 := g.step s1 i1
  refine ⟨B, O, env, _, R, g1, xo, p1, fun dy y H2 p2 s2 i2 z2 r2 => ?_⟩
  refine s (g1.step s2 i2) z2 (r1.st g.volO s2) r2 p2 fun d v H' p s3 i3 r3 z3 => ?_
  exact k d v H' p ((s1.trans s2).trans s3) i3 z3 r3
theorem de_op {op : Operator} {r : R2} {f : D → D → (D → Prop) → Prop} (ho : OpR X (binaryOp op) r) (s : S2 W X.K f r) (ha : DQ W X Wx a da) (hb : DQ W X Wx b db) : DE W X Wx (.BinOp a op b pos) (dOp f da db) :=
  de_of (pe_op ho ha hb) fun σ H Q _ h => op_core s h
theorem de_cmp {op : CmpOp} {r : R2} {f : D → D → (D → Prop) → Prop} (ho : OpR X (compareOp op) r) (s : S2 W X.K f r) (ha : DQ W X Wx a da) (hb : DQ W X Wx b db) (hm : behindInMarks op b = false) : DE W X Wx (.Compare a [op] [b] pos) (dOp f da db) :=
  de_of (pe_cmpR ho ha hb hm) fun σ H Q _ h => op_core s h
/-- a truth value as a test -/
def dTest (de : DEt) : DTt := fun env P R => de env (fun d => match d with
  | .bl b => P b
  | _ => False) R
theorem test_core {te : TE} (h : ∀ (σ : L2.St) (H : Hp) (Q : VK), tD W X.K Wx de σ H Q → te σ H (fun v H' => Sized X.K H' → Q v H')) {σ : L2.St} {H : Hp} {Q : Bool → Hp → Prop} (z : tDT W X.K Wx (dTest de) σ H Q) :
    te σ H (fun v H' => Sized X.K H' → ∃ k, v = .bl k ∧ Q k H') := by
  obtain ⟨B, O, env, P, R, g, xo, d, k⟩ := z
  refine h σ H _ ⟨B, O, env, _, R, g, xo, d, fun dx x H1 p1 s1 i1 z1 r1 => ?_⟩
  split at p1
  · cases rp_bl r1
    exact ⟨_, rfl, k _ H1 p1 s1 i1 z1⟩
  · exact p1.elim
theorem pt_sized {e : Expr} {t : TT} (h : PT X e t) : PT X e (fun σ H Q => Sized X.K H → t σ H (fun b H' => Sized X.K H' → Q b H')) :=
  ⟨fun pins s σ H Q I z => thn (h.run pins s σ H _ I (z (sized_of I))) fun b s1 ⟨H', I', q⟩ => ⟨H', I', q (sized_of I')⟩⟩
/-- the Sized of the end, asked inside -/
theorem tOp_sized {r : R2} {f : D → D → (D → Prop) → Prop} (s : S2 W X.K f r) {σ : L2.St} {H : Hp} {Q : Bool → Hp → Prop} (z : tDT W X.K Wx (dTest (dOp f da db)) σ H Q) :
    tTest (tOp r (tDQ W X.K Wx da) (tDQ W X.K Wx db)) σ H (fun b H' => Sized X.K H' → Q b H') := by
  obtain ⟨B, O, env, P, R, g, xo, d, k⟩ := z
  refine ⟨B, O, env, _, R, g, xo, d, fun dx x H1 p1 s1 i1 z1 r1 => ?_⟩
  have g1 := g.step s1 i1
  refine ⟨B, O, env, _, R, g1, xo, p1, fun dy y H2 p2 s2 i2 z2 r2 => ?_⟩
  refine s (g1.step s2 i2) z2 (r1.st g.volO s2) r2 p2 fun d v H' p s3 i3 r3 => ?_
  split at p
  · cases rp_bl r3
    exact ⟨_, rfl, fun z3 => k _ H' p ((s1.trans s2).trans s3) i3 z3⟩
  · exact p.elim
theorem dt_cmp {op : CmpOp} {r : R2} {f : D → D → (D → Prop) → Prop} (ho : OpR X (compareOp op) r) (s : S2 W X.K f r) (ha : DQ W X Wx a da) (hb : DQ W X Wx b db) (hm : behindInMarks op b = false) : DT W X Wx (.Compare a [op] [b] pos) (dTest (dOp f da db)) :=
  dt_of (pt_cmpR ho ha hb hm) fun σ H Q _ h => tOp_sized s h
/-- a < b < c -/
def dChain (f f' : D → D → (D → Prop) → Prop) (da db dc : DEt) : DEt := fun env P R => da env (fun x => db env (fun y => f x y fun z => match z with
  | .bl true => dc env (fun w => f' y w P) R
  | .bl false => P (.bl false)
  | _ => False) R) R
theorem chain_core {r r' : R2} {f f' : D → D → (D → Prop) → Prop} (s : S2 W X.K f r) (s' : S2 W X.K f' r') {σ : L2.St} {H : Hp} {Q : VK} (h : tD W X.K Wx (dChain f f' da db dc) σ H Q) :
    tChain r r' (tDQ W X.K Wx da) (tDQ W X.K Wx db) (tDQ W X.K Wx dc) σ H (fun v H' => Sized X.K H' → Q v H') := by
  obtain ⟨B, O, env, P, R, g, xo, d, k⟩ := h
  refine ⟨B, O, env, _, R, g, xo, d, fun dx x H1 p1 s1 i1 z1 r1 => ?_⟩
  have g1 := g.step s1 i1
  refine ⟨B, O, env, _, R, g1, xo, p1, fun dy y H2 p2 s2 i2 z2 r2 => ?_⟩
  have g2 := g1.step s2 i2
  refine s g2 z2 (r1.st g.volO s2) r2 p2 fun d v H3 p s3 i3 r3 => ?_
  have g3 := g2.step s3 i3
  split at p
  · cases rp_bl r3
    refine ⟨true, rfl, ?_⟩
    rw [if_pos rfl]
    refine ⟨B, O, env, _, R, g3, xo, p, fun dz z H4 p4 s4 i4 z4 r4 => ?_⟩
    refine s' (g3.step s4 i4) z4 ((r2.st g.volO s3).st g.volO s4) r4 p4 fun d v H5 p s5 i5 r5 z5 => ?_
    exact k d v H5 p ((((s1.trans s2).trans s3).trans s4).trans s5) i5 z5 r5
  · cases rp_bl r3
    refine ⟨false, rfl, ?_⟩
    rw [if_neg Bool.false_ne_true]
    exact fun z => k _ _ H3 p ((s1.trans s2).trans s3) i3 z rp_b
  · exact p.elim
theorem de_chain {op op' : CmpOp} {r r' : R2} {f f' : D → D → (D → Prop) → Prop} (ho : OpR X (compareOp op) r) (s : S2 W X.K f r) (ho' : OpR X (compareOp op') r') (s' : S2 W X.K f' r') (ha : DQ W X Wx a da) (hb : DQ W X Wx b db) (hc : DQ W X Wx c dc)
    (hm : lastMarks [op, op'] [b, c] = false := by with_unfolding_all rfl) : DE W X Wx (.Compare a [op, op'] [b, c] pos) (dChain f f' da db dc) :=
  de_of (pe_chain ho ho' ha hb hc hm) fun σ H Q _ h => chain_core s s' h
theorem dt_chain {op op' : CmpOp} {r r' : R2} {f f' : D → D → (D → Prop) → Prop} (ho : OpR X (compareOp op) r) (s : S2 W X.K f r) (ho' : OpR X (compareOp op') r') (s' : S2 W X.K f' r') (ha : DQ W X Wx a da) (hb : DQ W X Wx b db) (hc : DQ W X Wx c dc)
    (hm : lastMarks [op, op'] [b, c] = false := by with_unfolding_all rfl) : DT W X Wx (.Compare a [op, op'] [b, c] pos) (dTest (dChain f f' da db dc)) :=
  dt_of (pt_chain ho ho' ha hb hc hm) fun σ H Q _ z => by
    obtain ⟨B, O, env, P, R, g, xo, d, k⟩ := z
    refine ⟨B, O, env, _, R, g, xo, d, fun dx x H1 p1 s1 i1 z1 r1 => ?_⟩
    have g1 := g.step s1 i1
    refine ⟨B, O, env, _, R, g1, xo, p1, fun dy y H2 p2 s2 i2 z2 r2 => ?_⟩
    have g2 := g1.step s2 i2
    refine s g2 z2 (r1.st g.volO s2) r2 p2 fun d v H3 p s3 i3 r3 => ?_
    have g3 := g2.step s3 i3
    split at p
    · cases rp_bl r3
      refine ⟨true, rfl, ?_⟩
      rw [if_pos rfl]
      refine ⟨B, O, env, _, R, g3, xo, p, fun dz z H4 p4 s4 i4 z4 r4 => ?_⟩
      refine s' (g3.step s4 i4) z4 ((r2.st g.volO s3).st g.volO s4) r4 p4 fun d v H5 p s5 i5 r5 => ?_
      split at p
      · cases rp_bl r5
        exact ⟨_, rfl, fun z5 => k _ H5 p ((((s1.trans s2).trans s3).trans s4).trans s5) i5 z5⟩
      · exact p.elim
    · cases rp_bl r3
      refine ⟨false, rfl, ?_⟩
      rw [if_neg Bool.false_ne_true]
      exact ⟨_, rfl, fun z => k _ H3 p ((s1.trans s2).trans s3) i3 z⟩
    · exact p.elim
/-- any value as a test -/
def dTruth (x : D) (P : Bool → Prop) : Prop := match x with
  | .non => P false
  | .bl b => P b
  | .int i => P (i != 0)
  | .str x => x.length ≤ sizeLine ∧ P (x.length != 0)
  | .tup xs => P (!xs.isEmpty)
  | .lst xs => P (!xs.isEmpty)
  | .dct xs => P (!xs.isEmpty)
  | _ => False
def dTr (de : DEt) : DTt := fun env P R => de env (fun d => dTruth d P) R
theorem RpAll.isEmpty {K : PySem.W.Frag} {O : Addr → Prop} {H : Hp} {ds : List D} {vs : List V} (h : RpAll W K O H ds vs) : vs.isEmpty = ds.isEmpty := by
  have l := h.len
  cases ds <;> cases vs <;> first | rfl | (simp at l)
theorem RpKV.len {K : PySem.W.Frag} {O : Addr → Prop} {H : Hp} : ∀ {ds : List (Key × D)} {vs : List (Key × V)}, RpKV W K O H ds vs → vs.length = ds.length
  | [], _, h => by
    unfold RpKV at h
    rw [h]
    rfl
  | d :: ds, _, h => by
    unfold RpKV at h
    obtain ⟨v, r, e, _, h2⟩ := h
    rw [e, List.length_cons, List.length_cons, RpKV.len h2]
theorem rpq_dct {K : PySem.W.Frag} {H0 : Hp} {O : Addr → Prop} {H : Hp} {v : V} {ds : List (Key × D)} (h : RpQ W K H0 O H (.dct ds) v) : ∃ a xs, v = .ref a ∧ H a = some (.dK xs) ∧ RpKV W K O H ds xs := by
  rcases h with h | ⟨a, e, _, _, _, xs, h1, h2⟩
  · unfold Rp at h
    obtain ⟨a, xs, e, h1, _, h2⟩ := h
    exact ⟨a, xs, e, h1, h2⟩
  · exact ⟨a, xs, e, h1, h2⟩
theorem truth_of {K : PySem.W.Frag} {H0 : Hp} {O : Addr → Prop} {H : Hp} {v : V} {d : D} {P : Bool → Prop} (r : RpQ W K H0 O H d v) (h : dTruth d P) : ∃ k, TruV K v H k ∧ P k := by
  cases d with
  | non => cases rpq_non r; exact ⟨false, rfl, h⟩
  | bl b => cases rpq_bl r; exact ⟨b, rfl, h⟩
  | int i => cases rpq_int r; exact ⟨_, rfl, h⟩
  | str x =>
    cases rpq_str r
    refine ⟨_, ⟨h.1, rfl⟩, ?_⟩
    have e : ((x.length : Int) != 0) = (x.length != 0) := by
      cases hx : x.length with
      | zero => rfl
      | succ n => simp; omega
    rw [e]
    exact h.2
  | tup xs =>
    obtain ⟨a, vs, rfl, h1, h2⟩ := rpq_tup r
    exact ⟨_, .inr (.inl ⟨vs, h1, rfl⟩), by rw [h2.isEmpty]; exact h⟩
  | lst xs =>
    obtain ⟨a, vs, rfl, h1, h2⟩ := rpq_lst r
    exact ⟨_, .inl ⟨vs, SqL.of h1, rfl⟩, by rw [h2.isEmpty]; exact h⟩
  | dct xs =>
    obtain ⟨a, vs, rfl, h1, h2⟩ := rpq_dct r
    refine ⟨_, .inr (.inr ⟨vs, h1, rfl⟩), ?_⟩
    have l := h2.len
    have e : vs.isEmpty = xs.isEmpty := by cases xs <;> cases vs <;> first | rfl | (simp at l)
    rw [e]
    exact h
  | _ => exact h.elim
theorem dt_truth (ha : DQ W X Wx a da) (he : ∀ whole, isTrue a X.env whole = (do let v ← whole; standAt a.pos; holding [v] (truthy v)) := by intro _; rfl) : DT W X Wx a (dTr da) :=
  dt_of (pt_truth ha he) fun σ H Q _ ⟨B, O, env, P, R, g, xo, d, k⟩ => ⟨B, O, env, _, R, g, xo, d, fun dx x H1 p1 s1 i1 z1 r1 => by
    obtain ⟨b, t, p⟩ := truth_of r1 p1
    exact ⟨b, t, fun z => k b H1 p s1 i1 z⟩⟩
def dNot (t : DTt) : DTt := fun env P R => t env (fun b => P (!b)) R
def dAnd (t u : DTt) : DTt := fun env P R => t env (fun b => match b with
  | true => u env P R
  | false => P false) R
def dOr (t u : DTt) : DTt := fun env P R => t env (fun b => match b with
  | true => P true
  | false => u env P R) R
theorem dt_not (ha : DT W X Wx a ta) : DT W X Wx (.UnaryOp .Not a pos) (dNot ta) :=
  dt_of (pt_not ha) fun σ H Q _ ⟨B, O, env, P, R, g, xo, d, k⟩ => ⟨B, O, env, _, R, g, xo, d, fun b H1 p1 s1 i1 z1 z => k _ H1 p1 s1 i1 z⟩
theorem DW.t (h : DW W X Wx e ta) : DT W X Wx e ta := PW.pt h
theorem dw_of {t : TT} {dt : DTt} (h : PW X e t) (s : ∀ σ H (Q : Bool → Hp → Prop), tDT W X.K Wx dt σ H Q → t σ H (fun v H' => Sized X.K H' → Q v H')) : DW W X Wx e dt :=
  ⟨fun whole pins sh σ H Q I z => thn (h.run whole pins sh σ H _ I (s σ H Q z)) fun u s1 ⟨H', I', q⟩ => ⟨H', I', q (sized_of I')⟩⟩
theorem dw_and1 (ha : DT W X Wx a ta) : DW W X Wx (.BoolOp .And [a] pos) ta := pw_and1 ha
theorem dw_or1 (ha : DT W X Wx a ta) : DW W X Wx (.BoolOp .Or [a] pos) ta := pw_or1 ha
theorem dw_and {rest : List Expr} (ha : DT W X Wx a ta) (hb : DW W X Wx (.BoolOp .And (b :: rest) pos) tb) : DW W X Wx (.BoolOp .And (a :: b :: rest) pos) (dAnd ta tb) :=
  dw_of (pw_and ha hb) fun σ H Q ⟨B, O, env, P, R, g, xo, d, k⟩ => ⟨B, O, env, _, R, g, xo, d, fun b H1 p1 s1 i1 z1 => by
    cases b with
    | true =>
      show tDT W X.K Wx tb σ H1 _
      exact ⟨B, O, env, _, R, g.step s1 i1, xo, p1, fun b H2 p2 s2 i2 z2 z => k b H2 p2 (s1.trans s2) i2 z⟩
    | false => exact fun z => k false H1 p1 s1 i1 z⟩
theorem dw_or {rest : List Expr} (ha : DT W X Wx a ta) (hb : DW W X Wx (.BoolOp .Or (b :: rest) pos) tb) : DW W X Wx (.BoolOp .Or (a :: b :: rest) pos) (dOr ta tb) :=
  dw_of (pw_or ha hb) fun σ H Q ⟨B, O, env, P, R, g, xo, d, k⟩ => ⟨B, O, env, _, R, g, xo, d, fun b H1 p1 s1 i1 z1 => by
    cases b with
    | false =>
      show tDT W X.K Wx tb σ H1 _
      exact ⟨B, O, env, _, R, g.step s1 i1, xo, p1, fun b H2 p2 s2 i2 z2 z => k b H2 p2 (s1.trans s2) i2 z⟩
    | true => exact fun z => k true H1 p1 s1 i1 z⟩
/-- and, or of truth values, as a value -/
def dBl (f : Bool → Prop) : D → Prop := fun d => match d with
  | .bl b => f b
  | _ => False
def dAndV (da db : DEt) : DEt := fun env P R => da env (dBl fun b => match b with
  | true => db env P R
  | false => P (.bl false)) R
def dOrV (da db : DEt) : DEt := fun env P R => da env (dBl fun b => match b with
  | true => P (.bl true)
  | false => db env P R) R
def dNotV (da : DEt) : DEt := fun env P R => da env (dBl fun b => P (.bl (!b))) R
theorem rp_dBl {K : PySem.W.Frag} {O : Addr → Prop} {H : Hp} {d : D} {v : V} {f : Bool → Prop} (r : Rp W K O H d v) (h : dBl f d) : ∃ b, v = .bl b ∧ f b := by
  cases d with
  | bl b => exact ⟨b, rp_bl r, h⟩
  | _ => exact h.elim
theorem de_one {op : BoolOp} (ha : DE W X Wx a da) : DE W X Wx (.BoolOp op [a] pos) da := pe_one ha
theorem de_and {rest : List Expr} (ha : DE W X Wx a da) (hb : DE W X Wx (.BoolOp .And (b :: rest) pos) db) : DE W X Wx (.BoolOp .And (a :: b :: rest) pos) (dAndV da db) :=
  de_of (pe_and ha hb) fun σ H Q _ ⟨B, O, env, P, R, g, xo, d, k⟩ => ⟨B, O, env, _, R, g, xo, d, fun dx x H1 p1 s1 i1 z1 r1 => by
    obtain ⟨b, e, p⟩ := rp_dBl r1 p1
    refine ⟨b, e, ?_⟩
    cases b with
    | true =>
      rw [if_pos rfl]
      exact ⟨B, O, env, _, R, g.step s1 i1, xo, p, fun b v H2 p2 s2 i2 z2 r2 z => k b v H2 p2 (s1.trans s2) i2 z r2⟩
    | false =>
      rw [if_neg Bool.false_ne_true]
      exact fun z => k _ _ H1 p s1 i1 z rp_b⟩
theorem de_or {rest : List Expr} (ha : DE W X Wx a da) (hb : DE W X Wx (.BoolOp .Or (b :: rest) pos) db) : DE W X Wx (.BoolOp .Or (a :: b :: rest) pos) (dOrV da db) :=
  de_of (pe_or ha hb) fun σ H Q _ ⟨B, O, env, P, R, g, xo, d, k⟩ => ⟨B, O, env, _, R, g, xo, d, fun dx x H1 p1 s1 i1 z1 r1 => by
    obtain ⟨b, e, p⟩ := rp_dBl r1 p1
    refine ⟨b, e, ?_⟩
    cases b with
    | false =>
      rw [if_neg Bool.false_ne_true]
      exact ⟨B, O, env, _, R, g.step s1 i1, xo, p, fun b v H2 p2 s2 i2 z2 r2 z => k b v H2 p2 (s1.trans s2) i2 z r2⟩
    | true =>
      rw [if_pos rfl]
      exact fun z => k _ _ H1 p s1 i1 z rp_b⟩
theorem de_notv (ha : DE W X Wx a da) : DE W X Wx (.UnaryOp .Not a pos) (dNotV da) :=
  de_of (pe_not ha) fun σ H Q _ ⟨B, O, env, P, R, g, xo, d, k⟩ => ⟨B, O, env, _, R, g, xo, d, fun dx x H1 p1 s1 i1 z1 r1 => by
    obtain ⟨b, e, p⟩ := rp_dBl r1 p1
    exact ⟨b, e, fun z => k _ _ H1 p s1 i1 z rp_b⟩⟩
/-- a if t else b -/
def dIf (t : DTt) (da db : DEt) : DEt := fun env P R => t env (fun b => match b with
  | true => da env P R
  | false => db env P R) R
theorem de_if (hc : DT W X Wx c ta) (ha : DE W X Wx a da) (hb : DE W X Wx b db) : DE W X Wx (.IfExp c a b pos) (dIf ta da db) :=
  de_of (pe_ifExp hc ha hb) fun σ H Q _ ⟨B, O, env, P, R, g, xo, d, k⟩ => ⟨B, O, env, _, R, g, xo, d, fun b H1 p1 s1 i1 z1 => by
    cases b with
    | false =>
      rw [if_neg Bool.false_ne_true]
      exact ⟨B, O, env, _, R, g.step s1 i1, xo, p1, fun b v H2 p2 s2 i2 z2 r2 z => k b v H2 p2 (s1.trans s2) i2 z r2⟩
    | true =>
      rw [if_pos rfl]
      exact ⟨B, O, env, _, R, g.step s1 i1, xo, p1, fun b v H2 p2 s2 i2 z2 r2 z => k b v H2 p2 (s1.trans s2) i2 z r2⟩⟩

/-! ### arguments, displays -/
theorem da_nil : DA W X Wx [] dNil := da_of pa_nil fun σ H Q _ ⟨B, O, env, P, R, g, xo, d, k⟩ => fun z => k [] [] H d (StO.refl H) g.inv z rpAll_nil
theorem da_cons (ha : DE W X Wx e de) (hr : DA W X Wx es ga) (hs : starEach (e :: es) X.env = (false, eval e X.env) :: starEach es X.env := by rfl) : DA W X Wx (e :: es) (dCons de ga) :=
  da_of (pa_cons ha hr hs) fun σ H Q _ ⟨B, O, env, P, R, g, xo, d, k⟩ => ⟨B, O, env, _, R, g, xo, d, fun dx x H1 p1 s1 i1 z1 r1 =>
    ⟨B, O, env, _, R, g.step s1 i1, xo, p1, fun ds vs H2 p2 s2 i2 z2 r2 z => k (dx :: ds) (x :: vs) H2 p2 (s1.trans s2) i2 z (rpAll_cons (r1.st ((g.step s1 i1).toO s2)) r2)⟩⟩
theorem daq_nil : DAQ W X Wx [] dNil := ⟨fun pos pins s σ H Q I ⟨B, O, env, P, R, g, xo, d, k⟩ => thn (pa_nil.run pos pins s σ H _ I (k [] [] H d (StO.refl H) g.inv (sized_of I) rfl)) fun _ _ h => h⟩
theorem daq_cons (ha : DQ W X Wx e de) (hr : DAQ W X Wx es ga) (hs : starEach (e :: es) X.env = (false, eval e X.env) :: starEach es X.env := by rfl) : DAQ W X Wx (e :: es) (dCons de ga) :=
  ⟨fun pos pins s σ H Q I ⟨B, O, env, P, R, g, xo, d, k⟩ => thn ((pa_cons ha hr hs).run pos pins s σ H (fun vs H' => Sized X.K H' → Q vs H') I ⟨B, O, env, _, R, g, xo, d, fun dx x H1 p1 s1 i1 z1 r1 =>
    ⟨B, O, env, _, R, g.step s1 i1, xo, p1, fun ds vs H2 p2 s2 i2 z2 r2 z => k (dx :: ds) (x :: vs) H2 p2 (s1.trans s2) i2 z ⟨x, vs, rfl, r1.st g.volO s2, r2⟩⟩⟩)
    fun us s1 ⟨vs, H1, I1, rr, q⟩ => ⟨vs, H1, I1, rr, q (sized_of I1)⟩⟩
def dTup (da : DAt) : DEt := fun env P R => da env (fun ds => ds.length ≤ 100000 ∧ P (.tup ds)) R
def dLst (da : DAt) : DEt := fun env P R => da env (fun ds => ds.length ≤ 100000 ∧ P (.lst ds)) R
theorem sz100000 {n : Nat} (h : n ≤ 100000) : n ≤ sizeLine := Nat.le_trans h (by decide)
theorem de_tup {x1} (ha : DA W X Wx es ga) : DE W X Wx (.Tuple es x1 pos) (dTup ga) :=
  de_of (pe_tup ha) fun σ H Q _ ⟨B, O, env, P, R, g, xo, d, k⟩ => ⟨B, O, env, _, R, g, xo, d, fun ds vs H1 p1 s1 i1 z1 r1 =>
    ⟨by rw [r1.len]; exact sz100000 p1.1, fun p hp z => k _ _ _ p1.2 (s1.trans (StO.new hp)) ((g.step s1 i1).invNew hp) z (rp_new_tup hp ((g.step s1 i1).nofresh hp) r1)⟩⟩
theorem de_lst (ha : DA W X Wx es ga) : DE W X Wx (.List es pos) (dLst ga) :=
  de_of (pe_lst ha) fun σ H Q _ ⟨B, O, env, P, R, g, xo, d, k⟩ => ⟨B, O, env, _, R, g, xo, d, fun ds vs H1 p1 s1 i1 z1 r1 =>
    ⟨by rw [r1.len]; exact sz100000 p1.1, fun p hp z => k _ _ _ p1.2 (s1.trans (StO.new hp)) ((g.step s1 i1).invNew hp) z (rp_new_lst hp ((g.step s1 i1).nofresh hp) r1)⟩⟩

/-! ### built-in calls -/
theorem callB_core {r : List V → Hp → VK → Prop} {f : List D → (D → Prop) → Prop} (s : SC W X.K f r) {σ : L2.St} {H : Hp} {Q : VK} (h : tD W X.K Wx (dCallB f ga) σ H Q) : tCB r (tDAQ W X.K Wx ga) σ H (fun v H' => Sized X.K H' → Q v H') := by
  obtain ⟨B, O, env, P, R, g, xo, d, k⟩ := h
  refine ⟨B, O, env, _, R, g, xo, d, fun ds vs H1 p1 s1 i1 z1 r1 => ?_⟩
  exact s (g.step s1 i1) z1 r1 p1 fun d v H' p s3 i3 r3 z3 => k d v H' p (s1.trans s3) i3 z3 r3
theorem de_callB {id : String} {r : List V → Hp → VK → Prop} {f : List D → (D → Prop) → Prop} {x : Str} {p : Pos} (hc : CallR X (.builtin id) r) (s : SC W X.K f r) (hm : X.mg x = none) (ha : DAQ W X Wx (e :: es) ga) (hg : Gl X x := by rfl)
    (hv : bootBuiltins x = some (.builtin id) := by decide +kernel) (hn : x ≠ "__name__" := by decide) (hdb : (x == ("__debug__" : Str)) = false := by decide)
    (he : starEach (e :: es) X.env = (false, eval e X.env) :: starEach es X.env := by rfl) (hpl : (backTo pos (starEach es X.env)).any (·.1) = false := by rfl) : DE W X Wx (.Call (.Name x p) (e :: es) [] pos) (dCallB f ga) :=
  de_of (pe_callB hc hg hm hv ha hn hdb he hpl) fun σ H Q _ h => callB_core s h
theorem de_callTy {id : String} {r : List V → Hp → VK → Prop} {f : List D → (D → Prop) → Prop} {x : Str} {p : Pos} (hc : CallR X (.type id) r) (s : SC W X.K f r) (hm : X.mg x = none) (ha : DAQ W X Wx (e :: es) ga) (hg : Gl X x := by rfl)
    (hv : bootBuiltins x = some (.type id) := by decide +kernel) (hn : x ≠ "__name__" := by decide) (hdb : (x == ("__debug__" : Str)) = false := by decide)
    (he : starEach (e :: es) X.env = (false, eval e X.env) :: starEach es X.env := by rfl) (hpl : (backTo pos (starEach es X.env)).any (·.1) = false := by rfl) : DE W X Wx (.Call (.Name x p) (e :: es) [] pos) (dCallB f ga) :=
  de_of (pe_callTy hc hg hm hv ha hn hdb he hpl) fun σ H Q _ h => callB_core s h
end
end DL

namespace DL
open PySem L2

/-! ### data's own equality -/
mutual
def D.py : D → PyData
  | .non => .none
  | .bl b => .bool b
  | .int i => .int i
  | .str x => .str x
  | .tup ds => .tuple (pyAll ds)
  | .lst ds => .list (pyAll ds)
  | .dct _ => .dict []
  | .obj _ _ => .dict []
  | .ex _ => .dict []
def pyAll : List D → List PyData
  | [] => []
  | d :: ds => d.py :: pyAll ds
end
mutual
/-- plain data that == reads: no dicts, objects -/
def D.pl : D → Bool
  | .non => true
  | .bl _ => true
  | .int _ => true
  | .str _ => true
  | .tup ds => plAll ds
  | .lst ds => plAll ds
  | .dct _ => false
  | .obj _ _ => false
  | .ex _ => false
def plAll : List D → Bool
  | [] => true
  | d :: ds => d.pl && plAll ds
end
mutual
def D.dep : D → Nat
  | .non => 0
  | .bl _ => 0
  | .int _ => 0
  | .str _ => 0
  | .tup ds => depAll ds + 1
  | .lst ds => depAll ds + 1
  | .dct _ => 0
  | .obj _ _ => 0
  | .ex _ => 0
def depAll : List D → Nat
  | [] => 0
  | d :: ds => max d.dep (depAll ds)
end
mutual
theorem pl_ok : ∀ (d : D), d.pl = true → d.py.plain = true ∧ d.py.depth = d.dep
  | .non, _ => ⟨rfl, rfl⟩
  | .bl _, _ => ⟨rfl, rfl⟩
  | .int _, _ => ⟨rfl, rfl⟩
  | .str _, _ => ⟨rfl, rfl⟩
  | .tup ds, h => by
    unfold D.pl at h
    obtain ⟨h1, h2⟩ := plAll_ok ds h
    unfold D.py D.dep PyData.plain PyData.depth
    exact ⟨h1, by rw [h2]⟩
  | .lst ds, h => by
    unfold D.pl at h
    obtain ⟨h1, h2⟩ := plAll_ok ds h
    unfold D.py D.dep PyData.plain PyData.depth
    exact ⟨h1, by rw [h2]⟩
  | .dct _, h => by unfold D.pl at h; cases h
  | .obj _ _, h => by unfold D.pl at h; cases h
  | .ex _, h => by unfold D.pl at h; cases h
theorem plAll_ok : ∀ (ds : List D), plAll ds = true → PyData.plainAll (pyAll ds) = true ∧ PyData.depthAll (pyAll ds) = depAll ds
  | [], _ => ⟨rfl, rfl⟩
  | d :: ds, h => by
    unfold plAll at h
    obtain ⟨a, b⟩ := Bool.and_eq_true_iff.mp h
    obtain ⟨a1, a2⟩ := pl_ok d a
    obtain ⟨b1, b2⟩ := plAll_ok ds b
    unfold pyAll
    exact ⟨by unfold PyData.plainAll; rw [a1, b1]; rfl, by unfold PyData.depthAll depAll; rw [a2, b2]⟩
end
section
variable {W : Wd} {K : PySem.W.Frag} {O : Addr → Prop} {H0 H : Hp}
mutual
theorem dp_of : ∀ (d : D) (v : V), d.pl = true → Rp W K O H d v → Dp K H v d.py
  | .non, v, _, r => by cases rp_non r; exact .non
  | .bl b, v, _, r => by cases rp_bl r; exact .bl b
  | .int b, v, _, r => by cases rp_int r; exact .int b
  | .str b, v, _, r => by cases rp_str r; exact .str b
  | .tup ds, v, h, r => by
    obtain ⟨a, xs, rfl, h1, h2⟩ := rp_tup r
    unfold D.pl at h
    exact .tup h1 (dpAll_of ds xs h h2)
  | .lst ds, v, h, r => by
    obtain ⟨a, xs, rfl, h1, h2⟩ := rp_lst r
    unfold D.pl at h
    exact .lst (SqL.of h1) (dpAll_of ds xs h h2)
  | .dct _, v, h, r => by unfold D.pl at h; cases h
  | .obj _ _, v, h, r => by unfold D.pl at h; cases h
  | .ex _, v, h, r => by unfold D.pl at h; cases h
theorem dpAll_of : ∀ (ds : List D) (vs : List V), plAll ds = true → RpAll W K O H ds vs → DpAll K H vs (pyAll ds)
  | [], vs, _, r => by
    unfold RpAll at r
    rw [r]
    exact .nil
  | d :: ds, vs, h, r => by
    unfold plAll at h
    obtain ⟨a, b⟩ := Bool.and_eq_true_iff.mp h
    unfold RpAll at r
    obtain ⟨v, q, rfl, r1, r2⟩ := r
    exact .cons (dp_of d v a r1) (dpAll_of ds q b r2)
end
theorem dp_ofQ {d : D} {v : V} (h : d.pl = true) (r : RpQ W K H0 O H d v) : Dp K H v d.py := by
  rcases r with r | r
  · exact dp_of d v h r
  · cases d with
    | lst ds =>
      obtain ⟨a, xs, rfl, h1, h2⟩ := rpq_lst (.inr r : RpQ W K H0 O H (.lst ds) v)
      unfold D.pl at h
      exact .lst (SqL.of h1) (dpAll_of ds xs h h2)
    | _ =>
      first
        | (obtain ⟨_, _, _, _, _, z⟩ := r; exact z.elim)
        | (unfold D.pl at h; cases h)
end
/-- data that == compares -/
def eqOk (x y : D) : Bool := x.pl && (y.pl && (decide (x.dep ≤ 60) || decide (y.dep ≤ 60)))
theorem eqOk_of {x y : D} (h : eqOk x y = true) : x.pl = true ∧ y.pl = true ∧ min x.py.depth y.py.depth ≤ 60 := by
  unfold eqOk at h
  obtain ⟨h1, h2⟩ := Bool.and_eq_true_iff.mp h
  obtain ⟨h2, h3⟩ := Bool.and_eq_true_iff.mp h2
  refine ⟨h1, h2, ?_⟩
  rw [(pl_ok x h1).2, (pl_ok y h2).2]
  rcases Bool.or_eq_true_iff.mp h3 with h | h
  · have := of_decide_eq_true h
    omega
  · have := of_decide_eq_true h
    omega
section
variable {X : Cx}
def rEqP (K : PySem.W.Frag) : R2 := fun x y H Q => ∃ d e, Dp K H x d ∧ Dp K H y e ∧ d.plain = true ∧ e.plain = true ∧ min d.depth e.depth ≤ 60 ∧ Q (.bl (PyData.eqv d e)) H
def rNeP (K : PySem.W.Frag) : R2 := fun x y H Q => ∃ d e, Dp K H x d ∧ Dp K H y e ∧ d.plain = true ∧ e.plain = true ∧ min d.depth e.depth ≤ 60 ∧ Q (.bl (!PyData.eqv d e)) H
theorem op_eqP (hu : X.A.units + 64 < cLine) : OpR X (compareOp .Eq) (rEqP X.K) := by
  intro pins s σ H x y v u Q I rx ry h
  obtain ⟨d, e, hd, he, sd, se, hm, q⟩ := h
  obtain ⟨as, r1⟩ := Dp.reads I d x v hd rx
  obtain ⟨bs, r2⟩ := Dp.reads I e y u he ry
  exact SeqAt.eq_plain r1 r2 sd se (by omega) ⟨.bl _, H, I, rfl, q⟩
theorem op_neP (hu : X.A.units + 64 < cLine) : OpR X (compareOp .NotEq) (rNeP X.K) := by
  intro pins s σ H x y v u Q I rx ry h
  obtain ⟨d, e, hd, he, sd, se, hm, q⟩ := h
  obtain ⟨as, r1⟩ := Dp.reads I d x v hd rx
  obtain ⟨bs, r2⟩ := Dp.reads I e y u he ry
  exact SeqAt.ne_plain r1 r2 sd se (by omega) ⟨.bl _, H, I, rfl, q⟩
/-- x in ys, plain data -/
def rInP (K : PySem.W.Frag) (neg : Bool) : R2 := fun x y H Q => ∃ a ys ds d, y = .ref a ∧ (SqL K H a ys ∨ SqT K H a ys) ∧ DpAll K H ys ds ∧ Dp K H x d ∧ PyData.plainAll ds = true ∧ d.plain = true ∧ d.depth ≤ 60 ∧ Q (.bl (if neg = true then !ds.any (fun y => PyData.eqv y d) else ds.any fun y => PyData.eqv y d)) H
theorem op_inP (hu : X.A.units + 64 < cLine) : OpR X (compareOp .In) (rInP X.K false) := by
  intro pins s σ H x y v u Q I rx ry h
  obtain ⟨a, ys, ds, d, rfl, hs, hd, he, sd, se, hm, q⟩ := h
  cases (show u = Value.ref a from ry)
  obtain ⟨as, r1⟩ := Dp.reads I d x v he rx
  rcases hs with hs | hs
  · obtain ⟨bs, r2⟩ := Dp.reads I (.list ds) (.ref a) (.ref a) (.lst hs hd) rfl
    exact SeqAt.in_list_data r2 r1 sd se (by omega) ⟨.bl _, H, I, rfl, q⟩
  · obtain ⟨bs, r2⟩ := Dp.reads I (.tuple ds) (.ref a) (.ref a) (.tup hs hd) rfl
    exact SeqAt.in_tuple_data r2 r1 sd se (by omega) ⟨.bl _, H, I, rfl, q⟩
theorem op_notInP (hu : X.A.units + 64 < cLine) : OpR X (compareOp .NotIn) (rInP X.K true) := by
  intro pins s σ H x y v u Q I rx ry h
  obtain ⟨a, ys, ds, d, rfl, hs, hd, he, sd, se, hm, q⟩ := h
  cases (show u = Value.ref a from ry)
  obtain ⟨as, r1⟩ := Dp.reads I d x v he rx
  rcases hs with hs | hs
  · obtain ⟨bs, r2⟩ := Dp.reads I (.list ds) (.ref a) (.ref a) (.lst hs hd) rfl
    exact SeqAt.notIn_list_data r2 r1 sd se (by omega) ⟨.bl _, H, I, rfl, q⟩
  · obtain ⟨bs, r2⟩ := Dp.reads I (.tuple ds) (.ref a) (.ref a) (.tup hs hd) rfl
    exact SeqAt.notIn_tuple_data r2 r1 sd se (by omega) ⟨.bl _, H, I, rfl, q⟩
end
/-- two scalars that == tells apart as data does -/
def sclD : D → D → Bool
  | .non, .non => true | .non, .int _ => true | .int _, .non => true | .non, .bl _ => true | .bl _, .non => true | .non, .str _ => true | .str _, .non => true
  | .int _, .int _ => true | .bl _, .bl _ => true | .str _, .str _ => true
  | .int _, .str _ => true | .str _, .int _ => true | .bl _, .str _ => true | .str _, .bl _ => true
  | _, _ => false
def D.eqb (x y : D) : Bool := PyData.eqv x.py y.py
def dEq (x y : D) (P : D → Prop) : Prop := (sclD x y = true ∨ eqOk x y = true) ∧ P (.bl (x.eqb y))
def dNe (x y : D) (P : D → Prop) : Prop := (sclD x y = true ∨ eqOk x y = true) ∧ P (.bl (!x.eqb y))
theorem scl_eq {W : Wd} {K : PySem.W.Frag} {H0 : Hp} {O : Addr → Prop} {H : Hp} {x y : D} {v u : V} (h : sclD x y = true) (r : RpQ W K H0 O H x v) (q : RpQ W K H0 O H y u) : scal v u = true ∧ decide (v = u) = x.eqb y := by
  cases x with
  | non =>
    cases rpq_non r
    cases y with
    | non => cases rpq_non q; exact ⟨rfl, rfl⟩
    | bl b => cases rpq_bl q; exact ⟨rfl, rfl⟩
    | int b => cases rpq_int q; exact ⟨rfl, rfl⟩
    | str b => cases rpq_str q; exact ⟨rfl, rfl⟩
    | _ => cases h
  | bl a =>
    cases rpq_bl r
    cases y with
    | non => cases rpq_non q; exact ⟨rfl, rfl⟩
    | bl b => cases rpq_bl q; exact ⟨rfl, dec_bl⟩
    | str b => cases rpq_str q; exact ⟨rfl, rfl⟩
    | _ => cases h
  | int a =>
    cases rpq_int r
    cases y with
    | non => cases rpq_non q; exact ⟨rfl, rfl⟩
    | int b => cases rpq_int q; exact ⟨rfl, dec_int⟩
    | str b => cases rpq_str q; exact ⟨rfl, rfl⟩
    | _ => cases h
  | str a =>
    cases rpq_str r
    cases y with
    | non => cases rpq_non q; exact ⟨rfl, rfl⟩
    | bl b => cases rpq_bl q; exact ⟨rfl, rfl⟩
    | int b => cases rpq_int q; exact ⟨rfl, rfl⟩
    | str b => cases rpq_str q; exact ⟨rfl, dec_str⟩
    | _ => cases h
  | _ => cases h
section
variable {W : Wd} {X : Cx}
theorem s_eq : S2 W X.K dEq (fun x y H Q => rEq x y H Q ∨ rEqP X.K x y H Q) := fun g _ r q h k => by
  obtain ⟨h1, h2⟩ := h
  rcases h1 with h1 | h1
  · obtain ⟨e1, e2⟩ := scl_eq h1 r q
    exact .inl ⟨e1, by rw [e2]; exact k _ _ _ h2 (StO.refl _) g.inv rp_b⟩
  · obtain ⟨h1, h3, h4⟩ := eqOk_of h1
    exact .inr ⟨_, _, dp_ofQ h1 r, dp_ofQ h3 q, (pl_ok _ h1).1, (pl_ok _ h3).1, h4, k _ _ _ h2 (StO.refl _) g.inv rp_b⟩
theorem s_ne : S2 W X.K dNe (fun x y H Q => rNe x y H Q ∨ rNeP X.K x y H Q) := fun g _ r q h k => by
  obtain ⟨h1, h2⟩ := h
  rcases h1 with h1 | h1
  · obtain ⟨e1, e2⟩ := scl_eq h1 r q
    exact .inl ⟨e1, by rw [e2]; exact k _ _ _ h2 (StO.refl _) g.inv rp_b⟩
  · obtain ⟨h1, h3, h4⟩ := eqOk_of h1
    exact .inr ⟨_, _, dp_ofQ h1 r, dp_ofQ h3 q, (pl_ok _ h1).1, (pl_ok _ h3).1, h4, k _ _ _ h2 (StO.refl _) g.inv rp_b⟩
/-! ### + - * // % ** -/
def dAdd (x y : D) (P : D → Prop) : Prop := match x, y with
  | .int i, .int j => P (.int (i + j))
  | .str i, .str j => i.length + j.length ≤ sizeLine ∧ P (.str (i ++ j))
  | .tup i, .tup j => i.length + j.length ≤ sizeLine ∧ P (.tup (i ++ j))
  | .lst i, .lst j => i.length + j.length ≤ sizeLine ∧ P (.lst (i ++ j))
  | _, _ => False
def rAddA (K : PySem.W.Frag) : R2 := fun x y H Q => (((rI0 fun i j => .int (i + j)) x y H Q ∨ (fun x y H Q => ∃ i j, x = .str i ∧ y = .str j ∧ i.length + j.length ≤ sizeLine ∧ Q (.str (i ++ j)) H : R2) x y H Q) ∨ rCatA K x y H Q) ∨ rCat x y H Q
theorem op_addA : OpR X (binaryOp .Add) (rAddA X.K) := ((op_add.or op_add_str).or op_catA).or op_cat
theorem s_add : S2 W X.K dAdd (rAddA X.K) := fun {B O H σ env x y dx dy P Q} g _ r q h k => by
  unfold dAdd at h
  split at h
  · cases rpq_int r
    cases rpq_int q
    exact .inl (.inl (.inl ⟨_, _, rfl, rfl, k _ _ _ h (StO.refl _) g.inv rp_i⟩))
  · cases rpq_str r
    cases rpq_str q
    exact .inl (.inl (.inr ⟨_, _, rfl, rfl, h.1, k _ _ _ h.2 (StO.refl _) g.inv rp_s⟩))
  · rename_i ds es
    rcases r with r | ⟨_, _, _, _, _, z⟩
    · rcases q with q | ⟨_, _, _, _, _, z⟩
      · obtain ⟨a, xs, rfl, h1, h2⟩ := rp_tup r
        obtain ⟨b, ys, rfl, h3, h4⟩ := rp_tup q
        refine .inl (.inr ⟨a, b, xs, ys, rfl, rfl, h1, h3, by rw [h2.len, h4.len]; exact h.1, fun e => ?_, fun e1 e => ?_, fun _ _ p hp => ?_⟩)
        · have l := h2.len
          rw [e] at l
          have e0 : ds = [] := List.eq_nil_of_length_eq_zero l.symm
          subst e0
          exact k _ _ _ h.2 (StO.refl _) g.inv q
        · have l := h4.len
          rw [e] at l
          have e0 : es = [] := List.eq_nil_of_length_eq_zero l.symm
          subst e0
          exact k (.tup (ds ++ [])) _ _ h.2 (StO.refl _) g.inv (by rw [List.append_nil]; exact r)
        · exact k _ _ _ h.2 (StO.new hp) (g.invNew hp) (rp_new_tup hp (g.nofresh hp) (h2.append h4))
      · exact z.elim
    · exact z.elim
  · obtain ⟨a, xs, rfl, h1, h2⟩ := rpq_lst r
    obtain ⟨b, ys, rfl, h3, h4⟩ := rpq_lst q
    exact .inr ⟨a, b, xs, ys, rfl, rfl, h1, h3, by rw [h2.len, h4.len]; exact h.1, fun p hp => k _ _ _ h.2 (StO.new hp) (g.invNew hp) (rp_new_lst hp (g.nofresh hp) (h2.append h4))⟩
  · exact h.elim
def dI0 (f : Int → Int → D) (x y : D) (P : D → Prop) : Prop := match x, y with
  | .int i, .int j => P (f i j)
  | _, _ => False
def dIC (C : Int → Int → Prop) (f : Int → Int → D) (x y : D) (P : D → Prop) : Prop := match x, y with
  | .int i, .int j => C i j ∧ P (f i j)
  | _, _ => False
theorem s_I0 {f : Int → Int → D} {g : Int → Int → V} (e : ∀ i j O H, Rp W X.K O H (f i j) (g i j)) : S2 W X.K (dI0 f) (rI0 g) := fun gd _ r q h k => by
  unfold dI0 at h
  split at h
  · cases rpq_int r
    cases rpq_int q
    exact ⟨_, _, rfl, rfl, k _ _ _ h (StO.refl _) gd.inv (e _ _ _ _)⟩
  · exact h.elim
theorem s_IC {C : Int → Int → Prop} {f : Int → Int → D} {g : Int → Int → V} (e : ∀ i j O H, Rp W X.K O H (f i j) (g i j)) : S2 W X.K (dIC C f) (rI C g) := fun gd _ r q h k => by
  unfold dIC at h
  split at h
  · cases rpq_int r
    cases rpq_int q
    exact ⟨_, _, rfl, rfl, h.1, k _ _ _ h.2 (StO.refl _) gd.inv (e _ _ _ _)⟩
  · exact h.elim
abbrev dSub := dI0 fun i j => .int (i - j)
abbrev dMul := dIC CMul fun i j => .int (i * j)
abbrev dMod := dIC (fun _ j => 0 < j) fun i j => .int (i % j)
abbrev dFdiv := dIC CDivW fun i j => .int (i / j)
abbrev dPow := dIC CPow fun i j => .int (i ^ j.toNat)
theorem s_sub : S2 W X.K dSub (rI0 fun i j => .int (i - j)) := s_I0 fun _ _ _ _ => rp_i
theorem s_mul : S2 W X.K dMul (rI CMul fun i j => .int (i * j)) := s_IC fun _ _ _ _ => rp_i
theorem s_mod : S2 W X.K dMod (rI (fun _ j => 0 < j) fun i j => .int (i % j)) := s_IC fun _ _ _ _ => rp_i
theorem s_fdiv : S2 W X.K dFdiv (rI CDivW fun i j => .int (i / j)) := s_IC fun _ _ _ _ => rp_i
theorem s_pow : S2 W X.K dPow (rI CPow fun i j => .int (i ^ j.toNat)) := s_IC fun _ _ _ _ => rp_i
abbrev dLt := dI0 fun i j => .bl (decide (i < j))
abbrev dLe := dI0 fun i j => .bl (decide (i ≤ j))
abbrev dGt := dI0 fun i j => .bl (decide (j < i))
abbrev dGe := dI0 fun i j => .bl (decide (j ≤ i))
theorem s_lt : S2 W X.K dLt (rI0 fun i j => .bl (decide (i < j))) := s_I0 fun _ _ _ _ => rp_b
theorem s_le : S2 W X.K dLe (rI0 fun i j => .bl (decide (i ≤ j))) := s_I0 fun _ _ _ _ => rp_b
theorem s_gt : S2 W X.K dGt (rI0 fun i j => .bl (decide (j < i))) := s_I0 fun _ _ _ _ => rp_b
theorem s_ge : S2 W X.K dGe (rI0 fun i j => .bl (decide (j ≤ i))) := s_I0 fun _ _ _ _ => rp_b
/-! ### is None -/
def isNon : D → Bool
  | .non => true
  | _ => false
def dIsN (x y : D) (P : D → Prop) : Prop := match y with
  | .non => (∀ k, x ≠ .ex k) ∧ P (.bl (isNon x))
  | _ => False
def dNotN (x y : D) (P : D → Prop) : Prop := match y with
  | .non => (∀ k, x ≠ .ex k) ∧ P (.bl (!isNon x))
  | _ => False
theorem isNon_of {K : PySem.W.Frag} {H0 : Hp} {O : Addr → Prop} {H : Hp} {d : D} {v : V} (n : ∀ k, d ≠ .ex k) (r : RpQ W K H0 O H d v) : decide (v = .non) = isNon d := by
  rcases r with r | ⟨a, rfl, _, _, _, z⟩
  · cases d with
    | non => cases rp_non r; rfl
    | bl b => cases rp_bl r; rfl
    | int b => cases rp_int r; rfl
    | str b => cases rp_str r; rfl
    | tup ds => obtain ⟨a, xs, rfl, _⟩ := rp_tup r; rfl
    | lst ds => obtain ⟨a, xs, rfl, _⟩ := rp_lst r; rfl
    | dct ds => unfold Rp at r; obtain ⟨a, xs, rfl, _⟩ := r; rfl
    | obj C ds => unfold Rp at r; obtain ⟨a, dx, xs, rfl, _⟩ := r; rfl
    | ex k => exact (n k rfl).elim
  · cases d with
    | non => exact z.elim
    | _ => rfl
theorem s_isN : S2 W X.K dIsN (fun x y H Q => y = .non ∧ Q (.bl (decide (x = .non))) H) := fun g _ r q h k => by
  unfold dIsN at h
  split at h
  · cases rpq_non q
    exact ⟨rfl, by rw [isNon_of h.1 r]; exact k _ _ _ h.2 (StO.refl _) g.inv rp_b⟩
  · exact h.elim
theorem s_notN : S2 W X.K dNotN (fun x y H Q => y = .non ∧ Q (.bl (!decide (x = .non))) H) := fun g _ r q h k => by
  unfold dNotN at h
  split at h
  · cases rpq_non q
    exact ⟨rfl, by rw [isNon_of h.1 r]; exact k _ _ _ h.2 (StO.refl _) g.inv rp_b⟩
  · exact h.elim
/-! ### in, of flat things in a list or tuple; a text in a text -/
def flatD : D → Bool
  | .non => true
  | .bl _ => true
  | .int _ => true
  | .str _ => true
  | _ => false
def inD (x : D) (xs : List D) : Bool := xs.any fun y => y.eqb x
def strIn (x y : Str) : Bool := !(Builtin.Str.occurrences y x 0 y.length 1).isEmpty
def inOk (x : D) (xs : List D) : Bool := (flatD x && xs.all flatD) || (x.pl && (plAll xs && decide (x.dep ≤ 60)))
def dIn (x y : D) (P : D → Prop) : Prop := match y with
  | .lst xs => inOk x xs = true ∧ P (.bl (inD x xs))
  | .tup xs => inOk x xs = true ∧ P (.bl (inD x xs))
  | .str s => match x with
    | .str t => P (.bl (strIn t s))
    | _ => False
  | _ => False
def dNotIn (x y : D) (P : D → Prop) : Prop := dIn x y fun d => match d with
  | .bl b => P (.bl (!b))
  | _ => False
theorem flat_of {K : PySem.W.Frag} {H0 : Hp} {O : Addr → Prop} {H : Hp} {d : D} {v : V} (f : flatD d = true) (r : RpQ W K H0 O H d v) : flatV v = true := by
  cases d with
  | non => cases rpq_non r; rfl
  | bl b => cases rpq_bl r; rfl
  | int b => cases rpq_int r; rfl
  | str b => cases rpq_str r; rfl
  | _ => cases f
theorem eqV_of {K : PySem.W.Frag} {H0 : Hp} {O : Addr → Prop} {H : Hp} {d e : D} {v u : V} (f : flatD d = true) (f' : flatD e = true) (r : RpQ W K H0 O H d v) (q : RpQ W K H0 O H e u) : eqV v u = d.eqb e := by
  cases d with
  | non =>
    cases rpq_non r
    cases e with
    | non => cases rpq_non q; rfl
    | bl b => cases rpq_bl q; rfl
    | int b => cases rpq_int q; rfl
    | str b => cases rpq_str q; rfl
    | _ => cases f'
  | bl a =>
    cases rpq_bl r
    cases e with
    | non => cases rpq_non q; rfl
    | bl b => cases rpq_bl q; rfl
    | int b => cases rpq_int q; rfl
    | str b => cases rpq_str q; rfl
    | _ => cases f'
  | int a =>
    cases rpq_int r
    cases e with
    | non => cases rpq_non q; rfl
    | bl b => cases rpq_bl q; rfl
    | int b => cases rpq_int q; rfl
    | str b => cases rpq_str q; rfl
    | _ => cases f'
  | str a =>
    cases rpq_str r
    cases e with
    | non => cases rpq_non q; rfl
    | bl b => cases rpq_bl q; rfl
    | int b => cases rpq_int q; rfl
    | str b => cases rpq_str q; rfl
    | _ => cases f'
  | _ => cases f
theorem all_flat {K : PySem.W.Frag} {O : Addr → Prop} {H : Hp} : ∀ {ds : List D} {vs : List V}, ds.all flatD = true → RpAll W K O H ds vs → vs.all flatV = true
  | [], _, _, h => by
    unfold RpAll at h
    rw [h]
    rfl
  | d :: ds, _, f, h => by
    unfold RpAll at h
    obtain ⟨v, r, e, h1, h2⟩ := h
    subst e
    rw [List.all_cons, Bool.and_eq_true] at f
    rw [List.all_cons, flat_of (H0 := H) f.1 (.inl h1), all_flat f.2 h2]
    rfl
theorem inV_of {K : PySem.W.Frag} {H0 : Hp} {O : Addr → Prop} {H : Hp} {x : D} {u : V} (fx : flatD x = true) (q : RpQ W K H0 O H x u) : ∀ {ds : List D} {vs : List V}, ds.all flatD = true → RpAll W K O H ds vs → inV u vs = inD x ds
  | [], _, _, h => by
    unfold RpAll at h
    rw [h]
    rfl
  | d :: ds, _, f, h => by
    unfold RpAll at h
    obtain ⟨v, r, e, h1, h2⟩ := h
    subst e
    rw [List.all_cons, Bool.and_eq_true] at f
    show (eqV v u || inV u r) = (d.eqb x || inD x ds)
    rw [eqV_of f.1 fx (.inl h1) q, inV_of fx q f.2 h2]
def rInA (K : PySem.W.Frag) : R2 := fun x y H Q => (rIn K false x y H Q ∨ (fun x y H Q => ∃ i j, x = .str i ∧ y = .str j ∧ Q (.bl (!(Builtin.Str.occurrences j i 0 j.length 1).isEmpty)) H : R2) x y H Q) ∨ rInP K false x y H Q
def rNotInA (K : PySem.W.Frag) : R2 := fun x y H Q => (rIn K true x y H Q ∨ (fun x y H Q => ∃ i j, x = .str i ∧ y = .str j ∧ Q (.bl (!(!(Builtin.Str.occurrences j i 0 j.length 1).isEmpty))) H : R2) x y H Q) ∨ rInP K true x y H Q
theorem op_inA (hu : X.A.units + 64 < cLine) : OpR X (compareOp .In) (rInA X.K) := (op_in_seq.or op_in_str).or (op_inP hu)
theorem op_notInA (hu : X.A.units + 64 < cLine) : OpR X (compareOp .NotIn) (rNotInA X.K) := (op_notIn_seq.or op_notIn_str).or (op_notInP hu)
theorem inOk_of {x : D} {xs : List D} (h : inOk x xs = true) : (flatD x = true ∧ xs.all flatD = true) ∨ (x.pl = true ∧ plAll xs = true ∧ x.py.depth ≤ 60) := by
  unfold inOk at h
  rcases Bool.or_eq_true_iff.mp h with h | h
  · exact .inl (Bool.and_eq_true_iff.mp h)
  · obtain ⟨h1, h2⟩ := Bool.and_eq_true_iff.mp h
    obtain ⟨h2, h3⟩ := Bool.and_eq_true_iff.mp h2
    exact .inr ⟨h1, h2, by rw [(pl_ok x h1).2]; exact of_decide_eq_true h3⟩
theorem any_py (x : D) : ∀ xs : List D, (pyAll xs).any (fun y => PyData.eqv y x.py) = inD x xs
  | [] => rfl
  | d :: ds => by
    unfold pyAll
    show (PyData.eqv d.py x.py || (pyAll ds).any _) = (d.eqb x || inD x ds)
    rw [any_py x ds]
    rfl
theorem s_in : S2 W X.K dIn (rInA X.K) := fun g _ r q h k => by
  unfold dIn at h
  split at h
  · obtain ⟨a, xs, rfl, h1, h2⟩ := rpq_lst q
    rcases inOk_of h.1 with ⟨f1, f2⟩ | ⟨f1, f2, f3⟩
    · refine .inl (.inl ⟨a, xs, rfl, .inl (SqL.of h1), flat_of f1 r, all_flat f2 h2, ?_⟩)
      rw [if_neg Bool.false_ne_true, inV_of f1 r f2 h2]
      exact k _ _ _ h.2 (StO.refl _) g.inv rp_b
    · refine .inr ⟨a, xs, _, _, rfl, .inl (SqL.of h1), dpAll_of _ _ f2 h2, dp_ofQ f1 r, (plAll_ok _ f2).1, (pl_ok _ f1).1, f3, ?_⟩
      rw [if_neg Bool.false_ne_true, any_py]
      exact k _ _ _ h.2 (StO.refl _) g.inv rp_b
  · obtain ⟨a, xs, rfl, h1, h2⟩ := rpq_tup q
    rcases inOk_of h.1 with ⟨f1, f2⟩ | ⟨f1, f2, f3⟩
    · refine .inl (.inl ⟨a, xs, rfl, .inr h1, flat_of f1 r, all_flat f2 h2, ?_⟩)
      rw [if_neg Bool.false_ne_true, inV_of f1 r f2 h2]
      exact k _ _ _ h.2 (StO.refl _) g.inv rp_b
    · refine .inr ⟨a, xs, _, _, rfl, .inr h1, dpAll_of _ _ f2 h2, dp_ofQ f1 r, (plAll_ok _ f2).1, (pl_ok _ f1).1, f3, ?_⟩
      rw [if_neg Bool.false_ne_true, any_py]
      exact k _ _ _ h.2 (StO.refl _) g.inv rp_b
  · cases rpq_str q
    split at h
    · cases rpq_str r
      exact .inl (.inr ⟨_, _, rfl, rfl, k _ _ _ h (StO.refl _) g.inv rp_b⟩)
    · exact h.elim
  · exact h.elim
theorem s_notIn : S2 W X.K dNotIn (rNotInA X.K) := fun g _ r q h k => by
  unfold dNotIn dIn at h
  split at h
  · obtain ⟨a, xs, rfl, h1, h2⟩ := rpq_lst q
    rcases inOk_of h.1 with ⟨f1, f2⟩ | ⟨f1, f2, f3⟩
    · refine .inl (.inl ⟨a, xs, rfl, .inl (SqL.of h1), flat_of f1 r, all_flat f2 h2, ?_⟩)
      rw [if_pos rfl, inV_of f1 r f2 h2]
      exact k _ _ _ h.2 (StO.refl _) g.inv rp_b
    · refine .inr ⟨a, xs, _, _, rfl, .inl (SqL.of h1), dpAll_of _ _ f2 h2, dp_ofQ f1 r, (plAll_ok _ f2).1, (pl_ok _ f1).1, f3, ?_⟩
      rw [if_pos rfl, any_py]
      exact k _ _ _ h.2 (StO.refl _) g.inv rp_b
  · obtain ⟨a, xs, rfl, h1, h2⟩ := rpq_tup q
    rcases inOk_of h.1 with ⟨f1, f2⟩ | ⟨f1, f2, f3⟩
    · refine .inl (.inl ⟨a, xs, rfl, .inr h1, flat_of f1 r, all_flat f2 h2, ?_⟩)
      rw [if_pos rfl, inV_of f1 r f2 h2]
      exact k _ _ _ h.2 (StO.refl _) g.inv rp_b
    · refine .inr ⟨a, xs, _, _, rfl, .inr h1, dpAll_of _ _ f2 h2, dp_ofQ f1 r, (plAll_ok _ f2).1, (pl_ok _ f1).1, f3, ?_⟩
      rw [if_pos rfl, any_py]
      exact k _ _ _ h.2 (StO.refl _) g.inv rp_b
  · cases rpq_str q
    split at h
    · cases rpq_str r
      exact .inl (.inr ⟨_, _, rfl, rfl, k _ _ _ h (StO.refl _) g.inv rp_b⟩)
    · exact h.elim
  · exact h.elim
/-! ### subscripts -/
def dIx (x y : D) (P : D → Prop) : Prop := match y with
  | .int i => match x with
    | .lst xs => (match atI xs i with
      | some d => P d
      | none => False)
    | .tup xs => (match atI xs i with
      | some d => P d
      | none => False)
    | .str z => z.length ≤ sizeLine ∧ (match atI z.cps.toList i with
      | some c => P (.str ⟨#[c]⟩)
      | none => False)
    | _ => False
  | _ => False
theorem atI_all {K : PySem.W.Frag} {O : Addr → Prop} {H : Hp} {ds : List D} {vs : List V} {i : Int} {d : D} (h : RpAll W K O H ds vs) (e : atI ds i = some d) : ∃ v, atI vs i = some v ∧ Rp W K O H d v := by
  unfold atI at e ⊢
  rw [h.len]
  cases q : ixN ds.length i with
  | none =>
    rw [q] at e
    cases e
  | some j =>
    rw [q] at e
    exact h.get' e
theorem s_ix : S2 W X.K dIx (rIx X.K) := fun g _ r q h k => by
  unfold dIx at h
  split at h
  · cases rpq_int q
    split at h
    · split at h
      · rename_i d e
        obtain ⟨a, xs, rfl, h1, h2⟩ := rpq_lst r
        obtain ⟨v, e1, rv⟩ := atI_all h2 e
        exact .inl ⟨a, xs, _, v, rfl, rfl, SqL.of h1, e1, k _ _ _ h (StO.refl _) g.inv rv⟩
      · exact h.elim
    · split at h
      · rename_i d e
        obtain ⟨a, xs, rfl, h1, h2⟩ := rpq_tup r
        obtain ⟨v, e1, rv⟩ := atI_all h2 e
        exact .inr (.inl ⟨a, xs, _, v, rfl, rfl, h1, e1, k _ _ _ h (StO.refl _) g.inv rv⟩)
      · exact h.elim
    · cases rpq_str r
      obtain ⟨h0, h⟩ := h
      split at h
      · rename_i c e
        exact .inr (.inr ⟨_, _, c, rfl, rfl, h0, e, k _ _ _ h (StO.refl _) g.inv rp_s⟩)
      · exact h.elim
    · exact h.elim
  · exact h.elim
theorem de_ix {Wx : WX} {a b : Expr} {pos : Pos} {da db : DEt} (ha : DQ W X Wx a da) (hb : DQ W X Wx b db) (hs : PlainIx b := by exact fun _ _ => rfl) : DE W X Wx (.Subscript a b pos) (dOp dIx da db) :=
  de_of (pe_ix ix_seq ha hb hs) fun σ H Q _ h => op_core s_ix h

/-! ### slices -/
def cutG {α : Type} (xs : List α) (lo hi : Option Int) : List α := (xs.drop (HT.sIx xs.length 0 lo)).take (HT.sIx xs.length xs.length hi - HT.sIx xs.length 0 lo)
abbrev DOt := Ev → (Option Int → Prop) → XP → Prop
def dNoPart : DOt := fun _ P _ => P none
def dPart (de : DEt) : DOt := fun env P R => de env (fun d => match d with
  | .int i => P (some i)
  | _ => False) R
def tDO (W : Wd) (K : PySem.W.Frag) (Wx : WX) (d : DOt) : TO := fun σ H Q =>
  ∃ (B : Bs) (O : Addr → Prop) (env : Ev) (P : Option Int → Prop) (R : XP), Good W K B O H σ env ∧ XOk W K B Wx R ∧ d env P R ∧
    ∀ o H', P o → StO W.vol H H' → W.inv H' → Q o H'
def DO (W : Wd) (X : Cx) (Wx : WX) (e : Option Expr) (d : DOt) : Prop := PO X e (tDO W X.K Wx d)
theorem po_mono {X : Cx} {e : Option Expr} {t t' : TO} (h : PO X e t) (s : ∀ σ H Q, t' σ H Q → t σ H Q) : PO X e t' := ⟨fun pins sh σ H Q I z => h.run pins sh σ H Q I (s σ H Q z)⟩
theorem do_none {Wx : WX} : DO W X Wx none dNoPart := po_mono po_none fun σ H Q ⟨B, O, env, P, R, g, xo, d, k⟩ => k none H d (StO.refl H) g.inv
theorem do_some {Wx : WX} {e : Expr} {de : DEt} (h : DE W X Wx e de) : DO W X Wx (some e) (dPart de) := po_mono (po_some h) fun σ H Q ⟨B, O, env, P, R, g, xo, d, k⟩ =>
  ⟨B, O, env, _, R, g, xo, d, fun dx x H1 p1 s1 i1 z1 r1 => by
    split at p1
    · cases rp_int r1
      exact ⟨_, rfl, k _ H1 p1 s1 i1⟩
    · exact p1.elim⟩
def dCut (x : D) (lo hi : Option Int) (P : D → Prop) : Prop := match x with
  | .lst xs => P (.lst (cutG xs lo hi))
  | .tup xs => P (.tup (cutG xs lo hi))
  | .str z => z.length ≤ sizeLine ∧ P (.str (cutS z lo hi))
  | _ => False
def dSl (da : DEt) (lo hi : DOt) : DEt := fun env P R => da env (fun x => lo env (fun l => hi env (fun u => dCut x l u P) R) R) R
def rSlA3 (K : PySem.W.Frag) : V → Option Int → Option Int → Hp → VK → Prop := fun x lo hi H Q => (rSlL K x lo hi H Q ∨ rSlA K x lo hi H Q) ∨ rSlS x lo hi H Q
theorem sl_A : SlR X (rSlA3 X.K) := (sl_list.or sl_tupA).or sl_str
theorem cut_all {K : PySem.W.Frag} {O : Addr → Prop} {H : Hp} {ds : List D} {vs : List V} (lo hi : Option Int) (h : RpAll W K O H ds vs) : RpAll W K O H (cutG ds lo hi) (cutV vs lo hi) := by
  unfold cutG cutV
  rw [h.len]
  exact (h.drop _).take _
theorem de_sl {Wx : WX} {e : Expr} {lo hi : Option Expr} {p2 pos : Pos} {de : DEt} {dl dh : DOt} (he : DQ W X Wx e de) (hl : DO W X Wx lo dl) (hh : DO W X Wx hi dh) : DE W X Wx (.Subscript e (.Slice lo hi none p2) pos) (dSl de dl dh) :=
  de_of (pe_slice sl_A he hl hh) fun σ H Q _ ⟨B, O, env, P, R, g, xo, d, k⟩ => ⟨B, O, env, _, R, g, xo, d, fun dx x H1 p1 s1 i1 z1 r1 =>
    ⟨B, O, env, _, R, g.step s1 i1, xo, p1, fun l H2 p2 s2 i2 => ⟨B, O, env, _, R, (g.step s1 i1).step s2 i2, xo, p2, fun u H3 p3 s3 i3 => by
      have g3 := ((g.step s1 i1).step s2 i2).step s3 i3
      have s4 := (s1.trans s2).trans s3
      have r3 := (r1.st g.volO s2).st g.volO s3
      unfold dCut at p3
      split at p3
      · obtain ⟨a, xs, rfl, h1, h2⟩ := rpq_lst r3
        exact .inl (.inl ⟨a, xs, rfl, SqL.of h1, fun p hp z => k _ _ _ p3 (s4.trans (StO.new hp)) (g3.invNew hp) z (rp_new_lst hp (g3.nofresh hp) (cut_all l u h2))⟩)
      · rename_i ds
        rcases r3 with r3 | ⟨_, _, _, _, _, z⟩
        · obtain ⟨a, xs, rfl, h1, h2⟩ := rp_tup r3
          refine .inl (.inr ⟨a, xs, rfl, h1, fun e z => ?_, fun _ p hp z => k _ _ _ p3 (s4.trans (StO.new hp)) (g3.invNew hp) z (rp_new_tup hp (g3.nofresh hp) (cut_all l u h2))⟩)
          have ec : cutG ds l u = ds := by
            unfold cutG
            rw [← h2.len, e.1, e.2, List.drop_zero, Nat.sub_zero, h2.len, List.take_length]
          rw [ec] at p3
          exact k _ _ _ p3 s4 i3 z r3
        · exact z.elim
      · cases rpq_str r3
        exact .inr ⟨_, rfl, p3.1, fun z => k _ _ _ p3.2 s4 i3 z rp_s⟩
      · exact p3.elim⟩⟩⟩

/-! ### built-ins -/
def dLen (ds : List D) (P : D → Prop) : Prop := match ds with
  | [.lst xs] => P (.int xs.length)
  | [.tup xs] => P (.int xs.length)
  | [.str z] => z.length ≤ sizeLine ∧ P (.int z.length)
  | _ => False
def rLenA (K : PySem.W.Frag) : List V → Hp → VK → Prop := fun xs H Q => (∃ p ys, xs = [.ref p] ∧ (SqL K H p ys ∨ SqT K H p ys) ∧ Q (.int ys.length) H) ∨ (∃ z, xs = [.str z] ∧ z.length ≤ sizeLine ∧ Q (.int z.length) H)
theorem call_lenA : CallR X (.builtin "len") (rLenA X.K) := call_len_seq.or call_len_str
theorem s_len : SC W X.K dLen (rLenA X.K) := fun g _ r h k => by
  unfold dLen at h
  split at h
  · have r' := rpAllQ_one r; clear r; obtain ⟨v, rfl, r⟩ := r'
    obtain ⟨a, xs, rfl, h1, h2⟩ := rpq_lst r
    exact .inl ⟨a, xs, rfl, .inl (SqL.of h1), by rw [h2.len]; exact k _ _ _ h (StO.refl _) g.inv rp_i⟩
  · have r' := rpAllQ_one r; clear r; obtain ⟨v, rfl, r⟩ := r'
    obtain ⟨a, xs, rfl, h1, h2⟩ := rpq_tup r
    exact .inl ⟨a, xs, rfl, .inr h1, by rw [h2.len]; exact k _ _ _ h (StO.refl _) g.inv rp_i⟩
  · have r' := rpAllQ_one r; clear r; obtain ⟨v, rfl, r⟩ := r'
    cases rpq_str r
    exact .inr ⟨_, rfl, h.1, k _ _ _ h.2 (StO.refl _) g.inv rp_i⟩
  · exact h.elim
/-- isinstance: the type's name -/
def tyD : D → Option String
  | .non => some "NoneType"
  | .bl _ => some "bool"
  | .int _ => some "int"
  | .str _ => some "str"
  | .tup _ => some "tuple"
  | .lst _ => some "list"
  | .dct _ => some "dict"
  | _ => none
theorem tyX_of {K : PySem.W.Frag} {H0 : Hp} {O : Addr → Prop} {H : Hp} {d : D} {v : V} {t : String} (e : tyD d = some t) (r : RpQ W K H0 O H d v) : TyX K H v (.type t) := by
  cases d with
  | non => cases e; cases rpq_non r; exact .base .non
  | bl b => cases e; cases rpq_bl r; exact .base (.bl b)
  | int b => cases e; cases rpq_int r; exact .base (.int b)
  | str b => cases e; cases rpq_str r; exact .base (.str b)
  | tup ds =>
    cases e
    rcases r with r | ⟨_, _, _, _, _, z⟩
    · unfold Rp at r
      obtain ⟨a, xs, rfl, h1, h2⟩ := r
      rcases h1 with ⟨h1, _⟩ | ⟨o, its, n, h1, h3, _⟩
      · exact .base (.tup h1)
      · exact .kTuple h1 h3
    · exact z.elim
  | lst ds => cases e; obtain ⟨a, xs, rfl, h1, h2⟩ := rpq_lst r; exact .base (.lst h1)
  | dct ds => cases e; obtain ⟨a, xs, rfl, h1, h2⟩ := rpq_dct r; exact .base (.dK h1)
  | _ => cases e
/-- isinstance(x, T), T a built-in class by its name -/
def dIsi (T : String) (da : DEt) : DEt := fun env P R => da env (fun d => match tyD d with
  | some t => (match kitB t T with
    | some b => P (.bl b)
    | none => False)
  | none => False) R
theorem de_isi {Wx : WX} {a : Expr} {da : DEt} {T : String} {y : Str} {p p2 pos : Pos} (hm : X.mg "isinstance" = none) (hm2 : X.mg y = none) (ha : DQ W X Wx a da) (hg : Gl X "isinstance" := by rfl) (hg2 : Gl X y := by rfl)
    (hv2 : bootBuiltins y = some (.type T) := by decide +kernel) (hn : y ≠ "__name__" := by decide) (hdb : (y == ("__debug__" : Str)) = false := by decide)
    (he : starEach [a, .Name y p2] X.env = (false, eval a X.env) :: starEach [.Name y p2] X.env := by rfl)
    (he2 : starEach [.Name y p2] X.env = (false, eval (.Name y p2) X.env) :: starEach [] X.env := by rfl)
    (hpl : (backTo pos (starEach [.Name y p2] X.env)).any (·.1) = false := by rfl) : DE W X Wx (.Call (.Name "isinstance" p) [a, .Name y p2] [] pos) (dIsi T da) := by
  refine de_of (pe_callB call_isi hg hm (by decide +kernel) (pa_cons ha (pa_cons (pe_bltn (v := .ty T) hg2 hm2 hv2 rfl hn hdb) pa_nil he2) he) (by decide) (by decide) he hpl) fun σ H Q _ ⟨B, O, env, P, R, g, xo, d, k⟩ => ?_
  refine ⟨B, O, env, _, R, g, xo, d, fun dx x H1 p1 s1 i1 z1 r1 => ?_⟩
  split at p1
  · rename_i t e1
    split at p1
    · rename_i b e2
      exact ⟨x, .ty T, _, _, b, rfl, .ty T, tyX_of e1 r1, kit_ty e2, fun z => k _ _ _ p1 s1 i1 z rp_b⟩
    · exact p1.elim
  · exact p1.elim
/-- isinstance(x, (T, U)) -/
def isiAny (t : String) : List String → Option Bool
  | [] => some false
  | u :: us => match kitB t u with
    | some true => some true
    | some false => isiAny t us
    | none => none
theorem isiAny_ok {K : PySem.W.Frag} {t : String} : ∀ {us : List String} {b : Bool}, isiAny t us = some b → PySem.W.kitAny K (.type t) (us.map Value.type) = some b
  | [], b, h => by
    cases h
    exact kitAny_nil
  | u :: us, b, h => by
    have h1 : (match kitB t u with
      | some true => some true
      | some false => isiAny t us
      | none => none) = some b := h
    cases e : kitB t u with
    | none =>
      rw [e] at h1
      cases h1
    | some c =>
      rw [e] at h1
      cases c with
      | true =>
        cases h1
        exact kitAny_cons (kit_ty e) (fun z => by cases z) fun _ => rfl
      | false => exact kitAny_cons (kit_ty e) (fun _ => isiAny_ok h1) fun z => by cases z
def dIsiT (Ts : List String) (da : DEt) : DEt := fun env P R => da env (fun d => match tyD d with
  | some t => (match isiAny t Ts with
    | some b => P (.bl b)
    | none => False)
  | none => False) R
theorem de_isi2 {Wx : WX} {a : Expr} {da : DEt} {T U : String} {y z : Str} {p p2 p3 p4 pos : Pos} {x1} (hm : X.mg "isinstance" = none) (hm2 : X.mg y = none) (hm3 : X.mg z = none) (ha : DQ W X Wx a da) (hg : Gl X "isinstance" := by rfl) (hg2 : Gl X y := by rfl) (hg3 : Gl X z := by rfl)
    (hv2 : bootBuiltins y = some (.type T) := by decide +kernel) (hn : y ≠ "__name__" := by decide) (hdb : (y == ("__debug__" : Str)) = false := by decide)
    (hv3 : bootBuiltins z = some (.type U) := by decide +kernel) (hn3 : z ≠ "__name__" := by decide) (hdb3 : (z == ("__debug__" : Str)) = false := by decide)
    (he : starEach [a, .Tuple [.Name y p2, .Name z p3] x1 p4] X.env = (false, eval a X.env) :: starEach [.Tuple [.Name y p2, .Name z p3] x1 p4] X.env := by rfl)
    (he2 : starEach [.Tuple [.Name y p2, .Name z p3] x1 p4] X.env = (false, eval (.Tuple [.Name y p2, .Name z p3] x1 p4) X.env) :: starEach [] X.env := by rfl)
    (he3 : starEach [.Name y p2, .Name z p3] X.env = (false, eval (.Name y p2) X.env) :: starEach [.Name z p3] X.env := by rfl)
    (he4 : starEach [.Name z p3] X.env = (false, eval (.Name z p3) X.env) :: starEach [] X.env := by rfl)
    (hpl : (backTo pos (starEach [.Tuple [.Name y p2, .Name z p3] x1 p4] X.env)).any (·.1) = false := by rfl) : DE W X Wx (.Call (.Name "isinstance" p) [a, .Tuple [.Name y p2, .Name z p3] x1 p4] [] pos) (dIsiT [T, U] da) := by
  refine de_of (pe_callB call_isiT hg hm (by decide +kernel) (pa_cons ha (pa_cons (pe_tup (pa_cons (pe_bltn (v := .ty T) hg2 hm2 hv2 rfl hn hdb) (pa_cons (pe_bltn (v := .ty U) hg3 hm3 hv3 rfl hn3 hdb3) pa_nil he4) he3)) pa_nil he2) he) (by decide) (by decide) he hpl) fun σ H Q _ ⟨B, O, env, P, R, g, xo, d, k⟩ => ?_
  refine ⟨B, O, env, _, R, g, xo, d, fun dx x H1 p1 s1 i1 z1 r1 => ⟨by show 2 ≤ sizeLine; decide, fun tp htp => ?_⟩⟩
  have g1 := g.step s1 i1
  split at p1
  · rename_i t e1
    split at p1
    · rename_i b e2
      have r2 := r1.st g.volO (StO.new (O := W.vol) (o := .tup [V.ty T, V.ty U]) htp)
      exact ⟨x, tp, _, _, _, b, rfl, upd_same, .cons (.ty T) (.cons (.ty U) .nil), tyX_of e1 r2, isiAny_ok (us := [T, U]) e2, fun z => k _ _ _ p1 (s1.trans (StO.new htp)) (g1.invNew htp) z rp_b⟩
    · exact p1.elim
  · exact p1.elim
/-- all, any of truth values in a list -/
def blsOf : List D → Option (List Bool)
  | [] => some []
  | .bl b :: ds => (blsOf ds).map (b :: ·)
  | _ :: _ => none
theorem blsOf_all {K : PySem.W.Frag} {O : Addr → Prop} {H : Hp} : ∀ {ds : List D} {vs : List V} {bs : List Bool}, blsOf ds = some bs → RpAll W K O H ds vs → vs = bs.map V.bl
  | [], _, _, e, h => by
    unfold RpAll at h
    cases e
    exact h
  | .bl b :: ds, _, bs, e, h => by
    unfold RpAll at h
    obtain ⟨v, r, rfl, h1, h2⟩ := h
    cases rp_bl h1
    have e2 : (blsOf ds).map (b :: ·) = some bs := e
    cases q : blsOf ds with
    | none =>
      rw [q] at e2
      cases e2
    | some cs =>
      rw [q] at e2
      cases e2
      rw [blsOf_all q h2]
      rfl
  | .non :: _, _, _, e, _ => by cases e
  | .int _ :: _, _, _, e, _ => by cases e
  | .str _ :: _, _, _, e, _ => by cases e
  | .tup _ :: _, _, _, e, _ => by cases e
  | .lst _ :: _, _, _, e, _ => by cases e
  | .dct _ :: _, _, _, e, _ => by cases e
  | .obj _ _ :: _, _, _, e, _ => by cases e
  | .ex _ :: _, _, _, e, _ => by cases e
def dAll (ds : List D) (P : D → Prop) : Prop := match ds with
  | [.lst xs] => (match blsOf xs with
    | some bs => P (.bl (bs.all id))
    | none => False)
  | _ => False
def dAny (ds : List D) (P : D → Prop) : Prop := match ds with
  | [.lst xs] => (match blsOf xs with
    | some bs => P (.bl (bs.any id))
    | none => False)
  | _ => False
theorem s_all : SC W X.K dAll (rAll X.K) := fun g _ r h k => by
  unfold dAll at h
  split at h
  · have r' := rpAllQ_one r; clear r; obtain ⟨v, rfl, r⟩ := r'
    obtain ⟨a, xs, rfl, h1, h2⟩ := rpq_lst r
    split at h
    · rename_i bs e
      cases blsOf_all e h2
      exact ⟨a, bs, rfl, SqL.of h1, k _ _ _ h (StO.refl _) g.inv rp_b⟩
    · exact h.elim
  · exact h.elim
theorem s_any : SC W X.K dAny (rAny X.K) := fun g _ r h k => by
  unfold dAny at h
  split at h
  · have r' := rpAllQ_one r; clear r; obtain ⟨v, rfl, r⟩ := r'
    obtain ⟨a, xs, rfl, h1, h2⟩ := rpq_lst r
    split at h
    · rename_i bs e
      cases blsOf_all e h2
      exact ⟨a, bs, rfl, SqL.of h1, k _ _ _ h (StO.refl _) g.inv rp_b⟩
    · exact h.elim
  · exact h.elim
def dListOf (ds : List D) (P : D → Prop) : Prop := match ds with
  | [.lst xs] => P (.lst xs)
  | [.tup xs] => P (.lst xs)
  | _ => False
theorem s_list : SC W X.K dListOf (fun xs H Q => ∃ p ys, xs = [.ref p] ∧ (SqL X.K H p ys ∨ SqT X.K H p ys) ∧ ∀ l, H l = none → Q (.ref l) (upd H l (.lst ys))) := fun g _ r h k => by
  unfold dListOf at h
  split at h
  · have r' := rpAllQ_one r; clear r; obtain ⟨v, rfl, r⟩ := r'
    obtain ⟨a, xs, rfl, h1, h2⟩ := rpq_lst r
    exact ⟨a, xs, rfl, .inl (SqL.of h1), fun p hp => k _ _ _ h (StO.new hp) (g.invNew hp) (rp_new_lst hp (g.nofresh hp) h2)⟩
  · have r' := rpAllQ_one r; clear r; obtain ⟨v, rfl, r⟩ := r'
    obtain ⟨a, xs, rfl, h1, h2⟩ := rpq_tup r
    exact ⟨a, xs, rfl, .inr h1, fun p hp => k _ _ _ h (StO.new hp) (g.invNew hp) (rp_new_lst hp (g.nofresh hp) h2)⟩
  · exact h.elim
def dTupOf (ds : List D) (P : D → Prop) : Prop := match ds with
  | [.lst xs] => P (.tup xs)
  | [.tup xs] => P (.tup xs)
  | _ => False
theorem s_tuple : SC W X.K dTupOf (fun xs H Q => ∃ p ys, xs = [.ref p] ∧ ((SqL X.K H p ys ∧ ∀ l, H l = none → Q (.ref l) (upd H l (.tup ys))) ∨ (SqT X.K H p ys ∧ Q (.ref p) H))) := fun g _ r h k => by
  unfold dTupOf at h
  split at h
  · have r' := rpAllQ_one r; clear r; obtain ⟨v, rfl, r⟩ := r'
    obtain ⟨a, xs, rfl, h1, h2⟩ := rpq_lst r
    exact ⟨a, xs, rfl, .inl ⟨SqL.of h1, fun p hp => k _ _ _ h (StO.new hp) (g.invNew hp) (rp_new_tup hp (g.nofresh hp) h2)⟩⟩
  · have r' := rpAllQ_one r; clear r; obtain ⟨v, rfl, r⟩ := r'
    rcases r with r | ⟨_, _, _, _, _, z⟩
    · obtain ⟨a, xs, rfl, h1, h2⟩ := rp_tup r
      exact ⟨a, xs, rfl, .inr ⟨h1, k _ _ _ h (StO.refl _) g.inv r⟩⟩
    · exact z.elim
  · exact h.elim
def dInt (ds : List D) (P : D → Prop) : Prop := match ds with
  | [.int i] => P (.int i)
  | [.bl b] => P (.int (if b then 1 else 0))
  | _ => False
theorem s_int : SC W X.K dInt (fun xs H Q => (∃ i, xs = [.int i] ∧ Q (.int i) H) ∨ ∃ k, xs = [.bl k] ∧ Q (.int (if k then 1 else 0)) H) := fun g _ r h k => by
  unfold dInt at h
  split at h
  · have r' := rpAllQ_one r; clear r; obtain ⟨v, rfl, r⟩ := r'
    cases rpq_int r
    exact .inl ⟨_, rfl, k _ _ _ h (StO.refl _) g.inv rp_i⟩
  · have r' := rpAllQ_one r; clear r; obtain ⟨v, rfl, r⟩ := r'
    cases rpq_bl r
    exact .inr ⟨_, rfl, k _ _ _ h (StO.refl _) g.inv rp_i⟩
  · exact h.elim

/-! ### methods of texts -/
def strsOf : List D → Option (List Str)
  | [] => some []
  | .str b :: ds => (strsOf ds).map (b :: ·)
  | _ :: _ => none
theorem strsOf_all {K : PySem.W.Frag} {O : Addr → Prop} {H : Hp} : ∀ {ds : List D} {vs : List V} {bs : List Str}, strsOf ds = some bs → RpAll W K O H ds vs → vs = bs.map V.str
  | [], _, _, e, h => by
    unfold RpAll at h
    cases e
    exact h
  | .str b :: ds, _, bs, e, h => by
    unfold RpAll at h
    obtain ⟨v, r, rfl, h1, h2⟩ := h
    cases rp_str h1
    have e2 : (strsOf ds).map (b :: ·) = some bs := e
    cases q : strsOf ds with
    | none =>
      rw [q] at e2
      cases e2
    | some cs =>
      rw [q] at e2
      cases e2
      rw [strsOf_all q h2]
      rfl
  | .non :: _, _, _, e, _ => by cases e
  | .int _ :: _, _, _, e, _ => by cases e
  | .bl _ :: _, _, _, e, _ => by cases e
  | .tup _ :: _, _, _, e, _ => by cases e
  | .lst _ :: _, _, _, e, _ => by cases e
  | .dct _ :: _, _, _, e, _ => by cases e
  | .obj _ _ :: _, _, _, e, _ => by cases e
  | .ex _ :: _, _, _, e, _ => by cases e
def dJoin (x y : D) (P : D → Prop) : Prop := match x, y with
  | .str a, .lst xs => (match strsOf xs with
    | some ys => (ys.map (·.length)).sum + ys.length * a.length ≤ 16777216 ∧ P (.str (Txt.join a ys))
    | none => False)
  | .str a, .tup xs => (match strsOf xs with
    | some ys => (ys.map (·.length)).sum + ys.length * a.length ≤ 16777216 ∧ P (.str (Txt.join a ys))
    | none => False)
  | _, _ => False
end
end DL

namespace DL
open PySem L2

/-! ### promises about data; calls -/
abbrev Fn := List D → (D → Prop) → (XD → Prop) → Prop
def spD (W : Wd) (K : PySem.W.Frag) (F : Fn) : Sp := fun vs H Q E => ∃ (O : Addr → Prop) (ds : List D) (P : D → Prop) (R : XD → Prop),
  W.inv H ∧ (∀ a, W.vol a → O a) ∧ (∀ a, O a → ∃ o, H a = some o) ∧ RpAll W K O H ds vs ∧ F ds P R ∧
  (∀ d v H', P d → StO W.vol H H' → W.inv H' → Rp W K O H' d v → Q v H') ∧ (∀ x cls dd H', R x → StO W.vol H H' → W.inv H' → RpX W K O H' cls dd x → E cls dd H')
def dCall (F : Fn) (ga : DAt) : DEt := fun env P R => ga env (fun ds => F ds P (fun x => R x env)) R
section
variable {W : Wd} {X : Cx} {Wx : WX} {e : Expr} {es : List Expr} {pos p : Pos} {ga : DAt} {x : Str} {k : Nat} {f : Addr} {fd : FuncData} {ps : List Str} {F : Fn}
theorem de_call (G : FnOk X.prog X.w X.K X.mg X.base (L2.CX X.prog X.w) k f fd ps (spD W X.K F)) (hr : Room k X.A) (tk : Takes X Wx) (hm : X.mg x = some (.ref f)) (hk : PySem.W.keepIn X.K (.ref f) = true) (hb : Binds X.K fd ps [])
    (ha : DA W X Wx (e :: es) ga) (hg : Gl X x := by rfl) (hdb : (x == ("__debug__" : Str)) = false := by decide) (he : starEach (e :: es) X.env = (false, eval e X.env) :: starEach es X.env := by rfl)
    (hpl : (backTo pos (starEach es X.env)).any (·.1) = false := by rfl) : DE W X Wx (.Call (.Name x p) (e :: es) [] pos) (dCall F ga) :=
  de_of (pe_callSD (E := WE Wx) G hr hg hm hk hb .nil (fun σ => passAt tk σ) ha hdb he hpl) fun σ H Q _ ⟨B, O, env, P, R, g, xo, d, kk⟩ => ⟨B, O, env, _, R, g, xo, d, fun ds vs H1 p1 s1 i1 z1 r1 => by
    have g1 := g.step s1 i1
    show spD W X.K F (vs ++ []) H1 _ _
    rw [List.append_nil]
    exact ⟨O, ds, P, fun x => R x env, i1, g1.volO, g1.al, r1, p1, fun d v H' p s2 i2 r2 z => kk d v H' p (s1.trans s2) i2 z r2, fun xd cls dd H' hx s2 i2 r2 => xo xd O H' σ env cls dd (g1.step s2 i2) r2 hx⟩⟩
end

/-! ### targets -/
def dgName (i : Nat) : D → Ev → (Ev → Prop) → Prop := fun d env P => P (env.set i (some (d, none)))
/-- a, b = a pair -/
def dgPair (i j : Nat) : D → Ev → (Ev → Prop) → Prop := fun d env P => match d with
  | .tup [x, y] => P ((env.set i (some (x, none))).set j (some (y, none)))
  | _ => False
def dgTrip (i j k : Nat) : D → Ev → (Ev → Prop) → Prop := fun d env P => match d with
  | .tup [x, y, z] => P (((env.set i (some (x, none))).set j (some (y, none))).set k (some (z, none)))
  | _ => False
/-- js: the slots that the target stores -/
def tDG (W : Wd) (K : PySem.W.Frag) (js : List Nat) (dg : D → Ev → (Ev → Prop) → Prop) : TG := fun v σ H Q =>
  ∃ (B : Bs) (O : Addr → Prop) (env : Ev) (d : D) (P : Ev → Prop), Good W K B O H σ env ∧ Rp W K O H d v ∧ dg d env P ∧
    ∀ σ' env', P env' → Good W K B O H σ' env' → σ'.length = σ.length → (∀ k, k ∉ js → σ'[k]? = σ[k]?) → Q σ' H
def DG (W : Wd) (X : Cx) (tg : Expr) (js : List Nat) (dg : D → Ev → (Ev → Prop) → Prop) : Prop := PG X tg (tDG W X.K js dg)
theorem pg_mono {X : Cx} {tg : Expr} {t t' : TG} (h : PG X tg t) (s : ∀ v σ H Q, t' v σ H Q → t v σ H Q) : PG X tg t' := ⟨fun pins sh σ H v u Q I r z => h.run pins sh σ H v u Q I r (s v σ H Q z)⟩
section
variable {W : Wd} {K : PySem.W.Frag} {B : Bs} {O : Addr → Prop} {H : Hp} {σ : L2.St} {env : Ev}
theorem EnvR.set {H0 : Hp} {i : Nat} {d : D} {v : V} (g : EnvR W K H0 O H σ env) (r : Rp W K O H d v) : EnvR W K H0 O H (σ.set i (some v)) (env.set i (some (d, none))) := by
  have self : ∀ {q : D × Option Addr}, (env.set i (some (d, none)))[i]? = some (some q) → i < env.length ∧ q = (d, none) := fun {q} h => by
    have hl : i < env.length := by
      have := (List.getElem?_eq_some_iff.mp h).1
      rwa [List.length_set] at this
    rw [List.getElem?_set_self hl] at h
    cases h
    exact ⟨hl, rfl⟩
  have nj : ∀ {j : Nat} {e : D} {a : Addr}, (env.set i (some (d, none)))[j]? = some (some (e, some a)) → i ≠ j := fun {j e a} h z => by
    subst z
    cases (self h).2
  refine ⟨by rw [List.length_set, List.length_set, g.len], fun j e h => ?_, fun j e a h => ?_, fun j l e e2 a h1 h2 => ?_⟩
  · by_cases hj : i = j
    · subst hj
      obtain ⟨hl, q⟩ := self h
      cases q
      exact ⟨v, List.getElem?_set_self (by rw [g.len]; exact hl), r⟩
    · rw [List.getElem?_set_ne hj] at h ⊢
      exact g.sh j e h
  · have hj := nj h
    rw [List.getElem?_set_ne hj] at h ⊢
    exact g.ow j e a h
  · have a1 := nj h1
    have a2 := nj h2
    rw [List.getElem?_set_ne a1] at h1
    rw [List.getElem?_set_ne a2] at h2
    exact g.apart j l e e2 a h1 h2
theorem Good.set {i : Nat} {d : D} {v : V} (g : Good W K B O H σ env) (r : Rp W K O H d v) : Good W K B O H (σ.set i (some v)) (env.set i (some (d, none))) :=
  ⟨g.inv, g.sub, g.vol, g.volb, g.al, g.al0, g.st, g.rl, g.env.set r⟩
/-- slots forgotten -/
def wipeE (env : Ev) : List Nat → Ev
  | [] => env
  | v :: vs => (wipeE env vs).set v none
theorem EnvR.unset {H0 : Hp} {i : Nat} {v : Option V} (g : EnvR W K H0 O H σ env) : EnvR W K H0 O H (σ.set i v) (env.set i none) := by
  have nj : ∀ {j : Nat} {e : D × Option Addr}, (env.set i none)[j]? = some (some e) → i ≠ j := fun {j e} h z => by
    subst z
    have hl : i < env.length := by
      have := (List.getElem?_eq_some_iff.mp h).1
      rwa [List.length_set] at this
    rw [List.getElem?_set_self hl] at h
    cases h
  refine ⟨by rw [List.length_set, List.length_set, g.len], fun j e h => ?_, fun j e a h => ?_, fun j l e e2 a h1 h2 => ?_⟩
  · have a := nj h
    rw [List.getElem?_set_ne a] at h ⊢
    exact g.sh j e h
  · have hj := nj h
    rw [List.getElem?_set_ne hj] at h ⊢
    exact g.ow j e a h
  · have a1 := nj h1
    have a2 := nj h2
    rw [List.getElem?_set_ne a1] at h1
    rw [List.getElem?_set_ne a2] at h2
    exact g.apart j l e e2 a h1 h2
theorem EnvR.wipe {H0 : Hp} (g : EnvR W K H0 O H σ env) : ∀ vs : List Nat, EnvR W K H0 O H (L2.wipe σ vs) (wipeE env vs)
  | [] => g
  | v :: vs => by
    unfold L2.wipe wipeE
    exact (EnvR.wipe g vs).unset
theorem Good.wipe (g : Good W K B O H σ env) (vs : List Nat) : Good W K B O H (L2.wipe σ vs) (wipeE env vs) :=
  ⟨g.inv, g.sub, g.vol, g.volb, g.al, g.al0, g.st, g.rl, g.env.wipe vs⟩
theorem Good.noen {e : Ev} (g : Good W K B O H σ env) (h : EnvR W K B.H0 O H σ e) : Good W K B O H σ e := ⟨g.inv, g.sub, g.vol, g.volb, g.al, g.al0, g.st, g.rl, h⟩
/-- a new address is avoided from now on -/
theorem EnvR.grow {H0 : Hp} {p : Addr} {H1 : Hp} (g : EnvR W K H0 O H1 σ env) (hp : H1 p = none) : EnvR W K H0 (fun a => O a ∨ a = p) H1 σ env := by
  refine ⟨g.len, fun i d e => ?_, fun i d a e => ?_, g.apart⟩
  · obtain ⟨v, e1, r⟩ := g.sh i d e
    exact ⟨v, e1, r.more hp⟩
  · obtain ⟨e1, ha, na, f, r⟩ := g.ow i d a e
    refine ⟨e1, .inl ha, na, f, ?_⟩
    have ho : ∀ b o, ¬ O b → H1 b = some o → H1 b = some o ∧ ¬ (O b ∨ b = p) := fun b o n e => ⟨e, fun z => z.elim n (ne_of_none e hp)⟩
    cases d with
    | lst ds =>
      obtain ⟨xs, h1, h2⟩ := r
      exact ⟨xs, h1, RpAll.mono ho _ _ h2⟩
    | dct ds =>
      obtain ⟨xs, h1, h2⟩ := r
      exact ⟨xs, h1, RpKV.mono ho _ _ h2⟩
    | obj C ds =>
      obtain ⟨dx, xs, h1, h2⟩ := r
      exact ⟨dx, xs, h1, RpFs.mono ho _ _ h2⟩
    | _ => exact r
/-- .. when it has been laid and the heap has gone on -/
theorem Good.grow {p : Addr} {H1 H2 : Hp} {o : HO} (g : Good W K B O H1 σ env) (hp : H1 p = none) (h2 : H2 p = some o) (s : StO W.vol H1 H2) (i : W.inv H2) : Good W K B (fun a => O a ∨ a = p) H2 σ env := by
  have hv : ∀ a, W.vol a → O a ∨ a = p := fun a h => .inl (g.volO a h)
  refine ⟨i, fun a h => .inl (g.sub a h), g.vol, g.volb, fun a ha => ?_, g.al0, g.st.trans s, ⟨g.rl.st.trans (s.mono g.volb), fun a h => .inl (g.rl.up a h), fun a h => ?_⟩, (g.env.grow hp).step hv s⟩
  · rcases ha with ha | rfl
    · by_cases hv : W.vol a
      · exact W.alloc H2 i a hv
      · obtain ⟨o', e⟩ := g.al a ha
        exact ⟨o', s a o' hv e⟩
    · exact ⟨o, h2⟩
  · rcases h with h | rfl
    · exact g.rl.dn a h
    · by_cases hb : B.Ob a
      · exact .inl hb
      · refine .inr ?_
        cases e : B.Hb a with
        | none => rfl
        | some o' =>
          have := g.rl.st a o' hb e
          rw [hp] at this
          cases this
end
section
variable {W : Wd} {X : Cx} {pos : Pos}
theorem get_set_ne' {α : Type} (l : List α) (i k : Nat) (x : α) (h : k ∉ [i]) : (l.set i x)[k]? = l[k]? := List.getElem?_set_ne fun e => h (by simp [e])
theorem dg_name (i : Nat) {x : Str} (hN : X.N.Nodup) (hi : X.N[i]? = some x := by rfl) (hx : Loc X.env.scope x := by first | exact Or.inl rfl | exact Or.inr rfl)
    (hf : X.fn x = true ∨ X.env.scope.names.lookup x = some .local := by first | exact .inl rfl | exact .inr rfl | assumption) : DG W X (.Name x pos) [i] (dgName i) :=
  pg_mono (pg_name hN hi hx hf) fun v σ H Q ⟨B, O, env, d, P, g, r, p, k⟩ => k _ _ p (g.set r) (List.length_set ..) fun j hj => get_set_ne' _ _ _ _ hj
theorem dg_pair (i j : Nat) {x y : Str} {px py : Pos} {kk : Nat} (hN : X.N.Nodup) (hc : X.calm = true := by rfl) (hi : X.N[i]? = some x := by rfl) (hj : X.N[j]? = some y := by rfl) (hx : Loc X.env.scope x := by first | exact Or.inl rfl | exact Or.inr rfl) (hy : Loc X.env.scope y := by first | exact Or.inl rfl | exact Or.inr rfl)
    (hf : X.fn x = true ∨ X.env.scope.names.lookup x = some .local := by first | exact .inl rfl | exact .inr rfl | assumption) (hf2 : X.fn y = true ∨ X.env.scope.names.lookup y = some .local := by first | exact .inl rfl | exact .inr rfl | assumption) :
    DG W X (.Tuple [.Name x px, .Name y py] kk pos) [i, j] (dgPair i j) :=
  pg_mono (pg_tup hc (pgs_cons (pg_name hN hi hx hf) (pgs_cons (pg_name hN hj hy hf2) pgs_nil))) fun v σ H Q ⟨B, O, env, d, P, g, r, p, k⟩ => by
    unfold dgPair at p
    split at p
    · obtain ⟨a, xs, rfl, h1, h2⟩ := rp_tup r
      unfold RpAll at h2
      obtain ⟨v1, r1, e1, q1, h3⟩ := h2
      unfold RpAll at h3
      obtain ⟨v2, r2, e2, q2, h4⟩ := h3
      unfold RpAll at h4
      subst h4 e2 e1
      exact ⟨a, [v1, v2], rfl, h1, rfl, v1, [v2], rfl, v2, [], rfl, rfl, k _ _ p ((g.set q1).set q2) (by rw [List.length_set, List.length_set]) fun l hl => by
        rw [List.getElem?_set_ne (fun e => hl (by simp [e])), List.getElem?_set_ne (fun e => hl (by simp [e]))]⟩
    · exact p.elim
theorem dg_trip (i j m : Nat) {x y z : Str} {px py pz : Pos} {kk : Nat} (hN : X.N.Nodup) (hc : X.calm = true := by rfl) (hi : X.N[i]? = some x := by rfl) (hj : X.N[j]? = some y := by rfl) (hm : X.N[m]? = some z := by rfl) (hx : Loc X.env.scope x := by first | exact Or.inl rfl | exact Or.inr rfl) (hy : Loc X.env.scope y := by first | exact Or.inl rfl | exact Or.inr rfl)
    (hz : Loc X.env.scope z := by first | exact Or.inl rfl | exact Or.inr rfl)
    (hf : X.fn x = true ∨ X.env.scope.names.lookup x = some .local := by first | exact .inl rfl | exact .inr rfl | assumption) (hf2 : X.fn y = true ∨ X.env.scope.names.lookup y = some .local := by first | exact .inl rfl | exact .inr rfl | assumption)
    (hf3 : X.fn z = true ∨ X.env.scope.names.lookup z = some .local := by first | exact .inl rfl | exact .inr rfl | assumption) :
    DG W X (.Tuple [.Name x px, .Name y py, .Name z pz] kk pos) [i, j, m] (dgTrip i j m) :=
  pg_mono (pg_tup hc (pgs_cons (pg_name hN hi hx hf) (pgs_cons (pg_name hN hj hy hf2) (pgs_cons (pg_name hN hm hz hf3) pgs_nil)))) fun v σ H Q ⟨B, O, env, d, P, g, r, p, k⟩ => by
    unfold dgTrip at p
    split at p
    · obtain ⟨a, xs, rfl, h1, h2⟩ := rp_tup r
      unfold RpAll at h2
      obtain ⟨v1, r1, e1, q1, h3⟩ := h2
      unfold RpAll at h3
      obtain ⟨v2, r2, e2, q2, h4⟩ := h3
      unfold RpAll at h4
      obtain ⟨v3, r3, e3, q3, h5⟩ := h4
      unfold RpAll at h5
      subst h5 e3 e2 e1
      exact ⟨a, [v1, v2, v3], rfl, h1, rfl, v1, [v2, v3], rfl, v2, [v3], rfl, v3, [], rfl, rfl, k _ _ p (((g.set q1).set q2).set q3) (by rw [List.length_set, List.length_set, List.length_set]) fun l hl => by
        rw [List.getElem?_set_ne (fun e => hl (by simp [e])), List.getElem?_set_ne (fun e => hl (by simp [e])), List.getElem?_set_ne (fun e => hl (by simp [e]))]⟩
    · exact p.elim
end

/-! ### what is walked -/
structure Items (W : Wd) (K : PySem.W.Frag) (O : Addr → Prop) (H1 : Hp) (ds : List D) (J : It) : Prop where
  len : ds.length ≤ sizeLine
  ex : ∃ G Y, Walk J ds.length G Y ∧ (∀ H2, StO O H1 H2 → G H2) ∧ ∀ i Ha x Hb (O' : Addr → Prop), Y i Ha x Hb → i < ds.length → StO O H1 Ha → W.inv Ha → (∀ a, W.vol a → O' a) → (∀ a, O' a → O a ∨ H1 a = none) → (∀ a, O' a → ∃ o, Ha a = some o) →
    ∃ d, ds[i]? = some d ∧ StO W.vol Ha Hb ∧ W.inv Hb ∧ Rp W K O' Hb d x
def tDI (W : Wd) (K : PySem.W.Frag) (Wx : WX) (di : DAt) : TI := fun σ H R' =>
  ∃ (B : Bs) (O : Addr → Prop) (env : Ev) (P : List D → Prop) (R : XP), Good W K B O H σ env ∧ XOk W K B Wx R ∧ di env P R ∧
    ∀ ds J H', P ds → StO W.vol H H' → W.inv H' → Items W K O H' ds J → R' J H'
def DI (W : Wd) (X : Cx) (Wx : WX) (tg e : Expr) (di : DAt) : Prop := PI X tg e (tDI W X.K Wx di)
theorem pi_mono {X : Cx} {tg e : Expr} {t t' : TI} (h : PI X tg e t) (s : ∀ σ H R, t' σ H R → t σ H R) : PI X tg e t' := ⟨fun pins sh σ H R I z => h.run pins sh σ H R I (s σ H R z)⟩
def itemsOf : D → Option (List D)
  | .lst xs => some xs
  | .tup xs => some xs
  | .str z => some (z.cps.toList.map fun c => .str ⟨#[c]⟩)
  | _ => none
def dSeq (de : DEt) : DAt := fun env P R => de env (fun d => (match d with | .str z => z.length ≤ sizeLine | _ => True) ∧ match itemsOf d with
  | some ds => P ds
  | none => False) R
def iSeq (K : PySem.W.Frag) (te : TE) : TI := fun σ H R => te σ H fun v H1 => (∃ a xs, v = .ref a ∧ SqL K H1 a xs ∧ R (Itl K a) H1) ∨ (∃ a xs, v = .ref a ∧ SqT K H1 a xs ∧ R (Itt K a) H1) ∨ ∃ x, v = .str x ∧ R (Its x) H1
theorem pi_seq {X : Cx} {tg e : Expr} {te : TE} (he : PE X e te) : PI X tg e (iSeq X.K te) := by
  constructor
  intro pins s σ H R I h
  refine thn (he.run pins s σ H _ I h) ?_
  rintro v s1 ⟨x, H1, I1, r1, q⟩
  rcases q with ⟨a, xs, rfl, hq, q⟩ | ⟨a, xs, rfl, hq, q⟩ | ⟨z, rfl, q⟩
  · cases r1
    obtain ⟨its, rv, pl, _⟩ := I1.list hq
    exact PySem.wpAny_pyIter_list pl.isList (pi_one (tk := s1.toks) I1 _ (turn_list a _) ⟨_, Heap.get?_push_size _ rfl, rfl, rfl⟩ q)
  · cases r1
    obtain ⟨its, rv, pl, _⟩ := I1.tuple hq
    exact PySem.wpAny_pyIter_tuple (show s1.heap.IsTuple a its.toArray from pl) (pi_one (tk := s1.toks) I1 _ (turn_tuple a _) ⟨_, Heap.get?_push_size _ rfl, rfl, rfl⟩ q)
  · obtain ⟨t, rfl⟩ := r1
    cases ha : z.cps.all (· < 128) with
    | false => exact wpAny_pyIter_wide ha (pi_one (tk := s1.toks) I1 _ (turn_str _ z t "str_iterator" (.inr rfl)) ⟨_, Heap.get?_push_size _ rfl, rfl, rfl⟩ q)
    | true => exact wpAny_pyIter_ascii ha (pi_one (tk := s1.toks) I1 _ (turn_str _ z t "str_ascii_iterator" (.inl rfl)) ⟨_, Heap.get?_push_size _ rfl, rfl, rfl⟩ q)
section
variable {W : Wd} {K : PySem.W.Frag} {O : Addr → Prop} {H1 : Hp}
theorem rp_later {O' : Addr → Prop} {Ha : Hp} {d : D} {v : V} (r : Rp W K O H1 d v) (s : StO O H1 Ha) (dn : ∀ a, O' a → O a ∨ H1 a = none) : Rp W K O' Ha d v :=
  Rp.mono (fun a o n e => ⟨s a o n e, fun z => (dn a z).elim n (by rw [e]; intro q; cases q)⟩) d v r
theorem items_list {a : Addr} {xs : List V} {ds : List D} (h : H1 a = some (.lst xs)) (n : ¬ O a) (r : RpAll W K O H1 ds xs) (hz : xs.length ≤ sizeLine) : Items W K O H1 ds (Itl K a) := by
  have l := r.len
  refine ⟨by rw [← l]; exact hz, _, _, (by rw [← l]; exact walk_list (xs := xs)), fun H2 s => SqL.of (s a _ n h), fun i Ha x Hb O' y hi s iv hv dn al => ?_⟩
  obtain ⟨rfl, hx⟩ := y
  obtain ⟨d, e, rd⟩ := r.get hx
  exact ⟨d, e, StO.refl _, iv, rp_later rd s dn⟩
theorem items_tup {a : Addr} {xs : List V} {ds : List D} (h : (H1 a = some (.tup xs) ∧ ¬ O a) ∨ ∀ H, SqT K H a xs) (r : RpAll W K O H1 ds xs) (hz : xs.length ≤ sizeLine) : Items W K O H1 ds (Itt K a) := by
  have l := r.len
  refine ⟨by rw [← l]; exact hz, _, _, (by rw [← l]; exact walk_tup (xs := xs)), fun H2 s => ?_, fun i Ha x Hb O' y hi s iv hv dn al => ?_⟩
  · rcases h with ⟨h, n⟩ | h
    · exact .inl (.inl (s a _ n h))
    · exact h H2
  · obtain ⟨rfl, hx⟩ := y
    obtain ⟨d, e, rd⟩ := r.get hx
    exact ⟨d, e, StO.refl _, iv, rp_later rd s dn⟩
theorem items_str {z : Str} (hz : z.length ≤ sizeLine) : Items W K O H1 (z.cps.toList.map fun c => .str ⟨#[c]⟩) (Its z) := by
  have l : (z.cps.toList.map fun c => D.str ⟨#[c]⟩).length = z.cps.size := by simp
  refine ⟨by rw [l]; exact hz, _, _, (by rw [l]; exact walk_str), fun H2 s => trivial, fun i Ha x Hb O' y hi s iv hv dn al => ?_⟩
  obtain ⟨rfl, c, hc, rfl⟩ := y
  refine ⟨.str ⟨#[c]⟩, ?_, StO.refl _, iv, rp_s⟩
  rw [List.getElem?_map]
  have : z.cps.toList[i]? = some c := by simpa using hc
  rw [this]
  rfl
end
theorem di_seq {W : Wd} {X : Cx} {Wx : WX} {tg e : Expr} {de : DEt} (he : DE W X Wx e de) : DI W X Wx tg e (dSeq de) :=
  pi_mono (pi_seq he) fun σ H R' ⟨B, O, env, P, R, g, xo, d, k⟩ => ⟨B, O, env, _, R, g, xo, d, fun d v H1 p s i z r => by
    obtain ⟨p0, p⟩ := p
    cases d with
    | lst ds =>
      unfold Rp at r
      obtain ⟨a, xs, rfl, h1, n, h2⟩ := r
      exact .inl ⟨a, xs, rfl, SqL.of h1, k ds _ H1 p s i (items_list h1 n h2 (z.l a xs (SqL.of h1)))⟩
    | tup ds =>
      unfold Rp at r
      obtain ⟨a, xs, rfl, h1, h2⟩ := r
      rcases h1 with h1 | h1
      · exact .inr (.inl ⟨a, xs, rfl, .inl (.inl h1.1), k ds _ H1 p s i (items_tup (.inl h1) h2 (z.t a xs (.inl (.inl h1.1))))⟩)
      · exact .inr (.inl ⟨a, xs, rfl, .inr h1, k ds _ H1 p s i (items_tup (.inr fun H => .inr h1) h2 (z.t a xs (.inr h1)))⟩)
    | str w =>
      cases rp_str r
      exact .inr (.inr ⟨w, rfl, k _ _ H1 p s i (items_str p0)⟩)
    | _ => exact p.elim⟩
/-- range(n), range(a, b) -/
def dRng1 (da : DAt) : DAt := fun env P R => da env (fun ds => match ds with
  | [.int n] => n ≤ 1000000 ∧ -1000000 ≤ n ∧ P ((List.range n.toNat).map fun i => .int (i : Nat))
  | _ => False) R
def dRng2 (da : DAt) : DAt := fun env P R => da env (fun ds => match ds with
  | [.int m, .int n] => (n ≤ 1000000 ∧ -1000000 ≤ n ∧ m ≤ 1000000 ∧ -1000000 ≤ m) ∧ P ((List.range (n - m).toNat).map fun i => .int (m + (i : Nat)))
  | _ => False) R
theorem items_range {W : Wd} {K : PySem.W.Frag} {O : Addr → Prop} {H1 : Hp} {lo : Int} {n : Nat} (h : n ≤ 2000000) : Items W K O H1 ((List.range n).map fun i => .int (lo + (i : Nat))) (Itr lo n) := by
  have l : ((List.range n).map fun i => D.int (lo + (i : Nat))).length = n := by simp
  refine ⟨by rw [l]; exact Nat.le_trans h (by decide), _, _, (by rw [l]; exact walk_range), fun H2 s => trivial, fun i Ha x Hb O' y hi s iv hv dn al => ?_⟩
  obtain ⟨rfl, rfl⟩ := y
  refine ⟨.int (lo + (i : Nat)), ?_, StO.refl _, iv, rp_i⟩
  rw [l] at hi
  simp [hi]
theorem di_range1 {W : Wd} {X : Cx} {Wx : WX} {tg a : Expr} {da : DAt} {p pos : Pos} (hm : X.mg "range" = none) (ha : DA W X Wx [a] da) (hg : Gl X "range" := by rfl) (hs : starEach [a] X.env = [(false, eval a X.env)] := by rfl) : DI W X Wx tg (.Call (.Name "range" p) [a] [] pos) (dRng1 da) :=
  pi_mono (pi_range1 hg hm ha hs) fun σ H R' ⟨B, O, env, P, R, g, xo, d, k⟩ => ⟨B, O, env, _, R, g, xo, d, fun ds vs H1 p s i z r => by
    split at p
    · rename_i n
      unfold RpAll at r
      obtain ⟨v, r', e, r1, r2⟩ := r
      unfold RpAll at r2
      subst r2
      cases rp_int r1
      subst e
      refine ⟨n, rfl, by omega, by omega, k _ _ H1 p.2.2 s i ?_⟩
      have h := items_range (W := W) (K := X.K) (O := O) (H1 := H1) (lo := 0) (n := n.toNat) (by omega)
      simpa using h
    · exact p.elim⟩
theorem di_range2 {W : Wd} {X : Cx} {Wx : WX} {tg a b : Expr} {da : DAt} {p pos : Pos} (hm : X.mg "range" = none) (ha : DA W X Wx [a, b] da) (hg : Gl X "range" := by rfl) (hs : starEach [a, b] X.env = [(false, eval a X.env), (false, eval b X.env)] := by rfl) (hs2 : starEach [b] X.env = [(false, eval b X.env)] := by rfl) :
    DI W X Wx tg (.Call (.Name "range" p) [a, b] [] pos) (dRng2 da) :=
  pi_mono (pi_range2 hg hm ha hs hs2) fun σ H R' ⟨B, O, env, P, R, g, xo, d, k⟩ => ⟨B, O, env, _, R, g, xo, d, fun ds vs H1 p s i z r => by
    split at p
    · rename_i m n
      unfold RpAll at r
      obtain ⟨v, r', e, r1, r2⟩ := r
      unfold RpAll at r2
      obtain ⟨v2, r3, e2, r4, r5⟩ := r2
      unfold RpAll at r5
      subst r5
      cases rp_int r1
      cases rp_int r4
      subst e2
      subst e
      obtain ⟨⟨p1, p2, p3, p4⟩, p⟩ := p
      exact ⟨m, n, rfl, ⟨by omega, by omega, by omega, by omega⟩, k _ _ H1 p s i (items_range (by omega))⟩
    · exact p.elim⟩
/-- zip of two lists, of two tuples -/
def seqD : D → Option (Bool × List D)
  | .lst xs => some (true, xs)
  | .tup xs => some (false, xs)
  | _ => none
def dZip (da : DAt) : DAt := fun env P R => da env (fun ds => match ds with
  | [.lst xs, .lst ys] => P ((xs.zip ys).map fun q => .tup [q.1, q.2])
  | [.tup xs, .tup ys] => P ((xs.zip ys).map fun q => .tup [q.1, q.2])
  | _ => False) R
theorem walk_zipT {K : PySem.W.Frag} {a b : Addr} {xs ys : List V} {n : Nat} (hn : n = min xs.length ys.length) : Walk (RZ.ItzT K a b) n (fun H => SqT K H a xs ∧ SqT K H b ys) (YPair (fun i => xs[i]?) (fun i => ys[i]?)) := by
  subst hn
  constructor
  · intro i H hi q
    have h1 : i < xs.length := by omega
    have h2 : i < ys.length := by omega
    exact ⟨xs, ys, xs[i], ys[i], q.1, q.2, by simp [h1], by simp [h2]⟩
  · intro H q
    exact ⟨xs, ys, q.1, q.2, by omega⟩
  · intro i H v H' _ q y
    obtain ⟨T, x, z, h1, h2, h3, h4, h5⟩ := y
    exact ⟨T, x, z, h1, h2, h3, h4 xs q.1, h5 ys q.2⟩
section
variable {W : Wd} {K : PySem.W.Frag} {O : Addr → Prop} {H1 : Hp}
theorem items_pairs {J : It} {xs ys : List V} {ds es : List D} {G : Hp → Prop} (w : Walk J (min xs.length ys.length) G (YPair (fun i => xs[i]?) (fun i => ys[i]?))) (hG : ∀ H2, StO O H1 H2 → G H2) (r : RpAll W K O H1 ds xs) (q : RpAll W K O H1 es ys) (hz : xs.length ≤ sizeLine) :
    Items W K O H1 ((ds.zip es).map fun q => .tup [q.1, q.2]) J := by
  have l : ((ds.zip es).map fun q => D.tup [q.1, q.2]).length = min xs.length ys.length := by rw [List.length_map, List.length_zip, r.len, q.len]
  refine ⟨by rw [l]; omega, G, _, (by rw [l]; exact w), hG, fun i Ha x Hb O' y hi s iv hv dn al => ?_⟩
  obtain ⟨T, u, v, rfl, hT, rfl, h1, h2⟩ := y
  obtain ⟨d, e1, r1⟩ := r.get h1
  obtain ⟨e, e2, r2⟩ := q.get h2
  have nT : ¬ O' T := fun z => by
    obtain ⟨o, eo⟩ := al T z
    rw [hT] at eo
    cases eo
  refine ⟨.tup [d, e], ?_, StO.new hT, W.keep _ _ iv fun a ha => upd_ne fun z => nT (z ▸ hv a ha), rp_new_tup hT nT (rpAll_cons (rp_later r1 s dn) (rpAll_cons (rp_later r2 s dn) rpAll_nil))⟩
  rw [List.getElem?_map]
  have : (ds.zip es)[i]? = some (d, e) := by
    rw [List.getElem?_zip_eq_some]
    exact ⟨e1, e2⟩
  rw [this]
  rfl
end
theorem di_zip {W : Wd} {X : Cx} {Wx : WX} {e e2 : Expr} {ga : DAt} {p pos tpos : Pos} {elts : List Expr} {kk : Nat} (hm : X.mg "zip" = none) (ha : DA W X Wx [e, e2] ga) (hg : Gl X "zip" := by rfl)
    (hs : starEach [e, e2] X.env = (false, eval e X.env) :: starEach [e2] X.env := by rfl) (hpl : (backTo pos (starEach [e2] X.env)).any (·.1) = false := by rfl) : DI W X Wx (.Tuple elts kk tpos) (.Call (.Name "zip" p) [e, e2] [] pos) (dZip ga) :=
  pi_mono (RZ.pi_zipA hg hm ⟨fun pos pins s σ H Q I z => thn (ha.run pos pins s σ H (fun vs H' => Sized X.K H' → Q vs H') I z) fun us s1 ⟨vs, H1, I1, rr, q⟩ => ⟨vs, H1, I1, rr, q (sized_of I1)⟩⟩ hs hpl) fun σ H R' ⟨B, O, env, P, R, g, xo, d, k⟩ => ⟨B, O, env, _, R, g, xo, d, fun ds vs H1 p s i z r z2 => by
    split at p
    · unfold RpAll at r
      obtain ⟨v, r', e, r1, r2⟩ := r
      unfold RpAll at r2
      obtain ⟨v2, r3, e2, r4, r5⟩ := r2
      unfold RpAll at r5
      subst r5 e2 e
      unfold Rp at r1 r4
      obtain ⟨a, xs, rfl, h1, n1, h2⟩ := r1
      obtain ⟨b, ys, rfl, h3, n2, h4⟩ := r4
      exact ⟨a, b, xs, ys, rfl, .inl ⟨SqL.of h1, SqL.of h3, k _ _ H1 p s i (items_pairs (walk_zip rfl) (fun H2 s2 => ⟨SqL.of (s2 a _ n1 h1), SqL.of (s2 b _ n2 h3)⟩) h2 h4 (z.l a xs (SqL.of h1)))⟩⟩
    · unfold RpAll at r
      obtain ⟨v, r', e, r1, r2⟩ := r
      unfold RpAll at r2
      obtain ⟨v2, r3, e2, r4, r5⟩ := r2
      unfold RpAll at r5
      subst r5 e2 e
      have key : ∀ {ds : List D} {v : V}, Rp W X.K O H1 (.tup ds) v → ∃ a xs, v = .ref a ∧ SqT X.K H1 a xs ∧ (∀ H2, StO O H1 H2 → SqT X.K H2 a xs) ∧ RpAll W X.K O H1 ds xs := fun {ds v} r => by
        unfold Rp at r
        obtain ⟨a, xs, rfl, h1, h2⟩ := r
        rcases h1 with ⟨h1, n⟩ | h1
        · exact ⟨a, xs, rfl, .inl (.inl h1), fun H2 s => .inl (.inl (s a _ n h1)), h2⟩
        · exact ⟨a, xs, rfl, .inr h1, fun H2 s => .inr h1, h2⟩
      obtain ⟨a, xs, rfl, h1, n1, h2⟩ := key r1
      obtain ⟨b, ys, rfl, h3, n2, h4⟩ := key r4
      exact ⟨a, b, xs, ys, rfl, .inr ⟨h1, h3, k _ _ H1 p s i (items_pairs (walk_zipT rfl) (fun H2 s2 => ⟨n1 H2 s2, n2 H2 s2⟩) h2 h4 (z.t a xs h1))⟩⟩
    · exact p.elim⟩
end DL

namespace DL
open PySem L2

/-! ### list comprehensions -/
abbrev neverX : WX := fun _ _ _ _ => False
abbrev noX : XP := fun _ _ => False
theorem xok_never {W : Wd} {K : PySem.W.Frag} {B : Bs} : XOk W K B neverX noX := fun _ _ _ _ _ _ _ _ _ h => h
def DTs (W : Wd) (X : Cx) (Wx : WX) (ifs : List Expr) (dt : DTt) : Prop := PTs X ifs (tDT W X.K Wx dt)
def dYes : DTt := fun _ P _ => P true
theorem dts_nil {W : Wd} {X : Cx} {Wx : WX} : DTs W X Wx [] dYes :=
  ⟨fun pins s σ H Q I ⟨B, O, env, P, R, g, xo, d, k⟩ => pts_nil.run pins s σ H Q I (k true H d (StO.refl H) g.inv (sized_of I))⟩
theorem dts_one {W : Wd} {X : Cx} {Wx : WX} {c : Expr} {dt : DTt} (h : DT W X Wx c dt) : DTs W X Wx [c] dt := pts_one h
def goLc (dg : D → Ev → (Ev → Prop) → Prop) (tt : DTt) (te : DEt) (env : Ev) (P : List D → Prop) : List D → List D → Prop
  | [], acc => P acc
  | x :: xs, acc => dg x env (fun env2 => tt env2 (fun b => match b with
    | true => te env2 (fun y => goLc dg tt te env P xs (acc ++ [y])) noX
    | false => goLc dg tt te env P xs acc) noX)
def dLc (di : DAt) (dg : D → Ev → (Ev → Prop) → Prop) (tt : DTt) (te : DEt) (vs : List Nat) : DEt := fun env P R => di env (fun xs => goLc dg tt te (wipeE env vs) (fun ys => P (.lst ys)) xs []) R
theorem wipe_ext {σ σ2 : L2.St} : ∀ {vs : List Nat}, σ2.length = σ.length → (∀ k, k ∉ vs → σ2[k]? = σ[k]?) → L2.wipe σ2 vs = L2.wipe σ vs := fun {vs} hl h => by
  apply List.ext_getElem?
  intro i
  by_cases hi : i ∈ vs
  · have key : ∀ (τ : L2.St), τ.length = σ.length → (L2.wipe τ vs)[i]? = if i < σ.length then some none else none := by
      intro τ ht
      clear h
      induction vs with
      | nil => cases hi
      | cons v vs ih =>
        unfold L2.wipe
        by_cases e : v = i
        · subst e
          by_cases hv : v < σ.length
          · rw [if_pos hv, List.getElem?_set_self (by rw [wipe_length, ht]; exact hv)]
          · rw [if_neg hv, List.getElem?_eq_none (by rw [List.length_set, wipe_length, ht]; omega)]
        · rw [List.getElem?_set_ne e]
          exact ih (by rcases List.mem_cons.mp hi with z | z; exact absurd z.symm e; exact z)
    rw [key σ2 hl, key σ rfl]
  · rw [wipe_out hi, wipe_out hi, h i hi]
theorem wipe_wipe {σ : L2.St} {vs : List Nat} : L2.wipe (L2.wipe σ vs) vs = L2.wipe σ vs := wipe_ext (wipe_length _ _) fun k hk => wipe_out hk
section
variable {W : Wd} {X : Cx} {Wx : WX}
theorem lc_sound {di : DAt} {dg : D → Ev → (Ev → Prop) → Prop} {tt : DTt} {te : DEt} {vs js : List Nat} (hj : ∀ j ∈ js, j ∈ vs) {σ : L2.St} {H : Hp} {Q : VK} (z : tD W X.K Wx (dLc di dg tt te vs) σ H Q) :
    tLc (tDI W X.K Wx di) (tDG W X.K js dg) (tDT W X.K neverX tt) (tD W X.K neverX te) vs σ H (fun v H' => Sized X.K H' → Q v H') := by
  obtain ⟨B, O, env, P, R, g, xo, d, k⟩ := z
  refine ⟨B, O, env, _, R, g, xo, d, fun ds J H1 p s1 i1 it => fun Dl hDl => ?_⟩
  obtain ⟨lz, G, Y, w, hG, hY⟩ := it
  have g1 := g.step s1 i1
  have nD : ¬ O Dl := g1.nofresh hDl
  -- the state in the comprehension
  let O1 : Addr → Prop := fun a => O a ∨ a = Dl
  have gd : ∀ H2 acc, H2 Dl = some (.lst acc) → StO W.vol H1 H2 → W.inv H2 → Good W X.K B O1 H2 (L2.wipe σ vs) (wipeE env vs) := fun H2 acc h2 s2 i2 => (g1.grow hDl h2 s2 i2).wipe vs
  refine lc_it w (fun i H2 => ∃ acc ys, H2 Dl = some (.lst acc) ∧ RpAll W X.K O1 H2 ys acc ∧ ys.length ≤ i ∧ StO W.vol H1 H2 ∧ W.inv H2 ∧ goLc dg tt te (wipeE env vs) (fun ys => P (.lst ys)) (ds.drop i) ys)
    ⟨[], [], upd_same, rpAll_nil, Nat.le_refl _, StO.new hDl, g1.invNew hDl, p⟩ ?_ ?_ ?_
  · rintro i H2 hi ⟨acc, ys, h2, r2, hl, s2, i2, go⟩
    exact hG H2 (s2.mono g.volO)
  · rintro i x H2 H3 hi ⟨acc, ys, h2, r2, hl, s2, i2, go⟩ y
    have g2 := gd H2 acc h2 s2 i2
    obtain ⟨dx, e1, s3, i3, r3⟩ := hY i H2 x H3 O1 y hi (s2.mono g.volO) i2 g2.volO (fun a h => h.elim .inl fun e => .inr (e ▸ hDl)) g2.al
    have e2 : ds.drop i = dx :: ds.drop (i + 1) := by
      have hlt : i < ds.length := hi
      rw [List.drop_eq_getElem_cons hlt]
      congr 1
      exact Option.some.inj ((List.getElem?_eq_getElem hlt).symm.trans e1)
    rw [e2] at go
    have g3 := g2.step s3 i3
    have h3 : H3 Dl = some (.lst acc) := s3 Dl _ (fun z => nD (g.volO _ z)) h2
    refine ⟨B, O1, _, dx, _, g3, r3, go, fun σ' env' p' g' hl' hk => ⟨?_, ?_⟩⟩
    · have e3 : L2.wipe σ' vs = L2.wipe (L2.wipe σ vs) vs := wipe_ext hl' fun k hk' => hk k fun z => hk' (hj k z)
      rw [e3, wipe_wipe]
    · refine ⟨B, O1, env', _, noX, g', xok_never, p', fun b H4 p4 s4 i4 z4 => ?_⟩
      have h4 : H4 Dl = some (.lst acc) := s4 Dl _ (fun z => nD (g.volO _ z)) h3
      have s24 := (s2.trans s3).trans s4
      have r4 : RpAll W X.K O1 H4 ys acc := (r2.st (g2.toO s3)).st (g3.toO s4)
      cases b with
      | true =>
        refine iteT ?_
        refine ⟨B, O1, env', _, noX, g'.step s4 i4, xok_never, p4, fun y v H5 p5 s5 i5 z5 r5 => ⟨acc, s5 Dl _ (fun z => nD (g.volO _ z)) h4, ?_, acc ++ [v], ys ++ [y], upd_same, ?_, ?_, ?_, ?_, p5⟩⟩
        · have l := r4.len
          have : acc.length ≤ i := by omega
          omega
        · have q5 : RpAll W X.K O1 H5 (ys ++ [y]) (acc ++ [v]) := (r4.st ((g3.step s4 i4).toO s5)).append (rpAll_cons r5 rpAll_nil)
          exact q5.st fun a o n e => by
            rw [upd_ne fun z => n (.inr z)]
            exact e
        · rw [List.length_append]
          exact Nat.succ_le_succ hl
        · intro a o n e
          rw [upd_ne fun z => by rw [z, hDl] at e; cases e]
          exact (s24.trans s5) a o n e
        · refine W.keep H5 _ i5 fun a ha => upd_ne fun z => nD (z ▸ g.volO a ha)
      | false =>
        refine iteF ?_
        exact ⟨acc, ys, h4, r4, Nat.le_succ_of_le hl, s24, i4, p4⟩
  · rintro H2 ⟨acc, ys, h2, r2, hl, s2, i2, go⟩ z2
    rw [List.drop_length] at go
    exact k (.lst ys) (.ref Dl) H2 go (s1.trans s2) i2 z2 (rp_mk_lst h2 nD (r2.less fun a h => .inl h))
theorem de_lc {elt tg iter : Expr} {ifs : List Expr} {scope : Scope} {own : List (Str × Nat)} {pos : Pos} {di : DAt} {dg : D → Ev → (Ev → Prop) → Prop} {tt : DTt} {te : DEt} {js : List Nat} (hN : X.N.Nodup) (hi : DI W X Wx tg iter di) (ok : BlkOk X.N X.env.scope scope own)
    (hg : ∀ (s : Shared) (H : Hp) (C : Addr) (cl : List (Str × Addr)) (fp : List Addr), DG W (X.blk s H scope (compEnvC scope cl C X.env) fp) tg js dg) (ht : ∀ (s : Shared) (H : Hp) (C : Addr) (cl : List (Str × Addr)) (fp : List Addr), DTs W (X.blk s H scope (compEnvC scope cl C X.env) fp) neverX ifs tt)
    (he : ∀ (s : Shared) (H : Hp) (C : Addr) (cl : List (Str × Addr)) (fp : List Addr), DE W (X.blk s H scope (compEnvC scope cl C X.env) fp) neverX elt te) (hj : ∀ j ∈ js, j ∈ own.map (·.2) := by decide) (hc : X.calm = true := by rfl) (hs : ∀ x, foldedSetIterable iter X.env x = pure x := by intro _; rfl) :
    DE W X Wx (.ListComp elt [⟨tg, iter, ifs, 0⟩] scope pos) (dLc di dg tt te (own.map (·.2))) :=
  de_of (pe_lc (g := tDG W X.K js dg) (tt := tDT W X.K neverX tt) (te := tD W X.K neverX te) hc hN hi ok hg ht he hs) fun σ H Q _ z => lc_sound hj z
end

/-! ### statements -/
def dNx : DSt := fun env k => k.nx env
def dSeqS (a b : DSt) : DSt := fun env k => a env { k with nx := fun e => b e k }
def dSet (i : Nat) (de : DEt) : DSt := fun env k => de env (fun d => k.nx (env.set i (some (d, none)))) k.xc
def dAsg (de : DEt) (dg : D → Ev → (Ev → Prop) → Prop) : DSt := fun env k => de env (fun d => dg d env k.nx) k.xc
def dRet (de : DEt) : DSt := fun env k => de env (k.rt env) k.xc
def dRetN : DSt := fun env k => k.rt env .non
def dDrop (de : DEt) : DSt := fun env k => de env (fun _ => k.nx env) k.xc
def dIfS (t : DTt) (a b : DSt) : DSt := fun env k => t env (fun c => match c with
  | true => a env k
  | false => b env k) k.xc
section
variable {W : Wd} {X : Cx} {Wx : WX} {st : Stmt} {rest : List Stmt} {e c : Expr} {pos : Pos} {de : DEt} {dt : DTt} {ds es : DSt}
theorem db_nil : DB W X Wx [] dNx := db_of pss_nil fun Dn σ H _ ⟨B, O, env, k, g, xo, d, k1, k2, k3, k4⟩ => k1 O σ H env g d
theorem db_one (h : DS W X Wx st ds) : DB W X Wx [st] ds := pss_one h
theorem seq_sound {Dn : Ends} {σ : L2.St} {H : Hp} (z : tDS W X.K Wx (dSeqS ds es) Dn σ H) : tSeq (tDS W X.K Wx ds) (tDS W X.K Wx es) Dn σ H := by
  obtain ⟨B, O, env, k, g, xo, d, k1, k2, k3, k4⟩ := z
  exact ⟨B, O, env, { k with nx := fun e => es e k }, g, xo, d, fun O' σ' H' env' g' p => ⟨B, O', env', k, g', xo, p, k1, k2, k3, k4⟩, k2, k3, k4⟩
theorem db_cons (h : DS W X Wx st ds) (r : DB W X Wx rest es) : DB W X Wx (st :: rest) (dSeqS ds es) := db_of (pss_cons h r) fun Dn σ H _ z => seq_sound z
theorem ds_pass : DS W X Wx (.Pass pos) dNx := ds_of ps_pass fun Dn σ H _ ⟨B, O, env, k, g, xo, d, k1, k2, k3, k4⟩ => k1 O σ H env g d
theorem ds_break : DS W X Wx (.Break pos) (fun env k => k.bk env) := ds_of ps_break fun Dn σ H _ ⟨B, O, env, k, g, xo, d, k1, k2, k3, k4⟩ => k3 O σ H env g d
theorem ds_continue : DS W X Wx (.Continue pos) (fun env k => k.ct env) := ds_of ps_continue fun Dn σ H _ ⟨B, O, env, k, g, xo, d, k1, k2, k3, k4⟩ => k4 O σ H env g d
theorem ds_doc {x j pos'} : DS W X Wx (.Expr (.Constant (.str x) j pos) pos') dNx := ds_of ps_doc fun Dn σ H _ ⟨B, O, env, k, g, xo, d, k1, k2, k3, k4⟩ => k1 O σ H env g d
theorem ds_set (i : Nat) {x : Str} {pos' : Pos} (hN : X.N.Nodup) (he : DE W X Wx e de) (hi : X.N[i]? = some x := by rfl) (hx : Loc X.env.scope x := by first | exact Or.inl rfl | exact Or.inr rfl) (hs : swapsWith e (some (.Name x pos')) pos.line X.env = pure false := by rfl)
    (hf : X.fn x = true ∨ X.env.scope.names.lookup x = some .local := by first | exact .inl rfl | exact .inr rfl | assumption) : DS W X Wx (.Assign [.Name x pos'] e pos) (dSet i de) :=
  ds_of (ps_set hN hi hx he hs hf) fun Dn σ H _ ⟨B, O, env, k, g, xo, d, k1, k2, k3, k4⟩ => ⟨B, O, env, _, _, g, xo, d, fun d' v H' p s i' z r => k1 O _ H' _ ((g.step s i').set r) p⟩
theorem ds_asg {tg : Expr} {js : List Nat} {dg : D → Ev → (Ev → Prop) → Prop} (he : DE W X Wx e de) (hg : DG W X tg js dg) (hs : swapsWithSole [tg] e pos.line X.env = pure false := by rfl) (hw : swappedStores [tg] e X.env = pure none := by rfl) (h1 : (assignEach [tg] X.env).map (·.2) = [assign tg X.env] := by rfl) : DS W X Wx (.Assign [tg] e pos) (dAsg de dg) :=
  ds_of (ps_asg he hg hs hw h1) fun Dn σ H _ ⟨B, O, env, k, g, xo, d, k1, k2, k3, k4⟩ => ⟨B, O, env, _, _, g, xo, d, fun d' v H' p s i' z r => ⟨B, O, env, d', _, g.step s i', r, p, fun σ' env' p' g' _ _ => k1 O σ' H' env' g' p'⟩⟩
/-- y = [..] on one line -/
theorem ds_setLc (i : Nat) {y : Str} {py : Pos} {elt tg iter : Expr} {ifs : List Expr} {scope : Scope} {own : List (Str × Nat)} {pos spos : Pos} {di : DAt} {dg : D → Ev → (Ev → Prop) → Prop} {tt : DTt} {te : DEt} {js : List Nat} (hN : X.N.Nodup)
    (hsw : ∀ l : Nat, True) (hps : PS X (.Assign [.Name y py] (.ListComp elt [⟨tg, iter, ifs, 0⟩] scope pos) spos) (tAsg (tLc (tDI W X.K Wx di) (tDG W X.K js dg) (tDT W X.K neverX tt) (tD W X.K neverX te) (own.map (·.2))) (gName i))) (hj : ∀ j ∈ js, j ∈ own.map (·.2)) :
    DS W X Wx (.Assign [.Name y py] (.ListComp elt [⟨tg, iter, ifs, 0⟩] scope pos) spos) (dSet i (dLc di dg tt te (own.map (·.2)))) :=
  ⟨fun pins s σ H Dn I z => by
    obtain ⟨B, O, env, k, g, xo, d, k1, k2, k3, k4⟩ := z
    have hz := lc_sound (W := W) (X := X) (Wx := Wx) hj (σ := σ) (H := H) (Q := fun v H' => Dn.nx (σ.set i (some v)) H') ⟨B, O, env, _, _, g, xo, d, fun d' v H' p s' i' z' r => k1 O _ H' _ ((g.step s' i').set r) p⟩
    -- the sizes of the end are known there
    exact (hps.run pins s σ H { Dn with nx := fun σ' H' => Sized X.K H' → Dn.nx σ' H' } I hz) |> fun h => thn h fun f s1 q => by
      cases f with
      | next => obtain ⟨σ', H', I', q⟩ := q; exact ⟨σ', H', I', q (sized_of I')⟩
      | ret v => exact q
      | brk => exact q
      | cont => exact q⟩
theorem ds_ret (he : DE W X Wx e de) : DS W X Wx (.Return (some e) pos) (dRet de) :=
  ds_of (ps_ret he) fun Dn σ H _ ⟨B, O, env, k, g, xo, d, k1, k2, k3, k4⟩ => ⟨B, O, env, _, _, g, xo, d, fun d' v H' p s i' z r => k2 O σ H' env v d' (g.step s i') r p⟩
theorem ds_retN : DS W X Wx (.Return none pos) dRetN := ds_of ps_retN fun Dn σ H _ ⟨B, O, env, k, g, xo, d, k1, k2, k3, k4⟩ => k2 O σ H env .non .non g rp_n d
theorem ds_expr (he : DE W X Wx e de) (hs : swapsWith e none pos.line X.env = pure false := by rfl) : DS W X Wx (.Expr e pos) (dDrop de) :=
  ds_of (ps_expr he hs) fun Dn σ H _ ⟨B, O, env, k, g, xo, d, k1, k2, k3, k4⟩ => ⟨B, O, env, _, _, g, xo, d, fun d' v H' p s i' z r => k1 O σ H' env (g.step s i') p⟩
theorem ds_if {a b : List Stmt} (hc : DT W X Wx c dt) (ha : DB W X Wx a ds) (hb : DB W X Wx b es) : DS W X Wx (.If c a b pos) (dIfS dt ds es) :=
  ds_of (ps_if hc ha hb) fun Dn σ H _ ⟨B, O, env, k, g, xo, d, k1, k2, k3, k4⟩ => ⟨B, O, env, _, _, g, xo, d, fun b H' p s i' z => by
    cases b with
    | true =>
      refine iteT ?_
      exact ⟨B, O, env, k, g.step s i', xo, p, k1, k2, k3, k4⟩
    | false =>
      refine iteF ?_
      exact ⟨B, O, env, k, g.step s i', xo, p, k1, k2, k3, k4⟩⟩

/-! ### loops -/
def goFor (dg : D → Ev → (Ev → Prop) → Prop) (tb : DSt) (k : DK) : List D → Ev → Prop
  | [], env => k.nx env
  | x :: xs, env => dg x env (fun env2 => tb env2 { k with nx := goFor dg tb k xs, ct := goFor dg tb k xs, bk := k.nx })
def dFor (di : DAt) (dg : D → Ev → (Ev → Prop) → Prop) (tb : DSt) : DSt := fun env k => di env (fun xs => goFor dg tb k xs env) k.xc
/-- the base moved to here, and back -/
theorem Good.rebase {W : Wd} {K : PySem.W.Frag} {B : Bs} {O : Addr → Prop} {H : Hp} {σ : L2.St} {env : Ev} (g : Good W K B O H σ env) : Good W K { B with Hb := H, Ob := O } O H σ env :=
  ⟨g.inv, g.sub, g.vol, g.volO, g.al, g.al0, g.st, Rl.refl, g.env⟩
theorem Good.unbase {W : Wd} {K : PySem.W.Frag} {B : Bs} {O1 O : Addr → Prop} {H1 H : Hp} {σ : L2.St} {env : Ev} (hb : ∀ a, W.vol a → B.Ob a) (r : Rl B.Ob B.Hb O1 H1) (g : Good W K { B with Hb := H1, Ob := O1 } O H σ env) : Good W K B O H σ env :=
  ⟨g.inv, g.sub, g.vol, hb, g.al, g.al0, g.st, r.trans g.rl, g.env⟩
theorem XOk.rebase {W : Wd} {K : PySem.W.Frag} {B : Bs} {O1 : Addr → Prop} {H1 : Hp} {R : XP} (xo : XOk W K B Wx R) (hb : ∀ a, W.vol a → B.Ob a) (r : Rl B.Ob B.Hb O1 H1) : XOk W K { B with Hb := H1, Ob := O1 } Wx R :=
  fun x O H σ env cls d g rx h => xo x O H σ env cls d (Good.unbase hb r g) rx h
theorem ds_for {tg iter : Expr} {body : List Stmt} {di : DAt} {dg : D → Ev → (Ev → Prop) → Prop} {tb : DSt} {js : List Nat} (hi : DI W X Wx tg iter di) (hg : DG W X tg js dg) (hb : DB W X Wx body tb) (hp : PassesOwn (model X.prog X.w) X.A X.env X.xe := by first | exact PassesOwn.never | exact passes_of rfl) (hc : X.calm = true := by rfl)
    (hs : ∀ x, foldedSetIterable iter X.env x = pure x := by intro _; rfl) : DS W X Wx (.For tg iter body [] pos) (dFor di dg tb) :=
  ds_of (ps_for hp hc hi hg hb hs) fun Dn σ H _ ⟨B, O, env, k, g, xo, d, k1, k2, k3, k4⟩ => ⟨B, O, env, _, _, g, xo, d, fun ds J H1 p s1 i1 it => by
    obtain ⟨lz, G, Y, w, hG, hY⟩ := it
    have g1 := g.step s1 i1
    refine for_it w (fun i σ2 H2 => ∃ O2 env2, Good W X.K { B with Hb := H1, Ob := O } O2 H2 σ2 env2 ∧ goFor dg tb k (ds.drop i) env2) ⟨O, env, g1.rebase, p⟩ ?_ ?_ ?_
    · rintro i σ2 H2 hi ⟨O2, env2, g2, go⟩
      exact hG H2 g2.rl.st
    · rintro i x σ2 H2 H3 hi ⟨O2, env2, g2, go⟩ y
      obtain ⟨dx, e1, s3, i3, r3⟩ := hY i H2 x H3 O2 y hi g2.rl.st g2.inv g2.volO g2.rl.dn g2.al
      have e2 : ds.drop i = dx :: ds.drop (i + 1) := by
        have hlt : i < ds.length := hi
        rw [List.drop_eq_getElem_cons hlt]
        congr 1
        exact Option.some.inj ((List.getElem?_eq_getElem hlt).symm.trans e1)
      rw [e2] at go
      have g3 := g2.step s3 i3
      have xo1 : XOk W X.K { B with Hb := H1, Ob := O } Wx k.xc := xo.rebase g1.volb g1.rl
      refine ⟨_, O2, env2, dx, _, g3, r3, go, fun σ' env' p' g' _ _ => ?_⟩
      refine ⟨_, O2, env', { k with nx := goFor dg tb k (ds.drop (i + 1)), ct := goFor dg tb k (ds.drop (i + 1)), bk := k.nx }, g', xo1, p', fun O4 σ4 H4 env4 g4 q => ⟨O4, env4, g4, q⟩, fun O4 σ4 H4 env4 v d' g4 r q => k2 O4 σ4 H4 env4 v d' (Good.unbase g1.volb g1.rl g4) r q, fun O4 σ4 H4 env4 g4 q => ?_, fun O4 σ4 H4 env4 g4 q => ⟨O4, env4, g4, q⟩⟩
      exact k1 O4 σ4 H4 env4 (Good.unbase g1.volb g1.rl g4) q
    · rintro σ2 H2 ⟨O2, env2, g2, go⟩
      rw [List.drop_length] at go
      exact k1 O2 σ2 H2 env2 (Good.unbase g1.volb g1.rl g2) go⟩
/-- a while, by a word W with a measure -/
def dWhile (dt : DTt) (tb : DSt) : DSt := fun env k => ∃ Wd : Nat → Ev → Prop, (∃ m, Wd m env) ∧ ∀ m env, Wd m env → dt env (fun b => match b with
  | true => tb env { k with nx := fun e => ∃ m', m' < m ∧ Wd m' e, ct := fun e => ∃ m', m' < m ∧ Wd m' e, bk := k.nx }
  | false => k.nx env) k.xc
theorem ds_while {body : List Stmt} {tb : DSt} (hc : DT W X Wx c dt) (hb : DB W X Wx body tb) (hp : PassesOwn (model X.prog X.w) X.A X.env X.xe := by first | exact PassesOwn.never | exact passes_of rfl) : DS W X Wx (.While c body [] pos) (dWhile dt tb) :=
  ds_of (ps_while hp hc hb) fun Dn σ H _ ⟨B, O, env, k, g, xo, d, k1, k2, k3, k4⟩ => by
    obtain ⟨Wo, ⟨m, w0⟩, hw⟩ := d
    refine ⟨fun m σ H => ∃ O env, Good W X.K B O H σ env ∧ Wo m env, ⟨m, O, env, g, w0⟩, ?_⟩
    rintro m σ2 H2 ⟨O2, env2, g2, w2⟩
    refine ⟨B, O2, env2, _, _, g2, xo, hw m env2 w2, fun b H3 p s3 i3 z3 => ?_⟩
    have g3 := g2.step s3 i3
    cases b with
    | true =>
      refine iteT ?_
      refine ⟨_, fun σ' H' n => n, B, O2, env2, { k with nx := fun e => ∃ m', m' < m ∧ Wo m' e, ct := fun e => ∃ m', m' < m ∧ Wo m' e, bk := k.nx }, g3, xo, p, fun O4 σ4 H4 env4 g4 q => ?_, fun O4 σ4 H4 env4 v d' g4 r q => k2 O4 σ4 H4 env4 v d' g4 r q, fun O4 σ4 H4 env4 g4 q => k1 O4 σ4 H4 env4 g4 q, fun O4 σ4 H4 env4 g4 q => ?_⟩
      · obtain ⟨m', h1, h2⟩ := q
        exact ⟨m', h1, O4, env4, g4, h2⟩
      · obtain ⟨m', h1, h2⟩ := q
        exact ⟨m', h1, O4, env4, g4, h2⟩
    | false =>
      refine iteF ?_
      exact k1 O2 σ2 H3 env2 g3 p
end
end DL

namespace DL
open PySem PySem.Spec PyProof.Rows L2

/-! ### a def's body -/
def startE (n : Nat) (ds : List D) : Ev := ds.map (fun d => some (d, none)) ++ List.replicate (n - ds.length) none
theorem start_env {W : Wd} {K : PySem.W.Frag} {O : Addr → Prop} {H0 H : Hp} {ds : List D} {vs : List V} {N : List Str} (r : RpAll W K O H ds vs) : EnvR W K H0 O H (L2.start N vs) (startE N.length ds) := by
  have l := r.len
  have nn : ∀ {i : Nat} {e : D × Option Addr}, (startE N.length ds)[i]? = some (some e) → ∃ d, ds[i]? = some d ∧ e = (d, none) := fun {i e} h => by
    unfold startE at h
    by_cases hi : i < ds.length
    · rw [List.getElem?_append_left (by simpa using hi), List.getElem?_map] at h
      rw [List.getElem?_eq_getElem hi] at h ⊢
      cases h
      exact ⟨_, rfl, rfl⟩
    · rw [List.getElem?_append_right (by simpa using hi)] at h
      rw [List.getElem?_replicate] at h
      split at h <;> cases h
  refine ⟨?_, fun i d h => ?_, fun i d a h => ?_, fun i j d e a h1 h2 => ?_⟩
  · unfold L2.start startE
    simp [l]
  · obtain ⟨d', e1, e2⟩ := nn h
    cases e2
    obtain ⟨v, e3, rv⟩ := r.get' e1
    refine ⟨v, ?_, rv⟩
    unfold L2.start
    have hi : i < vs.length := (List.getElem?_eq_some_iff.mp e3).1
    rw [List.getElem?_append_left (by simpa using hi), List.getElem?_map, e3]
    rfl
  · obtain ⟨d', e1, e2⟩ := nn h
    cases e2
  · obtain ⟨d', e1, e2⟩ := nn h1
    cases e2
/-- the ends of a def's body -/
def retK (P : D → Prop) (R : XD → Prop) : DK := ⟨fun _ => P .non, fun _ => P, fun _ => False, fun _ => False, fun x _ => R x⟩
section
variable {P : Program} {w : World} {K : PySem.W.Frag} {mg : Str → Option Value} {base : Heap} {x qual : Str} {params : Arguments} {body : List Stmt} {scope : Scope} {f : Addr} {fd : FuncData} {W : Wd}
theorem okD {N ps : List Str} {k : Nat} {G : Fn} {ds : DSt} {dvs : List V} {kws : List (Str × V)} (F : FunD K x qual params body scope dvs kws f fd) (S : FnScope N ps scope) (hl : ∀ as Pd R, G as Pd R → as.length = ps.length)
    (hb : ∀ (cdv : Value) (A : Around) (outer : List Env) (s : Shared) (H : Hp) (E : XK), Room k (A.deeper (envOfC qual scope s.heap.objs.size f cdv)) →
      DB W (cxOf (L2.CX P w) P w K mg base N qual scope f cdv A outer s H E) (fun cls d _ H' => E cls d H') body ds)
    (hG : ∀ as Pd R, G as Pd R → ds (startE N.length as) (retK Pd R)) : FnOk P w K mg base (L2.CX P w) (k + 1) f fd ps (spD W K G) := by
  refine F.ok S (fun vs H Q E h => ?_) (fun cdv A outer s H vs Q E hr h => ?_)
  · obtain ⟨O, as, Pd, R, _, _, _, r, g, _⟩ := h
    rw [r.len]
    exact hl as Pd R g
  · obtain ⟨O, as, Pd, R, i, v, al, r, g, q, xq⟩ := h
    refine ⟨_, hb cdv A outer s H E hr, ⟨⟨H, O, H, O⟩, O, startE N.length as, retK Pd R, ⟨i, fun _ h => h, v, v, al, al, StO.refl _, Rl.refl, start_env r⟩, ?_, hG as Pd R g, ?_, ?_, ?_, ?_⟩⟩
    · intro x O' H' σ' env' cls d g' rx hx
      obtain ⟨h1, dx, fs, h2, h3, h4, h5⟩ := rx
      exact xq x cls d H' hx g'.st g'.inv ⟨h1, dx, fs, h2, h3, fun z => h4 (g'.sub dx z), h5.less g'.sub⟩
    · intro O' σ' H' env' g' p
      exact q .non .non H' p g'.st g'.inv rp_n
    · intro O' σ' H' env' v d g' r' p
      exact q d v H' p g'.st g'.inv (r'.less g'.sub)
    · intro _ _ _ _ _ h
      exact h.elim
    · intro _ _ _ _ _ h
      exact h.elim
end

/-! ### the bag of numbers that a law draws from -/
structure BagAt (b sa : Addr) (H : Hp) : Prop where
  ne : b ≠ sa
  at_ : ∃ (ns : List Int) (i j k l : Int), H b = some (.lst [.ref sa, .int i, .int j, .int k, .int l]) ∧ H sa = some (.lst (ns.map V.int)) ∧ 0 ≤ i ∧ 0 ≤ j ∧ (0 ≤ k ∧ k < 2147483629) ∧ 0 ≤ l
def bagW (b sa : Addr) : Wd where
  vol := fun a => a = b ∨ a = sa
  inv := BagAt b sa
  ex := fun k v => k = 0 ∧ v = .ref b
  alloc := fun H h a ha => by
    obtain ⟨_, ns, i, j, k, l, h1, h2, _⟩ := h
    rcases ha with rfl | rfl
    · exact ⟨_, h1⟩
    · exact ⟨_, h2⟩
  keep := fun H H' h hk => by
    obtain ⟨ne, ns, i, j, k, l, h1, h2, h3⟩ := h
    exact ⟨ne, ns, i, j, k, l, by rw [hk b (.inl rfl)]; exact h1, by rw [hk sa (.inr rfl)]; exact h2, h3⟩
/-- a draw: any number below many -/
def FTake : Fn := fun ds P _ => ∃ m : Int, ds = [.ex 0, .int m] ∧ 0 < m ∧ m ≤ 1000000000000 ∧ ∀ r : Int, 0 ≤ r → r < m → P (.int r)
end DL

namespace DL
open PySem PySem.Spec PyProof.Rows L2

/-! ### one's own lists -/
section
variable {W : Wd} {K : PySem.W.Frag} {B : Bs} {O : Addr → Prop} {H H' : Hp} {σ : L2.St} {env : Ev}
/-- the list in slot i becomes another -/
theorem Good.mutL {i : Nat} {ds es : List D} {a : Addr} {xs : List V} (g : Good W K B O H σ env) (he : env[i]? = some (some (.lst ds, some a))) (r : RpAll W K O H es xs) :
    Good W K B O (upd H a (.lst xs)) σ (env.set i (some (.lst es, some a))) := by
  obtain ⟨hs, ha, na, fr, _⟩ := g.env.ow i _ a he
  have hi : i < env.length := (List.getElem?_eq_some_iff.mp he).1
  have so : StO O H (upd H a (.lst xs)) := fun b o n e => by
    rw [upd_ne (show b ≠ a from fun z => n (by rw [z]; exact ha))]
    exact e
  have hv : ∀ b, W.vol b → (upd H a (.lst xs)) b = H b := fun b hb => upd_ne (show b ≠ a from fun z => na (by rw [← z]; exact hb))
  have key : ∀ {j : Nat} {d : D} {c : Addr}, (env.set i (some (.lst es, some a)))[j]? = some (some (d, some c)) → ∃ d', env[j]? = some (some (d', some c)) := fun {j d c} h => by
    by_cases hj : i = j
    · subst hj
      rw [List.getElem?_set_self hi] at h
      cases h
      exact ⟨_, he⟩
    · rw [List.getElem?_set_ne hj] at h
      exact ⟨_, h⟩
  refine ⟨W.keep H _ g.inv hv, g.sub, g.vol, g.volb, fun b hb => ?_, g.al0, fun b o n e => ?_, ⟨fun b o n e => ?_, g.rl.up, g.rl.dn⟩, ⟨by rw [List.length_set]; exact g.env.len, fun j d h => ?_, fun j d c h => ?_, fun j l d e c h1 h2 => ?_⟩⟩
  · by_cases hb' : b = a
    · subst hb'
      exact ⟨_, upd_same⟩
    · rw [upd_ne hb']
      exact g.al b hb
  · rw [upd_ne fun z => by rw [z, fr] at e; cases e]
    exact g.st b o n e
  · have nb : b ≠ a := fun z => by
      subst z
      exact (g.rl.dn b ha).elim n fun z => by rw [z] at e; cases e
    rw [upd_ne nb]
    exact g.rl.st b o n e
  · have hj : i ≠ j := fun z => by
      subst z
      rw [List.getElem?_set_self hi] at h
      cases h
    rw [List.getElem?_set_ne hj] at h
    obtain ⟨v, e1, rv⟩ := g.env.sh j d h
    exact ⟨v, e1, rv.st so⟩
  · by_cases hj : i = j
    · subst hj
      rw [List.getElem?_set_self hi] at h
      cases h
      exact ⟨hs, ha, na, fr, xs, upd_same, r.st so⟩
    · rw [List.getElem?_set_ne hj] at h
      obtain ⟨e1, ha2, na2, f2, rr⟩ := g.env.ow j d c h
      have ne : c ≠ a := fun z => by
        subst z
        exact hj (g.env.apart i j _ _ _ he h)
      refine ⟨e1, ha2, na2, f2, ?_⟩
      cases d with
      | lst ds =>
        obtain ⟨ys, h1, h2⟩ := rr
        exact ⟨ys, by rw [upd_ne ne]; exact h1, h2.st so⟩
      | dct ds =>
        obtain ⟨ys, h1, h2⟩ := rr
        exact ⟨ys, by rw [upd_ne ne]; exact h1, h2.st so⟩
      | obj C ds =>
        obtain ⟨dx, ys, h1, h2⟩ := rr
        exact ⟨dx, ys, by rw [upd_ne ne]; exact h1, h2.st so⟩
      | _ => exact rr
  · obtain ⟨d1, q1⟩ := key h1
    obtain ⟨d2, q2⟩ := key h2
    exact g.env.apart j l d1 d2 c q1 q2
/-- where one's own list stands -/
theorem Good.ownL {i : Nat} {ds : List D} {a : Addr} (g : Good W K B O H σ env) (he : env[i]? = some (some (.lst ds, some a))) : ∃ xs, σ[i]? = some (some (.ref a)) ∧ H a = some (.lst xs) ∧ RpAll W K O H ds xs := by
  obtain ⟨e1, _, _, _, xs, h1, h2⟩ := g.env.ow i _ a he
  exact ⟨xs, e1, h1, h2⟩
theorem RpAll.setAt : ∀ {ds : List D} {vs : List V} {d : D} {v : V} (j : Nat), RpAll W K O H ds vs → Rp W K O H d v → RpAll W K O H (ds.set j d) (vs.set j v)
  | [], _, _, _, j, h, _ => by
    unfold RpAll at h
    rw [h]
    exact rpAll_nil
  | d' :: ds, _, d, v, 0, h, r => by
    unfold RpAll at h
    obtain ⟨w, q, rfl, h1, h2⟩ := h
    exact rpAll_cons r h2
  | d' :: ds, _, d, v, j + 1, h, r => by
    unfold RpAll at h
    obtain ⟨w, q, rfl, h1, h2⟩ := h
    exact rpAll_cons h1 (RpAll.setAt j h2 r)
end
def ownL (env : Ev) (i : Nat) (f : Addr → List D → Prop) : Prop := match env[i]? with
  | some (some (.lst ds, some a)) => f a ds
  | _ => False
theorem ownL_of {env : Ev} {i : Nat} {f : Addr → List D → Prop} (h : ownL env i f) : ∃ a ds, env[i]? = some (some (.lst ds, some a)) ∧ f a ds := by
  unfold ownL at h
  split at h
  · exact ⟨_, _, by assumption, h⟩
  · exact h.elim
/-- x[j] = e, x in slot i one's own -/
def dPut (i : Nat) (de dj : DEt) : DSt := fun env k => ownL env i fun a ds => de env (fun d => dj env (fun j => match j with
  | .int n => (match ixN ds.length n with
    | some m => k.nx (env.set i (some (.lst (ds.set m d), some a)))
    | none => False)
  | _ => False) k.xc) k.xc
/-- x.append(e) -/
def dApp (i : Nat) (de : DEt) : DSt := fun env k => ownL env i fun a ds => de env (fun d => ds.length < 1000000 ∧ k.nx (env.set i (some (.lst (ds ++ [d]), some a)))) k.xc
/-- x.extend(e), e a new list -/
def dExt (i : Nat) (de : DEt) : DSt := fun env k => ownL env i fun a ds => de env (fun d => match d with
  | .lst es => ds.length + es.length ≤ 1000000 ∧ k.nx (env.set i (some (.lst (ds ++ es), some a)))
  | _ => False) k.xc
/-- y = x.pop() -/
def dPop (i j : Nat) : DSt := fun env k => ownL env i fun a ds => (match ds[ds.length - 1]? with
  | some d => k.nx ((env.set i (some (.lst ds.dropLast, some a))).set j (some (d, none)))
  | none => False)
theorem RpAll.dropLast {W : Wd} {K : PySem.W.Frag} {O : Addr → Prop} {H : Hp} {ds : List D} {vs : List V} (h : RpAll W K O H ds vs) : RpAll W K O H ds.dropLast vs.dropLast := by
  rw [List.dropLast_eq_take, List.dropLast_eq_take, h.len]
  exact h.take _
section
variable {W : Wd} {X : Cx} {Wx : WX} {e ei : Expr} {pos : Pos} {de dj : DEt}
theorem ds_put (i : Nat) {x : Str} {px p2 : Pos} (he : DE W X Wx e de) (hj : DE W X Wx ei dj) (hN : X.N[i]? = some x := by rfl) (hv : Vis X.env.scope x := by first | exact Or.inl rfl | exact Or.inr (Or.inl rfl) | exact Or.inr (Or.inr rfl))
    (hd : (x == ("__debug__" : Str)) = false := by decide) (hcd : (x == ("__classdict__" : Str)) = false := by decide)
    (hs : swapsWithSole [.Subscript (.Name x px) ei p2] e pos.line X.env = pure false := by rfl) (hw : swappedStores [.Subscript (.Name x px) ei p2] e X.env = pure none := by rfl) (h1 : (assignEach [.Subscript (.Name x px) ei p2] X.env).map (·.2) = [assign (.Subscript (.Name x px) ei p2) X.env] := by rfl)
    (hp : PG X (.Subscript (.Name x px) ei p2) (gSub (tVar i) (tD W X.K Wx dj) rSetL)) : DS W X Wx (.Assign [.Subscript (.Name x px) ei p2] e pos) (dPut i de dj) :=
  ds_of (ps_asg he hp hs hw h1) fun Dn σ H _ ⟨B, O, env, k, g, xo, d, k1, k2, k3, k4⟩ => by
    obtain ⟨a, ds, hown, d⟩ := ownL_of d
    refine ⟨B, O, env, _, _, g, xo, d, fun d' v H1 p s1 i1 z r => ?_⟩
    have g1 := g.step s1 i1
    obtain ⟨xs, q1, q2, q3⟩ := g1.ownL hown
    refine ⟨.ref a, q1, B, O, env, _, _, g1, xo, p, fun dj' jv H2 p2 s2 i2 z2 r2 => ?_⟩
    have g2 := g1.step s2 i2
    split at p2
    · cases rp_int r2
      obtain ⟨xs2, w1, w2, w3⟩ := g2.ownL hown
      split at p2
      · rename_i m em
        exact ⟨a, xs2, _, m, rfl, rfl, w2, by rw [w3.len]; exact em, k1 O σ _ _ (g2.mutL hown (w3.setAt m (r.st (g1.toO s2)))) p2⟩
      · exact p2.elim
    · exact p2.elim
theorem ds_append (i : Nat) {x : Str} {px pa pc : Pos} (he : DE W X Wx e de) (hN : X.N[i]? = some x := by rfl) (hv : Vis X.env.scope x := by first | exact Or.inl rfl | exact Or.inr (Or.inl rfl) | exact Or.inr (Or.inr rfl))
    (hp : PS X (.Expr (.Call (.Attribute (.Name x px) "append" pa) [e] [] pc) pos) (tDrop (tBM X.K "list" rAppend (tVar i) (tCons (tD W X.K Wx de) tNil)))) : DS W X Wx (.Expr (.Call (.Attribute (.Name x px) "append" pa) [e] [] pc) pos) (dApp i de) :=
  ds_of hp fun Dn σ H _ ⟨B, O, env, k, g, xo, d, k1, k2, k3, k4⟩ => by
    obtain ⟨a, ds, hown, d⟩ := ownL_of d
    obtain ⟨xs, q1, q2, q3⟩ := g.ownL hown
    refine ⟨.ref a, q1, .inl ⟨rfl, xs, SqL.of q2⟩, B, O, env, _, _, g, xo, d, fun d' v H1 p s1 i1 z r => ?_⟩
    have g1 := g.step s1 i1
    obtain ⟨xs2, w1, w2, w3⟩ := g1.ownL hown
    exact ⟨a, xs2, v, rfl, rfl, w2, by rw [w3.len]; exact Nat.lt_of_lt_of_le p.1 (by decide), k1 O σ _ _ (g1.mutL hown (w3.append (rpAll_cons r rpAll_nil))) p.2⟩
theorem ds_extend (i : Nat) {x : Str} {px pa pc : Pos} (he : DE W X Wx e de) (hN : X.N[i]? = some x := by rfl) (hv : Vis X.env.scope x := by first | exact Or.inl rfl | exact Or.inr (Or.inl rfl) | exact Or.inr (Or.inr rfl))
    (hp : PS X (.Expr (.Call (.Attribute (.Name x px) "extend" pa) [e] [] pc) pos) (tDrop (tBM X.K "list" rExtend (tVar i) (tCons (tD W X.K Wx de) tNil)))) : DS W X Wx (.Expr (.Call (.Attribute (.Name x px) "extend" pa) [e] [] pc) pos) (dExt i de) :=
  ds_of hp fun Dn σ H _ ⟨B, O, env, k, g, xo, d, k1, k2, k3, k4⟩ => by
    obtain ⟨a, ds, hown, d⟩ := ownL_of d
    obtain ⟨xs, q1, q2, q3⟩ := g.ownL hown
    refine ⟨.ref a, q1, .inl ⟨rfl, xs, SqL.of q2⟩, B, O, env, _, _, g, xo, d, fun d' v H1 p s1 i1 z r => ?_⟩
    have g1 := g.step s1 i1
    obtain ⟨xs2, w1, w2, w3⟩ := g1.ownL hown
    split at p
    · obtain ⟨b, ys, rfl, h1, h2⟩ := rp_lst r
      exact ⟨a, b, xs2, ys, rfl, rfl, w2, h1, by rw [w3.len, h2.len]; exact Nat.le_trans p.1 (by decide), k1 O σ _ _ (g1.mutL hown (w3.append h2)) p.2⟩
    · exact p.elim
theorem ds_pop {st : Stmt} (i j : Nat) (hp : PS X st (tAsg (tBM0 X.K "list" rPop (tVar i)) (gName j))) : DS W X Wx st (dPop i j) :=
  ds_of hp fun Dn σ H _ ⟨B, O, env, k, g, xo, d, k1, k2, k3, k4⟩ => by
    obtain ⟨a, ds, hown, d⟩ := ownL_of d
    obtain ⟨xs, q1, q2, q3⟩ := g.ownL hown
    split at d
    · rename_i y ey
      obtain ⟨v, ev, rv⟩ := q3.get' ey
      have ha : StO O H (upd H a (.lst xs.dropLast)) := fun b o n e => by
        obtain ⟨_, ha, _⟩ := g.env.ow i _ a hown
        rw [upd_ne (show b ≠ a from fun z => n (by rw [z]; exact ha))]
        exact e
      exact ⟨.ref a, q1, .inl ⟨rfl, xs, SqL.of q2⟩, a, xs, v, rfl, rfl, q2, by rw [q3.len]; exact ev, k1 O _ _ _ ((g.mutL hown q3.dropLast).set (rv.st ha)) d⟩
    · exact d.elim
end

/-! ### a new list, to be one's own -/
def tDF (W : Wd) (K : PySem.W.Frag) (Wx : WX) (de : DEt) : TE := fun σ H Q =>
  ∃ (B : Bs) (O : Addr → Prop) (env : Ev) (P : D → Prop) (R : XP), Good W K B O H σ env ∧ XOk W K B Wx R ∧ de env P R ∧
    ∀ ds xs p H', P (.lst ds) → StO W.vol H H' → W.inv H' → H p = none → ¬ O p → H' p = some (.lst xs) → RpAll W K (fun a => O a ∨ a = p) H' ds xs → Q (.ref p) H'
def DF (W : Wd) (X : Cx) (Wx : WX) (e : Expr) (de : DEt) : Prop := PE X e (tDF W X.K Wx de)
section
variable {W : Wd} {X : Cx} {Wx : WX} {e : Expr} {es : List Expr} {pos : Pos} {de : DEt} {ga : DAt}
theorem pe_mono {X : Cx} {e : Expr} {t t' : TE} (h : PE X e t) (s : ∀ σ H Q, t' σ H Q → t σ H Q) : PE X e t' := ⟨fun pins sh σ H Q I z => h.run pins sh σ H Q I (s σ H Q z)⟩
theorem df_lst (ha : DA W X Wx es ga) : DF W X Wx (.List es pos) (dLst ga) :=
  pe_mono (pe_lst ha) fun σ H Q ⟨B, O, env, P, R, g, xo, d, k⟩ => ⟨B, O, env, _, R, g, xo, d, fun ds vs H1 p1 s1 i1 z1 r1 =>
    ⟨by rw [r1.len]; exact sz100000 p1.1, fun p hp => by
      have g1 := g.step s1 i1
      have np := g1.nofresh hp
      refine k ds vs p _ p1.2 (s1.trans (StO.new hp)) (g1.invNew hp) (StO.fresh s1 (fun z => np (g1.volO _ z)) hp) np upd_same ?_
      exact (r1.more hp).st fun a o n e => by
        rw [upd_ne fun z => n (.inr z)]
        exact e⟩⟩
theorem Good.own {W : Wd} {K : PySem.W.Frag} {B : Bs} {O : Addr → Prop} {H H' : Hp} {σ : L2.St} {env : Ev} {i : Nat} {p : Addr} {ds : List D} {xs : List V} (g : Good W K B O H σ env) (hp : H p = none) (np : ¬ O p) (s : StO W.vol H H') (iv : W.inv H') (h : H' p = some (.lst xs)) (r : RpAll W K (fun a => O a ∨ a = p) H' ds xs) :
    Good W K B (fun a => O a ∨ a = p) H' (σ.set i (some (.ref p))) (env.set i (some (.lst ds, some p))) := by
  have g' := g.grow hp h s iv
  have f0 : B.H0 p = none := StO.fresh g.st (fun z => np (g.volO _ z)) hp
  have self : ∀ {q : D × Option Addr}, (env.set i (some (.lst ds, some p)))[i]? = some (some q) → i < env.length ∧ q = (.lst ds, some p) := fun {q} h => by
    have hl : i < env.length := by
      have := (List.getElem?_eq_some_iff.mp h).1
      rwa [List.length_set] at this
    rw [List.getElem?_set_self hl] at h
    cases h
    exact ⟨hl, rfl⟩
  have old : ∀ {j : Nat} {d : D} {c : Addr}, i ≠ j → (env.set i (some (.lst ds, some p)))[j]? = some (some (d, some c)) → c ≠ p := fun {j d c} hj q z => by
    rw [List.getElem?_set_ne hj] at q
    exact np (z ▸ (g.env.ow j d c q).2.1)
  refine ⟨g'.inv, g'.sub, g'.vol, g'.volb, g'.al, g'.al0, g'.st, g'.rl, ⟨by rw [List.length_set, List.length_set, g.env.len], fun j d q => ?_, fun j d c q => ?_, fun j l d e c h1 h2 => ?_⟩⟩
  · have hj : i ≠ j := fun z => by
      subst z
      cases (self q).2
    rw [List.getElem?_set_ne hj] at q ⊢
    exact g'.env.sh j d q
  · by_cases hj : i = j
    · subst hj
      obtain ⟨hl, e⟩ := self q
      cases e
      exact ⟨List.getElem?_set_self (by rw [g.env.len]; exact hl), .inr rfl, fun z => np (g.volO _ z), f0, xs, h, r⟩
    · rw [List.getElem?_set_ne hj] at q ⊢
      exact g'.env.ow j d c q
  · by_cases hj : i = j
    · by_cases hl : i = l
      · rw [← hj, ← hl]
      · subst hj
        cases (self h1).2
        exact absurd rfl (old hl h2)
    · by_cases hl : i = l
      · subst hl
        cases (self h2).2
        exact absurd rfl (old hj h1)
      · rw [List.getElem?_set_ne hj] at h1
        rw [List.getElem?_set_ne hl] at h2
        exact g.env.apart j l d e c h1 h2
def dSetOwn (i : Nat) (de : DEt) : DSt := fun env k => de env (fun d => match d with
  | .lst ds => ∀ a, k.nx (env.set i (some (.lst ds, some a)))
  | _ => False) k.xc
theorem ds_setOwn (i : Nat) {x : Str} {pos' : Pos} (hN : X.N.Nodup) (he : DF W X Wx e de) (hi : X.N[i]? = some x := by rfl) (hx : Loc X.env.scope x := by first | exact Or.inl rfl | exact Or.inr rfl) (hs : swapsWith e (some (.Name x pos')) pos.line X.env = pure false := by rfl)
    (hf : X.fn x = true ∨ X.env.scope.names.lookup x = some .local := by first | exact .inl rfl | exact .inr rfl | assumption) : DS W X Wx (.Assign [.Name x pos'] e pos) (dSetOwn i de) :=
  ds_of (ps_set hN hi hx he hs hf) fun Dn σ H _ ⟨B, O, env, k, g, xo, d, k1, k2, k3, k4⟩ => ⟨B, O, env, _, _, g, xo, d, fun ds xs p H' q s i' hp np h r => k1 _ _ H' _ (g.own hp np s i' h r) (q p)⟩
end
end DL

namespace DL
open PySem PySem.Spec PyProof.Rows L2

/-! ### a def of the text, and what it does -/
def DefAt (K : PySem.W.Frag) (mg : Str → Option Value) (x : Str) (st : Stmt) : Prop := ∃ f fd, FunD K x x (defArgs st) (defBody st) (defScope st) [] [] f fd ∧ mg x = some (.ref f)
def FnAt (P : Program) (w : World) (K : PySem.W.Frag) (mg : Str → Option Value) (base : Heap) (W : Wd) (k : Nat) (x : Str) (F : Fn) : Prop :=
  ∃ f fd ps, FnOk P w K mg base (L2.CX P w) k f fd ps (spD W K F) ∧ mg x = some (.ref f) ∧ PySem.W.keepIn K (.ref f) = true ∧ Binds K fd ps []
section
variable {P : Program} {w : World} {K : PySem.W.Frag} {mg : Str → Option Value} {base : Heap} {W : Wd} {x : Str} {st : Stmt}
theorem okF {N ps : List Str} {k : Nat} {G : Fn} {ds : DSt} (F : DefAt K mg x st) (S : FnScope N ps (defScope st))
    (bd : ∀ (kV doc pm : Value) (an : Option Addr) (cdv ct : Value) (us : List Value), us.length = ps.length → bindArgs (PySem.W.fnOf x x (defArgs st) (defBody st) (defScope st) .none kV doc pm an cdv ct) ⟨us, []⟩ = pure (ps.zip us))
    (hl : ∀ as Pd R, G as Pd R → as.length = ps.length)
    (hb : ∀ (f : Addr) (cdv : Value) (A : Around) (outer : List Env) (s : Shared) (H : Hp) (E : XK), Room k (A.deeper (envOfC x (defScope st) s.heap.objs.size f cdv)) →
      DB W (cxOf (L2.CX P w) P w K mg base N x (defScope st) f cdv A outer s H E) (fun cls d _ H' => E cls d H') (defBody st) ds)
    (hG : ∀ as Pd R, G as Pd R → ds (startE N.length as) (retK Pd R)) : FnAt P w K mg base W (k + 1) x G := by
  obtain ⟨f, fd, F, m⟩ := F
  exact ⟨f, fd, ps, okD F S hl (hb f) hG, m, F.kp, F.bindsN bd⟩
theorem FnAt.mono {j k : Nat} {F : Fn} (h : FnAt P w K mg base W j x F) (hk : j ≤ k) : FnAt P w K mg base W k x F := by
  obtain ⟨f, fd, ps, h1, h2⟩ := h
  exact ⟨f, fd, ps, h1.mono hk, h2⟩
theorem FnAt.imp {k : Nat} {F G : Fn} (h : FnAt P w K mg base W k x F) (hi : ∀ as Pd R, G as Pd R → F as Pd R) : FnAt P w K mg base W k x G := by
  obtain ⟨f, fd, ps, h1, h2⟩ := h
  exact ⟨f, fd, ps, h1.imp fun vs H Q E ⟨O, as, Pd, R, a, b, c, d, e, r⟩ => ⟨O, as, Pd, R, a, b, c, d, hi as Pd R e, r⟩, h2⟩
end
section
variable {W : Wd} {X : Cx} {Wx : WX} {e o : Expr} {es : List Expr} {pos p : Pos} {ga : DAt} {x : Str} {k : Nat} {F : Fn}
theorem de_callF (G : FnAt X.prog X.w X.K X.mg X.base W k x F) (hr : Room k X.A) (tk : Takes X Wx)
    (ha : DA W X Wx (e :: es) ga) (hg : Gl X x := by rfl) (hdb : (x == ("__debug__" : Str)) = false := by decide) (he : starEach (e :: es) X.env = (false, eval e X.env) :: starEach es X.env := by rfl)
    (hpl : (backTo pos (starEach es X.env)).any (·.1) = false := by rfl) : DE W X Wx (.Call (.Name x p) (e :: es) [] pos) (dCall F ga) := by
  obtain ⟨f, fd, ps, h1, h2, h3, h4⟩ := G
  exact de_call h1 hr tk h2 h3 h4 ha hg hdb he hpl
/-- x, y = a, b -/
def dPar (i j : Nat) (ga : DAt) : DSt := fun env k => ga env (fun ds => match ds with
  | [a, b] => k.nx ((env.set i (some (a, none))).set j (some (b, none)))
  | _ => False) k.xc
theorem ds_par (i j : Nat) {x y : Str} {a b : Expr} {px py pt : Pos} {kt k2 pt2} (hN : X.N.Nodup) (ha : DA W X Wx [a, b] ga) (hc : X.calm = true := by rfl) (hi : X.N[i]? = some x := by rfl) (hj : X.N[j]? = some y := by rfl) (hij : i ≠ j := by decide)
    (hx : X.env.scope.names.lookup x = some .local := by rfl) (hy : X.env.scope.names.lookup y = some .local := by rfl)
    (hw : swappedStores [.Tuple [.Name x px, .Name y py] kt pt] (.Tuple [a, b] k2 pt2) X.env = pure (some [x, y]) := by rfl)
    (hs : swapsWithSole [.Tuple [.Name x px, .Name y py] kt pt] (.Tuple [a, b] k2 pt2) pos.line X.env = pure false := by rfl) :
    DS W X Wx (.Assign [.Tuple [.Name x px, .Name y py] kt pt] (.Tuple [a, b] k2 pt2) pos) (dPar i j ga) :=
  ds_of (L2.ps_par hc hN hi hj hij hx hy ha hw hs) fun Dn σ H _ ⟨B, O, env, k, g, xo, d, k1, k2, k3, k4⟩ => ⟨B, O, env, _, _, g, xo, d, fun ds vs H1 p1 s1 i1 z1 r1 => by
    split at p1
    · unfold RpAll at r1
      obtain ⟨v, r, e1, q1, r2⟩ := r1
      unfold RpAll at r2
      obtain ⟨u, r', e2, q2, r3⟩ := r2
      unfold RpAll at r3
      subst r3 e2 e1
      exact ⟨v, u, rfl, k1 O _ H1 _ (((g.step s1 i1).set q1).set q2) p1⟩
    · exact p1.elim⟩
theorem ds_setLcX (i : Nat) {y : Str} {py : Pos} {elt tg iter : Expr} {ifs : List Expr} {scope : Scope} {own : List (Str × Nat)} {pos spos : Pos} {di : DAt} {dg : D → Ev → (Ev → Prop) → Prop} {tt : DTt} {te : DEt} {js : List Nat} (hN : X.N.Nodup)
    (hi : DI W X Wx tg iter di) (ok : BlkOk X.N X.env.scope scope own)
    (hg : ∀ (s : Shared) (H : Hp) (C : Addr) (cl : List (Str × Addr)) (fp : List Addr), DG W (X.blk s H scope (compEnvC scope cl C X.env) fp) tg js dg) (ht : ∀ (s : Shared) (H : Hp) (C : Addr) (cl : List (Str × Addr)) (fp : List Addr), DTs W (X.blk s H scope (compEnvC scope cl C X.env) fp) neverX ifs tt)
    (he : ∀ (s : Shared) (H : Hp) (C : Addr) (cl : List (Str × Addr)) (fp : List Addr), DE W (X.blk s H scope (compEnvC scope cl C X.env) fp) neverX elt te)
    (hy : X.N[i]? = some y := by rfl) (hyl : X.env.scope.names.lookup y = some .local := by rfl) (hk : X.env.scope.kind = .function := by rfl) (hln : (py.line == pos.line) = true := by rfl)
    (hsc : (scope.names.any fun (n, k) => n == y && (k == .local || k == .cell)) = false := by decide +kernel)
    (hj : ∀ j ∈ js, j ∈ own.map (·.2) := by decide) (hc : X.calm = true := by rfl) (hs : ∀ x, foldedSetIterable iter X.env x = pure x := by intro _; rfl) :
    DS W X Wx (.Assign [.Name y py] (.ListComp elt [⟨tg, iter, ifs, 0⟩] scope pos) spos) (dSet i (dLc di dg tt te (own.map (·.2)))) :=
  ds_setLc i hN (fun _ => trivial) (ps_setLc (g := tDG W X.K js dg) (tt := tDT W X.K neverX tt) (te := tD W X.K neverX te) hc hN hy hyl (sw_true hk hyl hln hsc) hi ok hg ht he hs) hj
/-! ### methods of texts -/
def dM1 (f : D → D → (D → Prop) → Prop) (da db : DEt) : DEt := fun env P R => da env (fun x => (∃ a, x = D.str a) ∧ db env (fun y => f x y P) R) R
def dM0 (f : D → (D → Prop) → Prop) (da : DEt) : DEt := fun env P R => da env (fun x => (∃ a, x = D.str a) ∧ f x P) R
theorem de_m1 {id : String} {name : Str} {apos : Pos} {r : V → List V → Hp → VK → Prop} {f : D → D → (D → Prop) → Prop} {da db : DEt} (slot : Slot "str" name id) (ty : typeOf (.builtin id) = pure (.type "method_descriptor")) (rule : MtR X id r) (s : S2 W X.K f (fun x y H Q => r x [y] H Q))
    (ho : DQ W X Wx o da) (he : DQ W X Wx e db) (hs : starEach [e] X.env = [(false, eval e X.env)] := by rfl) (hbase : attributeBase o name X.env (eval o X.env) = eval o X.env := by rfl) (hline : (apos.endLine == pos.line) = true := by rfl) :
    DE W X Wx (.Call (.Attribute o name apos) [e] [] pos) (dM1 f da db) :=
  de_of (pe_m1 slot ty rule ho he hs hbase hline) fun σ H Q _ ⟨B, O, env, P, R, g, xo, d, k⟩ => ⟨B, O, env, _, R, g, xo, d, fun dx x H1 p1 s1 i1 z1 r1 => by
    obtain ⟨⟨a, rfl⟩, p1⟩ := p1
    have g1 := g.step s1 i1
    refine ⟨⟨a, rpq_str r1⟩, B, O, env, _, R, g1, xo, p1, fun dy y H2 p2 s2 i2 z2 r2 => ?_⟩
    exact s (g1.step s2 i2) z2 (r1.st g.volO s2) r2 p2 fun d v H' p s3 i3 r3 z3 => k d v H' p ((s1.trans s2).trans s3) i3 z3 r3⟩
theorem de_m0 {id : String} {name : Str} {apos : Pos} {r : V → List V → Hp → VK → Prop} {f : D → (D → Prop) → Prop} {da : DEt} (slot : Slot "str" name id) (ty : typeOf (.builtin id) = pure (.type "method_descriptor")) (rule : MtR X id r) (s : S1 W X.K f (fun x H Q => r x [] H Q))
    (ho : DQ W X Wx o da) (hbase : attributeBase o name X.env (eval o X.env) = eval o X.env := by rfl) (hline : (apos.endLine == pos.line) = true := by rfl) :
    DE W X Wx (.Call (.Attribute o name apos) [] [] pos) (dM0 f da) :=
  de_of (pe_m0 slot ty rule ho hbase hline) fun σ H Q _ ⟨B, O, env, P, R, g, xo, d, k⟩ => ⟨B, O, env, _, R, g, xo, d, fun dx x H1 p1 s1 i1 z1 r1 => by
    obtain ⟨⟨a, rfl⟩, p1⟩ := p1
    have g1 := g.step s1 i1
    refine ⟨⟨a, rpq_str r1⟩, ?_⟩
    exact s g1 z1 r1 p1 fun d v H' p s3 i3 r3 z3 => k d v H' p (s1.trans s3) i3 z3 r3⟩
theorem s_join : S2 W X.K dJoin (fun x y H Q => ∃ a p, ∃ ys : List Str, x = .str a ∧ [y] = [.ref p] ∧ (SqL X.K H p (ys.map V.str) ∨ SqT X.K H p (ys.map V.str)) ∧
    (ys.map (·.length)).sum + ys.length * a.length ≤ 16777216 ∧ Q (.str (Txt.join a ys)) H) := fun g _ r q h k => by
  unfold dJoin at h
  split at h
  · cases rpq_str r
    obtain ⟨b, xs, rfl, h1, h2⟩ := rpq_lst q
    split at h
    · rename_i ys e
      cases strsOf_all e h2
      exact ⟨_, b, ys, rfl, rfl, .inl (SqL.of h1), h.1, k _ _ _ h.2 (StO.refl _) g.inv rp_s⟩
    · exact h.elim
  · cases rpq_str r
    obtain ⟨b, xs, rfl, h1, h2⟩ := rpq_tup q
    split at h
    · rename_i ys e
      cases strsOf_all e h2
      exact ⟨_, b, ys, rfl, rfl, .inr h1, h.1, k _ _ _ h.2 (StO.refl _) g.inv rp_s⟩
    · exact h.elim
  · exact h.elim
theorem de_join {apos : Pos} {da db : DEt} (ho : DQ W X Wx o da) (he : DQ W X Wx e db) (hs : starEach [e] X.env = [(false, eval e X.env)] := by rfl) (hbase : attributeBase o "join" X.env (eval o X.env) = eval o X.env := by rfl) (hline : (apos.endLine == pos.line) = true := by rfl) :
    DE W X Wx (.Call (.Attribute o "join" apos) [e] [] pos) (dM1 dJoin da db) := de_m1 PySem.F.slot_str_join PySem.F.type_str_join mt_join s_join ho he hs hbase hline
end
end DL

namespace DL
open PySem PySem.Spec PyProof.Rows L2

/-! ### the draw -/
structure BagN (i j k l : Int) : Prop where
  i0 : 0 ≤ i
  j0 : 0 ≤ j
  k0 : 0 ≤ k
  k1 : k < 2147483629
  l0 : 0 ≤ l
def bagD (i j k l : Int) : D := .lst [.ex 1, .int i, .int j, .int k, .int l]
def takeK (a : Addr) (m : Int) : DK := ⟨fun _ => False, fun env d => ∃ r i j k l : Int, d = .int r ∧ 0 ≤ r ∧ r < m ∧ env[0]? = some (some (bagD i j k l, some a)) ∧ BagN i j k l, fun _ => False, fun _ => False, noX⟩
theorem rpAll_ints {W : Wd} {K : PySem.W.Frag} {O : Addr → Prop} {H : Hp} : ∀ ns : List Int, RpAll W K O H (ns.map .int) (ns.map V.int)
  | [] => rpAll_nil
  | n :: ns => rpAll_cons rp_i (rpAll_ints ns)
theorem ints_of {W : Wd} {K : PySem.W.Frag} {O : Addr → Prop} {H : Hp} : ∀ {ns : List Int} {vs : List V}, RpAll W K O H (ns.map .int) vs → vs = ns.map V.int
  | [], _, h => by
    unfold List.map RpAll at h
    exact h
  | n :: ns, _, h => by
    unfold List.map RpAll at h
    obtain ⟨v, r, e, h1, h2⟩ := h
    cases rp_int h1
    rw [e, ints_of h2]
    rfl
/-- the world in which the draw's own body runs: the numbers stand at sa -/
def takeW (sa : Addr) (ns : List Int) : Wd where
  vol := fun a => a = sa
  inv := fun H => H sa = some (.lst (ns.map V.int))
  ex := fun k v => k = 1 ∧ v = .ref sa
  alloc := fun H h a ha => by
    have ha' : a = sa := ha
    subst ha'
    exact ⟨_, h⟩
  keep := fun H H' h hk => by rw [hk sa rfl]; exact h
def dExAt (ns : List Int) (x y : D) (P : D → Prop) : Prop := x = .ex 1 ∧ ∃ (i : Nat) (z : Int), y = .int (i : Int) ∧ ns[i]? = some z ∧ P (.int z)
def dExLen (ns : List Int) (ds : List D) (P : D → Prop) : Prop := ds = [.ex 1] ∧ P (.int ns.length)
theorem s_exAt {X : Cx} {sa : Addr} {ns : List Int} : S2 (takeW sa ns) X.K (dExAt ns) (rIxL X.K) := fun g _ r q h k => by
  obtain ⟨rfl, i, z, rfl, hz, h⟩ := h
  obtain ⟨_, rfl⟩ := rpq_ex r
  cases rpq_int q
  refine ⟨sa, _, _, .int z, rfl, rfl, SqL.of g.inv, atI_nat ?_, k _ _ _ h (StO.refl _) g.inv rp_i⟩
  rw [List.getElem?_map, hz]
  rfl
theorem de_exAt {X : Cx} {Wx : WX} {a b : Expr} {pos : Pos} {da db : DEt} {sa : Addr} {ns : List Int} (ha : DQ (takeW sa ns) X Wx a da) (hb : DQ (takeW sa ns) X Wx b db) (hs : PlainIx b := by exact fun _ _ => rfl) : DE (takeW sa ns) X Wx (.Subscript a b pos) (dOp (dExAt ns) da db) :=
  de_of (pe_ix ix_list ha hb hs) fun σ H Q _ h => op_core s_exAt h
theorem s_exLen {X : Cx} {sa : Addr} {ns : List Int} : SC (takeW sa ns) X.K (dExLen ns) (rLenA X.K) := fun g _ r h k => by
  obtain ⟨rfl, h⟩ := h
  obtain ⟨v, rfl, r1⟩ := rpAllQ_one r
  obtain ⟨_, rfl⟩ := rpq_ex r1
  refine .inl ⟨sa, _, rfl, .inl (SqL.of g.inv), ?_⟩
  rw [List.length_map]
  exact k _ _ _ h (StO.refl _) g.inv rp_i
section
variable {P : Program} {w : World} {K : PySem.W.Frag} {mg : Str → Option Value} {base : Heap} {x : Str} {st : Stmt}
theorem okTake {N : List Str} {p q : Str} {k : Nat} {ds : List Int → DSt} {b sa : Addr} (F : DefAt K mg x st) (S : FnScope N [p, q] (defScope st))
    (bd : ∀ (kV doc pm : Value) (an : Option Addr) (cdv ct : Value) (us : List Value), us.length = [p, q].length → bindArgs (PySem.W.fnOf x x (defArgs st) (defBody st) (defScope st) .none kV doc pm an cdv ct) ⟨us, []⟩ = pure ([p, q].zip us))
    (hb : ∀ (ns : List Int) (f : Addr) (cdv : Value) (A : Around) (outer : List Env) (s : Shared) (H : Hp) (E : XK), Room k (A.deeper (envOfC x (defScope st) s.heap.objs.size f cdv)) →
      DB (takeW sa ns) (cxOf (L2.CX P w) P w K mg base N x (defScope st) f cdv A outer s H E) (fun cls d _ H' => E cls d H') (defBody st) (ds ns))
    (hG : ∀ (a : Addr) (ns : List Int) (i j k l m : Int), BagN i j k l → 0 < m → m ≤ 1000000000000 → ds ns ([some (bagD i j k l, some a), some (.int m, none)] ++ List.replicate (N.length - 2) none) (takeK a m)) : FnAt P w K mg base (bagW b sa) (k + 1) x FTake := by
  obtain ⟨f, fd, F, mgx⟩ := F
  refine ⟨f, fd, [p, q], F.ok S (fun vs H Q E h => ?_) (fun cdv A outer s H vs Q E hr h => ?_), mgx, F.kp, F.bindsN bd⟩
  · obtain ⟨O, as, Pd, R, _, _, _, r, g, _⟩ := h
    obtain ⟨m, rfl, _⟩ := g
    rw [r.len]
    rfl
  · obtain ⟨O, as, Pd, R, iv, v, al, r, g, hq, xq⟩ := h
    obtain ⟨m, rfl, m0, m1, hP⟩ := g
    unfold RpAll at r
    obtain ⟨vb, r1, rfl, rb, r2⟩ := r
    unfold RpAll at r2
    obtain ⟨vm, r3, rfl, rm, r4⟩ := r2
    unfold RpAll at r4
    subst r4
    cases rp_int rm
    unfold Rp at rb
    obtain ⟨_, rfl⟩ := rb
    have iv0 := id iv
    obtain ⟨ne, ns, i, j, kk, l, h1, h2, i0, j0, ⟨k0, k1⟩, l0⟩ := iv0
    let H0 : Hp := fun a => if a = b then none else H a
    have H0b : H0 b = none := if_pos rfl
    have H0n : ∀ a, a ≠ b → H0 a = H a := fun a n => if_neg n
    have st0 : ∀ a o, H0 a = some o → H a = some o := fun a o e => by
      by_cases ha : a = b
      · rw [ha, H0b] at e
        cases e
      · rwa [H0n a ha] at e
    have nsb : sa ≠ b := fun z => ne z.symm
    have als : ∀ a, a = sa → ∃ o, H0 a = some o := fun a ha => by
      subst ha
      exact ⟨_, (H0n a nsb).trans h2⟩
    have alb : ∀ a, (a = sa ∨ a = b) → ∃ o, H a = some o := fun a ha => by
      rcases ha with rfl | rfl
      · exact ⟨_, h2⟩
      · exact ⟨_, h1⟩
    refine ⟨_, hb ns f cdv A outer s H E hr, ⟨⟨H0, fun a => a = sa, H0, fun a => a = sa⟩, fun a => a = sa ∨ a = b, _, takeK b m, ⟨h2, fun _ h => .inl h, fun _ h => h, fun _ h => h, alb, als, fun a o _ e => st0 a o e, ⟨fun a o _ e => st0 a o e, fun _ h => .inl h, fun a ha => ha.elim .inl fun z => .inr (by rw [z]; exact H0b)⟩, ?_⟩, fun _ _ _ _ _ _ _ _ _ h => h.elim, hG b ns i j kk l m ⟨i0, j0, k0, k1, l0⟩ m0 m1, fun _ _ _ _ _ h => h.elim, ?_, fun _ _ _ _ _ h => h.elim, fun _ _ _ _ _ h => h.elim⟩⟩
    · -- the entry
      have ra : RpAll (takeW sa ns) K (fun a => a = sa ∨ a = b) H [.ex 1, .int i, .int j, .int kk, .int l] [.ref sa, .int i, .int j, .int kk, .int l] :=
        rpAll_cons (by unfold Rp; exact ⟨rfl, rfl⟩) (rpAll_cons rp_i (rpAll_cons rp_i (rpAll_cons rp_i (rpAll_cons rp_i rpAll_nil))))
      have nn : ∀ {t : Nat} {e : D × Option Addr}, ([some (bagD i j kk l, some b), some (.int m, none)] ++ List.replicate (N.length - 2) none : Ev)[t]? = some (some e) → (t = 0 ∧ e = (bagD i j kk l, some b)) ∨ (t = 1 ∧ e = (.int m, none)) := fun {t e} h => by
        match t, h with
        | 0, h => cases h; exact .inl ⟨rfl, rfl⟩
        | 1, h => cases h; exact .inr ⟨rfl, rfl⟩
        | t + 2, h =>
          have h' : (List.replicate (N.length - 2) (none : En))[t]? = some (some e) := h
          rw [List.getElem?_replicate] at h'
          split at h' <;> cases h'
      refine ⟨?_, fun t d h => ?_, fun t d a h => ?_, fun t u d e a h h' => ?_⟩
      · unfold L2.start
        simp
      · rcases nn h with ⟨_, e⟩ | ⟨rfl, e⟩
        · cases e
        · cases e
          exact ⟨.int m, rfl, rp_i⟩
      · rcases nn h with ⟨rfl, e⟩ | ⟨_, e⟩
        · cases e
          exact ⟨rfl, .inr rfl, fun z => nsb z.symm, H0b, _, h1, ra⟩
        · cases e
      · rcases nn h with ⟨rfl, e1⟩ | ⟨_, e1⟩
        · rcases nn h' with ⟨rfl, e2⟩ | ⟨_, e2⟩
          · rfl
          · cases e2
        · cases e1
    · intro O' σ' H' env' v d g r' p
      obtain ⟨r, i', j', k', l', rfl, q0, q1, e, bn⟩ := p
      obtain ⟨e1, ha, na, f0, xs, x1, x2⟩ := g.env.ow 0 _ b e
      unfold RpAll at x2
      obtain ⟨v0, t0, rfl, y0, x2⟩ := x2
      unfold RpAll at x2
      obtain ⟨v1, t1, rfl, y1, x2⟩ := x2
      unfold RpAll at x2
      obtain ⟨v2, t2, rfl, y2, x2⟩ := x2
      unfold RpAll at x2
      obtain ⟨v3, t3, rfl, y3, x2⟩ := x2
      unfold RpAll at x2
      obtain ⟨v4, t4, rfl, y4, x2⟩ := x2
      unfold RpAll at x2
      subst x2
      cases rp_int y1
      cases rp_int y2
      cases rp_int y3
      cases rp_int y4
      unfold Rp at y0
      obtain ⟨_, rfl⟩ := y0
      cases rp_int r'
      refine hq (.int r) _ H' (hP r q0 q1) (fun a o n q => ?_) ⟨ne, ns, i', j', k', l', x1, g.inv, bn.i0, bn.j0, ⟨bn.k0, bn.k1⟩, bn.l0⟩ rp_i
      have nb : a ≠ b := fun z => n (.inl z)
      exact g.st a o (fun z => n (.inr z)) ((H0n a nb).trans q)
end

/-! ### places of written lists -/
section
variable {α : Type} {a b c d e f g h : α} {xs : List α}
theorem atI_c0 : atI (a :: xs) 0 = some a := atI_nat (j := 0) rfl
theorem atI_c1 : atI (a :: b :: xs) 1 = some b := atI_nat (j := 1) rfl
theorem atI_c2 : atI (a :: b :: c :: xs) 2 = some c := atI_nat (j := 2) rfl
theorem atI_c3 : atI (a :: b :: c :: d :: xs) 3 = some d := atI_nat (j := 3) rfl
theorem atI_c4 : atI (a :: b :: c :: d :: e :: xs) 4 = some e := atI_nat (j := 4) rfl
theorem atI_c5 : atI (a :: b :: c :: d :: e :: f :: xs) 5 = some f := atI_nat (j := 5) rfl
end
theorem ixN5_1 : ixN 5 1 = some 1 := rfl
theorem ixN5_2 : ixN 5 2 = some 2 := rfl
theorem ixN5_3 : ixN 5 3 = some 3 := rfl
theorem ixN5_4 : ixN 5 4 = some 4 := rfl
theorem ii_eqb (i j : Int) : (D.int i).eqb (.int j) = (i == j) := rfl
theorem ss_eqb (i j : Str) : (D.str i).eqb (.str j) = (i == j) := rfl
theorem bb_eqb (i j : Bool) : (D.bl i).eqb (.bl j) = (i == j) := rfl
theorem scl_ii (i j : Int) : sclD (.int i) (.int j) = true := rfl
theorem scl_ss (i j : Str) : sclD (.str i) (.str j) = true := rfl
theorem scl_bb (i j : Bool) : sclD (.bl i) (.bl j) = true := rfl
theorem kb_NoneType_bool : kitB "NoneType" "bool" = some false := by decide +kernel
theorem kb_NoneType_int : kitB "NoneType" "int" = some false := by decide +kernel
theorem kb_NoneType_str : kitB "NoneType" "str" = some false := by decide +kernel
theorem kb_NoneType_tuple : kitB "NoneType" "tuple" = some false := by decide +kernel
theorem kb_NoneType_list : kitB "NoneType" "list" = some false := by decide +kernel
theorem kb_NoneType_dict : kitB "NoneType" "dict" = some false := by decide +kernel
theorem kb_bool_bool : kitB "bool" "bool" = some true := by decide +kernel
theorem kb_bool_int : kitB "bool" "int" = some true := by decide +kernel
theorem kb_bool_str : kitB "bool" "str" = some false := by decide +kernel
theorem kb_bool_tuple : kitB "bool" "tuple" = some false := by decide +kernel
theorem kb_bool_list : kitB "bool" "list" = some false := by decide +kernel
theorem kb_bool_dict : kitB "bool" "dict" = some false := by decide +kernel
theorem kb_int_bool : kitB "int" "bool" = some false := by decide +kernel
theorem kb_int_int : kitB "int" "int" = some true := by decide +kernel
theorem kb_int_str : kitB "int" "str" = some false := by decide +kernel
theorem kb_int_tuple : kitB "int" "tuple" = some false := by decide +kernel
theorem kb_int_list : kitB "int" "list" = some false := by decide +kernel
theorem kb_int_dict : kitB "int" "dict" = some false := by decide +kernel
theorem kb_str_bool : kitB "str" "bool" = some false := by decide +kernel
theorem kb_str_int : kitB "str" "int" = some false := by decide +kernel
theorem kb_str_str : kitB "str" "str" = some true := by decide +kernel
theorem kb_str_tuple : kitB "str" "tuple" = some false := by decide +kernel
theorem kb_str_list : kitB "str" "list" = some false := by decide +kernel
theorem kb_str_dict : kitB "str" "dict" = some false := by decide +kernel
theorem kb_tuple_bool : kitB "tuple" "bool" = some false := by decide +kernel
theorem kb_tuple_int : kitB "tuple" "int" = some false := by decide +kernel
theorem kb_tuple_str : kitB "tuple" "str" = some false := by decide +kernel
theorem kb_tuple_tuple : kitB "tuple" "tuple" = some true := by decide +kernel
theorem kb_tuple_list : kitB "tuple" "list" = some false := by decide +kernel
theorem kb_tuple_dict : kitB "tuple" "dict" = some false := by decide +kernel
theorem kb_list_bool : kitB "list" "bool" = some false := by decide +kernel
theorem kb_list_int : kitB "list" "int" = some false := by decide +kernel
theorem kb_list_str : kitB "list" "str" = some false := by decide +kernel
theorem kb_list_tuple : kitB "list" "tuple" = some false := by decide +kernel
theorem kb_list_list : kitB "list" "list" = some true := by decide +kernel
theorem kb_list_dict : kitB "list" "dict" = some false := by decide +kernel
theorem kb_dict_bool : kitB "dict" "bool" = some false := by decide +kernel
theorem kb_dict_int : kitB "dict" "int" = some false := by decide +kernel
theorem kb_dict_str : kitB "dict" "str" = some false := by decide +kernel
theorem kb_dict_tuple : kitB "dict" "tuple" = some false := by decide +kernel
theorem kb_dict_list : kitB "dict" "list" = some false := by decide +kernel
theorem kb_dict_dict : kitB "dict" "dict" = some true := by decide +kernel
theorem nx_non (k : Nat) : (D.non ≠ D.ex k) = True := by simp
theorem nx_bl (b : Bool) (k : Nat) : (D.bl b ≠ D.ex k) = True := by simp
theorem nx_int (b : Int) (k : Nat) : (D.int b ≠ D.ex k) = True := by simp
theorem nx_str (b : Str) (k : Nat) : (D.str b ≠ D.ex k) = True := by simp
theorem nx_tup (b : List D) (k : Nat) : (D.tup b ≠ D.ex k) = True := by simp
theorem nx_lst (b : List D) (k : Nat) : (D.lst b ≠ D.ex k) = True := by simp
theorem nx_obj (C : Str) (b : List (Str × D)) (k : Nat) : (D.obj C b ≠ D.ex k) = True := by simp
theorem nx_dct (b : List (Key × D)) (k : Nat) : (D.dct b ≠ D.ex k) = True := by simp
end DL

namespace DL
open PySem PySem.Spec PyProof.Rows L2

/-! ### loops and comprehensions over data -/
theorem goFor_inv {dg : D → Ev → (Ev → Prop) → Prop} {tb : DSt} {k : DK} (I : Ev → Prop) : ∀ (xs : List D) (env : Ev), I env →
    (∀ x ∈ xs, ∀ (env : Ev) (N : Ev → Prop), I env → (∀ e, I e → N e) → dg x env (fun env2 => tb env2 { k with nx := N, ct := N, bk := k.nx })) → (∀ e, I e → k.nx e) → goFor dg tb k xs env
  | [], env, h0, _, hd => hd env h0
  | x :: xs, env, h0, hs, hd => by
    show dg x env _
    exact hs x List.mem_cons_self env (goFor dg tb k xs) h0 fun e he => goFor_inv I xs e he (fun y hy => hs y (List.mem_cons_of_mem _ hy)) hd
/-- .. by the turn -/
theorem goFor_invN {dg : D → Ev → (Ev → Prop) → Prop} {tb : DSt} {k : DK} (I : Nat → Ev → Prop) : ∀ (xs : List D) (n : Nat) (env : Ev), I n env →
    (∀ (i : Nat) (x : D), xs[i]? = some x → ∀ (env : Ev) (N : Ev → Prop), I (n + i) env → (∀ e, I (n + i + 1) e → N e) → dg x env (fun env2 => tb env2 { k with nx := N, ct := N, bk := k.nx })) → (∀ e, I (n + xs.length) e → k.nx e) → goFor dg tb k xs env
  | [], n, env, h0, _, hd => hd env h0
  | x :: xs, n, env, h0, hs, hd => by
    show dg x env _
    refine hs 0 x rfl env (goFor dg tb k xs) h0 fun e he => goFor_invN I xs (n + 1) e he (fun i y hy env N h1 h2 => ?_) fun e h => hd e ?_
    · refine hs (i + 1) y hy env N ?_ fun e q => h2 e ?_
      · have e1 : n + (i + 1) = n + 1 + i := by omega
        rw [e1]
        exact h1
      · have e1 : n + 1 + i + 1 = n + (i + 1) + 1 := by omega
        rw [e1]
        exact q
    · have e1 : n + (x :: xs).length = n + 1 + xs.length := by rw [List.length_cons]; omega
      rw [e1]
      exact h
theorem goLc_map {dg : D → Ev → (Ev → Prop) → Prop} {te : DEt} {env : Ev} {P : List D → Prop} (f : D → D) : ∀ (xs acc : List D), (∀ x ∈ xs, ∀ Q : D → Prop, Q (f x) → dg x env (fun env2 => te env2 Q noX)) → P (acc ++ xs.map f) → goLc dg dYes te env P xs acc
  | [], acc, _, h => by
    show P acc
    rwa [List.map_nil, List.append_nil] at h
  | x :: xs, acc, hs, h => by
    show dg x env (fun env2 => te env2 (fun y => goLc dg dYes te env P xs (acc ++ [y])) noX)
    refine hs x List.mem_cons_self _ ?_
    refine goLc_map f xs (acc ++ [f x]) (fun y hy => hs y (List.mem_cons_of_mem _ hy)) ?_
    rwa [List.append_assoc, List.singleton_append, ← List.map_cons]
/-- each turn adds one thing of which J says something -/
theorem goLc_all {dg : D → Ev → (Ev → Prop) → Prop} {te : DEt} {env : Ev} {P : List D → Prop} (J : D → Prop) : ∀ (xs acc : List D), (∀ x ∈ xs, ∀ Q : D → Prop, (∀ y, J y → Q y) → dg x env (fun env2 => te env2 Q noX)) → (∀ y ∈ acc, J y) →
    (∀ ys : List D, ys.length = acc.length + xs.length → (∀ y ∈ ys, J y) → P ys) → goLc dg dYes te env P xs acc
  | [], acc, _, ha, h => h acc rfl ha
  | x :: xs, acc, hs, ha, h => by
    show dg x env (fun env2 => te env2 (fun y => goLc dg dYes te env P xs (acc ++ [y])) noX)
    refine hs x List.mem_cons_self _ fun y hy => ?_
    refine goLc_all J xs (acc ++ [y]) (fun z hz => hs z (List.mem_cons_of_mem _ hz)) (fun z hz => ?_) fun ys hl hy => h ys ?_ hy
    · rcases List.mem_append.mp hz with q | q
      · exact ha z q
      · rw [List.mem_singleton.mp q]
        exact hy
    · rw [List.length_append] at hl
      rw [List.length_cons, hl]
      simp
      omega
theorem blsOf_map {α : Type} (g : α → Bool) : ∀ xs : List α, blsOf (xs.map fun x => .bl (g x)) = some (xs.map g)
  | [] => rfl
  | x :: xs => by
    show (blsOf (xs.map fun x => .bl (g x))).map (g x :: ·) = _
    rw [blsOf_map g xs]
    rfl
theorem strsOf_map {α : Type} (g : α → Str) : ∀ xs : List α, strsOf (xs.map fun x => .str (g x)) = some (xs.map g)
  | [] => rfl
  | x :: xs => by
    show (strsOf (xs.map fun x => .str (g x))).map (g x :: ·) = _
    rw [strsOf_map g xs]
    rfl
theorem strs_of_all : ∀ (ys : List D) (J : Str → Prop), (∀ y ∈ ys, ∃ z, y = .str z ∧ J z) → ∃ zs : List Str, strsOf ys = some zs ∧ zs.length = ys.length ∧ ∀ z ∈ zs, J z
  | [], _, _ => ⟨[], rfl, rfl, fun z h => by cases h⟩
  | y :: ys, J, h => by
    obtain ⟨z, rfl, hz⟩ := h y List.mem_cons_self
    obtain ⟨zs, e, l, hj⟩ := strs_of_all ys J fun y hy => h y (List.mem_cons_of_mem _ hy)
    refine ⟨z :: zs, ?_, by rw [List.length_cons, List.length_cons, l], fun w hw => ?_⟩
    · show (strsOf ys).map (z :: ·) = _
      rw [e]
      rfl
    · rcases List.mem_cons.mp hw with rfl | hw
      · exact hz
      · exact hj w hw
/-! ### sizes of texts -/
theorem str_len_app (x y : Str) : (x ++ y).length = x.length + y.length := by
  show (x.cps ++ y.cps).size = x.cps.size + y.cps.size
  exact Array.size_append
theorem sum_le {c : Nat} : ∀ (l : List Nat), (∀ x ∈ l, x ≤ c) → l.sum ≤ l.length * c
  | [], _ => by simp
  | x :: l, h => by
    have h1 := h x List.mem_cons_self
    have h2 := sum_le l fun y hy => h y (List.mem_cons_of_mem _ hy)
    rw [List.sum_cons, List.length_cons, Nat.succ_mul]
    omega
theorem cut_len (z : Str) (lo hi : Option Int) : (cutS z lo hi).length ≤ z.length := L2.cutS_length z lo hi

theorem join_len (y : Str) : ∀ parts : List Str, (Txt.join y parts).length ≤ (parts.map (·.length)).sum + parts.length * y.length := fun parts => by
  rw [TL.join_eq]
  induction parts with
  | nil => exact Nat.zero_le _
  | cons x r ih =>
    cases r with
    | nil =>
      show x.length ≤ _
      simp
    | cons z r =>
      show (x ++ y ++ Str.join y (z :: r)).length ≤ _
      rw [str_len_app, str_len_app, List.map_cons, List.sum_cons, List.length_cons, Nat.succ_mul]
      omega
/-! ### constants of the module, as the head's facts give them -/
section
variable {W : Wd} {K : PySem.W.Frag} {h : Heap} {mg : Str → Option Value}
theorem glob_str (X : K.In h) (G : h.Ns mainGlobals mg) {x z : Str} (c : (He.Fa.str x z).ok K = true) : GlobOk W K mg x (.str z) := by
  obtain ⟨t, e⟩ := He.str_ok X G c
  exact ⟨_, .str z, e, ⟨t, rfl⟩, fun _ _ => rp_s⟩
theorem glob_int (X : K.In h) (G : h.Ns mainGlobals mg) {x : Str} {i : Int} (c : (He.Fa.int x i).ok K = true) : GlobOk W K mg x (.int i) := by
  obtain ⟨t, e⟩ := He.int_ok X G c
  exact ⟨_, .int i, e, ⟨t, rfl⟩, fun _ _ => rp_i⟩
/-- a tuple of scalars -/
def dvsOf : List D → Option (List He.Dv)
  | [] => some []
  | .str x :: ds => (dvsOf ds).map (.str x :: ·)
  | .int x :: ds => (dvsOf ds).map (.int x :: ·)
  | .bl x :: ds => (dvsOf ds).map (.bl x :: ·)
  | .non :: ds => (dvsOf ds).map (.non :: ·)
  | _ :: _ => none
theorem dvs_rp {O : Addr → Prop} {H : Hp} : ∀ {ds : List D} {vs : List He.Dv}, dvsOf ds = some vs → RpAll W K O H ds (vs.map (He.Dv.v K))
  | [], _, e => by
    cases e
    exact rpAll_nil
  | .str x :: ds, vs, e => by
    have e1 : (dvsOf ds).map (He.Dv.str x :: ·) = some vs := e
    cases q : dvsOf ds with
    | none => rw [q] at e1; cases e1
    | some us => rw [q] at e1; cases e1; exact rpAll_cons rp_s (dvs_rp q)
  | .int x :: ds, vs, e => by
    have e1 : (dvsOf ds).map (He.Dv.int x :: ·) = some vs := e
    cases q : dvsOf ds with
    | none => rw [q] at e1; cases e1
    | some us => rw [q] at e1; cases e1; exact rpAll_cons rp_i (dvs_rp q)
  | .bl x :: ds, vs, e => by
    have e1 : (dvsOf ds).map (He.Dv.bl x :: ·) = some vs := e
    cases q : dvsOf ds with
    | none => rw [q] at e1; cases e1
    | some us => rw [q] at e1; cases e1; exact rpAll_cons rp_b (dvs_rp q)
  | .non :: ds, vs, e => by
    have e1 : (dvsOf ds).map (He.Dv.non :: ·) = some vs := e
    cases q : dvsOf ds with
    | none => rw [q] at e1; cases e1
    | some us => rw [q] at e1; cases e1; exact rpAll_cons rp_n (dvs_rp q)
  | .tup _ :: _, _, e => by cases e
  | .lst _ :: _, _, e => by cases e
  | .dct _ :: _, _, e => by cases e
  | .obj _ _ :: _, _, e => by cases e
  | .ex _ :: _, _, e => by cases e
theorem glob_tup (X : K.In h) (G : h.Ns mainGlobals mg) {x : Str} {ds : List D} {vs : List He.Dv} (c : (He.Fa.glo x).ok K = true) (t : He.tupB K x vs = true) (e : dvsOf ds = some vs) : GlobOk W K mg x (.tup ds) := by
  refine ⟨_, .ref (He.ga K x), He.glo_ok X G c, rfl, fun O H => ?_⟩
  unfold Rp
  refine ⟨_, vs.map (He.Dv.v K), rfl, .inr ?_, dvs_rp e⟩
  unfold He.tupB at t
  cases q : K.lookup (He.ga K x) with
  | none => rw [q] at t; cases t
  | some o =>
    obtain ⟨oc, od, dt, osl⟩ := o
    rw [q] at t
    cases oc with
    | type c' =>
      cases dt with
      | seq its n =>
        obtain ⟨h1, h2⟩ := He.ba (show (decide (c' = "tuple") && (decide (its.size ≤ sizeLine) && He.relAll (vs.map (He.Dv.v K)) its.toList)) = true from t)
        obtain ⟨h3, h4⟩ := He.ba h2
        exact ⟨_, its, n, rfl, congrArg Value.type (of_decide_eq_true h1), rfl, of_decide_eq_true h3, He.relAll_ok h4⟩
      | _ => cases t
    | _ => cases dt <;> cases t
end
theorem defAt_of {fa : List He.Fa} {fn : List He.DefD} {K : PySem.W.Frag} {h : Heap} {mg : Str → Option Value} (X : K.In h) (G : h.Ns mainGlobals mg) (c : He.SaysD fa fn K) {x : Str} {st : Stmt} (i j : Nat)
    (hi : fn[i]? = some ⟨(x, none), x, x, defArgs st, defBody st, defScope st, [], []⟩) (hj : fa[j]? = some (.glo x)) : DefAt K mg x st := by
  obtain ⟨fd, F⟩ := c.def_ i hi
  exact ⟨_, fd, F, He.glo_ok X G (c.fact j hj)⟩

/-! ### the law's def: the bag first, then the rest in the bag's world -/
def spLaw (K : PySem.W.Frag) : Sp := fun vs H Q _ => ∃ (a : Addr) (ns : List Int), vs = [.ref a] ∧ SqL K H a (ns.map V.int) ∧ ns.length ≤ 63 ∧ ∀ H', Q (.bl true) H'
/-- bag(script): a new list, with a new list of the numbers -/
def spBag (K : PySem.W.Frag) : Sp := fun vs H Q _ => ∃ (a : Addr) (ns : List Int), vs = [.ref a] ∧ SqL K H a (ns.map V.int) ∧ ns.length ≤ 63 ∧ ∀ b sa H', H b = none → H sa = none → Same H H' → BagAt b sa H' → Q (.ref b) H'
theorem pss_ex {X : Cx} {Wx : WX} {rest : List Stmt} {ds : DSt} (h : ∀ b sa, DB (bagW b sa) X Wx rest ds) : PSs X rest (fun Dn σ H => ∃ b sa, tDS (bagW b sa) X.K Wx ds Dn σ H) :=
  ⟨fun pins s σ H Dn I ⟨b, sa, z⟩ => (h b sa).run pins s σ H Dn I z⟩
def lawK : DK := ⟨fun _ => False, fun _ d => d = .bl true, fun _ => False, fun _ => False, noX⟩
def lawEnv (n : Nat) : Ev := none :: some (.ex 0, none) :: List.replicate n none
/-- no exception flies: the contract without CX -/
theorem law_cx0 {P : Program} {w : World} {K : PySem.W.Frag} {mg : Str → Option Value} {base : Heap} {k : Nat} {f : Addr} {fd : FuncData} {ps : List Str} (F : FnOk P w K mg base (L2.CX P w) k f fd ps (spLaw K)) :
    FnOk P w K mg base CX0 k f fd ps (spLaw K) := by
  refine ⟨fun vs H Q E h => F.len vs H Q E h, fun A outer s H args us vs Q E hr he hb hv hs => PySem.codeAny_mono (F.run A outer s H args us vs Q (fun _ _ _ => False) hr he hb hv hs) fun r s' g => ?_⟩
  cases r with
  | ok v => cases v <;> exact g
  | error e =>
    obtain ⟨a, B, H', cls, d, _, _, _, _, _, _, _, z⟩ := (show L2.CX P w outer H s (fun _ _ _ => False) e s' from g)
    exact z.elim
section
variable {P : Program} {w : World} {K : PySem.W.Frag} {mg : Str → Option Value} {base : Heap} {st : Stmt}
theorem okLaw {N : List Str} {p q : Str} {k : Nat} {ds : DSt} {f : Addr} {fd : FuncData} (F : FunD K "law" "law" (defArgs st) (defBody st) (defScope st) [] [] f fd) (S : FnScope (p :: q :: N) [p] (defScope st))
    (hb : ∀ (f : Addr) (cdv : Value) (A : Around) (outer : List Env) (s : Shared) (H : Hp) (E : XK), Room k (A.deeper (envOfC "law" (defScope st) s.heap.objs.size f cdv)) →
      PSs (cxOf (L2.CX P w) P w K mg base (p :: q :: N) "law" (defScope st) f cdv A outer s H E) (defBody st) (tSeq (tAsg (tCallSD (spBag K) [] (WE fun cls d _ H' => E cls d H') (tCons (tVar 0) tNil)) (gName 1)) (fun Dn σ H => ∃ b sa, tDS (bagW b sa) K neverX ds Dn σ H)))
    (hG : ds (lawEnv N.length) lawK) : FnOk P w K mg base CX0 (k + 1) f fd [p] (spLaw K) := by
  refine law_cx0 (F.ok S (fun vs H Q E h => ?_) (fun cdv A outer s H vs Q E hr h => ⟨_, hb f cdv A outer s H E hr, ?_⟩))
  · obtain ⟨a, ns, rfl, _⟩ := h
    rfl
  · obtain ⟨a, ns, rfl, hS, hl, hk⟩ := h
    refine ⟨_, rfl, a, ns, rfl, hS, hl, fun b sa H' nb nsa sm bag => ?_⟩
    show ∃ b2 sa2, tDS (bagW b2 sa2) K neverX ds { nx := fun _ H2 => Q .non H2, rt := Q } ((L2.start (p :: q :: N) [V.ref a]).set 1 (some (.ref b))) H'
    have al : ∀ c, (bagW b sa).vol c → ∃ o, H' c = some o := fun c hc => (bagW b sa).alloc H' bag c hc
    refine ⟨b, sa, ⟨H', fun c => c = b ∨ c = sa, H', fun c => c = b ∨ c = sa⟩, fun c => c = b ∨ c = sa, lawEnv N.length, lawK, ⟨bag, fun _ h => h, fun _ h => h, fun _ h => h, al, al, StO.refl _, Rl.refl, ?_⟩, fun _ _ _ _ _ _ _ _ _ h => h, hG, fun _ _ _ _ _ h => h.elim, fun O' σ' H2 env' v d g r e => ?_, fun _ _ _ _ _ h => h.elim, fun _ _ _ _ _ h => h.elim⟩
    · have nn : ∀ {t : Nat} {e : D × Option Addr}, (lawEnv N.length)[t]? = some (some e) → t = 1 ∧ e = (.ex 0, none) := fun {t e} h => by
        match t, h with
        | 0, h => cases h
        | 1, h => cases h; exact ⟨rfl, rfl⟩
        | t + 2, h =>
          have h' : (List.replicate N.length (none : En))[t]? = some (some e) := h
          rw [List.getElem?_replicate] at h'
          split at h' <;> cases h'
      refine ⟨?_, fun t d h => ?_, fun t d c h => ?_, fun t u d e c h h' => ?_⟩
      · unfold L2.start lawEnv
        simp
      · obtain ⟨rfl, e⟩ := nn h
        cases e
        refine ⟨.ref b, ?_, by unfold Rp; exact ⟨rfl, rfl⟩⟩
        unfold L2.start
        simp
      · obtain ⟨rfl, e⟩ := nn h
        cases e
      · obtain ⟨rfl, e⟩ := nn h
        cases e
    · have e' : d = .bl true := e
      subst e'
      cases rp_bl r
      exact hk H2
end
end DL

namespace DL
open PySem PySem.Spec PyProof.Rows L2
/-! ### more calls and operators -/
section
variable {W : Wd} {X : Cx}
/-- a product; a list so many times -/
def dMulA (x y : D) (P : D → Prop) : Prop := match x, y with
  | .int i, .int j => CMul i j ∧ P (.int (i * j))
  | .lst xs, .int k => -(2 ^ 63) ≤ k ∧ k < 2 ^ 63 ∧ xs.length * k.toNat ≤ sizeLine ∧ P (.lst (List.replicate k.toNat xs).flatten)
  | _, _ => False
theorem rpAll_rep {K : PySem.W.Frag} {O : Addr → Prop} {H : Hp} {ds : List D} {xs : List V} (h : RpAll W K O H ds xs) : ∀ n : Nat, RpAll W K O H (List.replicate n ds).flatten (List.replicate n xs).flatten
  | 0 => rpAll_nil
  | n + 1 => by
    rw [List.replicate_succ, List.replicate_succ, List.flatten_cons, List.flatten_cons]
    exact h.append (rpAll_rep h n)
def rMulA : R2 := fun x y H Q => rI CMul (fun i j => .int (i * j)) x y H Q ∨ rRep x y H Q
theorem op_mulA : OpR X (binaryOp .Mult) rMulA := op_mul.or op_rep
theorem s_mulA : S2 W X.K dMulA rMulA := fun {B O H σ env x y dx dy P Q} g _ r q h k => by
  unfold dMulA at h
  split at h
  · cases rpq_int r
    cases rpq_int q
    exact .inl ⟨_, _, rfl, rfl, h.1, k _ _ _ h.2 (StO.refl _) g.inv rp_i⟩
  · obtain ⟨a, xs, rfl, h1, h2⟩ := rpq_lst r
    cases rpq_int q
    exact .inr ⟨a, _, xs, rfl, rfl, h1, h.1, h.2.1, by rw [h2.len]; exact h.2.2.1, fun p hp => k _ _ _ h.2.2.2 (StO.new hp) (g.invNew hp) (rp_new_lst hp (g.nofresh hp) (rpAll_rep h2 _))⟩
  · exact h.elim
end
/-! ### slices by whole numbers -/
theorem cutG_from {α : Type} (xs : List α) (i : Nat) : cutG xs (some (i : Int)) none = xs.drop i := by
  unfold cutG
  rw [HT.sIx_nat, HT.sIx_none]
  by_cases h : i ≤ xs.length
  · rw [Nat.min_eq_left h, List.take_of_length_le (by rw [List.length_drop]; omega)]
  · rw [Nat.min_eq_right (by omega), List.drop_length, List.drop_eq_nil_of_le (by omega), List.take_nil]
theorem cutG_to {α : Type} (xs : List α) (i : Nat) : cutG xs none (some (i : Int)) = xs.take i := by
  unfold cutG
  rw [HT.sIx_nat, HT.sIx_none, List.drop_zero, Nat.sub_zero]
  by_cases h : i ≤ xs.length
  · rw [Nat.min_eq_left h]
  · rw [Nat.min_eq_right (by omega), List.take_length, List.take_of_length_le (by omega)]
theorem cutG_2 {α : Type} {a b : α} {r : List α} : cutG (a :: b :: r) (some 2) none = r := cutG_from (a :: b :: r) 2
theorem cutG_1 {α : Type} {a : α} {r : List α} : cutG (a :: r) (some 1) none = r := cutG_from (a :: r) 1
theorem cutG_t2 {α : Type} {a b : α} {r : List α} : cutG (a :: b :: r) none (some 2) = [a, b] := cutG_to (a :: b :: r) 2
/-! ### the end of one's own list -/
theorem pop_at {α : Type} (l : List α) (x : α) : (l ++ [x])[(l ++ [x]).length - 1]? = some x := by
  rw [List.length_append, List.length_singleton, Nat.add_sub_cancel, List.getElem?_append_right (Nat.le_refl _), Nat.sub_self]
  rfl
theorem pop_drop {α : Type} (l : List α) (x : α) : (l ++ [x]).dropLast = l := List.dropLast_concat
theorem last_of {α : Type} (l : List α) (h : l ≠ []) : ∃ l' x, l = l' ++ [x] := ⟨l.dropLast, l.getLast h, (List.dropLast_concat_getLast h).symm⟩
theorem eqOk_nil {x : D} (h : x.pl = true) : eqOk x (.tup []) = true := by
  unfold eqOk
  rw [h]
  simp [D.pl, plAll, D.dep, depAll]
theorem eqOk_nilL {x : D} (h : x.pl = true) : eqOk x (.lst []) = true := by
  unfold eqOk
  rw [h]
  simp [D.pl, plAll, D.dep, depAll]
theorem str2_in (z a b : Str) : inD (.str z) [.str a, .str b] = (a == z || b == z) := by
  show ((a == z) || ((b == z) || false)) = _
  rw [Bool.or_false]
end DL

namespace KS
open PySem PySem.Spec PyProof.Rows L2 DL
def top (i : Nat) : Stmt := PySem.Challenge.pw_kindsigns_k03_values_that_are_expression.main.body.getD i (.Pass ⟨0, 0, 0, 0⟩)
abbrev s_is_word : Stmt := top 4
abbrev N_is_word : List Str := ["value", "sign"]
theorem sc_is_word : FnScope N_is_word ["value"] (defScope s_is_word) := ⟨rfl, rfl, rfl, by decide +kernel, rfl, by decide +kernel, by decide +kernel⟩
abbrev s_inner : Stmt := top 5
abbrev N_inner : List Str := ["expression"]
theorem sc_inner : FnScope N_inner ["expression"] (defScope s_inner) := ⟨rfl, rfl, rfl, by decide +kernel, rfl, by decide +kernel, by decide +kernel⟩
abbrev s_has_form : Stmt := top 6
abbrev N_has_form : List Str := ["value"]
theorem sc_has_form : FnScope N_has_form ["value"] (defScope s_has_form) := ⟨rfl, rfl, rfl, by decide +kernel, rfl, by decide +kernel, by decide +kernel⟩
abbrev s_is_expression : Stmt := top 7
abbrev N_is_expression : List Str := ["value", "stack", "one"]
theorem sc_is_expression : FnScope N_is_expression ["value"] (defScope s_is_expression) := ⟨rfl, rfl, rfl, by decide +kernel, rfl, by decide +kernel, by decide +kernel⟩
abbrev s__law_my_bag : Stmt := top 9
abbrev N__law_my_bag : List Str := ["_law_script", "_law_seed", "_law_entry"]
theorem sc__law_my_bag : FnScope N__law_my_bag ["_law_script"] (defScope s__law_my_bag) := ⟨rfl, rfl, rfl, by decide +kernel, rfl, by decide +kernel, by decide +kernel⟩
abbrev s__law_my_take : Stmt := top 10
abbrev N__law_my_take : List Str := ["_law_bag", "_law_many", "_law_step", "_law_entry", "_law_found"]
theorem sc__law_my_take : FnScope N__law_my_take ["_law_bag", "_law_many"] (defScope s__law_my_take) := ⟨rfl, rfl, rfl, by decide +kernel, rfl, by decide +kernel, by decide +kernel⟩
abbrev s__law_my_pick : Stmt := top 11
abbrev N__law_my_pick : List Str := ["_law_bag", "_law_some"]
theorem sc__law_my_pick : FnScope N__law_my_pick ["_law_bag", "_law_some"] (defScope s__law_my_pick) := ⟨rfl, rfl, rfl, by decide +kernel, rfl, by decide +kernel, by decide +kernel⟩
abbrev s__law_my_leaf : Stmt := top 12
abbrev N__law_my_leaf : List Str := ["_law_bag", "_law_words"]
theorem sc__law_my_leaf : FnScope N__law_my_leaf ["_law_bag", "_law_words"] (defScope s__law_my_leaf) := ⟨rfl, rfl, rfl, by decide +kernel, rfl, by decide +kernel, by decide +kernel⟩
abbrev s__law_my_any_one : Stmt := top 13
abbrev N__law_my_any_one : List Str := ["_law_bag", "_law_heads", "_law_words", "_law_deep", "_law_way", "_law_name", "_law_many", "_law_k"]
theorem sc__law_my_any_one : FnScope N__law_my_any_one ["_law_bag", "_law_heads", "_law_words", "_law_deep"] (defScope s__law_my_any_one) := ⟨rfl, rfl, rfl, by decide +kernel, rfl, by decide +kernel, by decide +kernel⟩
abbrev s__law_my_inner : Stmt := top 14
abbrev N__law_my_inner : List Str := ["_law_one"]
theorem sc__law_my_inner : FnScope N__law_my_inner ["_law_one"] (defScope s__law_my_inner) := ⟨rfl, rfl, rfl, by decide +kernel, rfl, by decide +kernel, by decide +kernel⟩
abbrev s__law_my_paths : Stmt := top 15
abbrev N__law_my_paths : List Str := ["_law_one", "_law_path", "_law_at", "_law_found", "_law_first"]
theorem sc__law_my_paths : FnScope N__law_my_paths ["_law_one", "_law_path"] (defScope s__law_my_paths) := ⟨rfl, rfl, rfl, by decide +kernel, rfl, by decide +kernel, by decide +kernel⟩
abbrev s__law_my_same : Stmt := top 16
abbrev N__law_my_same : List Str := ["_law_found", "_law_due", "_law_one", "_law_two"]
theorem sc__law_my_same : FnScope N__law_my_same ["_law_found", "_law_due"] (defScope s__law_my_same) := ⟨rfl, rfl, rfl, by decide +kernel, rfl, by decide +kernel, by decide +kernel⟩
abbrev s__law_my_put : Stmt := top 17
abbrev N__law_my_put : List Str := ["_law_one", "_law_path", "_law_part", "_law_at"]
theorem sc__law_my_put : FnScope N__law_my_put ["_law_one", "_law_path", "_law_part"] (defScope s__law_my_put) := ⟨rfl, rfl, rfl, by decide +kernel, rfl, by decide +kernel, by decide +kernel⟩
abbrev s__law_my_odd : Stmt := top 18
abbrev N__law_my_odd : List Str := ["_law_bag"]
theorem sc__law_my_odd : FnScope N__law_my_odd ["_law_bag"] (defScope s__law_my_odd) := ⟨rfl, rfl, rfl, by decide +kernel, rfl, by decide +kernel, by decide +kernel⟩
abbrev s_law : Stmt := top 19
abbrev N_law : List Str := ["_law_script", "_law_bag", "_law_heads", "_law_turn", "_law_deep", "_law_good", "_law_one", "_law_path"]
theorem sc_law : FnScope N_law ["_law_script"] (defScope s_law) := ⟨rfl, rfl, rfl, by decide +kernel, rfl, by decide +kernel, by decide +kernel⟩
structure Txt (K : PySem.W.Frag) (mg : Str → Option Value) : Prop where
  b_int : mg "int" = none
  b_len : mg "len" = none
  b_isinstance : mg "isinstance" = none
  b_str : mg "str" = none
  b_bool : mg "bool" = none
  b_tuple : mg "tuple" = none
  b_list : mg "list" = none
  b_all : mg "all" = none
  b_zip : mg "zip" = none
  b_range : mg "range" = none
  g_LETTERS : ∀ W : Wd, GlobOk W K mg "LETTERS" (.str "abcdefghijklmnopqrstuvwxyz")
  g_RESERVED : ∀ W : Wd, GlobOk W K mg "RESERVED" (.tup [.str "top", .str "bead", .str "kind", .str "gives", .str "takes", .str "holds"])
  g_LONGEST_WORD : ∀ W : Wd, GlobOk W K mg "LONGEST_WORD" (.int 6)
/-! ### the law's own helpers: the numbers, a draw, a pick, same -/
section
variable {P : Program} {w : World} {K : PySem.W.Frag} {mg : Str → Option Value} {base : Heap}
theorem cut_ints (ns : List Int) (lo hi : Option Int) : cutV (ns.map V.int) lo hi = (cutG ns lo hi).map V.int := by
  unfold cutV cutG
  rw [List.length_map, List.map_take, List.map_drop]
theorem int_at {ns : List Int} {i : Nat} {y : V} (h : (ns.map V.int)[i]? = some y) : ∃ z, y = .int z := by
  rw [List.getElem?_map] at h
  cases e : ns[i]? with
  | none =>
    rw [e] at h
    cases h
  | some z =>
    rw [e] at h
    exact ⟨z, (Option.some.inj h).symm⟩
theorem ok_bag (F : DefAt K mg "_law_my_bag" s__law_my_bag) (bi : mg "int" = none) (bl : mg "list" = none) : ∃ f fd, FnOk P w K mg base (L2.CX P w) 2 f fd ["_law_script"] (spBag K) ∧ mg "_law_my_bag" = some (.ref f) ∧ PySem.W.keepIn K (.ref f) = true ∧ Binds K fd ["_law_script"] [] := by
  obtain ⟨f, fd, F, m⟩ := F
  refine ⟨f, fd, F.ok sc__law_my_bag (fun vs H Q E h => ?_) (fun cdv A outer s H vs Q E hr h => ?_), m, F.kp, F.bindsN (fun _ _ _ _ _ _ us hl => match us, hl with | [_], _ => rfl)⟩
  · obtain ⟨a, ns, rfl, _⟩ := h
    rfl
  · obtain ⟨a, ns, rfl, hS, hl, k⟩ := h
    have nd := sc__law_my_bag.nd
    refine ⟨_, pss_cons (ps_set (i := 1) nd rfl (Or.inl rfl) pe_int)
      (pss_cons (ps_for (passes_of rfl) rfl (pi_list (pe_slice sl_list (pv 0) po_none (po_some pe_int))) (pg_name (i := 2) nd rfl (Or.inl rfl))
        (pss_one (ps_set (i := 1) nd rfl (Or.inl rfl) (pe_op op_mod (pe_callTy call_int1 (by rfl) bi (by decide +kernel) (pa_cons (pe_op op_add (pe_op op_add (pe_op op_mul (pv 1) pe_int) (pe_op op_mod (pe_callTy call_int1 (by rfl) bi (by decide +kernel) (pa_cons (pv 2) pa_nil)) pe_int)) pe_int) pa_nil)) pe_int))))
      (pss_one (ps_ret (pe_lst (pa_cons (pe_callTy call_list_of (by rfl) bl (by decide +kernel) (pa_cons (pe_slice sl_list (pv 0) po_none (po_some pe_int)) pa_nil)) (pa_cons pe_int (pa_cons pe_int (pa_cons (pv 1) (pa_cons pe_int pa_nil))))))))), ?_⟩
    refine ⟨_, rfl, _, rfl, a, _, rfl, hS, fun p hp => ?_⟩
    have sp : Same H (upd H p (.lst (cutV (ns.map V.int) none (some 63)))) := fun b o e => by
      rw [upd_ne (ne_of_none e hp)]
      exact e
    refine ⟨p, rfl, ⟨_, SqL.of upd_same⟩, for_list (K := K) (a := p) (xs := cutV (ns.map V.int) none (some 63)) (fun i σ H2 => ∃ (z : Int) (v : Option V), σ = [some (.ref a), some (.int z), v] ∧ 0 ≤ z ∧ z < 2147483629 ∧ H2 = upd H p (.lst (cutV (ns.map V.int) none (some 63)))) ⟨5796, none, rfl, by decide, by decide, rfl⟩ ?_ ?_ ?_⟩
    · rintro i σ H2 _ ⟨_, _, _, _, _, rfl⟩
      exact SqL.of upd_same
    · rintro i y σ H2 hi ⟨z, v, rfl, z0, z1, rfl⟩
      rw [cut_ints] at hi
      obtain ⟨e, rfl⟩ := int_at hi
      refine ⟨_, rfl, _, _, rfl, rfl, .inr (by constructor <;> decide), _, rfl, .inl ⟨e, rfl, _, _, rfl, rfl, by show (0 : Int) < _; decide, _, _, rfl, rfl, _, _, rfl, rfl, .inl ⟨_, rfl, _, _, rfl, rfl, by show (0 : Int) < _; decide, ?_⟩⟩⟩
      exact ⟨_, _, rfl, Int.emod_nonneg _ (by decide), Int.emod_lt_of_pos _ (by decide), rfl⟩
    · rintro σ H2 ⟨z, v, rfl, z0, z1, rfl⟩
      refine ⟨_, rfl, _, rfl, a, _, rfl, sp.seq hS, fun q hq => ⟨q, _, rfl, .inl (SqL.of upd_same), fun sa hsa => ⟨_, rfl, by show 5 ≤ sizeLine; decide, fun b hb => ?_⟩⟩⟩
      have n1 : sa ≠ b := ne_of_none upd_same hb
      have h0 : ∀ c, upd (upd H p (.lst (cutV (ns.map V.int) none (some 63)))) q (.lst (cutV (ns.map V.int) none (some 63))) c = none → H c = none := fun c hc => by
        have h1 := fun e => by
          rw [upd_ne e] at hc
          exact hc
        by_cases hcq : c = q
        · rw [hcq, upd_same] at hc
          cases hc
        · have h2 := h1 hcq
          by_cases hcp : c = p
          · rw [hcp, upd_same] at h2
            cases h2
          · rwa [upd_ne hcp] at h2
      have hb' : upd (upd H p (.lst (cutV (ns.map V.int) none (some 63)))) q (.lst (cutV (ns.map V.int) none (some 63))) b = none := by
        rwa [upd_ne n1.symm] at hb
      refine k b sa _ (h0 b hb') (h0 sa hsa) (fun c o e => ?_) ⟨n1.symm, cutG ns none (some 63), 0, 0, z, 0, upd_same, ?_, by decide, by decide, ⟨z0, z1⟩, by decide⟩
      · have hcp : c ≠ p := ne_of_none e hp
        have hcq : c ≠ q := ne_of_none (show upd H p (.lst (cutV (ns.map V.int) none (some 63))) c = some o by rw [upd_ne hcp]; exact e) hq
        have hcs : c ≠ sa := ne_of_none (show upd (upd H p (.lst (cutV (ns.map V.int) none (some 63)))) q (.lst (cutV (ns.map V.int) none (some 63))) c = some o by rw [upd_ne hcq, upd_ne hcp]; exact e) hsa
        have hcb : c ≠ b := ne_of_none (show upd (upd (upd H p (.lst (cutV (ns.map V.int) none (some 63)))) q (.lst (cutV (ns.map V.int) none (some 63)))) sa (.lst (cutV (ns.map V.int) none (some 63))) c = some o by rw [upd_ne hcs, upd_ne hcq, upd_ne hcp]; exact e) hb
        rw [upd_ne hcb, upd_ne hcs, upd_ne hcq, upd_ne hcp]
        exact e
      · rw [upd_ne n1, upd_same, cut_ints]
theorem mod_lt {x m : Int} (h : 0 < m) : 0 ≤ x % m ∧ x % m < m := ⟨Int.emod_nonneg _ (by omega), Int.emod_lt_of_pos _ h⟩
theorem pow_ok {x : Int} : CPow (x % 2147483629) 3 := by
  have h := mod_lt (x := x) (m := 2147483629) (by decide)
  exact ⟨by decide, by decide, by omega⟩
theorem take_end {i j k l x m : Int} {a : Addr} (i0 : 0 ≤ i) (j0 : 0 ≤ j) (k0 : 0 ≤ k) (k1 : k < 2147483629) (l0 : 0 ≤ l) (m0 : 0 < m) : ∃ r i' j' k' l' : Int, D.int (x % m) = D.int r ∧ 0 ≤ r ∧ r < m ∧
    (some (some (D.lst [D.ex 1, D.int i, D.int j, D.int k, D.int l], some a)) : Option En) = some (some (D.lst [D.ex 1, D.int i', D.int j', D.int k', D.int l'], some a)) ∧ BagN i' j' k' l' :=
  ⟨_, i, j, k, l, rfl, (mod_lt m0).1, (mod_lt m0).2, rfl, ⟨i0, j0, k0, k1, l0⟩⟩
theorem ok_take {b sa : Addr} (T : Txt K mg) (F : DefAt K mg "_law_my_take" s__law_my_take) : FnAt P w K mg base (bagW b sa) 2 "_law_my_take" FTake := by
  refine okTake (k := 1) F sc__law_my_take (fun _ _ _ _ _ _ us hl => match us, hl with | [_, _], _ => rfl) (fun ns f cdv A outer s H E hr => (db_cons (ds_if (DW.t (dw_and (dt_cmp (op_eq.or (op_eqP hr.units)) s_eq ((de_ix (dq_var 0) (de_int).q)).q (de_int).q (nomark _)) (dw_and1 (dt_cmp op_lt s_lt ((de_ix (dq_var 0) (de_int).q)).q ((de_callB call_lenA s_exLen T.b_len (daq_cons ((de_ix (dq_var 0) (de_int).q)).q daq_nil))).q (nomark _))))) (db_cons (ds_set 3 sc__law_my_take.nd (de_exAt ((de_ix (dq_var 0) (de_int).q)).q ((de_ix (dq_var 0) (de_int).q)).q)) (db_cons (ds_put 0 (de_op op_addA s_add ((de_ix (dq_var 0) (de_int).q)).q (de_int).q) de_int (hp := pg_sub (pv 0) de_int set_list)) (db_one (ds_if (dt_cmp op_ge s_ge (dq_var 3) ((de_op op_pow s_pow (de_int).q (de_int).q)).q (nomark _)) (db_one (ds_put 0 (de_var 3) de_int (hp := pg_sub (pv 0) de_int set_list))) (db_one (ds_put 0 (de_op op_mod s_mod ((de_callTy call_int1 s_int T.b_int (daq_cons ((de_op op_addA s_add ((de_op op_addA s_add ((de_op op_mulA s_mulA ((de_ix (dq_var 0) (de_int).q)).q (de_int).q)).q ((de_op op_mod s_mod ((de_callTy call_int1 s_int T.b_int (daq_cons (dq_var 3) daq_nil))).q (de_int).q)).q)).q (de_int).q)).q daq_nil))).q (de_int).q) de_int (hp := pg_sub (pv 0) de_int set_list))))))) db_nil) (db_cons (ds_if (dt_cmp op_gt s_gt ((de_ix (dq_var 0) (de_int).q)).q (de_int).q (nomark _)) (db_cons (ds_set 4 sc__law_my_take.nd (de_op op_mod s_mod ((de_callTy call_int1 s_int T.b_int (daq_cons ((de_ix (dq_var 0) (de_int).q)).q daq_nil))).q (dq_var 1))) (db_cons (ds_put 0 (de_op op_fdivW s_fdiv ((de_ix (dq_var 0) (de_int).q)).q (dq_var 1)) de_int (hp := pg_sub (pv 0) de_int set_list)) (db_one (ds_ret (de_var 4))))) db_nil) (db_cons (ds_put 0 (de_op op_addA s_add ((de_ix (dq_var 0) (de_int).q)).q (de_int).q) de_int (hp := pg_sub (pv 0) de_int set_list)) (db_cons (ds_set 2 sc__law_my_take.nd (de_op op_mod s_mod ((de_callTy call_int1 s_int T.b_int (daq_cons ((de_op op_addA s_add ((de_ix (dq_var 0) (de_int).q)).q ((de_op op_mulA s_mulA ((de_ix (dq_var 0) (de_int).q)).q (de_int).q)).q)).q daq_nil))).q (de_int).q)) (db_cons (ds_put 0 (de_op op_mod s_mod ((de_callTy call_int1 s_int T.b_int (daq_cons ((de_op op_addA s_add ((de_op op_addA s_add ((de_op op_pow s_pow (dq_var 2) (de_int).q)).q ((de_op op_mulA s_mulA (de_int).q (dq_var 2))).q)).q (de_int).q)).q daq_nil))).q (de_int).q) de_int (hp := pg_sub (pv 0) de_int set_list)) (db_one (ds_ret (de_op op_mod s_mod ((de_callTy call_int1 s_int T.b_int (daq_cons ((de_op op_addA s_add ((de_op op_fdivW s_fdiv ((de_ix (dq_var 0) (de_int).q)).q (de_int).q)).q ((de_op op_mulA s_mulA ((de_op op_mod s_mod ((de_callTy call_int1 s_int T.b_int (daq_cons ((de_ix (dq_var 0) (de_int).q)).q daq_nil))).q (de_int).q)).q (de_int).q)).q)).q daq_nil))).q (dq_var 1)))))))))) ?_
  intro a ns i j k l m bn m0 m1
  obtain ⟨i0, j0, k0, k1, l0⟩ := bn
  simp (config := { maxSteps := 2000000 }) only [dMulA, dApp, dExt, dPop, dSetOwn, kb_NoneType_bool, kb_NoneType_int, kb_NoneType_str, kb_NoneType_tuple, kb_NoneType_list, kb_NoneType_dict, kb_bool_bool, kb_bool_int, kb_bool_str, kb_bool_tuple, kb_bool_list, kb_bool_dict, kb_int_bool, kb_int_int, kb_int_str, kb_int_tuple, kb_int_list, kb_int_dict, kb_str_bool, kb_str_int, kb_str_str, kb_str_tuple, kb_str_list, kb_str_dict, kb_tuple_bool, kb_tuple_int, kb_tuple_str, kb_tuple_tuple, kb_tuple_list, kb_tuple_dict, kb_list_bool, kb_list_int, kb_list_str, kb_list_tuple, kb_list_list, kb_list_dict, kb_dict_bool, kb_dict_int, kb_dict_str, kb_dict_tuple, kb_dict_list, kb_dict_dict, nx_non, nx_bl, nx_int, nx_str, nx_tup, nx_lst, nx_obj, nx_dct, implies_true, DL.isNon, Bool.not_true, Bool.not_false, beq_self_eq_true, Bool.false_beq, Bool.true_beq, bagD, atI_c0, atI_c1, atI_c2, atI_c3, atI_c4, atI_c5, ixN5_1, ixN5_2, ixN5_3, ixN5_4, ii_eqb, ss_eqb, bb_eqb, scl_ii, scl_ss, scl_bb, dExLen, dExAt, true_or, true_and, and_true, Nat.reduceAdd, startE, retK, takeK, dSeqS, dIfS, dNot, dAnd, dOr, dTest, dOp, dUn, dCallB, dVar, dVarQ, dC, dRet, dRetN, dSet, dNx, dDrop, dTr, dTruth, dIf, dAndV, dOrV, dNotV, dBl, dChain, dIsi, dIsiT, tyD, dCons, dNil, dTup, dLst, dCall, dAsg, dPar, dFor, dLc, dSeq, dRng1, dRng2, dZip, dgName, dgPair, dgTrip, dYes, dM1, dM0, dSl, dPart, dNoPart, dCut, dPut, ownL, dAdd, dI0, dIC, dIn, dNotIn, dIsN, dNotN, dEq, dNe, dIx, dLen, dAll, dAny, dListOf, dTupOf, dInt, dJoin, wipeE, itemsOf, List.map_cons, List.map_nil, List.length_cons, List.length_nil, List.replicate, List.cons_append, List.nil_append, List.set_cons_zero, List.set_cons_succ, List.getElem?_cons_zero, List.getElem?_cons_succ, List.zip_cons_cons, List.zip_nil_left, List.zip_nil_right, List.zip, List.zipWith]
  have dm : ∀ x, CDivW x m := fun x => wide_div m0 (b := 40) (by omega) (by decide) (by decide)
  have mm : ∀ x : Int, 0 ≤ x % 2147483629 ∧ x % 2147483629 < 2147483629 := fun x => mod_lt (by decide)
  have c67 : ∀ x, CDivW x 67 := fun x => ⟨by decide, by decide⟩
  have cr : ∀ x, CMul x 9337 := fun x => .inr ⟨by decide, by decide⟩
  have cr2 : ∀ x, CMul x 31013 := fun x => .inr ⟨by decide, by decide⟩
  have cr3 : ∀ x, CMul x 43 := fun x => .inr ⟨by decide, by decide⟩
  have cl : ∀ x, CMul 61027 x := fun x => .inl ⟨by decide, by decide⟩
  have z1 : (0 : Int) < 2147483629 := by decide
  have z2 : (0 : Int) < 2147483549 := by decide
  have z3 : (0 : Int) < 7103 := by decide
  have c10 : CPow 10 18 := ⟨by decide, by decide, by decide⟩
  have last : ∀ i' j' K, 0 ≤ i' → 0 ≤ j' → 0 ≤ K → K < 2147483629 → ∃ x, True := fun _ _ _ _ _ _ _ => ⟨0, trivial⟩
  cases hj : (j == 0) with
  | true =>
    cases hi : decide (i < (ns.length : Int)) with
    | true =>
      have hi' : i < (ns.length : Int) := of_decide_eq_true hi
      have hn : i.toNat < ns.length := by omega
      refine ⟨i.toNat, ns[i.toNat], by rw [Int.toNat_of_nonneg i0], List.getElem?_eq_getElem hn, c10, ?_⟩
      cases he : decide (10 ^ Int.toNat 18 ≤ ns[i.toNat]) with
      | true =>
        have he' : (10 : Int) ^ Int.toNat 18 ≤ ns[i.toNat] := of_decide_eq_true he
        have h0 : (0 : Int) < ns[i.toNat] := Int.lt_of_lt_of_le (by decide) he'
        have e0 : decide (0 < ns[i.toNat]) = true := decide_eq_true h0
        rw [e0]
        exact ⟨m0, dm _, take_end (by omega) (Int.ediv_nonneg (Int.le_of_lt h0) (Int.le_of_lt m0)) k0 k1 l0 m0⟩
      | false =>
        refine ⟨cr2 _, z2, z1, ?_⟩
        cases hq : decide (0 < j) with
        | true => exact ⟨m0, dm _, take_end (by omega) (Int.ediv_nonneg j0 (Int.le_of_lt m0)) (mm _).1 (mm _).2 l0 m0⟩
        | false => exact ⟨cr _, z1, pow_ok, cl _, z1, c67 _, z3, cr3 _, m0, take_end (by omega) j0 (mm _).1 (mm _).2 (by omega) m0⟩
    | false =>
      cases hq : decide (0 < j) with
      | true => exact ⟨m0, dm _, take_end i0 (Int.ediv_nonneg j0 (Int.le_of_lt m0)) k0 k1 l0 m0⟩
      | false => exact ⟨cr _, z1, pow_ok, cl _, z1, c67 _, z3, cr3 _, m0, take_end i0 j0 (mm _).1 (mm _).2 (by omega) m0⟩
  | false =>
    cases hq : decide (0 < j) with
    | true => exact ⟨m0, dm _, take_end i0 (Int.ediv_nonneg j0 (Int.le_of_lt m0)) k0 k1 l0 m0⟩
    | false => exact ⟨cr _, z1, pow_ok, cl _, z1, c67 _, z3, cr3 _, m0, take_end i0 j0 (mm _).1 (mm _).2 (by omega) m0⟩
/-- pick(bag, some): one of them -/
def FPick : Fn := fun ds P _ => ∃ (q : D) (xs : List D), ds = [.ex 0, q] ∧ itemsOf q = some xs ∧ 0 < xs.length ∧ xs.length ≤ 1000000 ∧ ∀ x ∈ xs, P x
theorem ok_pick {b sa : Addr} (T : Txt K mg) (F : DefAt K mg "_law_my_pick" s__law_my_pick) (G__law_my_take : FnAt P w K mg base (bagW b sa) 2 "_law_my_take" FTake) : FnAt P w K mg base (bagW b sa) 3 "_law_my_pick" FPick := by
  refine okF (k := 2) F sc__law_my_pick (fun _ _ _ _ _ _ us hl => match us, hl with | [_, _], _ => rfl) (fun as Pd R h => ?_) (fun f cdv A outer s H E hr => (db_one (ds_ret (de_ix (dq_var 1) ((de_callF G__law_my_take (hr.mono (by first | decide | omega)) (takes_of rfl rfl rfl rfl) (da_cons (de_var 0) (da_cons (de_callB call_lenA s_len T.b_len (daq_cons (dq_var 1) daq_nil)) da_nil)))).q)))) (fun as Pd R h => ?_)
  · obtain ⟨q, xs, rfl, _⟩ := h
    rfl
  · obtain ⟨q, xs, rfl, hq, h0, h1, hp⟩ := h
    have key : ∀ r : Int, 0 ≤ r → r < xs.length → ∃ x, atI xs r = some x ∧ x ∈ xs := fun r a c => by
      have hr : r.toNat < xs.length := by omega
      refine ⟨xs[r.toNat], ?_, List.getElem_mem hr⟩
      have := atI_nat (List.getElem?_eq_getElem hr)
      rwa [Int.toNat_of_nonneg a] at this
    cases q with
    | lst ys =>
      cases hq
      simp (config := { maxSteps := 2000000 }) only [dMulA, dApp, dExt, dPop, dSetOwn, kb_NoneType_bool, kb_NoneType_int, kb_NoneType_str, kb_NoneType_tuple, kb_NoneType_list, kb_NoneType_dict, kb_bool_bool, kb_bool_int, kb_bool_str, kb_bool_tuple, kb_bool_list, kb_bool_dict, kb_int_bool, kb_int_int, kb_int_str, kb_int_tuple, kb_int_list, kb_int_dict, kb_str_bool, kb_str_int, kb_str_str, kb_str_tuple, kb_str_list, kb_str_dict, kb_tuple_bool, kb_tuple_int, kb_tuple_str, kb_tuple_tuple, kb_tuple_list, kb_tuple_dict, kb_list_bool, kb_list_int, kb_list_str, kb_list_tuple, kb_list_list, kb_list_dict, kb_dict_bool, kb_dict_int, kb_dict_str, kb_dict_tuple, kb_dict_list, kb_dict_dict, nx_non, nx_bl, nx_int, nx_str, nx_tup, nx_lst, nx_obj, nx_dct, implies_true, DL.isNon, Bool.not_true, Bool.not_false, beq_self_eq_true, Bool.false_beq, Bool.true_beq, bagD, atI_c0, atI_c1, atI_c2, atI_c3, atI_c4, atI_c5, ixN5_1, ixN5_2, ixN5_3, ixN5_4, ii_eqb, ss_eqb, bb_eqb, scl_ii, scl_ss, scl_bb, dExLen, dExAt, true_or, true_and, and_true, Nat.reduceAdd, startE, retK, takeK, dSeqS, dIfS, dNot, dAnd, dOr, dTest, dOp, dUn, dCallB, dVar, dVarQ, dC, dRet, dRetN, dSet, dNx, dDrop, dTr, dTruth, dIf, dAndV, dOrV, dNotV, dBl, dChain, dIsi, dIsiT, tyD, dCons, dNil, dTup, dLst, dCall, dAsg, dPar, dFor, dLc, dSeq, dRng1, dRng2, dZip, dgName, dgPair, dgTrip, dYes, dM1, dM0, dSl, dPart, dNoPart, dCut, dPut, ownL, dAdd, dI0, dIC, dIn, dNotIn, dIsN, dNotN, dEq, dNe, dIx, dLen, dAll, dAny, dListOf, dTupOf, dInt, dJoin, wipeE, itemsOf, List.map_cons, List.map_nil, List.length_cons, List.length_nil, List.replicate, List.cons_append, List.nil_append, List.set_cons_zero, List.set_cons_succ, List.getElem?_cons_zero, List.getElem?_cons_succ, List.zip_cons_cons, List.zip_nil_left, List.zip_nil_right, List.zip, List.zipWith]
      refine ⟨xs.length, rfl, by omega, by omega, fun r a c => ?_⟩
      obtain ⟨x, e, hx⟩ := key r a c
      simp only [e]
      exact hp x hx
    | tup ys =>
      cases hq
      simp (config := { maxSteps := 2000000 }) only [dMulA, dApp, dExt, dPop, dSetOwn, kb_NoneType_bool, kb_NoneType_int, kb_NoneType_str, kb_NoneType_tuple, kb_NoneType_list, kb_NoneType_dict, kb_bool_bool, kb_bool_int, kb_bool_str, kb_bool_tuple, kb_bool_list, kb_bool_dict, kb_int_bool, kb_int_int, kb_int_str, kb_int_tuple, kb_int_list, kb_int_dict, kb_str_bool, kb_str_int, kb_str_str, kb_str_tuple, kb_str_list, kb_str_dict, kb_tuple_bool, kb_tuple_int, kb_tuple_str, kb_tuple_tuple, kb_tuple_list, kb_tuple_dict, kb_list_bool, kb_list_int, kb_list_str, kb_list_tuple, kb_list_list, kb_list_dict, kb_dict_bool, kb_dict_int, kb_dict_str, kb_dict_tuple, kb_dict_list, kb_dict_dict, nx_non, nx_bl, nx_int, nx_str, nx_tup, nx_lst, nx_obj, nx_dct, implies_true, DL.isNon, Bool.not_true, Bool.not_false, beq_self_eq_true, Bool.false_beq, Bool.true_beq, bagD, atI_c0, atI_c1, atI_c2, atI_c3, atI_c4, atI_c5, ixN5_1, ixN5_2, ixN5_3, ixN5_4, ii_eqb, ss_eqb, bb_eqb, scl_ii, scl_ss, scl_bb, dExLen, dExAt, true_or, true_and, and_true, Nat.reduceAdd, startE, retK, takeK, dSeqS, dIfS, dNot, dAnd, dOr, dTest, dOp, dUn, dCallB, dVar, dVarQ, dC, dRet, dRetN, dSet, dNx, dDrop, dTr, dTruth, dIf, dAndV, dOrV, dNotV, dBl, dChain, dIsi, dIsiT, tyD, dCons, dNil, dTup, dLst, dCall, dAsg, dPar, dFor, dLc, dSeq, dRng1, dRng2, dZip, dgName, dgPair, dgTrip, dYes, dM1, dM0, dSl, dPart, dNoPart, dCut, dPut, ownL, dAdd, dI0, dIC, dIn, dNotIn, dIsN, dNotN, dEq, dNe, dIx, dLen, dAll, dAny, dListOf, dTupOf, dInt, dJoin, wipeE, itemsOf, List.map_cons, List.map_nil, List.length_cons, List.length_nil, List.replicate, List.cons_append, List.nil_append, List.set_cons_zero, List.set_cons_succ, List.getElem?_cons_zero, List.getElem?_cons_succ, List.zip_cons_cons, List.zip_nil_left, List.zip_nil_right, List.zip, List.zipWith]
      refine ⟨xs.length, rfl, by omega, by omega, fun r a c => ?_⟩
      obtain ⟨x, e, hx⟩ := key r a c
      simp only [e]
      exact hp x hx
    | str z =>
      cases hq
      simp (config := { maxSteps := 2000000 }) only [dMulA, dApp, dExt, dPop, dSetOwn, kb_NoneType_bool, kb_NoneType_int, kb_NoneType_str, kb_NoneType_tuple, kb_NoneType_list, kb_NoneType_dict, kb_bool_bool, kb_bool_int, kb_bool_str, kb_bool_tuple, kb_bool_list, kb_bool_dict, kb_int_bool, kb_int_int, kb_int_str, kb_int_tuple, kb_int_list, kb_int_dict, kb_str_bool, kb_str_int, kb_str_str, kb_str_tuple, kb_str_list, kb_str_dict, kb_tuple_bool, kb_tuple_int, kb_tuple_str, kb_tuple_tuple, kb_tuple_list, kb_tuple_dict, kb_list_bool, kb_list_int, kb_list_str, kb_list_tuple, kb_list_list, kb_list_dict, kb_dict_bool, kb_dict_int, kb_dict_str, kb_dict_tuple, kb_dict_list, kb_dict_dict, nx_non, nx_bl, nx_int, nx_str, nx_tup, nx_lst, nx_obj, nx_dct, implies_true, DL.isNon, Bool.not_true, Bool.not_false, beq_self_eq_true, Bool.false_beq, Bool.true_beq, bagD, atI_c0, atI_c1, atI_c2, atI_c3, atI_c4, atI_c5, ixN5_1, ixN5_2, ixN5_3, ixN5_4, ii_eqb, ss_eqb, bb_eqb, scl_ii, scl_ss, scl_bb, dExLen, dExAt, true_or, true_and, and_true, Nat.reduceAdd, startE, retK, takeK, dSeqS, dIfS, dNot, dAnd, dOr, dTest, dOp, dUn, dCallB, dVar, dVarQ, dC, dRet, dRetN, dSet, dNx, dDrop, dTr, dTruth, dIf, dAndV, dOrV, dNotV, dBl, dChain, dIsi, dIsiT, tyD, dCons, dNil, dTup, dLst, dCall, dAsg, dPar, dFor, dLc, dSeq, dRng1, dRng2, dZip, dgName, dgPair, dgTrip, dYes, dM1, dM0, dSl, dPart, dNoPart, dCut, dPut, ownL, dAdd, dI0, dIC, dIn, dNotIn, dIsN, dNotN, dEq, dNe, dIx, dLen, dAll, dAny, dListOf, dTupOf, dInt, dJoin, wipeE, itemsOf, List.map_cons, List.map_nil, List.length_cons, List.length_nil, List.replicate, List.cons_append, List.nil_append, List.set_cons_zero, List.set_cons_succ, List.getElem?_cons_zero, List.getElem?_cons_succ, List.zip_cons_cons, List.zip_nil_left, List.zip_nil_right, List.zip, List.zipWith]
      have hz : z.length = (z.cps.toList.map fun c => D.str ⟨#[c]⟩).length := by simp [Str.length]
      have hs : z.length ≤ sizeLine := Nat.le_trans (by omega) (by decide : 1000000 ≤ sizeLine)
      refine ⟨hs, z.length, rfl, by omega, by omega, fun r a c => ⟨hs, ?_⟩⟩
      obtain ⟨x, e, hx⟩ := key r a (by omega)
      have hr : r.toNat < z.cps.toList.length := by
        rw [List.length_map] at hz
        omega
      have e2 : atI z.cps.toList r = some (z.cps.toList[r.toNat]) := by
        have := atI_nat (List.getElem?_eq_getElem hr)
        rwa [Int.toNat_of_nonneg a] at this
      simp only [e2]
      exact hp _ (List.mem_map_of_mem (List.getElem_mem hr))
    | _ => cases hq
/-! same: the same data, told apart by type -/
mutual
def plainD : D → Nat → Bool
  | .non, n => decide (0 < n)
  | .bl _, n => decide (0 < n)
  | .int _, n => decide (0 < n)
  | .str _, n => decide (0 < n)
  | .tup ds, n => match n with
    | 0 => false
    | n + 1 => plainAll ds n
  | .lst ds, n => match n with
    | 0 => false
    | n + 1 => plainAll ds n
  | .dct _, _ => false
  | .obj _ _, _ => false
  | .ex _, _ => false
def plainAll : List D → Nat → Bool
  | [], _ => true
  | d :: ds, n => plainD d n && plainAll ds n
end
def FSame (n : Nat) : Fn := fun ds P _ => ∃ d, ds = [d, d] ∧ plainD d n = true ∧ P (.bl true)
theorem fnAt_false {W : Wd} {x : Str} {st : Stmt} {k : Nat} (F : DefAt K mg x st) (bd : ∀ f fd, FunD K x x (defArgs st) (defBody st) (defScope st) [] [] f fd → ∃ ps, Binds K fd ps []) : FnAt P w K mg base W k x (fun _ _ _ => False) := by
  obtain ⟨f, fd, F, m⟩ := F
  obtain ⟨ps, b⟩ := bd f fd F
  exact ⟨f, fd, ps, ⟨fun vs H Q E ⟨_, _, _, _, _, _, _, _, h, _⟩ => h.elim, fun _ _ _ _ _ _ _ _ _ _ _ _ _ ⟨_, _, _, _, _, _, _, _, h, _⟩ => h.elim⟩, m, F.kp, b⟩
theorem blsOf_app : ∀ {ds : List D} {bs : List Bool} {c : Bool}, blsOf ds = some bs → blsOf (ds ++ [.bl c]) = some (bs ++ [c])
  | [], bs, c, h => by
    cases h
    rfl
  | .bl b :: ds, bs, c, h => by
    have h1 : (blsOf ds).map (b :: ·) = some bs := h
    cases e : blsOf ds with
    | none =>
      rw [e] at h1
      cases h1
    | some cs =>
      rw [e] at h1
      cases h1
      show (blsOf (ds ++ [.bl c])).map (b :: ·) = _
      rw [blsOf_app e]
      rfl
  | .non :: _, _, _, h => by cases h
  | .int _ :: _, _, _, h => by cases h
  | .str _ :: _, _, _, h => by cases h
  | .tup _ :: _, _, _, h => by cases h
  | .lst _ :: _, _, _, h => by cases h
  | .dct _ :: _, _, _, h => by cases h
  | .obj _ _ :: _, _, _, h => by cases h
  | .ex _ :: _, _, _, h => by cases h
theorem same_go (n : Nat) (a b : En) (Q : List D → Prop) {xs : List D} (hx : plainAll xs n = true) (hQ : ∀ bs : List Bool, blsOf (bs.map .bl) = some bs → bs.all id = true → Q (bs.map .bl)) :
    goLc (dgPair 2 3) dYes (dCall (FSame n) (dCons (dVar 2) (dCons (dVar 3) dNil))) [a, b, none, none] Q (List.map (fun q => D.tup [q.fst, q.snd]) (List.zipWith Prod.mk xs xs)) [] := by
  have key : ∀ (xs : List D), plainAll xs n = true → ∀ (cs : List Bool), blsOf (cs.map .bl) = some cs → cs.all id = true →
      goLc (dgPair 2 3) dYes (dCall (FSame n) (dCons (dVar 2) (dCons (dVar 3) dNil))) [a, b, none, none] Q (List.map (fun q => D.tup [q.fst, q.snd]) (List.zipWith Prod.mk xs xs)) (cs.map .bl) := by
    intro xs
    induction xs with
    | nil => intro _ cs h1 h2; exact hQ cs h1 h2
    | cons x xs ih =>
      intro hp cs h1 h2
      unfold plainAll at hp
      obtain ⟨p1, p2⟩ := Bool.and_eq_true_iff.mp hp
      simp (config := { maxSteps := 2000000 }) only [dMulA, dApp, dExt, dPop, dSetOwn, kb_NoneType_bool, kb_NoneType_int, kb_NoneType_str, kb_NoneType_tuple, kb_NoneType_list, kb_NoneType_dict, kb_bool_bool, kb_bool_int, kb_bool_str, kb_bool_tuple, kb_bool_list, kb_bool_dict, kb_int_bool, kb_int_int, kb_int_str, kb_int_tuple, kb_int_list, kb_int_dict, kb_str_bool, kb_str_int, kb_str_str, kb_str_tuple, kb_str_list, kb_str_dict, kb_tuple_bool, kb_tuple_int, kb_tuple_str, kb_tuple_tuple, kb_tuple_list, kb_tuple_dict, kb_list_bool, kb_list_int, kb_list_str, kb_list_tuple, kb_list_list, kb_list_dict, kb_dict_bool, kb_dict_int, kb_dict_str, kb_dict_tuple, kb_dict_list, kb_dict_dict, nx_non, nx_bl, nx_int, nx_str, nx_tup, nx_lst, nx_obj, nx_dct, implies_true, DL.isNon, Bool.not_true, Bool.not_false, beq_self_eq_true, Bool.false_beq, Bool.true_beq, bagD, atI_c0, atI_c1, atI_c2, atI_c3, atI_c4, atI_c5, ixN5_1, ixN5_2, ixN5_3, ixN5_4, ii_eqb, ss_eqb, bb_eqb, scl_ii, scl_ss, scl_bb, dExLen, dExAt, true_or, true_and, and_true, Nat.reduceAdd, startE, retK, takeK, dSeqS, dIfS, dNot, dAnd, dOr, dTest, dOp, dUn, dCallB, dVar, dVarQ, dC, dRet, dRetN, dSet, dNx, dDrop, dTr, dTruth, dIf, dAndV, dOrV, dNotV, dBl, dChain, dIsi, dIsiT, tyD, dCons, dNil, dTup, dLst, dCall, dAsg, dPar, dFor, dLc, dSeq, dRng1, dRng2, dZip, dgName, dgPair, dgTrip, dYes, dM1, dM0, dSl, dPart, dNoPart, dCut, dPut, ownL, dAdd, dI0, dIC, dIn, dNotIn, dIsN, dNotN, dEq, dNe, dIx, dLen, dAll, dAny, dListOf, dTupOf, dInt, dJoin, wipeE, itemsOf, List.map_cons, List.map_nil, List.length_cons, List.length_nil, List.replicate, List.cons_append, List.nil_append, List.set_cons_zero, List.set_cons_succ, List.getElem?_cons_zero, List.getElem?_cons_succ, List.zip_cons_cons, List.zip_nil_left, List.zip_nil_right, List.zip, List.zipWith, goLc]
      refine ⟨x, rfl, p1, ?_⟩
      have e : cs.map D.bl ++ [D.bl true] = (cs ++ [true]).map D.bl := by simp
      dsimp only
      rw [e]
      exact ih p2 (cs ++ [true]) (by rw [← e]; exact blsOf_app h1) (by simp [h2])
  exact key xs hx [] rfl rfl
theorem ok_same {W : Wd} (T : Txt K mg) (F : DefAt K mg "_law_my_same" s__law_my_same) : ∀ n, FnAt P w K mg base W n "_law_my_same" (FSame n)
  | 0 => (fnAt_false F fun f fd F => ⟨["_law_found", "_law_due"], F.bindsN (fun _ _ _ _ _ _ us hl => match us, hl with | [_, _], _ => rfl)⟩).imp fun as Pd R h => by
    obtain ⟨d, _, h, _⟩ := h
    cases d <;> unfold plainD at h <;> simp at h
  | n + 1 => by
    have G__law_my_same : FnAt P w K mg base W n "_law_my_same" (FSame n) := ok_same T F n
    refine okF (k := n) F sc__law_my_same (fun _ _ _ _ _ _ us hl => match us, hl with | [_, _], _ => rfl) (fun as Pd R h => ?_) (fun f cdv A outer s H E hr => (db_cons (ds_if (DW.t (dw_or (dt_cmp op_isN s_isN (dq_var 1) (de_non).q (nomark _)) (dw_or1 (dt_cmp op_isN s_isN (dq_var 0) (de_non).q (nomark _))))) (db_one (ds_ret (de_and (de_cmp op_isN s_isN (dq_var 0) (de_non).q (nomark _)) (de_one (de_cmp op_isN s_isN (dq_var 1) (de_non).q (nomark _)))))) db_nil) (db_cons (ds_if (DW.t (dw_or (dt_truth ((de_isi (T := "list") T.b_isinstance T.b_list (dq_var 1))).q) (dw_or1 (dt_truth ((de_isi (T := "tuple") T.b_isinstance T.b_tuple (dq_var 1))).q)))) (db_cons (ds_if (DW.t (dw_or (dt_cmp (op_ne.or (op_neP hr.units)) s_ne ((de_isi (T := "list") T.b_isinstance T.b_list (dq_var 1))).q ((de_isi (T := "list") T.b_isinstance T.b_list (dq_var 0))).q (nomark _)) (dw_or1 (dt_cmp (op_ne.or (op_neP hr.units)) s_ne ((de_isi (T := "tuple") T.b_isinstance T.b_tuple (dq_var 1))).q ((de_isi (T := "tuple") T.b_isinstance T.b_tuple (dq_var 0))).q (nomark _))))) (db_one (ds_ret de_bl)) db_nil) (db_one (ds_ret (de_and (de_cmp (op_eq.or (op_eqP hr.units)) s_eq ((de_callB call_lenA s_len T.b_len (daq_cons (dq_var 0) daq_nil))).q ((de_callB call_lenA s_len T.b_len (daq_cons (dq_var 1) daq_nil))).q (nomark _)) (de_one (de_callB (cr_all rfl) s_all T.b_all (daq_cons ((de_lc (own := [("_law_one", 2), ("_law_two", 3)]) sc__law_my_same.nd (di_zip T.b_zip (da_cons (de_var 0) (da_cons (de_var 1) da_nil))) (blkOk_by (own := [("_law_one", 2), ("_law_two", 3)]) (N := N__law_my_same) (sc := defScope s__law_my_same) (by decide +kernel)) (fun _ _ _ _ _ => dg_pair 2 3 sc__law_my_same.nd) (fun _ _ _ _ _ => dts_nil) (fun _ _ _ _ _ => (de_callF G__law_my_same (hr.mono (by first | decide | omega)) L2.takes0 (da_cons (de_var 2) (da_cons (de_var 3) da_nil)))))).q daq_nil))))))) db_nil) (db_cons (ds_if (DW.t (dw_or (dt_cmp (op_ne.or (op_neP hr.units)) s_ne ((de_isi (T := "bool") T.b_isinstance T.b_bool (dq_var 1))).q ((de_isi (T := "bool") T.b_isinstance T.b_bool (dq_var 0))).q (nomark _)) (dw_or1 (dt_cmp (op_ne.or (op_neP hr.units)) s_ne ((de_isi (T := "int") T.b_isinstance T.b_int (dq_var 1))).q ((de_isi (T := "int") T.b_isinstance T.b_int (dq_var 0))).q (nomark _))))) (db_one (ds_ret de_bl)) db_nil) (db_one (ds_ret (de_and (de_cmp (op_eq.or (op_eqP hr.units)) s_eq ((de_isi (T := "str") T.b_isinstance T.b_str (dq_var 1))).q ((de_isi (T := "str") T.b_isinstance T.b_str (dq_var 0))).q (nomark _)) (de_one (de_cmp (op_eq.or (op_eqP hr.units)) s_eq (dq_var 0) (dq_var 1) (nomark _)))))))))) (fun as Pd R h => ?_)
    · obtain ⟨d, rfl, _⟩ := h
      rfl
    · obtain ⟨d, rfl, hd, hp⟩ := h
      cases d with
      | non =>
        simp (config := { maxSteps := 2000000 }) only [dMulA, dApp, dExt, dPop, dSetOwn, kb_NoneType_bool, kb_NoneType_int, kb_NoneType_str, kb_NoneType_tuple, kb_NoneType_list, kb_NoneType_dict, kb_bool_bool, kb_bool_int, kb_bool_str, kb_bool_tuple, kb_bool_list, kb_bool_dict, kb_int_bool, kb_int_int, kb_int_str, kb_int_tuple, kb_int_list, kb_int_dict, kb_str_bool, kb_str_int, kb_str_str, kb_str_tuple, kb_str_list, kb_str_dict, kb_tuple_bool, kb_tuple_int, kb_tuple_str, kb_tuple_tuple, kb_tuple_list, kb_tuple_dict, kb_list_bool, kb_list_int, kb_list_str, kb_list_tuple, kb_list_list, kb_list_dict, kb_dict_bool, kb_dict_int, kb_dict_str, kb_dict_tuple, kb_dict_list, kb_dict_dict, nx_non, nx_bl, nx_int, nx_str, nx_tup, nx_lst, nx_obj, nx_dct, implies_true, DL.isNon, Bool.not_true, Bool.not_false, beq_self_eq_true, Bool.false_beq, Bool.true_beq, bagD, atI_c0, atI_c1, atI_c2, atI_c3, atI_c4, atI_c5, ixN5_1, ixN5_2, ixN5_3, ixN5_4, ii_eqb, ss_eqb, bb_eqb, scl_ii, scl_ss, scl_bb, dExLen, dExAt, true_or, true_and, and_true, Nat.reduceAdd, startE, retK, takeK, dSeqS, dIfS, dNot, dAnd, dOr, dTest, dOp, dUn, dCallB, dVar, dVarQ, dC, dRet, dRetN, dSet, dNx, dDrop, dTr, dTruth, dIf, dAndV, dOrV, dNotV, dBl, dChain, dIsi, dIsiT, tyD, dCons, dNil, dTup, dLst, dCall, dAsg, dPar, dFor, dLc, dSeq, dRng1, dRng2, dZip, dgName, dgPair, dgTrip, dYes, dM1, dM0, dSl, dPart, dNoPart, dCut, dPut, ownL, dAdd, dI0, dIC, dIn, dNotIn, dIsN, dNotN, dEq, dNe, dIx, dLen, dAll, dAny, dListOf, dTupOf, dInt, dJoin, wipeE, itemsOf, List.map_cons, List.map_nil, List.length_cons, List.length_nil, List.replicate, List.cons_append, List.nil_append, List.set_cons_zero, List.set_cons_succ, List.getElem?_cons_zero, List.getElem?_cons_succ, List.zip_cons_cons, List.zip_nil_left, List.zip_nil_right, List.zip, List.zipWith]
        exact hp
      | bl b =>
        simp (config := { maxSteps := 2000000 }) only [dMulA, dApp, dExt, dPop, dSetOwn, kb_NoneType_bool, kb_NoneType_int, kb_NoneType_str, kb_NoneType_tuple, kb_NoneType_list, kb_NoneType_dict, kb_bool_bool, kb_bool_int, kb_bool_str, kb_bool_tuple, kb_bool_list, kb_bool_dict, kb_int_bool, kb_int_int, kb_int_str, kb_int_tuple, kb_int_list, kb_int_dict, kb_str_bool, kb_str_int, kb_str_str, kb_str_tuple, kb_str_list, kb_str_dict, kb_tuple_bool, kb_tuple_int, kb_tuple_str, kb_tuple_tuple, kb_tuple_list, kb_tuple_dict, kb_list_bool, kb_list_int, kb_list_str, kb_list_tuple, kb_list_list, kb_list_dict, kb_dict_bool, kb_dict_int, kb_dict_str, kb_dict_tuple, kb_dict_list, kb_dict_dict, nx_non, nx_bl, nx_int, nx_str, nx_tup, nx_lst, nx_obj, nx_dct, implies_true, DL.isNon, Bool.not_true, Bool.not_false, beq_self_eq_true, Bool.false_beq, Bool.true_beq, bagD, atI_c0, atI_c1, atI_c2, atI_c3, atI_c4, atI_c5, ixN5_1, ixN5_2, ixN5_3, ixN5_4, ii_eqb, ss_eqb, bb_eqb, scl_ii, scl_ss, scl_bb, dExLen, dExAt, true_or, true_and, and_true, Nat.reduceAdd, startE, retK, takeK, dSeqS, dIfS, dNot, dAnd, dOr, dTest, dOp, dUn, dCallB, dVar, dVarQ, dC, dRet, dRetN, dSet, dNx, dDrop, dTr, dTruth, dIf, dAndV, dOrV, dNotV, dBl, dChain, dIsi, dIsiT, tyD, dCons, dNil, dTup, dLst, dCall, dAsg, dPar, dFor, dLc, dSeq, dRng1, dRng2, dZip, dgName, dgPair, dgTrip, dYes, dM1, dM0, dSl, dPart, dNoPart, dCut, dPut, ownL, dAdd, dI0, dIC, dIn, dNotIn, dIsN, dNotN, dEq, dNe, dIx, dLen, dAll, dAny, dListOf, dTupOf, dInt, dJoin, wipeE, itemsOf, List.map_cons, List.map_nil, List.length_cons, List.length_nil, List.replicate, List.cons_append, List.nil_append, List.set_cons_zero, List.set_cons_succ, List.getElem?_cons_zero, List.getElem?_cons_succ, List.zip_cons_cons, List.zip_nil_left, List.zip_nil_right, List.zip, List.zipWith]
        exact hp
      | int b =>
        simp (config := { maxSteps := 2000000 }) only [dMulA, dApp, dExt, dPop, dSetOwn, kb_NoneType_bool, kb_NoneType_int, kb_NoneType_str, kb_NoneType_tuple, kb_NoneType_list, kb_NoneType_dict, kb_bool_bool, kb_bool_int, kb_bool_str, kb_bool_tuple, kb_bool_list, kb_bool_dict, kb_int_bool, kb_int_int, kb_int_str, kb_int_tuple, kb_int_list, kb_int_dict, kb_str_bool, kb_str_int, kb_str_str, kb_str_tuple, kb_str_list, kb_str_dict, kb_tuple_bool, kb_tuple_int, kb_tuple_str, kb_tuple_tuple, kb_tuple_list, kb_tuple_dict, kb_list_bool, kb_list_int, kb_list_str, kb_list_tuple, kb_list_list, kb_list_dict, kb_dict_bool, kb_dict_int, kb_dict_str, kb_dict_tuple, kb_dict_list, kb_dict_dict, nx_non, nx_bl, nx_int, nx_str, nx_tup, nx_lst, nx_obj, nx_dct, implies_true, DL.isNon, Bool.not_true, Bool.not_false, beq_self_eq_true, Bool.false_beq, Bool.true_beq, bagD, atI_c0, atI_c1, atI_c2, atI_c3, atI_c4, atI_c5, ixN5_1, ixN5_2, ixN5_3, ixN5_4, ii_eqb, ss_eqb, bb_eqb, scl_ii, scl_ss, scl_bb, dExLen, dExAt, true_or, true_and, and_true, Nat.reduceAdd, startE, retK, takeK, dSeqS, dIfS, dNot, dAnd, dOr, dTest, dOp, dUn, dCallB, dVar, dVarQ, dC, dRet, dRetN, dSet, dNx, dDrop, dTr, dTruth, dIf, dAndV, dOrV, dNotV, dBl, dChain, dIsi, dIsiT, tyD, dCons, dNil, dTup, dLst, dCall, dAsg, dPar, dFor, dLc, dSeq, dRng1, dRng2, dZip, dgName, dgPair, dgTrip, dYes, dM1, dM0, dSl, dPart, dNoPart, dCut, dPut, ownL, dAdd, dI0, dIC, dIn, dNotIn, dIsN, dNotN, dEq, dNe, dIx, dLen, dAll, dAny, dListOf, dTupOf, dInt, dJoin, wipeE, itemsOf, List.map_cons, List.map_nil, List.length_cons, List.length_nil, List.replicate, List.cons_append, List.nil_append, List.set_cons_zero, List.set_cons_succ, List.getElem?_cons_zero, List.getElem?_cons_succ, List.zip_cons_cons, List.zip_nil_left, List.zip_nil_right, List.zip, List.zipWith]
        exact hp
      | str b =>
        simp (config := { maxSteps := 2000000 }) only [dMulA, dApp, dExt, dPop, dSetOwn, kb_NoneType_bool, kb_NoneType_int, kb_NoneType_str, kb_NoneType_tuple, kb_NoneType_list, kb_NoneType_dict, kb_bool_bool, kb_bool_int, kb_bool_str, kb_bool_tuple, kb_bool_list, kb_bool_dict, kb_int_bool, kb_int_int, kb_int_str, kb_int_tuple, kb_int_list, kb_int_dict, kb_str_bool, kb_str_int, kb_str_str, kb_str_tuple, kb_str_list, kb_str_dict, kb_tuple_bool, kb_tuple_int, kb_tuple_str, kb_tuple_tuple, kb_tuple_list, kb_tuple_dict, kb_list_bool, kb_list_int, kb_list_str, kb_list_tuple, kb_list_list, kb_list_dict, kb_dict_bool, kb_dict_int, kb_dict_str, kb_dict_tuple, kb_dict_list, kb_dict_dict, nx_non, nx_bl, nx_int, nx_str, nx_tup, nx_lst, nx_obj, nx_dct, implies_true, DL.isNon, Bool.not_true, Bool.not_false, beq_self_eq_true, Bool.false_beq, Bool.true_beq, bagD, atI_c0, atI_c1, atI_c2, atI_c3, atI_c4, atI_c5, ixN5_1, ixN5_2, ixN5_3, ixN5_4, ii_eqb, ss_eqb, bb_eqb, scl_ii, scl_ss, scl_bb, dExLen, dExAt, true_or, true_and, and_true, Nat.reduceAdd, startE, retK, takeK, dSeqS, dIfS, dNot, dAnd, dOr, dTest, dOp, dUn, dCallB, dVar, dVarQ, dC, dRet, dRetN, dSet, dNx, dDrop, dTr, dTruth, dIf, dAndV, dOrV, dNotV, dBl, dChain, dIsi, dIsiT, tyD, dCons, dNil, dTup, dLst, dCall, dAsg, dPar, dFor, dLc, dSeq, dRng1, dRng2, dZip, dgName, dgPair, dgTrip, dYes, dM1, dM0, dSl, dPart, dNoPart, dCut, dPut, ownL, dAdd, dI0, dIC, dIn, dNotIn, dIsN, dNotN, dEq, dNe, dIx, dLen, dAll, dAny, dListOf, dTupOf, dInt, dJoin, wipeE, itemsOf, List.map_cons, List.map_nil, List.length_cons, List.length_nil, List.replicate, List.cons_append, List.nil_append, List.set_cons_zero, List.set_cons_succ, List.getElem?_cons_zero, List.getElem?_cons_succ, List.zip_cons_cons, List.zip_nil_left, List.zip_nil_right, List.zip, List.zipWith]
        exact hp
      | lst xs =>
        simp (config := { maxSteps := 2000000 }) only [dMulA, dApp, dExt, dPop, dSetOwn, kb_NoneType_bool, kb_NoneType_int, kb_NoneType_str, kb_NoneType_tuple, kb_NoneType_list, kb_NoneType_dict, kb_bool_bool, kb_bool_int, kb_bool_str, kb_bool_tuple, kb_bool_list, kb_bool_dict, kb_int_bool, kb_int_int, kb_int_str, kb_int_tuple, kb_int_list, kb_int_dict, kb_str_bool, kb_str_int, kb_str_str, kb_str_tuple, kb_str_list, kb_str_dict, kb_tuple_bool, kb_tuple_int, kb_tuple_str, kb_tuple_tuple, kb_tuple_list, kb_tuple_dict, kb_list_bool, kb_list_int, kb_list_str, kb_list_tuple, kb_list_list, kb_list_dict, kb_dict_bool, kb_dict_int, kb_dict_str, kb_dict_tuple, kb_dict_list, kb_dict_dict, nx_non, nx_bl, nx_int, nx_str, nx_tup, nx_lst, nx_obj, nx_dct, implies_true, DL.isNon, Bool.not_true, Bool.not_false, beq_self_eq_true, Bool.false_beq, Bool.true_beq, bagD, atI_c0, atI_c1, atI_c2, atI_c3, atI_c4, atI_c5, ixN5_1, ixN5_2, ixN5_3, ixN5_4, ii_eqb, ss_eqb, bb_eqb, scl_ii, scl_ss, scl_bb, dExLen, dExAt, true_or, true_and, and_true, Nat.reduceAdd, startE, retK, takeK, dSeqS, dIfS, dNot, dAnd, dOr, dTest, dOp, dUn, dCallB, dVar, dVarQ, dC, dRet, dRetN, dSet, dNx, dDrop, dTr, dTruth, dIf, dAndV, dOrV, dNotV, dBl, dChain, dIsi, dIsiT, tyD, dCons, dNil, dTup, dLst, dCall, dAsg, dPar, dFor, dLc, dSeq, dRng1, dRng2, dZip, dgName, dgPair, dgTrip, dYes, dM1, dM0, dSl, dPart, dNoPart, dCut, dPut, ownL, dAdd, dI0, dIC, dIn, dNotIn, dIsN, dNotN, dEq, dNe, dIx, dLen, dAll, dAny, dListOf, dTupOf, dInt, dJoin, wipeE, itemsOf, List.map_cons, List.map_nil, List.length_cons, List.length_nil, List.replicate, List.cons_append, List.nil_append, List.set_cons_zero, List.set_cons_succ, List.getElem?_cons_zero, List.getElem?_cons_succ, List.zip_cons_cons, List.zip_nil_left, List.zip_nil_right, List.zip, List.zipWith]
        refine same_go _ _ _ _ hd fun bs hb ha => ?_
        simp only [hb, ha]
        exact hp
      | tup xs =>
        simp (config := { maxSteps := 2000000 }) only [dMulA, dApp, dExt, dPop, dSetOwn, kb_NoneType_bool, kb_NoneType_int, kb_NoneType_str, kb_NoneType_tuple, kb_NoneType_list, kb_NoneType_dict, kb_bool_bool, kb_bool_int, kb_bool_str, kb_bool_tuple, kb_bool_list, kb_bool_dict, kb_int_bool, kb_int_int, kb_int_str, kb_int_tuple, kb_int_list, kb_int_dict, kb_str_bool, kb_str_int, kb_str_str, kb_str_tuple, kb_str_list, kb_str_dict, kb_tuple_bool, kb_tuple_int, kb_tuple_str, kb_tuple_tuple, kb_tuple_list, kb_tuple_dict, kb_list_bool, kb_list_int, kb_list_str, kb_list_tuple, kb_list_list, kb_list_dict, kb_dict_bool, kb_dict_int, kb_dict_str, kb_dict_tuple, kb_dict_list, kb_dict_dict, nx_non, nx_bl, nx_int, nx_str, nx_tup, nx_lst, nx_obj, nx_dct, implies_true, DL.isNon, Bool.not_true, Bool.not_false, beq_self_eq_true, Bool.false_beq, Bool.true_beq, bagD, atI_c0, atI_c1, atI_c2, atI_c3, atI_c4, atI_c5, ixN5_1, ixN5_2, ixN5_3, ixN5_4, ii_eqb, ss_eqb, bb_eqb, scl_ii, scl_ss, scl_bb, dExLen, dExAt, true_or, true_and, and_true, Nat.reduceAdd, startE, retK, takeK, dSeqS, dIfS, dNot, dAnd, dOr, dTest, dOp, dUn, dCallB, dVar, dVarQ, dC, dRet, dRetN, dSet, dNx, dDrop, dTr, dTruth, dIf, dAndV, dOrV, dNotV, dBl, dChain, dIsi, dIsiT, tyD, dCons, dNil, dTup, dLst, dCall, dAsg, dPar, dFor, dLc, dSeq, dRng1, dRng2, dZip, dgName, dgPair, dgTrip, dYes, dM1, dM0, dSl, dPart, dNoPart, dCut, dPut, ownL, dAdd, dI0, dIC, dIn, dNotIn, dIsN, dNotN, dEq, dNe, dIx, dLen, dAll, dAny, dListOf, dTupOf, dInt, dJoin, wipeE, itemsOf, List.map_cons, List.map_nil, List.length_cons, List.length_nil, List.replicate, List.cons_append, List.nil_append, List.set_cons_zero, List.set_cons_succ, List.getElem?_cons_zero, List.getElem?_cons_succ, List.zip_cons_cons, List.zip_nil_left, List.zip_nil_right, List.zip, List.zipWith]
        refine same_go _ _ _ _ hd fun bs hb ha => ?_
        simp only [hb, ha]
        exact hp
      | _ =>
        unfold plainD at hd
        cases hd
end

section
variable {P : Program} {w : World} {K : PySem.W.Frag} {mg : Str → Option Value} {base : Heap}
/-! ### is_word -/
def letters : Str := "abcdefghijklmnopqrstuvwxyz"
def reserved : List D := [.str "top", .str "bead", .str "kind", .str "gives", .str "takes", .str "holds"]
def wordS (z : Str) : Bool := decide (1 ≤ (z.length : Int)) && (decide ((z.length : Int) ≤ 6) && (!inD (.str z) reserved && (z.cps.toList.map fun c => strIn ⟨#[c]⟩ letters).all id))
/-- a value that is asked: a text of at most 2000 signs, or another plain thing -/
def wordV : D → Option Bool
  | .str z => if z.length ≤ 2000 then some (wordS z) else none
  | .non => some false
  | .bl _ => some false
  | .int _ => some false
  | .lst _ => some false
  | .tup _ => some false
  | _ => none
def FWord : Fn := fun ds P _ => ∃ v b, ds = [v] ∧ wordV v = some b ∧ P (.bl b)
theorem sz2000 {n : Nat} (h : n ≤ 2000) : n ≤ sizeLine := Nat.le_trans h (by decide)
theorem ok_is_word {W : Wd} (T : Txt K mg) (F : DefAt K mg "is_word" s_is_word) : FnAt P w K mg base W 2 "is_word" FWord := by
  refine okF (k := 1) F sc_is_word (fun _ _ _ _ _ _ us hl => match us, hl with | [_], _ => rfl) (fun as Pd R h => ?_) (fun f cdv A outer s H E hr => (db_cons (ds_if (DW.t (dw_or (dt_not (dt_truth ((de_isi (T := "str") T.b_isinstance T.b_str (dq_var 0))).q)) (dw_or (dt_not (dt_chain op_le s_le op_le s_le (de_int).q ((de_callB call_lenA s_len T.b_len (daq_cons (dq_var 0) daq_nil))).q ((de_glob (T.g_LONGEST_WORD _))).q)) (dw_or1 (dt_cmp (op_inA hr.units) s_in (dq_var 0) ((de_glob (T.g_RESERVED _))).q rfl))))) (db_one (ds_ret de_bl)) db_nil) (db_one (ds_ret (de_callB (cr_all rfl) s_all T.b_all (daq_cons ((de_lc (own := [("sign", 1)]) sc_is_word.nd (di_seq (de_var 0)) (blkOk_by (own := [("sign", 1)]) (N := N_is_word) (sc := defScope s_is_word) (by decide +kernel)) (fun _ _ _ _ _ => dg_name 1 sc_is_word.nd) (fun _ _ _ _ _ => dts_nil) (fun _ _ _ _ _ => (de_cmp (op_inA hr.units) s_in (dq_var 1) ((de_glob (T.g_LETTERS _))).q rfl)))).q daq_nil)))))) (fun as Pd R h => ?_)
  · obtain ⟨v, b, rfl, _⟩ := h
    rfl
  · obtain ⟨v, b, rfl, hv, hp⟩ := h
    cases v with
    | str z =>
      have hv' : (if z.length ≤ 2000 then some (wordS z) else none) = some b := hv
      by_cases hz : z.length ≤ 2000
      · rw [if_pos hz] at hv'
        cases hv'
        simp (config := { maxSteps := 2000000 }) only [dMulA, dApp, dExt, dPop, dSetOwn, kb_NoneType_bool, kb_NoneType_int, kb_NoneType_str, kb_NoneType_tuple, kb_NoneType_list, kb_NoneType_dict, kb_bool_bool, kb_bool_int, kb_bool_str, kb_bool_tuple, kb_bool_list, kb_bool_dict, kb_int_bool, kb_int_int, kb_int_str, kb_int_tuple, kb_int_list, kb_int_dict, kb_str_bool, kb_str_int, kb_str_str, kb_str_tuple, kb_str_list, kb_str_dict, kb_tuple_bool, kb_tuple_int, kb_tuple_str, kb_tuple_tuple, kb_tuple_list, kb_tuple_dict, kb_list_bool, kb_list_int, kb_list_str, kb_list_tuple, kb_list_list, kb_list_dict, kb_dict_bool, kb_dict_int, kb_dict_str, kb_dict_tuple, kb_dict_list, kb_dict_dict, nx_non, nx_bl, nx_int, nx_str, nx_tup, nx_lst, nx_obj, nx_dct, implies_true, DL.isNon, Bool.not_true, Bool.not_false, beq_self_eq_true, Bool.false_beq, Bool.true_beq, bagD, atI_c0, atI_c1, atI_c2, atI_c3, atI_c4, atI_c5, ixN5_1, ixN5_2, ixN5_3, ixN5_4, ii_eqb, ss_eqb, bb_eqb, scl_ii, scl_ss, scl_bb, dExLen, dExAt, true_or, true_and, and_true, Nat.reduceAdd, startE, retK, takeK, dSeqS, dIfS, dNot, dAnd, dOr, dTest, dOp, dUn, dCallB, dVar, dVarQ, dC, dRet, dRetN, dSet, dNx, dDrop, dTr, dTruth, dIf, dAndV, dOrV, dNotV, dBl, dChain, dIsi, dIsiT, tyD, dCons, dNil, dTup, dLst, dCall, dAsg, dPar, dFor, dLc, dSeq, dRng1, dRng2, dZip, dgName, dgPair, dgTrip, dYes, dM1, dM0, dSl, dPart, dNoPart, dCut, dPut, ownL, dAdd, dI0, dIC, dIn, dNotIn, dIsN, dNotN, dEq, dNe, dIx, dLen, dAll, dAny, dListOf, dTupOf, dInt, dJoin, wipeE, itemsOf, List.map_cons, List.map_nil, List.length_cons, List.length_nil, List.replicate, List.cons_append, List.nil_append, List.set_cons_zero, List.set_cons_succ, List.getElem?_cons_zero, List.getElem?_cons_succ, List.zip_cons_cons, List.zip_nil_left, List.zip_nil_right, List.zip, List.zipWith]
        have hl : z.length ≤ sizeLine := sz2000 hz
        refine ⟨hl, ?_⟩
        unfold wordS at hp
        cases h1 : decide (1 ≤ (z.length : Int)) with
        | false =>
          rw [h1] at hp
          exact hp
        | true =>
          rw [h1] at hp
          cases h2 : decide ((z.length : Int) ≤ 6) with
          | false =>
            rw [h2] at hp
            exact hp
          | true =>
            rw [h2] at hp
            refine ⟨rfl, ?_⟩
            have hr : inD (.str z) [D.str "top", D.str "bead", D.str "kind", D.str "gives", D.str "takes", D.str "holds"] = inD (.str z) reserved := rfl
            rw [hr]
            cases h3 : inD (.str z) reserved with
            | true =>
              rw [h3] at hp
              exact hp
            | false =>
              rw [h3] at hp
              refine ⟨hl, goLc_map (fun d => match d with | .str t => .bl (strIn t letters) | _ => .non) _ [] (fun x hx Q hq => ?_) ?_⟩
              · obtain ⟨c, _, rfl⟩ := List.mem_map.mp hx
                exact hq
              · rw [List.nil_append, List.map_map]
                show (match blsOf (z.cps.toList.map fun c => .bl (strIn ⟨#[c]⟩ letters)) with
                  | some bs => Pd (D.bl (bs.all id))
                  | none => False)
                rw [blsOf_map]
                exact hp
      · rw [if_neg hz] at hv'
        cases hv'
    | dct _ => cases hv
    | obj _ _ => cases hv
    | ex _ => cases hv
    | _ =>
      cases hv
      simp (config := { maxSteps := 2000000 }) only [dMulA, dApp, dExt, dPop, dSetOwn, kb_NoneType_bool, kb_NoneType_int, kb_NoneType_str, kb_NoneType_tuple, kb_NoneType_list, kb_NoneType_dict, kb_bool_bool, kb_bool_int, kb_bool_str, kb_bool_tuple, kb_bool_list, kb_bool_dict, kb_int_bool, kb_int_int, kb_int_str, kb_int_tuple, kb_int_list, kb_int_dict, kb_str_bool, kb_str_int, kb_str_str, kb_str_tuple, kb_str_list, kb_str_dict, kb_tuple_bool, kb_tuple_int, kb_tuple_str, kb_tuple_tuple, kb_tuple_list, kb_tuple_dict, kb_list_bool, kb_list_int, kb_list_str, kb_list_tuple, kb_list_list, kb_list_dict, kb_dict_bool, kb_dict_int, kb_dict_str, kb_dict_tuple, kb_dict_list, kb_dict_dict, nx_non, nx_bl, nx_int, nx_str, nx_tup, nx_lst, nx_obj, nx_dct, implies_true, DL.isNon, Bool.not_true, Bool.not_false, beq_self_eq_true, Bool.false_beq, Bool.true_beq, bagD, atI_c0, atI_c1, atI_c2, atI_c3, atI_c4, atI_c5, ixN5_1, ixN5_2, ixN5_3, ixN5_4, ii_eqb, ss_eqb, bb_eqb, scl_ii, scl_ss, scl_bb, dExLen, dExAt, true_or, true_and, and_true, Nat.reduceAdd, startE, retK, takeK, dSeqS, dIfS, dNot, dAnd, dOr, dTest, dOp, dUn, dCallB, dVar, dVarQ, dC, dRet, dRetN, dSet, dNx, dDrop, dTr, dTruth, dIf, dAndV, dOrV, dNotV, dBl, dChain, dIsi, dIsiT, tyD, dCons, dNil, dTup, dLst, dCall, dAsg, dPar, dFor, dLc, dSeq, dRng1, dRng2, dZip, dgName, dgPair, dgTrip, dYes, dM1, dM0, dSl, dPart, dNoPart, dCut, dPut, ownL, dAdd, dI0, dIC, dIn, dNotIn, dIsN, dNotN, dEq, dNe, dIx, dLen, dAll, dAny, dListOf, dTupOf, dInt, dJoin, wipeE, itemsOf, List.map_cons, List.map_nil, List.length_cons, List.length_nil, List.replicate, List.cons_append, List.nil_append, List.set_cons_zero, List.set_cons_succ, List.getElem?_cons_zero, List.getElem?_cons_succ, List.zip_cons_cons, List.zip_nil_left, List.zip_nil_right, List.zip, List.zipWith]
      exact hp

/-! ### expressions as data -/
def wordB (d : D) : Bool := (wordV d).getD false
mutual
/-- all texts and tuples within are small, no objects -/
def sm : D → Bool
  | .non => true
  | .bl _ => true
  | .int _ => true
  | .str z => decide (z.length ≤ 2000)
  | .tup ds => decide (ds.length ≤ 2000) && smAll ds
  | .lst ds => decide (ds.length ≤ 2000) && smAll ds
  | .dct _ => false
  | .obj _ _ => false
  | .ex _ => false
def smAll : List D → Bool
  | [] => true
  | d :: ds => sm d && smAll ds
end
mutual
/-- how many things within -/
def cnt : D → Nat
  | .tup ds => cntAll ds + 1
  | .lst ds => cntAll ds + 1
  | _ => 1
def cntAll : List D → Nat
  | [] => 0
  | d :: ds => cnt d + cntAll ds
end
mutual
theorem sm_pl : ∀ d : D, sm d = true → d.pl = true
  | .non, _ => rfl
  | .bl _, _ => rfl
  | .int _, _ => rfl
  | .str _, _ => rfl
  | .tup ds, h => by
    unfold sm at h
    unfold D.pl
    exact smAll_pl ds (Bool.and_eq_true_iff.mp h).2
  | .lst ds, h => by
    unfold sm at h
    unfold D.pl
    exact smAll_pl ds (Bool.and_eq_true_iff.mp h).2
  | .dct _, h => by unfold sm at h; cases h
  | .obj _ _, h => by unfold sm at h; cases h
  | .ex _, h => by unfold sm at h; cases h
theorem smAll_pl : ∀ ds : List D, smAll ds = true → plAll ds = true
  | [], _ => rfl
  | d :: ds, h => by
    unfold smAll at h
    obtain ⟨h1, h2⟩ := Bool.and_eq_true_iff.mp h
    unfold plAll
    rw [sm_pl d h1, smAll_pl ds h2]
    rfl
end
theorem smAll_mem : ∀ {ds : List D}, smAll ds = true → ∀ d ∈ ds, sm d = true
  | [], _, _, h => nomatch h
  | d :: ds, h, e, he => by
    unfold smAll at h
    obtain ⟨h1, h2⟩ := Bool.and_eq_true_iff.mp h
    rcases List.mem_cons.mp he with rfl | he
    · exact h1
    · exact smAll_mem h2 e he
theorem smAll_of : ∀ {ds : List D}, (∀ d ∈ ds, sm d = true) → smAll ds = true
  | [], _ => rfl
  | d :: ds, h => by
    unfold smAll
    rw [h d List.mem_cons_self, smAll_of fun e he => h e (List.mem_cons_of_mem _ he)]
    rfl
theorem cnt_pos (d : D) : 1 ≤ cnt d := by
  cases d <;> unfold cnt <;> omega
theorem cntAll_app : ∀ xs ys : List D, cntAll (xs ++ ys) = cntAll xs + cntAll ys
  | [], ys => by
    rw [List.nil_append]
    unfold cntAll
    omega
  | x :: xs, ys => by
    rw [List.cons_append]
    have e : cntAll (x :: (xs ++ ys)) = cnt x + cntAll (xs ++ ys) := by rw [cntAll]
    have e2 : cntAll (x :: xs) = cnt x + cntAll xs := by rw [cntAll]
    rw [e, e2, cntAll_app xs ys]
    omega
theorem len_cnt : ∀ xs : List D, xs.length ≤ cntAll xs
  | [] => Nat.zero_le _
  | x :: xs => by
    have e2 : cntAll (x :: xs) = cnt x + cntAll xs := by rw [cntAll]
    rw [e2, List.length_cons]
    have := len_cnt xs
    have := cnt_pos x
    omega
def one1 : List D → Bool
  | [w] => wordB w
  | _ => false
def two2 : List D → Bool
  | [_, _] => true
  | _ => false
def some1 : List D → Bool
  | w :: _ => wordB w
  | [] => false
/-- the whole form of one part, its inner parts not looked at -/
def formB : D → Bool
  | .tup (.str h :: r) => bif inD (.str h) [.str "top", .str "bead"] then r.isEmpty else bif h == "var" then one1 r else bif h == "fun" then two2 r else h == "of" && some1 r
  | _ => false
/-- the inner expressions of a part -/
def innerD : D → List D
  | .tup (.str h :: r) => bif h == "fun" then r else bif h == "of" then r.tail else []
  | _ => []
inductive FormK : D → Prop
  | top : FormK (.tup [.str "top"])
  | bead : FormK (.tup [.str "bead"])
  | var (w : D) : wordB w = true → FormK (.tup [.str "var", w])
  | fn (a b : D) : FormK (.tup [.str "fun", a, b])
  | of (w : D) (r : List D) : wordB w = true → FormK (.tup (.str "of" :: w :: r))
theorem formK_of {x : D} (h : formB x = true) : FormK x := by
  cases x with
  | tup ds =>
    cases ds with
    | nil => cases h
    | cons d r =>
      cases d with
      | str z =>
        have h' : (bif inD (.str z) [.str "top", .str "bead"] then r.isEmpty else bif z == "var" then one1 r else bif z == "fun" then two2 r else z == "of" && some1 r) = true := h
        rw [str2_in] at h'
        cases e1 : ("top" == z || "bead" == z) with
        | true =>
          rw [e1] at h'
          have hr : r = [] := List.isEmpty_iff.mp h'
          subst hr
          rcases Bool.or_eq_true_iff.mp e1 with e | e
          · cases eq_of_beq e
            exact .top
          · cases eq_of_beq e
            exact .bead
        | false =>
          rw [e1] at h'
          cases e2 : z == "var" with
          | true =>
            rw [e2] at h'
            cases eq_of_beq e2
            clear h
            match r, h' with
            | [w], h' => exact .var w h'
          | false =>
            rw [e2] at h'
            cases e3 : z == "fun" with
            | true =>
              rw [e3] at h'
              cases eq_of_beq e3
              clear h
              match r, h' with
              | [a, b], _ => exact .fn a b
            | false =>
              rw [e3] at h'
              obtain ⟨e4, h5⟩ := Bool.and_eq_true_iff.mp (show (z == "of" && some1 r) = true from h')
              cases eq_of_beq e4
              clear h h'
              match r, h5 with
              | w :: t, h5 => exact .of w t h5
      | _ => cases h
  | _ => cases h
theorem FormK.inner_lt {x : D} (h : FormK x) : cntAll (innerD x) < cnt x := by
  cases h with
  | top => decide
  | bead => decide
  | var w _ =>
    show cntAll [] < _
    unfold cnt
    rw [cntAll]
    omega
  | fn a b =>
    show cntAll [a, b] < cntAll (.str "fun" :: [a, b]) + 1
    rw [cntAll.eq_2 (.str "fun") [a, b]]
    omega
  | of w r _ =>
    show cntAll r < cntAll (.str "of" :: w :: r) + 1
    rw [cntAll.eq_2, cntAll.eq_2]
    omega
theorem FormK.inner_sm {x : D} (h : FormK x) (s : sm x = true) : ∀ d ∈ innerD x, sm d = true := by
  cases h with
  | top => intro d hd; cases hd
  | bead => intro d hd; cases hd
  | var w _ => intro d hd; cases hd
  | fn a b =>
    intro d hd
    unfold sm at s
    exact smAll_mem (Bool.and_eq_true_iff.mp s).2 d (List.mem_cons_of_mem _ hd)
  | of w r _ =>
    intro d hd
    unfold sm at s
    exact smAll_mem (Bool.and_eq_true_iff.mp s).2 d (List.mem_cons_of_mem _ (List.mem_cons_of_mem _ hd))
/-- an expression: with so much fuel for its depth -/
def isEf : Nat → D → Bool
  | 0, _ => false
  | n + 1, x => formB x && (innerD x).all (isEf n)
theorem mem_cnt {y : D} : ∀ {xs : List D}, y ∈ xs → cnt y ≤ cntAll xs
  | x :: xs, h => by
    have e2 : cntAll (x :: xs) = cnt x + cntAll xs := by rw [cntAll]
    rw [e2]
    rcases List.mem_cons.mp h with rfl | h
    · omega
    · have := mem_cnt h
      omega
theorem isEf_enough : ∀ (n : Nat) (x : D), cnt x ≤ n → ∀ m, cnt x ≤ m → isEf n x = isEf m x
  | 0, x, h, _, _ => by
    have := cnt_pos x
    omega
  | n + 1, x, h, 0, h2 => by
    have := cnt_pos x
    omega
  | n + 1, x, h, m + 1, h2 => by
    unfold isEf
    cases e : formB x with
    | false => rfl
    | true =>
      have lt := (formK_of e).inner_lt
      rw [Bool.true_and, Bool.true_and]
      have key : ∀ xs : List D, cntAll xs ≤ n → cntAll xs ≤ m → xs.all (isEf n) = xs.all (isEf m) := by
        intro xs
        induction xs with
        | nil => intro _ _; rfl
        | cons y ys ih =>
          intro h3 h4
          have e2 : cntAll (y :: ys) = cnt y + cntAll ys := by rw [cntAll]
          rw [e2] at h3 h4
          rw [List.all_cons, List.all_cons, isEf_enough n y (by omega) m (by omega), ih (by omega) (by omega)]
      exact key _ (by omega) (by omega)
def isE (x : D) : Bool := isEf (cnt x) x
theorem isE_eq (x : D) : isE x = (formB x && (innerD x).all isE) := by
  unfold isE
  obtain ⟨n, hn⟩ : ∃ n, cnt x = n + 1 := ⟨cnt x - 1, by have := cnt_pos x; omega⟩
  rw [hn]
  show (formB x && (innerD x).all (isEf n)) = _
  cases e : formB x with
  | false => rfl
  | true =>
    have lt := (formK_of e).inner_lt
    rw [Bool.true_and, Bool.true_and]
    have key : ∀ xs : List D, cntAll xs ≤ n → xs.all (isEf n) = xs.all fun y => isEf (cnt y) y := by
      intro xs
      induction xs with
      | nil => intro _; rfl
      | cons y ys ih =>
        intro h3
        have e2 : cntAll (y :: ys) = cnt y + cntAll ys := by rw [cntAll]
        rw [e2] at h3
        rw [List.all_cons, List.all_cons, isEf_enough n y (by omega) (cnt y) (Nat.le_refl _), ih (by omega)]
    exact key _ (by omega)
/-- a drawn expression: heads with their numbers of parts, words, levels -/
inductive Ex (hs : List (Str × Nat)) (ws : List Str) : Nat → D → Prop
  | top {n : Nat} : Ex hs ws n (.tup [.str "top"])
  | bead {n : Nat} : Ex hs ws n (.tup [.str "bead"])
  | var {n : Nat} {w : Str} : w ∈ ws → Ex hs ws n (.tup [.str "var", .str w])
  | fn {n : Nat} {a b : D} : Ex hs ws n a → Ex hs ws n b → Ex hs ws (n + 1) (.tup [.str "fun", a, b])
  | of {n : Nat} {h : Str} {xs : List D} : (h, xs.length) ∈ hs → (∀ x ∈ xs, Ex hs ws n x) → Ex hs ws (n + 1) (.tup (.str "of" :: .str h :: xs))
theorem wordV_sm {d : D} (h : sm d = true) : wordV d = some (wordB d) := by
  cases d with
  | str z =>
    unfold sm at h
    have e : wordV (.str z) = some (wordS z) := if_pos (of_decide_eq_true h)
    unfold wordB
    rw [e]
    rfl
  | dct _ => cases h
  | obj _ _ => cases h
  | ex _ => cases h
  | _ => rfl

def FInner : Fn := fun ds P _ => ∃ x, ds = [x] ∧ FormK x ∧ sm x = true ∧ P (.lst (innerD x))
theorem ok_inner {W : Wd} (T : Txt K mg) (F : DefAt K mg "inner" s_inner) : FnAt P w K mg base W 1 "inner" FInner := by
  refine okF (k := 0) F sc_inner (fun _ _ _ _ _ _ us hl => match us, hl with | [_], _ => rfl) (fun as Pd R h => ?_) (fun f cdv A outer s H E hr => (db_cons (ds_if (dt_cmp (op_eq.or (op_eqP hr.units)) s_eq ((de_ix (dq_var 0) (de_int).q)).q (de_str).q (nomark _)) (db_one (ds_ret (de_lst (da_cons (de_ix (dq_var 0) (de_int).q) (da_cons (de_ix (dq_var 0) (de_int).q) da_nil))))) db_nil) (db_one (ds_ret (de_if (dt_cmp (op_eq.or (op_eqP hr.units)) s_eq ((de_ix (dq_var 0) (de_int).q)).q (de_str).q (nomark _)) (de_callTy call_list_of s_list T.b_list (daq_cons ((de_sl (dq_var 0) (do_some de_int) do_none)).q daq_nil)) (de_lst da_nil)))))) (fun as Pd R h => ?_)
  · obtain ⟨x, rfl, _⟩ := h
    rfl
  · obtain ⟨x, rfl, hf, hs, hp⟩ := h
    cases hf with
    | fn a b =>
      simp (config := { maxSteps := 2000000 }) only [dMulA, dApp, dExt, dPop, dSetOwn, kb_NoneType_bool, kb_NoneType_int, kb_NoneType_str, kb_NoneType_tuple, kb_NoneType_list, kb_NoneType_dict, kb_bool_bool, kb_bool_int, kb_bool_str, kb_bool_tuple, kb_bool_list, kb_bool_dict, kb_int_bool, kb_int_int, kb_int_str, kb_int_tuple, kb_int_list, kb_int_dict, kb_str_bool, kb_str_int, kb_str_str, kb_str_tuple, kb_str_list, kb_str_dict, kb_tuple_bool, kb_tuple_int, kb_tuple_str, kb_tuple_tuple, kb_tuple_list, kb_tuple_dict, kb_list_bool, kb_list_int, kb_list_str, kb_list_tuple, kb_list_list, kb_list_dict, kb_dict_bool, kb_dict_int, kb_dict_str, kb_dict_tuple, kb_dict_list, kb_dict_dict, nx_non, nx_bl, nx_int, nx_str, nx_tup, nx_lst, nx_obj, nx_dct, implies_true, DL.isNon, Bool.not_true, Bool.not_false, beq_self_eq_true, Bool.false_beq, Bool.true_beq, bagD, atI_c0, atI_c1, atI_c2, atI_c3, atI_c4, atI_c5, ixN5_1, ixN5_2, ixN5_3, ixN5_4, ii_eqb, ss_eqb, bb_eqb, scl_ii, scl_ss, scl_bb, dExLen, dExAt, true_or, true_and, and_true, Nat.reduceAdd, startE, retK, takeK, dSeqS, dIfS, dNot, dAnd, dOr, dTest, dOp, dUn, dCallB, dVar, dVarQ, dC, dRet, dRetN, dSet, dNx, dDrop, dTr, dTruth, dIf, dAndV, dOrV, dNotV, dBl, dChain, dIsi, dIsiT, tyD, dCons, dNil, dTup, dLst, dCall, dAsg, dPar, dFor, dLc, dSeq, dRng1, dRng2, dZip, dgName, dgPair, dgTrip, dYes, dM1, dM0, dSl, dPart, dNoPart, dCut, dPut, ownL, dAdd, dI0, dIC, dIn, dNotIn, dIsN, dNotN, dEq, dNe, dIx, dLen, dAll, dAny, dListOf, dTupOf, dInt, dJoin, wipeE, itemsOf, List.map_cons, List.map_nil, List.length_cons, List.length_nil, List.replicate, List.cons_append, List.nil_append, List.set_cons_zero, List.set_cons_succ, List.getElem?_cons_zero, List.getElem?_cons_succ, List.zip_cons_cons, List.zip_nil_left, List.zip_nil_right, List.zip, List.zipWith]
      exact ⟨by decide, hp⟩
    | of wd r hw =>
      simp (config := { maxSteps := 2000000 }) only [dMulA, dApp, dExt, dPop, dSetOwn, kb_NoneType_bool, kb_NoneType_int, kb_NoneType_str, kb_NoneType_tuple, kb_NoneType_list, kb_NoneType_dict, kb_bool_bool, kb_bool_int, kb_bool_str, kb_bool_tuple, kb_bool_list, kb_bool_dict, kb_int_bool, kb_int_int, kb_int_str, kb_int_tuple, kb_int_list, kb_int_dict, kb_str_bool, kb_str_int, kb_str_str, kb_str_tuple, kb_str_list, kb_str_dict, kb_tuple_bool, kb_tuple_int, kb_tuple_str, kb_tuple_tuple, kb_tuple_list, kb_tuple_dict, kb_list_bool, kb_list_int, kb_list_str, kb_list_tuple, kb_list_list, kb_list_dict, kb_dict_bool, kb_dict_int, kb_dict_str, kb_dict_tuple, kb_dict_list, kb_dict_dict, nx_non, nx_bl, nx_int, nx_str, nx_tup, nx_lst, nx_obj, nx_dct, implies_true, DL.isNon, Bool.not_true, Bool.not_false, beq_self_eq_true, Bool.false_beq, Bool.true_beq, bagD, atI_c0, atI_c1, atI_c2, atI_c3, atI_c4, atI_c5, ixN5_1, ixN5_2, ixN5_3, ixN5_4, ii_eqb, ss_eqb, bb_eqb, scl_ii, scl_ss, scl_bb, dExLen, dExAt, true_or, true_and, and_true, Nat.reduceAdd, startE, retK, takeK, dSeqS, dIfS, dNot, dAnd, dOr, dTest, dOp, dUn, dCallB, dVar, dVarQ, dC, dRet, dRetN, dSet, dNx, dDrop, dTr, dTruth, dIf, dAndV, dOrV, dNotV, dBl, dChain, dIsi, dIsiT, tyD, dCons, dNil, dTup, dLst, dCall, dAsg, dPar, dFor, dLc, dSeq, dRng1, dRng2, dZip, dgName, dgPair, dgTrip, dYes, dM1, dM0, dSl, dPart, dNoPart, dCut, dPut, ownL, dAdd, dI0, dIC, dIn, dNotIn, dIsN, dNotN, dEq, dNe, dIx, dLen, dAll, dAny, dListOf, dTupOf, dInt, dJoin, wipeE, itemsOf, List.map_cons, List.map_nil, List.length_cons, List.length_nil, List.replicate, List.cons_append, List.nil_append, List.set_cons_zero, List.set_cons_succ, List.getElem?_cons_zero, List.getElem?_cons_succ, List.zip_cons_cons, List.zip_nil_left, List.zip_nil_right, List.zip, List.zipWith]
      show Pd (.lst (cutG (D.str "of" :: wd :: r) (some 2) none))
      rw [cutG_2]
      exact hp
    | _ =>
      simp (config := { maxSteps := 2000000 }) only [dMulA, dApp, dExt, dPop, dSetOwn, kb_NoneType_bool, kb_NoneType_int, kb_NoneType_str, kb_NoneType_tuple, kb_NoneType_list, kb_NoneType_dict, kb_bool_bool, kb_bool_int, kb_bool_str, kb_bool_tuple, kb_bool_list, kb_bool_dict, kb_int_bool, kb_int_int, kb_int_str, kb_int_tuple, kb_int_list, kb_int_dict, kb_str_bool, kb_str_int, kb_str_str, kb_str_tuple, kb_str_list, kb_str_dict, kb_tuple_bool, kb_tuple_int, kb_tuple_str, kb_tuple_tuple, kb_tuple_list, kb_tuple_dict, kb_list_bool, kb_list_int, kb_list_str, kb_list_tuple, kb_list_list, kb_list_dict, kb_dict_bool, kb_dict_int, kb_dict_str, kb_dict_tuple, kb_dict_list, kb_dict_dict, nx_non, nx_bl, nx_int, nx_str, nx_tup, nx_lst, nx_obj, nx_dct, implies_true, DL.isNon, Bool.not_true, Bool.not_false, beq_self_eq_true, Bool.false_beq, Bool.true_beq, bagD, atI_c0, atI_c1, atI_c2, atI_c3, atI_c4, atI_c5, ixN5_1, ixN5_2, ixN5_3, ixN5_4, ii_eqb, ss_eqb, bb_eqb, scl_ii, scl_ss, scl_bb, dExLen, dExAt, true_or, true_and, and_true, Nat.reduceAdd, startE, retK, takeK, dSeqS, dIfS, dNot, dAnd, dOr, dTest, dOp, dUn, dCallB, dVar, dVarQ, dC, dRet, dRetN, dSet, dNx, dDrop, dTr, dTruth, dIf, dAndV, dOrV, dNotV, dBl, dChain, dIsi, dIsiT, tyD, dCons, dNil, dTup, dLst, dCall, dAsg, dPar, dFor, dLc, dSeq, dRng1, dRng2, dZip, dgName, dgPair, dgTrip, dYes, dM1, dM0, dSl, dPart, dNoPart, dCut, dPut, ownL, dAdd, dI0, dIC, dIn, dNotIn, dIsN, dNotN, dEq, dNe, dIx, dLen, dAll, dAny, dListOf, dTupOf, dInt, dJoin, wipeE, itemsOf, List.map_cons, List.map_nil, List.length_cons, List.length_nil, List.replicate, List.cons_append, List.nil_append, List.set_cons_zero, List.set_cons_succ, List.getElem?_cons_zero, List.getElem?_cons_succ, List.zip_cons_cons, List.zip_nil_left, List.zip_nil_right, List.zip, List.zipWith]
      exact ⟨by decide, hp⟩
def FForm : Fn := fun ds P _ => ∃ x, ds = [x] ∧ sm x = true ∧ P (.bl (formB x))
theorem ok_has_form {W : Wd} (T : Txt K mg) (F : DefAt K mg "has_form" s_has_form) (G_is_word : FnAt P w K mg base W 2 "is_word" FWord) : FnAt P w K mg base W 3 "has_form" FForm := by
  refine okF (k := 2) F sc_has_form (fun _ _ _ _ _ _ us hl => match us, hl with | [_], _ => rfl) (fun as Pd R h => ?_) (fun f cdv A outer s H E hr => (db_cons (ds_if (DW.t (dw_or (dt_not (dt_truth ((de_isi (T := "tuple") T.b_isinstance T.b_tuple (dq_var 0))).q)) (dw_or (dt_cmp (op_eq.or (op_eqP hr.units)) s_eq (dq_var 0) ((de_tup da_nil)).q (nomark _)) (dw_or1 (dt_not (dt_truth ((de_isi (T := "str") T.b_isinstance T.b_str ((de_ix (dq_var 0) (de_int).q)).q)).q)))))) (db_one (ds_ret de_bl)) db_nil) (db_cons (ds_if (dt_cmp (op_inA hr.units) s_in ((de_ix (dq_var 0) (de_int).q)).q ((de_tup (da_cons de_str (da_cons de_str da_nil)))).q rfl) (db_one (ds_ret (de_cmp (op_eq.or (op_eqP hr.units)) s_eq ((de_callB call_lenA s_len T.b_len (daq_cons (dq_var 0) daq_nil))).q (de_int).q (nomark _)))) db_nil) (db_cons (ds_if (dt_cmp (op_eq.or (op_eqP hr.units)) s_eq ((de_ix (dq_var 0) (de_int).q)).q (de_str).q (nomark _)) (db_one (ds_ret (de_and (de_cmp (op_eq.or (op_eqP hr.units)) s_eq ((de_callB call_lenA s_len T.b_len (daq_cons (dq_var 0) daq_nil))).q (de_int).q (nomark _)) (de_one (de_callF G_is_word (hr.mono (by first | decide | omega)) (takes_of rfl rfl rfl rfl) (da_cons (de_ix (dq_var 0) (de_int).q) da_nil)))))) db_nil) (db_cons (ds_if (dt_cmp (op_eq.or (op_eqP hr.units)) s_eq ((de_ix (dq_var 0) (de_int).q)).q (de_str).q (nomark _)) (db_one (ds_ret (de_cmp (op_eq.or (op_eqP hr.units)) s_eq ((de_callB call_lenA s_len T.b_len (daq_cons (dq_var 0) daq_nil))).q (de_int).q (nomark _)))) db_nil) (db_one (ds_ret (de_and (de_cmp (op_eq.or (op_eqP hr.units)) s_eq ((de_ix (dq_var 0) (de_int).q)).q (de_str).q (nomark _)) (de_and (de_cmp op_ge s_ge ((de_callB call_lenA s_len T.b_len (daq_cons (dq_var 0) daq_nil))).q (de_int).q (nomark _)) (de_one (de_callF G_is_word (hr.mono (by first | decide | omega)) (takes_of rfl rfl rfl rfl) (da_cons (de_ix (dq_var 0) (de_int).q) da_nil)))))))))))) (fun as Pd R h => ?_)
  · obtain ⟨x, rfl, _⟩ := h
    rfl
  · obtain ⟨x, rfl, hs, hp⟩ := h
    cases x with
    | tup ds =>
      cases ds with
      | nil =>
        simp (config := { maxSteps := 2000000 }) only [dMulA, dApp, dExt, dPop, dSetOwn, kb_NoneType_bool, kb_NoneType_int, kb_NoneType_str, kb_NoneType_tuple, kb_NoneType_list, kb_NoneType_dict, kb_bool_bool, kb_bool_int, kb_bool_str, kb_bool_tuple, kb_bool_list, kb_bool_dict, kb_int_bool, kb_int_int, kb_int_str, kb_int_tuple, kb_int_list, kb_int_dict, kb_str_bool, kb_str_int, kb_str_str, kb_str_tuple, kb_str_list, kb_str_dict, kb_tuple_bool, kb_tuple_int, kb_tuple_str, kb_tuple_tuple, kb_tuple_list, kb_tuple_dict, kb_list_bool, kb_list_int, kb_list_str, kb_list_tuple, kb_list_list, kb_list_dict, kb_dict_bool, kb_dict_int, kb_dict_str, kb_dict_tuple, kb_dict_list, kb_dict_dict, nx_non, nx_bl, nx_int, nx_str, nx_tup, nx_lst, nx_obj, nx_dct, implies_true, DL.isNon, Bool.not_true, Bool.not_false, beq_self_eq_true, Bool.false_beq, Bool.true_beq, bagD, atI_c0, atI_c1, atI_c2, atI_c3, atI_c4, atI_c5, ixN5_1, ixN5_2, ixN5_3, ixN5_4, ii_eqb, ss_eqb, bb_eqb, scl_ii, scl_ss, scl_bb, dExLen, dExAt, true_or, true_and, and_true, Nat.reduceAdd, startE, retK, takeK, dSeqS, dIfS, dNot, dAnd, dOr, dTest, dOp, dUn, dCallB, dVar, dVarQ, dC, dRet, dRetN, dSet, dNx, dDrop, dTr, dTruth, dIf, dAndV, dOrV, dNotV, dBl, dChain, dIsi, dIsiT, tyD, dCons, dNil, dTup, dLst, dCall, dAsg, dPar, dFor, dLc, dSeq, dRng1, dRng2, dZip, dgName, dgPair, dgTrip, dYes, dM1, dM0, dSl, dPart, dNoPart, dCut, dPut, ownL, dAdd, dI0, dIC, dIn, dNotIn, dIsN, dNotN, dEq, dNe, dIx, dLen, dAll, dAny, dListOf, dTupOf, dInt, dJoin, wipeE, itemsOf, List.map_cons, List.map_nil, List.length_cons, List.length_nil, List.replicate, List.cons_append, List.nil_append, List.set_cons_zero, List.set_cons_succ, List.getElem?_cons_zero, List.getElem?_cons_succ, List.zip_cons_cons, List.zip_nil_left, List.zip_nil_right, List.zip, List.zipWith]
        exact ⟨by decide, .inr (by decide), hp⟩
      | cons d r =>
        have hpl := sm_pl _ hs
        unfold sm at hs
        obtain ⟨hlen, hsa⟩ := Bool.and_eq_true_iff.mp hs
        have hd : sm d = true := smAll_mem hsa d List.mem_cons_self
        cases d with
        | str z =>
          simp (config := { maxSteps := 2000000 }) only [dMulA, dApp, dExt, dPop, dSetOwn, kb_NoneType_bool, kb_NoneType_int, kb_NoneType_str, kb_NoneType_tuple, kb_NoneType_list, kb_NoneType_dict, kb_bool_bool, kb_bool_int, kb_bool_str, kb_bool_tuple, kb_bool_list, kb_bool_dict, kb_int_bool, kb_int_int, kb_int_str, kb_int_tuple, kb_int_list, kb_int_dict, kb_str_bool, kb_str_int, kb_str_str, kb_str_tuple, kb_str_list, kb_str_dict, kb_tuple_bool, kb_tuple_int, kb_tuple_str, kb_tuple_tuple, kb_tuple_list, kb_tuple_dict, kb_list_bool, kb_list_int, kb_list_str, kb_list_tuple, kb_list_list, kb_list_dict, kb_dict_bool, kb_dict_int, kb_dict_str, kb_dict_tuple, kb_dict_list, kb_dict_dict, nx_non, nx_bl, nx_int, nx_str, nx_tup, nx_lst, nx_obj, nx_dct, implies_true, DL.isNon, Bool.not_true, Bool.not_false, beq_self_eq_true, Bool.false_beq, Bool.true_beq, bagD, atI_c0, atI_c1, atI_c2, atI_c3, atI_c4, atI_c5, ixN5_1, ixN5_2, ixN5_3, ixN5_4, ii_eqb, ss_eqb, bb_eqb, scl_ii, scl_ss, scl_bb, dExLen, dExAt, true_or, true_and, and_true, Nat.reduceAdd, startE, retK, takeK, dSeqS, dIfS, dNot, dAnd, dOr, dTest, dOp, dUn, dCallB, dVar, dVarQ, dC, dRet, dRetN, dSet, dNx, dDrop, dTr, dTruth, dIf, dAndV, dOrV, dNotV, dBl, dChain, dIsi, dIsiT, tyD, dCons, dNil, dTup, dLst, dCall, dAsg, dPar, dFor, dLc, dSeq, dRng1, dRng2, dZip, dgName, dgPair, dgTrip, dYes, dM1, dM0, dSl, dPart, dNoPart, dCut, dPut, ownL, dAdd, dI0, dIC, dIn, dNotIn, dIsN, dNotN, dEq, dNe, dIx, dLen, dAll, dAny, dListOf, dTupOf, dInt, dJoin, wipeE, itemsOf, List.map_cons, List.map_nil, List.length_cons, List.length_nil, List.replicate, List.cons_append, List.nil_append, List.set_cons_zero, List.set_cons_succ, List.getElem?_cons_zero, List.getElem?_cons_succ, List.zip_cons_cons, List.zip_nil_left, List.zip_nil_right, List.zip, List.zipWith]
          refine ⟨by decide, .inr (eqOk_nil hpl), ?_⟩
          have ne : (D.tup (D.str z :: r)).eqb (D.tup []) = false := rfl
          rw [ne]
          refine ⟨by decide, rfl, ?_⟩
          have hp' : Pd (.bl (bif inD (.str z) [.str "top", .str "bead"] then r.isEmpty else bif z == "var" then one1 r else bif z == "fun" then two2 r else z == "of" && some1 r)) := hp
          cases e1 : inD (D.str z) [D.str "top", D.str "bead"] with
          | true =>
            rw [e1] at hp'
            have e2 : (((r.length + 1 : Nat) : Int) == 1) = r.isEmpty := by
              cases r with
              | nil => rfl
              | cons _ _ =>
                simp
                omega
            rw [e2]
            exact hp'
          | false =>
            rw [e1] at hp'
            cases e2 : z == "var" with
            | true =>
              rw [e2] at hp'
              match r, hlen, hsa, hp' with
              | [], _, _, hp' => exact hp'
              | [wd], _, hsa, hp' =>
                show FWord [wd] Pd _
                exact ⟨wd, _, rfl, wordV_sm (smAll_mem hsa wd (List.mem_cons_of_mem _ List.mem_cons_self)), hp'⟩
              | a :: b :: t, _, _, hp' =>
                have e3 : ((((a :: b :: t).length + 1 : Nat) : Int) == 2) = false := by
                  simp
                  omega
                rw [e3]
                exact hp'
            | false =>
              rw [e2] at hp'
              cases e3 : z == "fun" with
              | true =>
                rw [e3] at hp'
                have e4 : (((r.length + 1 : Nat) : Int) == 3) = two2 r := by
                  match r with
                  | [] => rfl
                  | [_] => rfl
                  | [_, _] => rfl
                  | _ :: _ :: _ :: t =>
                    simp [two2]
                    omega
                rw [e4]
                exact hp'
              | false =>
                rw [e3] at hp'
                cases e4 : z == "of" with
                | true =>
                  rw [e4] at hp'
                  match r, hsa, hp' with
                  | [], _, hp' => exact hp'
                  | wd :: t, hsa, hp' =>
                    have e5 : decide ((2 : Int) ≤ (((wd :: t).length + 1 : Nat) : Int)) = true := decide_eq_true (by simp; omega)
                    rw [e5, atI_c1]
                    show FWord [wd] Pd _
                    exact ⟨wd, _, rfl, wordV_sm (smAll_mem hsa wd (List.mem_cons_of_mem _ List.mem_cons_self)), hp'⟩
                | false =>
                  rw [e4] at hp'
                  exact hp'
        | dct _ => cases hd
        | obj _ _ => cases hd
        | ex _ => cases hd
        | _ =>
          simp (config := { maxSteps := 2000000 }) only [dMulA, dApp, dExt, dPop, dSetOwn, kb_NoneType_bool, kb_NoneType_int, kb_NoneType_str, kb_NoneType_tuple, kb_NoneType_list, kb_NoneType_dict, kb_bool_bool, kb_bool_int, kb_bool_str, kb_bool_tuple, kb_bool_list, kb_bool_dict, kb_int_bool, kb_int_int, kb_int_str, kb_int_tuple, kb_int_list, kb_int_dict, kb_str_bool, kb_str_int, kb_str_str, kb_str_tuple, kb_str_list, kb_str_dict, kb_tuple_bool, kb_tuple_int, kb_tuple_str, kb_tuple_tuple, kb_tuple_list, kb_tuple_dict, kb_list_bool, kb_list_int, kb_list_str, kb_list_tuple, kb_list_list, kb_list_dict, kb_dict_bool, kb_dict_int, kb_dict_str, kb_dict_tuple, kb_dict_list, kb_dict_dict, nx_non, nx_bl, nx_int, nx_str, nx_tup, nx_lst, nx_obj, nx_dct, implies_true, DL.isNon, Bool.not_true, Bool.not_false, beq_self_eq_true, Bool.false_beq, Bool.true_beq, bagD, atI_c0, atI_c1, atI_c2, atI_c3, atI_c4, atI_c5, ixN5_1, ixN5_2, ixN5_3, ixN5_4, ii_eqb, ss_eqb, bb_eqb, scl_ii, scl_ss, scl_bb, dExLen, dExAt, true_or, true_and, and_true, Nat.reduceAdd, startE, retK, takeK, dSeqS, dIfS, dNot, dAnd, dOr, dTest, dOp, dUn, dCallB, dVar, dVarQ, dC, dRet, dRetN, dSet, dNx, dDrop, dTr, dTruth, dIf, dAndV, dOrV, dNotV, dBl, dChain, dIsi, dIsiT, tyD, dCons, dNil, dTup, dLst, dCall, dAsg, dPar, dFor, dLc, dSeq, dRng1, dRng2, dZip, dgName, dgPair, dgTrip, dYes, dM1, dM0, dSl, dPart, dNoPart, dCut, dPut, ownL, dAdd, dI0, dIC, dIn, dNotIn, dIsN, dNotN, dEq, dNe, dIx, dLen, dAll, dAny, dListOf, dTupOf, dInt, dJoin, wipeE, itemsOf, List.map_cons, List.map_nil, List.length_cons, List.length_nil, List.replicate, List.cons_append, List.nil_append, List.set_cons_zero, List.set_cons_succ, List.getElem?_cons_zero, List.getElem?_cons_succ, List.zip_cons_cons, List.zip_nil_left, List.zip_nil_right, List.zip, List.zipWith]
          refine ⟨by decide, .inr (eqOk_nil hpl), ?_⟩
          exact hp
    | dct _ => cases hs
    | obj _ _ => cases hs
    | ex _ => cases hs
    | _ =>
      simp (config := { maxSteps := 2000000 }) only [dMulA, dApp, dExt, dPop, dSetOwn, kb_NoneType_bool, kb_NoneType_int, kb_NoneType_str, kb_NoneType_tuple, kb_NoneType_list, kb_NoneType_dict, kb_bool_bool, kb_bool_int, kb_bool_str, kb_bool_tuple, kb_bool_list, kb_bool_dict, kb_int_bool, kb_int_int, kb_int_str, kb_int_tuple, kb_int_list, kb_int_dict, kb_str_bool, kb_str_int, kb_str_str, kb_str_tuple, kb_str_list, kb_str_dict, kb_tuple_bool, kb_tuple_int, kb_tuple_str, kb_tuple_tuple, kb_tuple_list, kb_tuple_dict, kb_list_bool, kb_list_int, kb_list_str, kb_list_tuple, kb_list_list, kb_list_dict, kb_dict_bool, kb_dict_int, kb_dict_str, kb_dict_tuple, kb_dict_list, kb_dict_dict, nx_non, nx_bl, nx_int, nx_str, nx_tup, nx_lst, nx_obj, nx_dct, implies_true, DL.isNon, Bool.not_true, Bool.not_false, beq_self_eq_true, Bool.false_beq, Bool.true_beq, bagD, atI_c0, atI_c1, atI_c2, atI_c3, atI_c4, atI_c5, ixN5_1, ixN5_2, ixN5_3, ixN5_4, ii_eqb, ss_eqb, bb_eqb, scl_ii, scl_ss, scl_bb, dExLen, dExAt, true_or, true_and, and_true, Nat.reduceAdd, startE, retK, takeK, dSeqS, dIfS, dNot, dAnd, dOr, dTest, dOp, dUn, dCallB, dVar, dVarQ, dC, dRet, dRetN, dSet, dNx, dDrop, dTr, dTruth, dIf, dAndV, dOrV, dNotV, dBl, dChain, dIsi, dIsiT, tyD, dCons, dNil, dTup, dLst, dCall, dAsg, dPar, dFor, dLc, dSeq, dRng1, dRng2, dZip, dgName, dgPair, dgTrip, dYes, dM1, dM0, dSl, dPart, dNoPart, dCut, dPut, ownL, dAdd, dI0, dIC, dIn, dNotIn, dIsN, dNotN, dEq, dNe, dIx, dLen, dAll, dAny, dListOf, dTupOf, dInt, dJoin, wipeE, itemsOf, List.map_cons, List.map_nil, List.length_cons, List.length_nil, List.replicate, List.cons_append, List.nil_append, List.set_cons_zero, List.set_cons_succ, List.getElem?_cons_zero, List.getElem?_cons_succ, List.zip_cons_cons, List.zip_nil_left, List.zip_nil_right, List.zip, List.zipWith]
      exact hp
/-! ### is_expression -/
def FIsE : Fn := fun ds P _ => ∃ x, ds = [x] ∧ sm x = true ∧ cnt x ≤ 100000 ∧ P (.bl (isE x))
theorem ok_is_expression {W : Wd} (T : Txt K mg) (F : DefAt K mg "is_expression" s_is_expression) (G_has_form : FnAt P w K mg base W 3 "has_form" FForm) (G_inner : FnAt P w K mg base W 1 "inner" FInner) : FnAt P w K mg base W 4 "is_expression" FIsE := by
  refine okF (k := 3) F sc_is_expression (fun _ _ _ _ _ _ us hl => match us, hl with | [_], _ => rfl) (fun as Pd R h => ?_) (fun f cdv A outer s H E hr => (db_cons (ds_setOwn 1 sc_is_expression.nd (df_lst (da_cons (de_var 0) da_nil))) (db_cons (ds_while (dt_cmp (op_ne.or (op_neP hr.units)) s_ne (dq_var 1) ((de_lst da_nil)).q (nomark _)) (db_cons (ds_pop 1 2 (ps_set sc_is_expression.nd rfl (by first | exact Or.inl rfl | exact Or.inr rfl) (pe_bm0 PySem.F.plainAttrs_list PySem.F.slot_list_pop PySem.F.type_list_pop mt_pop (pv 1)))) (db_cons (ds_if (dt_not (dt_truth ((de_callF G_has_form (hr.mono (by first | decide | omega)) (takes_of rfl rfl rfl rfl) (da_cons (de_var 2) da_nil))).q)) (db_one (ds_ret de_bl)) db_nil) (db_one (ds_extend 1 (de_callF G_inner (hr.mono (by first | decide | omega)) (takes_of rfl rfl rfl rfl) (da_cons (de_var 2) da_nil)) (hp := ps_expr (pe_bm PySem.F.plainAttrs_list PySem.F.slot_list_extend PySem.F.type_list_extend mt_extend (pv 1) (pa_cons (de_callF G_inner (hr.mono (by first | decide | omega)) (takes_of rfl rfl rfl rfl) (da_cons (de_var 2) da_nil)) pa_nil))))))) (passes_of rfl)) (db_one (ds_ret de_bl))))) (fun as Pd R h => ?_)
  · obtain ⟨x, rfl, _⟩ := h
    rfl
  · obtain ⟨x, rfl, hs, hc, hp⟩ := h
    simp (config := { maxSteps := 2000000 }) only [dMulA, dApp, dExt, dPop, dSetOwn, kb_NoneType_bool, kb_NoneType_int, kb_NoneType_str, kb_NoneType_tuple, kb_NoneType_list, kb_NoneType_dict, kb_bool_bool, kb_bool_int, kb_bool_str, kb_bool_tuple, kb_bool_list, kb_bool_dict, kb_int_bool, kb_int_int, kb_int_str, kb_int_tuple, kb_int_list, kb_int_dict, kb_str_bool, kb_str_int, kb_str_str, kb_str_tuple, kb_str_list, kb_str_dict, kb_tuple_bool, kb_tuple_int, kb_tuple_str, kb_tuple_tuple, kb_tuple_list, kb_tuple_dict, kb_list_bool, kb_list_int, kb_list_str, kb_list_tuple, kb_list_list, kb_list_dict, kb_dict_bool, kb_dict_int, kb_dict_str, kb_dict_tuple, kb_dict_list, kb_dict_dict, nx_non, nx_bl, nx_int, nx_str, nx_tup, nx_lst, nx_obj, nx_dct, implies_true, DL.isNon, Bool.not_true, Bool.not_false, beq_self_eq_true, Bool.false_beq, Bool.true_beq, bagD, atI_c0, atI_c1, atI_c2, atI_c3, atI_c4, atI_c5, ixN5_1, ixN5_2, ixN5_3, ixN5_4, ii_eqb, ss_eqb, bb_eqb, scl_ii, scl_ss, scl_bb, dExLen, dExAt, true_or, true_and, and_true, Nat.reduceAdd, startE, retK, takeK, dSeqS, dIfS, dNot, dAnd, dOr, dTest, dOp, dUn, dCallB, dVar, dVarQ, dC, dRet, dRetN, dSet, dNx, dDrop, dTr, dTruth, dIf, dAndV, dOrV, dNotV, dBl, dChain, dIsi, dIsiT, tyD, dCons, dNil, dTup, dLst, dCall, dAsg, dPar, dFor, dLc, dSeq, dRng1, dRng2, dZip, dgName, dgPair, dgTrip, dYes, dM1, dM0, dSl, dPart, dNoPart, dCut, dPut, ownL, dAdd, dI0, dIC, dIn, dNotIn, dIsN, dNotN, dEq, dNe, dIx, dLen, dAll, dAny, dListOf, dTupOf, dInt, dJoin, wipeE, itemsOf, List.map_cons, List.map_nil, List.length_cons, List.length_nil, List.replicate, List.cons_append, List.nil_append, List.set_cons_zero, List.set_cons_succ, List.getElem?_cons_zero, List.getElem?_cons_succ, List.zip_cons_cons, List.zip_nil_left, List.zip_nil_right, List.zip, List.zipWith]
    refine ⟨by decide, fun a => ?_⟩
    refine ⟨fun m env => ∃ (st : List D) (c : En), env = [some (x, none), some (.lst st, some a), c] ∧ cntAll st = m ∧ m ≤ 100000 ∧ smAll st = true ∧ st.all isE = isE x, ⟨cntAll [x], [x], none, rfl, rfl, ?_, ?_, ?_⟩, ?_⟩
    · unfold cntAll cntAll
      omega
    · unfold smAll smAll
      rw [hs]
      rfl
    · rw [List.all_cons, List.all_nil, Bool.and_true]
    · rintro m env ⟨st, c, rfl, rfl, hm, hst, hall⟩
      simp (config := { maxSteps := 2000000 }) only [dMulA, dApp, dExt, dPop, dSetOwn, kb_NoneType_bool, kb_NoneType_int, kb_NoneType_str, kb_NoneType_tuple, kb_NoneType_list, kb_NoneType_dict, kb_bool_bool, kb_bool_int, kb_bool_str, kb_bool_tuple, kb_bool_list, kb_bool_dict, kb_int_bool, kb_int_int, kb_int_str, kb_int_tuple, kb_int_list, kb_int_dict, kb_str_bool, kb_str_int, kb_str_str, kb_str_tuple, kb_str_list, kb_str_dict, kb_tuple_bool, kb_tuple_int, kb_tuple_str, kb_tuple_tuple, kb_tuple_list, kb_tuple_dict, kb_list_bool, kb_list_int, kb_list_str, kb_list_tuple, kb_list_list, kb_list_dict, kb_dict_bool, kb_dict_int, kb_dict_str, kb_dict_tuple, kb_dict_list, kb_dict_dict, nx_non, nx_bl, nx_int, nx_str, nx_tup, nx_lst, nx_obj, nx_dct, implies_true, DL.isNon, Bool.not_true, Bool.not_false, beq_self_eq_true, Bool.false_beq, Bool.true_beq, bagD, atI_c0, atI_c1, atI_c2, atI_c3, atI_c4, atI_c5, ixN5_1, ixN5_2, ixN5_3, ixN5_4, ii_eqb, ss_eqb, bb_eqb, scl_ii, scl_ss, scl_bb, dExLen, dExAt, true_or, true_and, and_true, Nat.reduceAdd, startE, retK, takeK, dSeqS, dIfS, dNot, dAnd, dOr, dTest, dOp, dUn, dCallB, dVar, dVarQ, dC, dRet, dRetN, dSet, dNx, dDrop, dTr, dTruth, dIf, dAndV, dOrV, dNotV, dBl, dChain, dIsi, dIsiT, tyD, dCons, dNil, dTup, dLst, dCall, dAsg, dPar, dFor, dLc, dSeq, dRng1, dRng2, dZip, dgName, dgPair, dgTrip, dYes, dM1, dM0, dSl, dPart, dNoPart, dCut, dPut, ownL, dAdd, dI0, dIC, dIn, dNotIn, dIsN, dNotN, dEq, dNe, dIx, dLen, dAll, dAny, dListOf, dTupOf, dInt, dJoin, wipeE, itemsOf, List.map_cons, List.map_nil, List.length_cons, List.length_nil, List.replicate, List.cons_append, List.nil_append, List.set_cons_zero, List.set_cons_succ, List.getElem?_cons_zero, List.getElem?_cons_succ, List.zip_cons_cons, List.zip_nil_left, List.zip_nil_right, List.zip, List.zipWith]
      refine ⟨by decide, .inr (eqOk_nilL (by unfold D.pl; exact smAll_pl st hst)), ?_⟩
      by_cases h0 : st = []
      · subst h0
        rw [List.all_nil] at hall
        rw [← hall] at hp
        exact hp
      · obtain ⟨l, y, rfl⟩ := last_of st h0
        have e0 : (D.lst (l ++ [y])).eqb (D.lst []) = false := by
          cases l <;> rfl
        rw [e0, pop_at, pop_drop]
        have hy : sm y = true := smAll_mem hst y (by simp)
        have hl : ∀ d ∈ l, sm d = true := fun d hd => smAll_mem hst d (by simp [hd])
        rw [cntAll_app] at hm ⊢
        have ey : cntAll [y] = cnt y := by
          unfold cntAll cntAll
          rfl
        rw [ey] at hm ⊢
        rw [List.all_append, List.all_cons, List.all_nil, Bool.and_true, isE_eq y] at hall
        refine ⟨y, rfl, hy, ?_⟩
        cases ef : formB y with
        | false =>
          rw [ef, Bool.false_and, Bool.and_false] at hall
          rw [← hall] at hp
          exact hp
        | true =>
          have fk := formK_of ef
          have lt := fk.inner_lt
          have ln := len_cnt l
          have li := len_cnt (innerD y)
          refine ⟨y, rfl, fk, hy, by omega, cntAll (l ++ innerD y), ?_, l ++ innerD y, some (y, none), rfl, rfl, ?_, ?_, ?_⟩
          · rw [cntAll_app]
            omega
          · rw [cntAll_app]
            omega
          · refine smAll_of fun d hd => ?_
            rcases List.mem_append.mp hd with hd | hd
            · exact hl d hd
            · exact fk.inner_sm hy d hd
          · rw [List.all_append, ← hall, ef, Bool.true_and]
/-! ### the law's own helpers -/
def hsD (hs : List (Str × Nat)) : List D := hs.map fun p => .tup [.str p.1, .int p.2]
def wsD (ws : List Str) : List D := ws.map .str
theorem pl_wsD : ∀ ws : List Str, plAll (wsD ws) = true
  | [] => rfl
  | _ :: ws => pl_wsD ws
theorem pl_hsD : ∀ hs : List (Str × Nat), plAll (hsD hs) = true
  | [] => rfl
  | _ :: hs => pl_hsD hs
theorem eqb_nilL (d : D) (ds : List D) : (D.lst (d :: ds)).eqb (.lst []) = false := rfl
def FLeaf : Fn := fun ds P _ => ∃ ws : List Str, ds = [.ex 0, .lst (wsD ws)] ∧ ws.length ≤ 100 ∧ P (.tup [.str "top"]) ∧ P (.tup [.str "bead"]) ∧ ∀ w ∈ ws, P (.tup [.str "var", .str w])
theorem ok_leaf {b sa : Addr} (T : Txt K mg) (F : DefAt K mg "_law_my_leaf" s__law_my_leaf) (G__law_my_take : FnAt P w K mg base (bagW b sa) 2 "_law_my_take" FTake) (G__law_my_pick : FnAt P w K mg base (bagW b sa) 3 "_law_my_pick" FPick) : FnAt P w K mg base (bagW b sa) 4 "_law_my_leaf" FLeaf := by
  refine okF (k := 3) F sc__law_my_leaf (fun _ _ _ _ _ _ us hl => match us, hl with | [_, _], _ => rfl) (fun as Pd R h => ?_) (fun f cdv A outer s H E hr => (db_cons (ds_if (DW.t (dw_and (dt_cmp (op_ne.or (op_neP hr.units)) s_ne (dq_var 1) ((de_lst da_nil)).q (nomark _)) (dw_and1 (dt_cmp op_gt s_gt ((de_callF G__law_my_take (hr.mono (by first | decide | omega)) (takes_of rfl rfl rfl rfl) (da_cons (de_var 0) (da_cons de_int da_nil)))).q (de_int).q (nomark _))))) (db_one (ds_ret (de_tup (da_cons de_str (da_cons (de_callF G__law_my_pick (hr.mono (by first | decide | omega)) (takes_of rfl rfl rfl rfl) (da_cons (de_var 0) (da_cons (de_var 1) da_nil))) da_nil))))) db_nil) (db_one (ds_ret (de_callF G__law_my_pick (hr.mono (by first | decide | omega)) (takes_of rfl rfl rfl rfl) (da_cons (de_var 0) (da_cons (de_lst (da_cons (de_tup (da_cons de_str da_nil)) (da_cons (de_tup (da_cons de_str da_nil)) da_nil))) da_nil))))))) (fun as Pd R h => ?_)
  · obtain ⟨ws, rfl, _⟩ := h
    rfl
  · obtain ⟨ws, rfl, hl, p1, p2, p3⟩ := h
    have two : FPick [D.ex 0, D.lst [D.tup [D.str "top"], D.tup [D.str "bead"]]] Pd fun x => R x := by
      refine ⟨_, _, rfl, rfl, by decide, by decide, fun x hx => ?_⟩
      simp only [List.mem_cons, List.not_mem_nil, or_false] at hx
      rcases hx with rfl | rfl
      · exact p1
      · exact p2
    simp (config := { maxSteps := 2000000 }) only [dMulA, dApp, dExt, dPop, dSetOwn, kb_NoneType_bool, kb_NoneType_int, kb_NoneType_str, kb_NoneType_tuple, kb_NoneType_list, kb_NoneType_dict, kb_bool_bool, kb_bool_int, kb_bool_str, kb_bool_tuple, kb_bool_list, kb_bool_dict, kb_int_bool, kb_int_int, kb_int_str, kb_int_tuple, kb_int_list, kb_int_dict, kb_str_bool, kb_str_int, kb_str_str, kb_str_tuple, kb_str_list, kb_str_dict, kb_tuple_bool, kb_tuple_int, kb_tuple_str, kb_tuple_tuple, kb_tuple_list, kb_tuple_dict, kb_list_bool, kb_list_int, kb_list_str, kb_list_tuple, kb_list_list, kb_list_dict, kb_dict_bool, kb_dict_int, kb_dict_str, kb_dict_tuple, kb_dict_list, kb_dict_dict, nx_non, nx_bl, nx_int, nx_str, nx_tup, nx_lst, nx_obj, nx_dct, implies_true, DL.isNon, Bool.not_true, Bool.not_false, beq_self_eq_true, Bool.false_beq, Bool.true_beq, bagD, atI_c0, atI_c1, atI_c2, atI_c3, atI_c4, atI_c5, ixN5_1, ixN5_2, ixN5_3, ixN5_4, ii_eqb, ss_eqb, bb_eqb, scl_ii, scl_ss, scl_bb, dExLen, dExAt, true_or, true_and, and_true, Nat.reduceAdd, startE, retK, takeK, dSeqS, dIfS, dNot, dAnd, dOr, dTest, dOp, dUn, dCallB, dVar, dVarQ, dC, dRet, dRetN, dSet, dNx, dDrop, dTr, dTruth, dIf, dAndV, dOrV, dNotV, dBl, dChain, dIsi, dIsiT, tyD, dCons, dNil, dTup, dLst, dCall, dAsg, dPar, dFor, dLc, dSeq, dRng1, dRng2, dZip, dgName, dgPair, dgTrip, dYes, dM1, dM0, dSl, dPart, dNoPart, dCut, dPut, ownL, dAdd, dI0, dIC, dIn, dNotIn, dIsN, dNotN, dEq, dNe, dIx, dLen, dAll, dAny, dListOf, dTupOf, dInt, dJoin, wipeE, itemsOf, List.map_cons, List.map_nil, List.length_cons, List.length_nil, List.replicate, List.cons_append, List.nil_append, List.set_cons_zero, List.set_cons_succ, List.getElem?_cons_zero, List.getElem?_cons_succ, List.zip_cons_cons, List.zip_nil_left, List.zip_nil_right, List.zip, List.zipWith]
    refine ⟨by decide, .inr (eqOk_nilL (pl_wsD ws)), ?_⟩
    cases ws with
    | nil => exact ⟨by decide, by decide, by decide, two⟩
    | cons w0 ws =>
      have e : (D.lst (wsD (w0 :: ws))).eqb (.lst []) = false := rfl
      rw [e]
      refine ⟨4, rfl, by decide, by decide, fun r r0 r1 => ?_⟩
      simp (config := { maxSteps := 2000000 }) only [dMulA, dApp, dExt, dPop, dSetOwn, kb_NoneType_bool, kb_NoneType_int, kb_NoneType_str, kb_NoneType_tuple, kb_NoneType_list, kb_NoneType_dict, kb_bool_bool, kb_bool_int, kb_bool_str, kb_bool_tuple, kb_bool_list, kb_bool_dict, kb_int_bool, kb_int_int, kb_int_str, kb_int_tuple, kb_int_list, kb_int_dict, kb_str_bool, kb_str_int, kb_str_str, kb_str_tuple, kb_str_list, kb_str_dict, kb_tuple_bool, kb_tuple_int, kb_tuple_str, kb_tuple_tuple, kb_tuple_list, kb_tuple_dict, kb_list_bool, kb_list_int, kb_list_str, kb_list_tuple, kb_list_list, kb_list_dict, kb_dict_bool, kb_dict_int, kb_dict_str, kb_dict_tuple, kb_dict_list, kb_dict_dict, nx_non, nx_bl, nx_int, nx_str, nx_tup, nx_lst, nx_obj, nx_dct, implies_true, DL.isNon, Bool.not_true, Bool.not_false, beq_self_eq_true, Bool.false_beq, Bool.true_beq, bagD, atI_c0, atI_c1, atI_c2, atI_c3, atI_c4, atI_c5, ixN5_1, ixN5_2, ixN5_3, ixN5_4, ii_eqb, ss_eqb, bb_eqb, scl_ii, scl_ss, scl_bb, dExLen, dExAt, true_or, true_and, and_true, Nat.reduceAdd, startE, retK, takeK, dSeqS, dIfS, dNot, dAnd, dOr, dTest, dOp, dUn, dCallB, dVar, dVarQ, dC, dRet, dRetN, dSet, dNx, dDrop, dTr, dTruth, dIf, dAndV, dOrV, dNotV, dBl, dChain, dIsi, dIsiT, tyD, dCons, dNil, dTup, dLst, dCall, dAsg, dPar, dFor, dLc, dSeq, dRng1, dRng2, dZip, dgName, dgPair, dgTrip, dYes, dM1, dM0, dSl, dPart, dNoPart, dCut, dPut, ownL, dAdd, dI0, dIC, dIn, dNotIn, dIsN, dNotN, dEq, dNe, dIx, dLen, dAll, dAny, dListOf, dTupOf, dInt, dJoin, wipeE, itemsOf, List.map_cons, List.map_nil, List.length_cons, List.length_nil, List.replicate, List.cons_append, List.nil_append, List.set_cons_zero, List.set_cons_succ, List.getElem?_cons_zero, List.getElem?_cons_succ, List.zip_cons_cons, List.zip_nil_left, List.zip_nil_right, List.zip, List.zipWith]
      cases decide (0 < r) with
      | true =>
        have hl' : (wsD (w0 :: ws)).length ≤ 100 := by
          unfold wsD
          rw [List.length_map]
          exact hl
        refine ⟨_, wsD (w0 :: ws), rfl, rfl, Nat.succ_pos _, Nat.le_trans hl' (by decide), fun x hx => ?_⟩
        obtain ⟨w1, h1, rfl⟩ := List.mem_map.mp hx
        exact ⟨by decide, p3 w1 h1⟩
      | false => exact ⟨by decide, by decide, by decide, two⟩
def FAny (n : Nat) : Fn := fun ds P _ => ∃ (hs : List (Str × Nat)) (ws : List Str), ds = [.ex 0, .lst (hsD hs), .lst (wsD ws), .int n] ∧ hs.length ≤ 100 ∧ (∀ p ∈ hs, p.2 ≤ 100) ∧ ws.length ≤ 100 ∧ ∀ e, Ex hs ws n e → P e
theorem ok_any {b sa : Addr} (T : Txt K mg) (F : DefAt K mg "_law_my_any_one" s__law_my_any_one) (G__law_my_take : FnAt P w K mg base (bagW b sa) 2 "_law_my_take" FTake) (G__law_my_pick : FnAt P w K mg base (bagW b sa) 3 "_law_my_pick" FPick) (G__law_my_leaf : FnAt P w K mg base (bagW b sa) 4 "_law_my_leaf" FLeaf) : ∀ n, FnAt P w K mg base (bagW b sa) (n + 5) "_law_my_any_one" (FAny n)
  | 0 => by
    have G__law_my_any_one : FnAt P w K mg base (bagW b sa) 4 "_law_my_any_one" (fun _ _ _ => False) := fnAt_false F fun f fd F => ⟨["_law_bag", "_law_heads", "_law_words", "_law_deep"], F.bindsN (fun _ _ _ _ _ _ us hl => match us, hl with | [_, _, _, _], _ => rfl)⟩
    refine okF (k := 4) F sc__law_my_any_one (fun _ _ _ _ _ _ us hl => match us, hl with | [_, _, _, _], _ => rfl) (fun as Pd R h => ?_) (fun f cdv A outer s H E hr => (db_cons (ds_set 4 sc__law_my_any_one.nd (de_callF G__law_my_take (hr.mono (by first | decide | omega)) (takes_of rfl rfl rfl rfl) (da_cons (de_var 0) (da_cons de_int da_nil)))) (db_cons (ds_if (DW.t (dw_or (dt_cmp (op_eq.or (op_eqP hr.units)) s_eq (dq_var 3) (de_int).q (nomark _)) (dw_or (dt_cmp op_lt s_lt (dq_var 4) (de_int).q (nomark _)) (dw_or1 (DW.t (dw_and (dt_cmp (op_eq.or (op_eqP hr.units)) s_eq (dq_var 1) ((de_lst da_nil)).q (nomark _)) (dw_and1 (dt_cmp op_gt s_gt (dq_var 4) (de_int).q (nomark _))))))))) (db_one (ds_ret (de_callF G__law_my_leaf (hr.mono (by first | decide | omega)) (takes_of rfl rfl rfl rfl) (da_cons (de_var 0) (da_cons (de_var 2) da_nil))))) db_nil) (db_cons (ds_if (dt_cmp (op_eq.or (op_eqP hr.units)) s_eq (dq_var 4) (de_int).q (nomark _)) (db_one (ds_ret (de_tup (da_cons de_str (da_cons (de_callF G__law_my_any_one (hr.mono (by first | decide | omega)) (takes_of rfl rfl rfl rfl) (da_cons (de_var 0) (da_cons (de_var 1) (da_cons (de_var 2) (da_cons (de_op op_sub s_sub (dq_var 3) (de_int).q) da_nil))))) (da_cons (de_callF G__law_my_any_one (hr.mono (by first | decide | omega)) (takes_of rfl rfl rfl rfl) (da_cons (de_var 0) (da_cons (de_var 1) (da_cons (de_var 2) (da_cons (de_op op_sub s_sub (dq_var 3) (de_int).q) da_nil))))) da_nil)))))) db_nil) (db_cons (ds_asg (de_callF G__law_my_pick (hr.mono (by first | decide | omega)) (takes_of rfl rfl rfl rfl) (da_cons (de_var 0) (da_cons (de_var 1) da_nil))) (dg_pair 5 6 sc__law_my_any_one.nd)) (db_one (ds_ret (de_op op_addA s_add ((de_tup (da_cons de_str (da_cons (de_var 5) da_nil)))).q ((de_callTy call_tuple_of s_tuple T.b_tuple (daq_cons ((de_lc (own := [("_law_k", 7)]) sc__law_my_any_one.nd (di_range1 T.b_range (da_cons (de_var 6) da_nil)) (blkOk_by (own := [("_law_k", 7)]) (N := N__law_my_any_one) (sc := defScope s__law_my_any_one) (by decide +kernel)) (fun _ _ _ _ _ => dg_name 7 sc__law_my_any_one.nd) (fun _ _ _ _ _ => dts_nil) (fun _ _ _ _ _ => (de_callF G__law_my_any_one (hr.mono (by first | decide | omega)) L2.takes0 (da_cons (de_var 0) (da_cons (de_var 1) (da_cons (de_var 2) (da_cons (de_op op_sub s_sub (dq_var 3) (de_int).q) da_nil)))))))).q daq_nil))).q)))))))) (fun as Pd R h => ?_)
    · obtain ⟨hs, ws, rfl, _⟩ := h
      rfl
    · obtain ⟨hs, ws, rfl, h1, h2, h3, hp⟩ := h
      simp (config := { maxSteps := 2000000 }) only [dMulA, dApp, dExt, dPop, dSetOwn, kb_NoneType_bool, kb_NoneType_int, kb_NoneType_str, kb_NoneType_tuple, kb_NoneType_list, kb_NoneType_dict, kb_bool_bool, kb_bool_int, kb_bool_str, kb_bool_tuple, kb_bool_list, kb_bool_dict, kb_int_bool, kb_int_int, kb_int_str, kb_int_tuple, kb_int_list, kb_int_dict, kb_str_bool, kb_str_int, kb_str_str, kb_str_tuple, kb_str_list, kb_str_dict, kb_tuple_bool, kb_tuple_int, kb_tuple_str, kb_tuple_tuple, kb_tuple_list, kb_tuple_dict, kb_list_bool, kb_list_int, kb_list_str, kb_list_tuple, kb_list_list, kb_list_dict, kb_dict_bool, kb_dict_int, kb_dict_str, kb_dict_tuple, kb_dict_list, kb_dict_dict, nx_non, nx_bl, nx_int, nx_str, nx_tup, nx_lst, nx_obj, nx_dct, implies_true, DL.isNon, Bool.not_true, Bool.not_false, beq_self_eq_true, Bool.false_beq, Bool.true_beq, bagD, atI_c0, atI_c1, atI_c2, atI_c3, atI_c4, atI_c5, ixN5_1, ixN5_2, ixN5_3, ixN5_4, ii_eqb, ss_eqb, bb_eqb, scl_ii, scl_ss, scl_bb, dExLen, dExAt, true_or, true_and, and_true, Nat.reduceAdd, startE, retK, takeK, dSeqS, dIfS, dNot, dAnd, dOr, dTest, dOp, dUn, dCallB, dVar, dVarQ, dC, dRet, dRetN, dSet, dNx, dDrop, dTr, dTruth, dIf, dAndV, dOrV, dNotV, dBl, dChain, dIsi, dIsiT, tyD, dCons, dNil, dTup, dLst, dCall, dAsg, dPar, dFor, dLc, dSeq, dRng1, dRng2, dZip, dgName, dgPair, dgTrip, dYes, dM1, dM0, dSl, dPart, dNoPart, dCut, dPut, ownL, dAdd, dI0, dIC, dIn, dNotIn, dIsN, dNotN, dEq, dNe, dIx, dLen, dAll, dAny, dListOf, dTupOf, dInt, dJoin, wipeE, itemsOf, List.map_cons, List.map_nil, List.length_cons, List.length_nil, List.replicate, List.cons_append, List.nil_append, List.set_cons_zero, List.set_cons_succ, List.getElem?_cons_zero, List.getElem?_cons_succ, List.zip_cons_cons, List.zip_nil_left, List.zip_nil_right, List.zip, List.zipWith]
      refine ⟨7, rfl, by decide, by decide, fun r r0 r1 => ?_⟩
      exact ⟨ws, rfl, h3, hp _ .top, hp _ .bead, fun w hw => hp _ (.var hw)⟩
  | n + 1 => by
    have G__law_my_any_one : FnAt P w K mg base (bagW b sa) (n + 5) "_law_my_any_one" (FAny n) := ok_any T F G__law_my_take G__law_my_pick G__law_my_leaf n
    refine okF (k := n + 5) F sc__law_my_any_one (fun _ _ _ _ _ _ us hl => match us, hl with | [_, _, _, _], _ => rfl) (fun as Pd R h => ?_) (fun f cdv A outer s H E hr => (db_cons (ds_set 4 sc__law_my_any_one.nd (de_callF G__law_my_take (hr.mono (by first | decide | omega)) (takes_of rfl rfl rfl rfl) (da_cons (de_var 0) (da_cons de_int da_nil)))) (db_cons (ds_if (DW.t (dw_or (dt_cmp (op_eq.or (op_eqP hr.units)) s_eq (dq_var 3) (de_int).q (nomark _)) (dw_or (dt_cmp op_lt s_lt (dq_var 4) (de_int).q (nomark _)) (dw_or1 (DW.t (dw_and (dt_cmp (op_eq.or (op_eqP hr.units)) s_eq (dq_var 1) ((de_lst da_nil)).q (nomark _)) (dw_and1 (dt_cmp op_gt s_gt (dq_var 4) (de_int).q (nomark _))))))))) (db_one (ds_ret (de_callF G__law_my_leaf (hr.mono (by first | decide | omega)) (takes_of rfl rfl rfl rfl) (da_cons (de_var 0) (da_cons (de_var 2) da_nil))))) db_nil) (db_cons (ds_if (dt_cmp (op_eq.or (op_eqP hr.units)) s_eq (dq_var 4) (de_int).q (nomark _)) (db_one (ds_ret (de_tup (da_cons de_str (da_cons (de_callF G__law_my_any_one (hr.mono (by first | decide | omega)) (takes_of rfl rfl rfl rfl) (da_cons (de_var 0) (da_cons (de_var 1) (da_cons (de_var 2) (da_cons (de_op op_sub s_sub (dq_var 3) (de_int).q) da_nil))))) (da_cons (de_callF G__law_my_any_one (hr.mono (by first | decide | omega)) (takes_of rfl rfl rfl rfl) (da_cons (de_var 0) (da_cons (de_var 1) (da_cons (de_var 2) (da_cons (de_op op_sub s_sub (dq_var 3) (de_int).q) da_nil))))) da_nil)))))) db_nil) (db_cons (ds_asg (de_callF G__law_my_pick (hr.mono (by first | decide | omega)) (takes_of rfl rfl rfl rfl) (da_cons (de_var 0) (da_cons (de_var 1) da_nil))) (dg_pair 5 6 sc__law_my_any_one.nd)) (db_one (ds_ret (de_op op_addA s_add ((de_tup (da_cons de_str (da_cons (de_var 5) da_nil)))).q ((de_callTy call_tuple_of s_tuple T.b_tuple (daq_cons ((de_lc (own := [("_law_k", 7)]) sc__law_my_any_one.nd (di_range1 T.b_range (da_cons (de_var 6) da_nil)) (blkOk_by (own := [("_law_k", 7)]) (N := N__law_my_any_one) (sc := defScope s__law_my_any_one) (by decide +kernel)) (fun _ _ _ _ _ => dg_name 7 sc__law_my_any_one.nd) (fun _ _ _ _ _ => dts_nil) (fun _ _ _ _ _ => (de_callF G__law_my_any_one (hr.mono (by first | decide | omega)) L2.takes0 (da_cons (de_var 0) (da_cons (de_var 1) (da_cons (de_var 2) (da_cons (de_op op_sub s_sub (dq_var 3) (de_int).q) da_nil)))))))).q daq_nil))).q)))))))) (fun as Pd R h => ?_)
    · obtain ⟨hs, ws, rfl, _⟩ := h
      rfl
    · obtain ⟨hs, ws, rfl, h1, h2, h3, hp⟩ := h
      have leaf : ∀ R : XD → Prop, FLeaf [D.ex 0, D.lst (wsD ws)] Pd R := fun R => ⟨ws, rfl, h3, hp _ .top, hp _ .bead, fun w hw => hp _ (.var hw)⟩
      have e1 : ((n + 1 : Nat) : Int) - 1 = (n : Int) := by omega
      have e0 : ((((n + 1 : Nat) : Int)) == 0) = false := by
        simp
        omega
      have call : ∀ (Q : D → Prop) (R : XD → Prop), (∀ e, Ex hs ws n e → Q e) → FAny n [D.ex 0, D.lst (hsD hs), D.lst (wsD ws), D.int (((n + 1 : Nat) : Int) - 1)] Q R := fun Q R hq => ⟨hs, ws, by rw [e1], h1, h2, h3, hq⟩
      simp (config := { maxSteps := 2000000 }) only [dMulA, dApp, dExt, dPop, dSetOwn, kb_NoneType_bool, kb_NoneType_int, kb_NoneType_str, kb_NoneType_tuple, kb_NoneType_list, kb_NoneType_dict, kb_bool_bool, kb_bool_int, kb_bool_str, kb_bool_tuple, kb_bool_list, kb_bool_dict, kb_int_bool, kb_int_int, kb_int_str, kb_int_tuple, kb_int_list, kb_int_dict, kb_str_bool, kb_str_int, kb_str_str, kb_str_tuple, kb_str_list, kb_str_dict, kb_tuple_bool, kb_tuple_int, kb_tuple_str, kb_tuple_tuple, kb_tuple_list, kb_tuple_dict, kb_list_bool, kb_list_int, kb_list_str, kb_list_tuple, kb_list_list, kb_list_dict, kb_dict_bool, kb_dict_int, kb_dict_str, kb_dict_tuple, kb_dict_list, kb_dict_dict, nx_non, nx_bl, nx_int, nx_str, nx_tup, nx_lst, nx_obj, nx_dct, implies_true, DL.isNon, Bool.not_true, Bool.not_false, beq_self_eq_true, Bool.false_beq, Bool.true_beq, bagD, atI_c0, atI_c1, atI_c2, atI_c3, atI_c4, atI_c5, ixN5_1, ixN5_2, ixN5_3, ixN5_4, ii_eqb, ss_eqb, bb_eqb, scl_ii, scl_ss, scl_bb, dExLen, dExAt, true_or, true_and, and_true, Nat.reduceAdd, startE, retK, takeK, dSeqS, dIfS, dNot, dAnd, dOr, dTest, dOp, dUn, dCallB, dVar, dVarQ, dC, dRet, dRetN, dSet, dNx, dDrop, dTr, dTruth, dIf, dAndV, dOrV, dNotV, dBl, dChain, dIsi, dIsiT, tyD, dCons, dNil, dTup, dLst, dCall, dAsg, dPar, dFor, dLc, dSeq, dRng1, dRng2, dZip, dgName, dgPair, dgTrip, dYes, dM1, dM0, dSl, dPart, dNoPart, dCut, dPut, ownL, dAdd, dI0, dIC, dIn, dNotIn, dIsN, dNotN, dEq, dNe, dIx, dLen, dAll, dAny, dListOf, dTupOf, dInt, dJoin, wipeE, itemsOf, List.map_cons, List.map_nil, List.length_cons, List.length_nil, List.replicate, List.cons_append, List.nil_append, List.set_cons_zero, List.set_cons_succ, List.getElem?_cons_zero, List.getElem?_cons_succ, List.zip_cons_cons, List.zip_nil_left, List.zip_nil_right, List.zip, List.zipWith]
      rw [e0]
      refine ⟨7, rfl, by decide, by decide, fun r r0 r1 => ?_⟩
      simp (config := { maxSteps := 2000000 }) only [dMulA, dApp, dExt, dPop, dSetOwn, kb_NoneType_bool, kb_NoneType_int, kb_NoneType_str, kb_NoneType_tuple, kb_NoneType_list, kb_NoneType_dict, kb_bool_bool, kb_bool_int, kb_bool_str, kb_bool_tuple, kb_bool_list, kb_bool_dict, kb_int_bool, kb_int_int, kb_int_str, kb_int_tuple, kb_int_list, kb_int_dict, kb_str_bool, kb_str_int, kb_str_str, kb_str_tuple, kb_str_list, kb_str_dict, kb_tuple_bool, kb_tuple_int, kb_tuple_str, kb_tuple_tuple, kb_tuple_list, kb_tuple_dict, kb_list_bool, kb_list_int, kb_list_str, kb_list_tuple, kb_list_list, kb_list_dict, kb_dict_bool, kb_dict_int, kb_dict_str, kb_dict_tuple, kb_dict_list, kb_dict_dict, nx_non, nx_bl, nx_int, nx_str, nx_tup, nx_lst, nx_obj, nx_dct, implies_true, DL.isNon, Bool.not_true, Bool.not_false, beq_self_eq_true, Bool.false_beq, Bool.true_beq, bagD, atI_c0, atI_c1, atI_c2, atI_c3, atI_c4, atI_c5, ixN5_1, ixN5_2, ixN5_3, ixN5_4, ii_eqb, ss_eqb, bb_eqb, scl_ii, scl_ss, scl_bb, dExLen, dExAt, true_or, true_and, and_true, Nat.reduceAdd, startE, retK, takeK, dSeqS, dIfS, dNot, dAnd, dOr, dTest, dOp, dUn, dCallB, dVar, dVarQ, dC, dRet, dRetN, dSet, dNx, dDrop, dTr, dTruth, dIf, dAndV, dOrV, dNotV, dBl, dChain, dIsi, dIsiT, tyD, dCons, dNil, dTup, dLst, dCall, dAsg, dPar, dFor, dLc, dSeq, dRng1, dRng2, dZip, dgName, dgPair, dgTrip, dYes, dM1, dM0, dSl, dPart, dNoPart, dCut, dPut, ownL, dAdd, dI0, dIC, dIn, dNotIn, dIsN, dNotN, dEq, dNe, dIx, dLen, dAll, dAny, dListOf, dTupOf, dInt, dJoin, wipeE, itemsOf, List.map_cons, List.map_nil, List.length_cons, List.length_nil, List.replicate, List.cons_append, List.nil_append, List.set_cons_zero, List.set_cons_succ, List.getElem?_cons_zero, List.getElem?_cons_succ, List.zip_cons_cons, List.zip_nil_left, List.zip_nil_right, List.zip, List.zipWith]
      by_cases hr3 : r < 3
      · rw [decide_eq_true hr3]
        exact leaf _
      · rw [decide_eq_false hr3]
        refine ⟨by decide, .inr (eqOk_nilL (pl_hsD hs)), ?_⟩
        have fn3 : FAny n [D.ex 0, D.lst (hsD hs), D.lst (wsD ws), D.int (((n + 1 : Nat) : Int) - 1)] (fun d => FAny n [D.ex 0, D.lst (hsD hs), D.lst (wsD ws), D.int (((n + 1 : Nat) : Int) - 1)] (fun d_2 => 3 ≤ 100000 ∧ Pd (D.tup [D.str "fun", d, d_2])) fun x => R x) fun x => R x :=
          call _ _ fun e he => call _ _ fun e2 he2 => ⟨by decide, hp _ (.fn he he2)⟩
        cases hs with
        | nil =>
          show (match decide (3 < r) with
            | true => _
            | false => _)
          by_cases h3r : 3 < r
          · rw [decide_eq_true h3r]
            exact leaf _
          · rw [decide_eq_false h3r]
            have hr : r = 3 := by omega
            subst hr
            exact fn3
        | cons p0 hs =>
          have e2 : (D.lst (hsD (p0 :: hs))).eqb (.lst []) = false := rfl
          rw [e2]
          cases r == 3 with
          | true => exact fn3
          | false =>
            have hl' : (hsD (p0 :: hs)).length ≤ 100 := by
              unfold hsD
              rw [List.length_map]
              exact h1
            refine ⟨_, hsD (p0 :: hs), rfl, rfl, Nat.succ_pos _, Nat.le_trans hl' (by decide), fun x hx => ?_⟩
            obtain ⟨⟨h, m⟩, hm, rfl⟩ := List.mem_map.mp hx
            have hm1 := h2 _ hm
            have hm2 : m ≤ 100 := hm1
            refine ⟨by decide, by omega, by omega, goLc_all (fun e => Ex (p0 :: hs) ws n e) _ [] (fun x hx Q hQ => ?_) (fun y hy => nomatch hy) fun ys hl hy => ?_⟩
            · simp (config := { maxSteps := 2000000 }) only [dMulA, dApp, dExt, dPop, dSetOwn, kb_NoneType_bool, kb_NoneType_int, kb_NoneType_str, kb_NoneType_tuple, kb_NoneType_list, kb_NoneType_dict, kb_bool_bool, kb_bool_int, kb_bool_str, kb_bool_tuple, kb_bool_list, kb_bool_dict, kb_int_bool, kb_int_int, kb_int_str, kb_int_tuple, kb_int_list, kb_int_dict, kb_str_bool, kb_str_int, kb_str_str, kb_str_tuple, kb_str_list, kb_str_dict, kb_tuple_bool, kb_tuple_int, kb_tuple_str, kb_tuple_tuple, kb_tuple_list, kb_tuple_dict, kb_list_bool, kb_list_int, kb_list_str, kb_list_tuple, kb_list_list, kb_list_dict, kb_dict_bool, kb_dict_int, kb_dict_str, kb_dict_tuple, kb_dict_list, kb_dict_dict, nx_non, nx_bl, nx_int, nx_str, nx_tup, nx_lst, nx_obj, nx_dct, implies_true, DL.isNon, Bool.not_true, Bool.not_false, beq_self_eq_true, Bool.false_beq, Bool.true_beq, bagD, atI_c0, atI_c1, atI_c2, atI_c3, atI_c4, atI_c5, ixN5_1, ixN5_2, ixN5_3, ixN5_4, ii_eqb, ss_eqb, bb_eqb, scl_ii, scl_ss, scl_bb, dExLen, dExAt, true_or, true_and, and_true, Nat.reduceAdd, startE, retK, takeK, dSeqS, dIfS, dNot, dAnd, dOr, dTest, dOp, dUn, dCallB, dVar, dVarQ, dC, dRet, dRetN, dSet, dNx, dDrop, dTr, dTruth, dIf, dAndV, dOrV, dNotV, dBl, dChain, dIsi, dIsiT, tyD, dCons, dNil, dTup, dLst, dCall, dAsg, dPar, dFor, dLc, dSeq, dRng1, dRng2, dZip, dgName, dgPair, dgTrip, dYes, dM1, dM0, dSl, dPart, dNoPart, dCut, dPut, ownL, dAdd, dI0, dIC, dIn, dNotIn, dIsN, dNotN, dEq, dNe, dIx, dLen, dAll, dAny, dListOf, dTupOf, dInt, dJoin, wipeE, itemsOf, List.map_cons, List.map_nil, List.length_cons, List.length_nil, List.replicate, List.cons_append, List.nil_append, List.set_cons_zero, List.set_cons_succ, List.getElem?_cons_zero, List.getElem?_cons_succ, List.zip_cons_cons, List.zip_nil_left, List.zip_nil_right, List.zip, List.zipWith]
              exact call _ _ fun e he => hQ e he
            · have hl2 : ys.length = m := by
                rw [hl]
                simp
              have big : 102 ≤ sizeLine := by decide
              refine ⟨by omega, hp _ (.of ?_ hy)⟩
              rw [hl2]
              exact hm
/-! ### parts by paths -/
inductive Kid : D → Nat → D → Prop
  | f1 (a b : D) : Kid (.tup [.str "fun", a, b]) 1 a
  | f2 (a b : D) : Kid (.tup [.str "fun", a, b]) 2 b
  | of (h : D) (xs : List D) (i : Nat) (y : D) : xs[i]? = some y → Kid (.tup (.str "of" :: h :: xs)) (i + 2) y
inductive PathIn : D → List Nat → Prop
  | nil (x : D) : PathIn x []
  | cons {x y : D} {i : Nat} {q : List Nat} : Kid x i y → PathIn y q → PathIn x (i :: q)
def pathD (q : List Nat) : D := .tup (q.map fun (i : Nat) => D.int (i : Int))
theorem pathD_snoc (p : List Nat) (i : Nat) : D.tup ((p.map fun (i : Nat) => D.int (i : Int)) ++ [.int (i : Int)]) = pathD (p ++ [i]) := by
  unfold pathD
  rw [List.map_append]
  rfl
theorem ok_my_inner {W : Wd} (T : Txt K mg) (F : DefAt K mg "_law_my_inner" s__law_my_inner) : FnAt P w K mg base W 1 "_law_my_inner" FInner := by
  refine okF (k := 0) F sc__law_my_inner (fun _ _ _ _ _ _ us hl => match us, hl with | [_], _ => rfl) (fun as Pd R h => ?_) (fun f cdv A outer s H E hr => (db_one (ds_ret (de_if (dt_cmp (op_eq.or (op_eqP hr.units)) s_eq ((de_ix (dq_var 0) (de_int).q)).q (de_str).q (nomark _)) (de_callTy call_list_of s_list T.b_list (daq_cons ((de_sl (dq_var 0) (do_some de_int) do_none)).q daq_nil)) (de_if (dt_cmp (op_eq.or (op_eqP hr.units)) s_eq ((de_ix (dq_var 0) (de_int).q)).q (de_str).q (nomark _)) (de_callTy call_list_of s_list T.b_list (daq_cons ((de_sl (dq_var 0) (do_some de_int) do_none)).q daq_nil)) (de_lst da_nil)))))) (fun as Pd R h => ?_)
  · obtain ⟨x, rfl, _⟩ := h
    rfl
  · obtain ⟨x, rfl, hf, hs, hp⟩ := h
    cases hf with
    | fn a b =>
      simp (config := { maxSteps := 2000000 }) only [dMulA, dApp, dExt, dPop, dSetOwn, kb_NoneType_bool, kb_NoneType_int, kb_NoneType_str, kb_NoneType_tuple, kb_NoneType_list, kb_NoneType_dict, kb_bool_bool, kb_bool_int, kb_bool_str, kb_bool_tuple, kb_bool_list, kb_bool_dict, kb_int_bool, kb_int_int, kb_int_str, kb_int_tuple, kb_int_list, kb_int_dict, kb_str_bool, kb_str_int, kb_str_str, kb_str_tuple, kb_str_list, kb_str_dict, kb_tuple_bool, kb_tuple_int, kb_tuple_str, kb_tuple_tuple, kb_tuple_list, kb_tuple_dict, kb_list_bool, kb_list_int, kb_list_str, kb_list_tuple, kb_list_list, kb_list_dict, kb_dict_bool, kb_dict_int, kb_dict_str, kb_dict_tuple, kb_dict_list, kb_dict_dict, nx_non, nx_bl, nx_int, nx_str, nx_tup, nx_lst, nx_obj, nx_dct, implies_true, DL.isNon, Bool.not_true, Bool.not_false, beq_self_eq_true, Bool.false_beq, Bool.true_beq, bagD, atI_c0, atI_c1, atI_c2, atI_c3, atI_c4, atI_c5, ixN5_1, ixN5_2, ixN5_3, ixN5_4, ii_eqb, ss_eqb, bb_eqb, scl_ii, scl_ss, scl_bb, dExLen, dExAt, true_or, true_and, and_true, Nat.reduceAdd, startE, retK, takeK, dSeqS, dIfS, dNot, dAnd, dOr, dTest, dOp, dUn, dCallB, dVar, dVarQ, dC, dRet, dRetN, dSet, dNx, dDrop, dTr, dTruth, dIf, dAndV, dOrV, dNotV, dBl, dChain, dIsi, dIsiT, tyD, dCons, dNil, dTup, dLst, dCall, dAsg, dPar, dFor, dLc, dSeq, dRng1, dRng2, dZip, dgName, dgPair, dgTrip, dYes, dM1, dM0, dSl, dPart, dNoPart, dCut, dPut, ownL, dAdd, dI0, dIC, dIn, dNotIn, dIsN, dNotN, dEq, dNe, dIx, dLen, dAll, dAny, dListOf, dTupOf, dInt, dJoin, wipeE, itemsOf, List.map_cons, List.map_nil, List.length_cons, List.length_nil, List.replicate, List.cons_append, List.nil_append, List.set_cons_zero, List.set_cons_succ, List.getElem?_cons_zero, List.getElem?_cons_succ, List.zip_cons_cons, List.zip_nil_left, List.zip_nil_right, List.zip, List.zipWith]
      show Pd (.lst (cutG (D.str "fun" :: [a, b]) (some 1) none))
      rw [cutG_1]
      exact hp
    | of wd r hw =>
      simp (config := { maxSteps := 2000000 }) only [dMulA, dApp, dExt, dPop, dSetOwn, kb_NoneType_bool, kb_NoneType_int, kb_NoneType_str, kb_NoneType_tuple, kb_NoneType_list, kb_NoneType_dict, kb_bool_bool, kb_bool_int, kb_bool_str, kb_bool_tuple, kb_bool_list, kb_bool_dict, kb_int_bool, kb_int_int, kb_int_str, kb_int_tuple, kb_int_list, kb_int_dict, kb_str_bool, kb_str_int, kb_str_str, kb_str_tuple, kb_str_list, kb_str_dict, kb_tuple_bool, kb_tuple_int, kb_tuple_str, kb_tuple_tuple, kb_tuple_list, kb_tuple_dict, kb_list_bool, kb_list_int, kb_list_str, kb_list_tuple, kb_list_list, kb_list_dict, kb_dict_bool, kb_dict_int, kb_dict_str, kb_dict_tuple, kb_dict_list, kb_dict_dict, nx_non, nx_bl, nx_int, nx_str, nx_tup, nx_lst, nx_obj, nx_dct, implies_true, DL.isNon, Bool.not_true, Bool.not_false, beq_self_eq_true, Bool.false_beq, Bool.true_beq, bagD, atI_c0, atI_c1, atI_c2, atI_c3, atI_c4, atI_c5, ixN5_1, ixN5_2, ixN5_3, ixN5_4, ii_eqb, ss_eqb, bb_eqb, scl_ii, scl_ss, scl_bb, dExLen, dExAt, true_or, true_and, and_true, Nat.reduceAdd, startE, retK, takeK, dSeqS, dIfS, dNot, dAnd, dOr, dTest, dOp, dUn, dCallB, dVar, dVarQ, dC, dRet, dRetN, dSet, dNx, dDrop, dTr, dTruth, dIf, dAndV, dOrV, dNotV, dBl, dChain, dIsi, dIsiT, tyD, dCons, dNil, dTup, dLst, dCall, dAsg, dPar, dFor, dLc, dSeq, dRng1, dRng2, dZip, dgName, dgPair, dgTrip, dYes, dM1, dM0, dSl, dPart, dNoPart, dCut, dPut, ownL, dAdd, dI0, dIC, dIn, dNotIn, dIsN, dNotN, dEq, dNe, dIx, dLen, dAll, dAny, dListOf, dTupOf, dInt, dJoin, wipeE, itemsOf, List.map_cons, List.map_nil, List.length_cons, List.length_nil, List.replicate, List.cons_append, List.nil_append, List.set_cons_zero, List.set_cons_succ, List.getElem?_cons_zero, List.getElem?_cons_succ, List.zip_cons_cons, List.zip_nil_left, List.zip_nil_right, List.zip, List.zipWith]
      show Pd (.lst (cutG (D.str "of" :: wd :: r) (some 2) none))
      rw [cutG_2]
      exact hp
    | _ =>
      simp (config := { maxSteps := 2000000 }) only [dMulA, dApp, dExt, dPop, dSetOwn, kb_NoneType_bool, kb_NoneType_int, kb_NoneType_str, kb_NoneType_tuple, kb_NoneType_list, kb_NoneType_dict, kb_bool_bool, kb_bool_int, kb_bool_str, kb_bool_tuple, kb_bool_list, kb_bool_dict, kb_int_bool, kb_int_int, kb_int_str, kb_int_tuple, kb_int_list, kb_int_dict, kb_str_bool, kb_str_int, kb_str_str, kb_str_tuple, kb_str_list, kb_str_dict, kb_tuple_bool, kb_tuple_int, kb_tuple_str, kb_tuple_tuple, kb_tuple_list, kb_tuple_dict, kb_list_bool, kb_list_int, kb_list_str, kb_list_tuple, kb_list_list, kb_list_dict, kb_dict_bool, kb_dict_int, kb_dict_str, kb_dict_tuple, kb_dict_list, kb_dict_dict, nx_non, nx_bl, nx_int, nx_str, nx_tup, nx_lst, nx_obj, nx_dct, implies_true, DL.isNon, Bool.not_true, Bool.not_false, beq_self_eq_true, Bool.false_beq, Bool.true_beq, bagD, atI_c0, atI_c1, atI_c2, atI_c3, atI_c4, atI_c5, ixN5_1, ixN5_2, ixN5_3, ixN5_4, ii_eqb, ss_eqb, bb_eqb, scl_ii, scl_ss, scl_bb, dExLen, dExAt, true_or, true_and, and_true, Nat.reduceAdd, startE, retK, takeK, dSeqS, dIfS, dNot, dAnd, dOr, dTest, dOp, dUn, dCallB, dVar, dVarQ, dC, dRet, dRetN, dSet, dNx, dDrop, dTr, dTruth, dIf, dAndV, dOrV, dNotV, dBl, dChain, dIsi, dIsiT, tyD, dCons, dNil, dTup, dLst, dCall, dAsg, dPar, dFor, dLc, dSeq, dRng1, dRng2, dZip, dgName, dgPair, dgTrip, dYes, dM1, dM0, dSl, dPart, dNoPart, dCut, dPut, ownL, dAdd, dI0, dIC, dIn, dNotIn, dIsN, dNotN, dEq, dNe, dIx, dLen, dAll, dAny, dListOf, dTupOf, dInt, dJoin, wipeE, itemsOf, List.map_cons, List.map_nil, List.length_cons, List.length_nil, List.replicate, List.cons_append, List.nil_append, List.set_cons_zero, List.set_cons_succ, List.getElem?_cons_zero, List.getElem?_cons_succ, List.zip_cons_cons, List.zip_nil_left, List.zip_nil_right, List.zip, List.zipWith]
      exact ⟨by decide, hp⟩
theorem FormK.kids {x : D} (fk : FormK x) : ∃ its h, x = .tup its ∧ atI its 0 = some (.str h) ∧ (((h == "of") = true ∧ ∀ i y, (innerD x)[i]? = some y → its[i + 2]? = some y ∧ Kid x (i + 2) y) ∨
    ((h == "of") = false ∧ ∀ i y, (innerD x)[i]? = some y → its[i + 1]? = some y ∧ Kid x (i + 1) y)) := by
  cases fk with
  | fn a b =>
    refine ⟨_, _, rfl, atI_c0, .inr ⟨rfl, fun i y hi => ⟨hi, ?_⟩⟩⟩
    match i, hi with
    | 0, hi => cases hi; exact .f1 a b
    | 1, hi => cases hi; exact .f2 a b
  | of w r hw => exact ⟨_, _, rfl, atI_c0, .inl ⟨rfl, fun i y hi => ⟨hi, .of w r i y hi⟩⟩⟩
  | _ => exact ⟨_, _, rfl, atI_c0, .inr ⟨rfl, fun i y hi => nomatch hi⟩⟩
/-- the paths of a part, from a path on -/
def FPaths (n : Nat) : Fn := fun ds P _ => ∃ (x : D) (p : List Nat), ds = [x, pathD p] ∧ isE x = true ∧ sm x = true ∧ cnt x ≤ n ∧ cnt x ≤ 1000 ∧ p.length + cnt x ≤ 2000 ∧
  ∀ L : List (List Nat), 0 < L.length → L.length ≤ cnt x → (∀ q ∈ L, ∃ r, q = p ++ r ∧ PathIn x r) → P (.lst (L.map pathD))
theorem ok_paths {W : Wd} (T : Txt K mg) (F : DefAt K mg "_law_my_paths" s__law_my_paths) (G__law_my_inner : FnAt P w K mg base W 1 "_law_my_inner" FInner) : ∀ n, FnAt P w K mg base W (n + 2) "_law_my_paths" (FPaths n)
  | 0 => (fnAt_false F fun f fd F => ⟨["_law_one", "_law_path"], F.bindsN (fun _ _ _ _ _ _ us hl => match us, hl with | [_, _], _ => rfl)⟩).imp fun as Pd R h => by
    obtain ⟨x, p, _, _, _, h, _⟩ := h
    have := cnt_pos x
    omega
  | n + 1 => by
    have G__law_my_paths : FnAt P w K mg base W (n + 2) "_law_my_paths" (FPaths n) := ok_paths T F G__law_my_inner n
    refine okF (k := n + 2) F sc__law_my_paths (fun _ _ _ _ _ _ us hl => match us, hl with | [_, _], _ => rfl) (fun as Pd R h => ?_) (fun f cdv A outer s H E hr => (db_cons (ds_par 3 4 sc__law_my_paths.nd (da_cons (de_lst (da_cons (de_var 1) da_nil)) (da_cons (de_if (dt_cmp (op_eq.or (op_eqP hr.units)) s_eq ((de_ix (dq_var 0) (de_int).q)).q (de_str).q (nomark _)) de_int de_int) da_nil))) (db_cons (ds_for (di_range1 T.b_range (da_cons (de_callB call_lenA s_len T.b_len (daq_cons ((de_callF G__law_my_inner (hr.mono (by first | decide | omega)) (takes_of rfl rfl rfl rfl) (da_cons (de_var 0) da_nil))).q daq_nil)) da_nil)) (dg_name 2 sc__law_my_paths.nd) (db_one (ds_set 3 sc__law_my_paths.nd (de_op op_addA s_add (dq_var 3) ((de_callF G__law_my_paths (hr.mono (by first | decide | omega)) (takes_of rfl rfl rfl rfl) (da_cons (de_ix (dq_var 0) ((de_op op_addA s_add (dq_var 4) (dq_var 2))).q) (da_cons (de_op op_addA s_add (dq_var 1) ((de_tup (da_cons (de_op op_addA s_add (dq_var 4) (dq_var 2)) da_nil))).q) da_nil)))).q))) (passes_of rfl)) (db_one (ds_ret (de_var 3)))))) (fun as Pd R h => ?_)
    · obtain ⟨x, p, rfl, _⟩ := h
      rfl
    · obtain ⟨x, p, rfl, hE, hs, hc, hc2, hpl, hp⟩ := h
      have hE' := hE
      rw [isE_eq] at hE'
      obtain ⟨hF, hkE⟩ := Bool.and_eq_true_iff.mp hE'
      have fk := formK_of hF
      have lt := fk.inner_lt
      have hkS := fk.inner_sm hs
      have ln := len_cnt (innerD x)
      have hTake : ∀ k, cntAll ((innerD x).take k) ≤ cntAll (innerD x) := fun k => by
        have e10 := congrArg cntAll (List.take_append_drop k (innerD x))
        rw [cntAll_app] at e10
        omega
      obtain ⟨its, h, hx, h0, hor⟩ := fk.kids
      rw [hx]
      simp (config := { maxSteps := 2000000 }) only [dMulA, dApp, dExt, dPop, dSetOwn, kb_NoneType_bool, kb_NoneType_int, kb_NoneType_str, kb_NoneType_tuple, kb_NoneType_list, kb_NoneType_dict, kb_bool_bool, kb_bool_int, kb_bool_str, kb_bool_tuple, kb_bool_list, kb_bool_dict, kb_int_bool, kb_int_int, kb_int_str, kb_int_tuple, kb_int_list, kb_int_dict, kb_str_bool, kb_str_int, kb_str_str, kb_str_tuple, kb_str_list, kb_str_dict, kb_tuple_bool, kb_tuple_int, kb_tuple_str, kb_tuple_tuple, kb_tuple_list, kb_tuple_dict, kb_list_bool, kb_list_int, kb_list_str, kb_list_tuple, kb_list_list, kb_list_dict, kb_dict_bool, kb_dict_int, kb_dict_str, kb_dict_tuple, kb_dict_list, kb_dict_dict, nx_non, nx_bl, nx_int, nx_str, nx_tup, nx_lst, nx_obj, nx_dct, implies_true, DL.isNon, Bool.not_true, Bool.not_false, beq_self_eq_true, Bool.false_beq, Bool.true_beq, bagD, atI_c0, atI_c1, atI_c2, atI_c3, atI_c4, atI_c5, ixN5_1, ixN5_2, ixN5_3, ixN5_4, ii_eqb, ss_eqb, bb_eqb, scl_ii, scl_ss, scl_bb, dExLen, dExAt, true_or, true_and, and_true, Nat.reduceAdd, startE, retK, takeK, dSeqS, dIfS, dNot, dAnd, dOr, dTest, dOp, dUn, dCallB, dVar, dVarQ, dC, dRet, dRetN, dSet, dNx, dDrop, dTr, dTruth, dIf, dAndV, dOrV, dNotV, dBl, dChain, dIsi, dIsiT, tyD, dCons, dNil, dTup, dLst, dCall, dAsg, dPar, dFor, dLc, dSeq, dRng1, dRng2, dZip, dgName, dgPair, dgTrip, dYes, dM1, dM0, dSl, dPart, dNoPart, dCut, dPut, ownL, dAdd, dI0, dIC, dIn, dNotIn, dIsN, dNotN, dEq, dNe, dIx, dLen, dAll, dAny, dListOf, dTupOf, dInt, dJoin, wipeE, itemsOf, List.map_cons, List.map_nil, List.length_cons, List.length_nil, List.replicate, List.cons_append, List.nil_append, List.set_cons_zero, List.set_cons_succ, List.getElem?_cons_zero, List.getElem?_cons_succ, List.zip_cons_cons, List.zip_nil_left, List.zip_nil_right, List.zip, List.zipWith]
      rw [← hx, h0]
      refine ⟨by decide, ?_⟩
      rcases hor with ⟨hh, hkid⟩ | ⟨hh, hkid⟩
      · simp (config := { maxSteps := 2000000 }) only [dMulA, dApp, dExt, dPop, dSetOwn, kb_NoneType_bool, kb_NoneType_int, kb_NoneType_str, kb_NoneType_tuple, kb_NoneType_list, kb_NoneType_dict, kb_bool_bool, kb_bool_int, kb_bool_str, kb_bool_tuple, kb_bool_list, kb_bool_dict, kb_int_bool, kb_int_int, kb_int_str, kb_int_tuple, kb_int_list, kb_int_dict, kb_str_bool, kb_str_int, kb_str_str, kb_str_tuple, kb_str_list, kb_str_dict, kb_tuple_bool, kb_tuple_int, kb_tuple_str, kb_tuple_tuple, kb_tuple_list, kb_tuple_dict, kb_list_bool, kb_list_int, kb_list_str, kb_list_tuple, kb_list_list, kb_list_dict, kb_dict_bool, kb_dict_int, kb_dict_str, kb_dict_tuple, kb_dict_list, kb_dict_dict, nx_non, nx_bl, nx_int, nx_str, nx_tup, nx_lst, nx_obj, nx_dct, implies_true, DL.isNon, Bool.not_true, Bool.not_false, beq_self_eq_true, Bool.false_beq, Bool.true_beq, bagD, atI_c0, atI_c1, atI_c2, atI_c3, atI_c4, atI_c5, ixN5_1, ixN5_2, ixN5_3, ixN5_4, ii_eqb, ss_eqb, bb_eqb, scl_ii, scl_ss, scl_bb, dExLen, dExAt, true_or, true_and, and_true, Nat.reduceAdd, startE, retK, takeK, dSeqS, dIfS, dNot, dAnd, dOr, dTest, dOp, dUn, dCallB, dVar, dVarQ, dC, dRet, dRetN, dSet, dNx, dDrop, dTr, dTruth, dIf, dAndV, dOrV, dNotV, dBl, dChain, dIsi, dIsiT, tyD, dCons, dNil, dTup, dLst, dCall, dAsg, dPar, dFor, dLc, dSeq, dRng1, dRng2, dZip, dgName, dgPair, dgTrip, dYes, dM1, dM0, dSl, dPart, dNoPart, dCut, dPut, ownL, dAdd, dI0, dIC, dIn, dNotIn, dIsN, dNotN, dEq, dNe, dIx, dLen, dAll, dAny, dListOf, dTupOf, dInt, dJoin, wipeE, itemsOf, List.map_cons, List.map_nil, List.length_cons, List.length_nil, List.replicate, List.cons_append, List.nil_append, List.set_cons_zero, List.set_cons_succ, List.getElem?_cons_zero, List.getElem?_cons_succ, List.zip_cons_cons, List.zip_nil_left, List.zip_nil_right, List.zip, List.zipWith]
        rw [hh]
        refine ⟨x, rfl, fk, hs, ?_⟩
        simp (config := { maxSteps := 2000000 }) only [dMulA, dApp, dExt, dPop, dSetOwn, kb_NoneType_bool, kb_NoneType_int, kb_NoneType_str, kb_NoneType_tuple, kb_NoneType_list, kb_NoneType_dict, kb_bool_bool, kb_bool_int, kb_bool_str, kb_bool_tuple, kb_bool_list, kb_bool_dict, kb_int_bool, kb_int_int, kb_int_str, kb_int_tuple, kb_int_list, kb_int_dict, kb_str_bool, kb_str_int, kb_str_str, kb_str_tuple, kb_str_list, kb_str_dict, kb_tuple_bool, kb_tuple_int, kb_tuple_str, kb_tuple_tuple, kb_tuple_list, kb_tuple_dict, kb_list_bool, kb_list_int, kb_list_str, kb_list_tuple, kb_list_list, kb_list_dict, kb_dict_bool, kb_dict_int, kb_dict_str, kb_dict_tuple, kb_dict_list, kb_dict_dict, nx_non, nx_bl, nx_int, nx_str, nx_tup, nx_lst, nx_obj, nx_dct, implies_true, DL.isNon, Bool.not_true, Bool.not_false, beq_self_eq_true, Bool.false_beq, Bool.true_beq, bagD, atI_c0, atI_c1, atI_c2, atI_c3, atI_c4, atI_c5, ixN5_1, ixN5_2, ixN5_3, ixN5_4, ii_eqb, ss_eqb, bb_eqb, scl_ii, scl_ss, scl_bb, dExLen, dExAt, true_or, true_and, and_true, Nat.reduceAdd, startE, retK, takeK, dSeqS, dIfS, dNot, dAnd, dOr, dTest, dOp, dUn, dCallB, dVar, dVarQ, dC, dRet, dRetN, dSet, dNx, dDrop, dTr, dTruth, dIf, dAndV, dOrV, dNotV, dBl, dChain, dIsi, dIsiT, tyD, dCons, dNil, dTup, dLst, dCall, dAsg, dPar, dFor, dLc, dSeq, dRng1, dRng2, dZip, dgName, dgPair, dgTrip, dYes, dM1, dM0, dSl, dPart, dNoPart, dCut, dPut, ownL, dAdd, dI0, dIC, dIn, dNotIn, dIsN, dNotN, dEq, dNe, dIx, dLen, dAll, dAny, dListOf, dTupOf, dInt, dJoin, wipeE, itemsOf, List.map_cons, List.map_nil, List.length_cons, List.length_nil, List.replicate, List.cons_append, List.nil_append, List.set_cons_zero, List.set_cons_succ, List.getElem?_cons_zero, List.getElem?_cons_succ, List.zip_cons_cons, List.zip_nil_left, List.zip_nil_right, List.zip, List.zipWith]
        refine ⟨by omega, by omega, goFor_invN (fun k env => ∃ (L : List (List Nat)) (c : En), env = [some (x, none), some (pathD p, none), c, some (.lst (L.map pathD), none), some (.int 2, none)] ∧ 0 < L.length ∧ L.length ≤ 1 + cntAll ((innerD x).take k) ∧ ∀ q ∈ L, ∃ r, q = p ++ r ∧ PathIn x r) _ 0 _
          ⟨[p], none, rfl, Nat.one_pos, Nat.le_add_right _ _, fun q hq => ⟨[], by rw [List.mem_singleton.mp hq, List.append_nil], .nil _⟩⟩ ?_ ?_⟩
        · rintro i xi hi env N ⟨L, c, rfl, h1, h2, h3⟩ hN
          rw [Nat.zero_add] at h2 hN
          rw [List.getElem?_map] at hi
          have hil : i < (innerD x).length := by
            by_cases q : i < (innerD x).length
            · exact q
            · rw [List.getElem?_eq_none (by rw [List.length_range]; simp; omega)] at hi
              cases hi
          have hxi : xi = .int (i : Int) := by
            rw [List.getElem?_range (by simpa using hil)] at hi
            exact (Option.some.inj hi).symm
          subst hxi
          obtain ⟨k1, k2⟩ := hkid i (innerD x)[i] (List.getElem?_eq_getElem hil)
          have hm : (innerD x)[i] ∈ innerD x := List.getElem_mem hil
          have hle := mem_cnt hm
          have big : 5000 ≤ sizeLine := by decide
          have ei : (2 + (i : Int)) = ((i + 2 : Nat) : Int) := by omega
          have ep : D.tup ((p.map fun (i : Nat) => D.int (i : Int)) ++ [D.int (2 + (i : Int))]) = pathD (p ++ [i + 2]) := by
            rw [← pathD_snoc, ei]
          have k3 : atI its (2 + (i : Int)) = some (innerD x)[i] := by
            rw [ei]
            exact atI_nat k1
          have tk : cntAll ((innerD x).take (i + 1)) = cntAll ((innerD x).take i) + cnt (innerD x)[i] := by
            rw [List.take_succ_eq_append_getElem hil, cntAll_app]
            congr 1
          rw [hx]
          simp (config := { maxSteps := 2000000 }) only [dMulA, dApp, dExt, dPop, dSetOwn, kb_NoneType_bool, kb_NoneType_int, kb_NoneType_str, kb_NoneType_tuple, kb_NoneType_list, kb_NoneType_dict, kb_bool_bool, kb_bool_int, kb_bool_str, kb_bool_tuple, kb_bool_list, kb_bool_dict, kb_int_bool, kb_int_int, kb_int_str, kb_int_tuple, kb_int_list, kb_int_dict, kb_str_bool, kb_str_int, kb_str_str, kb_str_tuple, kb_str_list, kb_str_dict, kb_tuple_bool, kb_tuple_int, kb_tuple_str, kb_tuple_tuple, kb_tuple_list, kb_tuple_dict, kb_list_bool, kb_list_int, kb_list_str, kb_list_tuple, kb_list_list, kb_list_dict, kb_dict_bool, kb_dict_int, kb_dict_str, kb_dict_tuple, kb_dict_list, kb_dict_dict, nx_non, nx_bl, nx_int, nx_str, nx_tup, nx_lst, nx_obj, nx_dct, implies_true, DL.isNon, Bool.not_true, Bool.not_false, beq_self_eq_true, Bool.false_beq, Bool.true_beq, bagD, atI_c0, atI_c1, atI_c2, atI_c3, atI_c4, atI_c5, ixN5_1, ixN5_2, ixN5_3, ixN5_4, ii_eqb, ss_eqb, bb_eqb, scl_ii, scl_ss, scl_bb, dExLen, dExAt, true_or, true_and, and_true, Nat.reduceAdd, startE, retK, takeK, dSeqS, dIfS, dNot, dAnd, dOr, dTest, dOp, dUn, dCallB, dVar, dVarQ, dC, dRet, dRetN, dSet, dNx, dDrop, dTr, dTruth, dIf, dAndV, dOrV, dNotV, dBl, dChain, dIsi, dIsiT, tyD, dCons, dNil, dTup, dLst, dCall, dAsg, dPar, dFor, dLc, dSeq, dRng1, dRng2, dZip, dgName, dgPair, dgTrip, dYes, dM1, dM0, dSl, dPart, dNoPart, dCut, dPut, ownL, dAdd, dI0, dIC, dIn, dNotIn, dIsN, dNotN, dEq, dNe, dIx, dLen, dAll, dAny, dListOf, dTupOf, dInt, dJoin, wipeE, itemsOf, List.map_cons, List.map_nil, List.length_cons, List.length_nil, List.replicate, List.cons_append, List.nil_append, List.set_cons_zero, List.set_cons_succ, List.getElem?_cons_zero, List.getElem?_cons_succ, List.zip_cons_cons, List.zip_nil_left, List.zip_nil_right, List.zip, List.zipWith, pathD]
          rw [← hx, k3]
          refine ⟨by decide, by rw [List.length_map]; show p.length + 1 ≤ _; omega, (innerD x)[i], p ++ [i + 2], by rw [← ep], List.all_eq_true.mp hkE _ hm, hkS _ hm, by omega, by omega, by rw [List.length_append]; show p.length + 1 + _ ≤ _; omega, fun L2 g1 g2 g3 => ?_⟩
          refine ⟨by rw [List.length_map, List.length_map]; have := hTake (i + 1); omega, hN _ ⟨L ++ L2, _, by rw [List.map_append]; rfl, by rw [List.length_append]; omega, by rw [List.length_append, tk]; omega, fun q hq => ?_⟩⟩
          rcases List.mem_append.mp hq with hq | hq
          · exact h3 q hq
          · obtain ⟨r, rfl, hr⟩ := g3 q hq
            exact ⟨(i + 2) :: r, by simp, .cons k2 hr⟩
        · rintro env ⟨L, c, rfl, h1, h2, h3⟩
          have := hTake (0 + (List.map (fun (i : Nat) => D.int (i : Int)) (List.range ((innerD x).length : Int).toNat)).length)
          exact hp L h1 (by omega) h3
      · simp (config := { maxSteps := 2000000 }) only [dMulA, dApp, dExt, dPop, dSetOwn, kb_NoneType_bool, kb_NoneType_int, kb_NoneType_str, kb_NoneType_tuple, kb_NoneType_list, kb_NoneType_dict, kb_bool_bool, kb_bool_int, kb_bool_str, kb_bool_tuple, kb_bool_list, kb_bool_dict, kb_int_bool, kb_int_int, kb_int_str, kb_int_tuple, kb_int_list, kb_int_dict, kb_str_bool, kb_str_int, kb_str_str, kb_str_tuple, kb_str_list, kb_str_dict, kb_tuple_bool, kb_tuple_int, kb_tuple_str, kb_tuple_tuple, kb_tuple_list, kb_tuple_dict, kb_list_bool, kb_list_int, kb_list_str, kb_list_tuple, kb_list_list, kb_list_dict, kb_dict_bool, kb_dict_int, kb_dict_str, kb_dict_tuple, kb_dict_list, kb_dict_dict, nx_non, nx_bl, nx_int, nx_str, nx_tup, nx_lst, nx_obj, nx_dct, implies_true, DL.isNon, Bool.not_true, Bool.not_false, beq_self_eq_true, Bool.false_beq, Bool.true_beq, bagD, atI_c0, atI_c1, atI_c2, atI_c3, atI_c4, atI_c5, ixN5_1, ixN5_2, ixN5_3, ixN5_4, ii_eqb, ss_eqb, bb_eqb, scl_ii, scl_ss, scl_bb, dExLen, dExAt, true_or, true_and, and_true, Nat.reduceAdd, startE, retK, takeK, dSeqS, dIfS, dNot, dAnd, dOr, dTest, dOp, dUn, dCallB, dVar, dVarQ, dC, dRet, dRetN, dSet, dNx, dDrop, dTr, dTruth, dIf, dAndV, dOrV, dNotV, dBl, dChain, dIsi, dIsiT, tyD, dCons, dNil, dTup, dLst, dCall, dAsg, dPar, dFor, dLc, dSeq, dRng1, dRng2, dZip, dgName, dgPair, dgTrip, dYes, dM1, dM0, dSl, dPart, dNoPart, dCut, dPut, ownL, dAdd, dI0, dIC, dIn, dNotIn, dIsN, dNotN, dEq, dNe, dIx, dLen, dAll, dAny, dListOf, dTupOf, dInt, dJoin, wipeE, itemsOf, List.map_cons, List.map_nil, List.length_cons, List.length_nil, List.replicate, List.cons_append, List.nil_append, List.set_cons_zero, List.set_cons_succ, List.getElem?_cons_zero, List.getElem?_cons_succ, List.zip_cons_cons, List.zip_nil_left, List.zip_nil_right, List.zip, List.zipWith]
        rw [hh]
        refine ⟨x, rfl, fk, hs, ?_⟩
        simp (config := { maxSteps := 2000000 }) only [dMulA, dApp, dExt, dPop, dSetOwn, kb_NoneType_bool, kb_NoneType_int, kb_NoneType_str, kb_NoneType_tuple, kb_NoneType_list, kb_NoneType_dict, kb_bool_bool, kb_bool_int, kb_bool_str, kb_bool_tuple, kb_bool_list, kb_bool_dict, kb_int_bool, kb_int_int, kb_int_str, kb_int_tuple, kb_int_list, kb_int_dict, kb_str_bool, kb_str_int, kb_str_str, kb_str_tuple, kb_str_list, kb_str_dict, kb_tuple_bool, kb_tuple_int, kb_tuple_str, kb_tuple_tuple, kb_tuple_list, kb_tuple_dict, kb_list_bool, kb_list_int, kb_list_str, kb_list_tuple, kb_list_list, kb_list_dict, kb_dict_bool, kb_dict_int, kb_dict_str, kb_dict_tuple, kb_dict_list, kb_dict_dict, nx_non, nx_bl, nx_int, nx_str, nx_tup, nx_lst, nx_obj, nx_dct, implies_true, DL.isNon, Bool.not_true, Bool.not_false, beq_self_eq_true, Bool.false_beq, Bool.true_beq, bagD, atI_c0, atI_c1, atI_c2, atI_c3, atI_c4, atI_c5, ixN5_1, ixN5_2, ixN5_3, ixN5_4, ii_eqb, ss_eqb, bb_eqb, scl_ii, scl_ss, scl_bb, dExLen, dExAt, true_or, true_and, and_true, Nat.reduceAdd, startE, retK, takeK, dSeqS, dIfS, dNot, dAnd, dOr, dTest, dOp, dUn, dCallB, dVar, dVarQ, dC, dRet, dRetN, dSet, dNx, dDrop, dTr, dTruth, dIf, dAndV, dOrV, dNotV, dBl, dChain, dIsi, dIsiT, tyD, dCons, dNil, dTup, dLst, dCall, dAsg, dPar, dFor, dLc, dSeq, dRng1, dRng2, dZip, dgName, dgPair, dgTrip, dYes, dM1, dM0, dSl, dPart, dNoPart, dCut, dPut, ownL, dAdd, dI0, dIC, dIn, dNotIn, dIsN, dNotN, dEq, dNe, dIx, dLen, dAll, dAny, dListOf, dTupOf, dInt, dJoin, wipeE, itemsOf, List.map_cons, List.map_nil, List.length_cons, List.length_nil, List.replicate, List.cons_append, List.nil_append, List.set_cons_zero, List.set_cons_succ, List.getElem?_cons_zero, List.getElem?_cons_succ, List.zip_cons_cons, List.zip_nil_left, List.zip_nil_right, List.zip, List.zipWith]
        refine ⟨by omega, by omega, goFor_invN (fun k env => ∃ (L : List (List Nat)) (c : En), env = [some (x, none), some (pathD p, none), c, some (.lst (L.map pathD), none), some (.int 1, none)] ∧ 0 < L.length ∧ L.length ≤ 1 + cntAll ((innerD x).take k) ∧ ∀ q ∈ L, ∃ r, q = p ++ r ∧ PathIn x r) _ 0 _
          ⟨[p], none, rfl, Nat.one_pos, Nat.le_add_right _ _, fun q hq => ⟨[], by rw [List.mem_singleton.mp hq, List.append_nil], .nil _⟩⟩ ?_ ?_⟩
        · rintro i xi hi env N ⟨L, c, rfl, h1, h2, h3⟩ hN
          rw [Nat.zero_add] at h2 hN
          rw [List.getElem?_map] at hi
          have hil : i < (innerD x).length := by
            by_cases q : i < (innerD x).length
            · exact q
            · rw [List.getElem?_eq_none (by rw [List.length_range]; simp; omega)] at hi
              cases hi
          have hxi : xi = .int (i : Int) := by
            rw [List.getElem?_range (by simpa using hil)] at hi
            exact (Option.some.inj hi).symm
          subst hxi
          obtain ⟨k1, k2⟩ := hkid i (innerD x)[i] (List.getElem?_eq_getElem hil)
          have hm : (innerD x)[i] ∈ innerD x := List.getElem_mem hil
          have hle := mem_cnt hm
          have big : 5000 ≤ sizeLine := by decide
          have ei : (1 + (i : Int)) = ((i + 1 : Nat) : Int) := by omega
          have ep : D.tup ((p.map fun (i : Nat) => D.int (i : Int)) ++ [D.int (1 + (i : Int))]) = pathD (p ++ [i + 1]) := by
            rw [← pathD_snoc, ei]
          have k3 : atI its (1 + (i : Int)) = some (innerD x)[i] := by
            rw [ei]
            exact atI_nat k1
          have tk : cntAll ((innerD x).take (i + 1)) = cntAll ((innerD x).take i) + cnt (innerD x)[i] := by
            rw [List.take_succ_eq_append_getElem hil, cntAll_app]
            congr 1
          rw [hx]
          simp (config := { maxSteps := 2000000 }) only [dMulA, dApp, dExt, dPop, dSetOwn, kb_NoneType_bool, kb_NoneType_int, kb_NoneType_str, kb_NoneType_tuple, kb_NoneType_list, kb_NoneType_dict, kb_bool_bool, kb_bool_int, kb_bool_str, kb_bool_tuple, kb_bool_list, kb_bool_dict, kb_int_bool, kb_int_int, kb_int_str, kb_int_tuple, kb_int_list, kb_int_dict, kb_str_bool, kb_str_int, kb_str_str, kb_str_tuple, kb_str_list, kb_str_dict, kb_tuple_bool, kb_tuple_int, kb_tuple_str, kb_tuple_tuple, kb_tuple_list, kb_tuple_dict, kb_list_bool, kb_list_int, kb_list_str, kb_list_tuple, kb_list_list, kb_list_dict, kb_dict_bool, kb_dict_int, kb_dict_str, kb_dict_tuple, kb_dict_list, kb_dict_dict, nx_non, nx_bl, nx_int, nx_str, nx_tup, nx_lst, nx_obj, nx_dct, implies_true, DL.isNon, Bool.not_true, Bool.not_false, beq_self_eq_true, Bool.false_beq, Bool.true_beq, bagD, atI_c0, atI_c1, atI_c2, atI_c3, atI_c4, atI_c5, ixN5_1, ixN5_2, ixN5_3, ixN5_4, ii_eqb, ss_eqb, bb_eqb, scl_ii, scl_ss, scl_bb, dExLen, dExAt, true_or, true_and, and_true, Nat.reduceAdd, startE, retK, takeK, dSeqS, dIfS, dNot, dAnd, dOr, dTest, dOp, dUn, dCallB, dVar, dVarQ, dC, dRet, dRetN, dSet, dNx, dDrop, dTr, dTruth, dIf, dAndV, dOrV, dNotV, dBl, dChain, dIsi, dIsiT, tyD, dCons, dNil, dTup, dLst, dCall, dAsg, dPar, dFor, dLc, dSeq, dRng1, dRng2, dZip, dgName, dgPair, dgTrip, dYes, dM1, dM0, dSl, dPart, dNoPart, dCut, dPut, ownL, dAdd, dI0, dIC, dIn, dNotIn, dIsN, dNotN, dEq, dNe, dIx, dLen, dAll, dAny, dListOf, dTupOf, dInt, dJoin, wipeE, itemsOf, List.map_cons, List.map_nil, List.length_cons, List.length_nil, List.replicate, List.cons_append, List.nil_append, List.set_cons_zero, List.set_cons_succ, List.getElem?_cons_zero, List.getElem?_cons_succ, List.zip_cons_cons, List.zip_nil_left, List.zip_nil_right, List.zip, List.zipWith, pathD]
          rw [← hx, k3]
          refine ⟨by decide, by rw [List.length_map]; show p.length + 1 ≤ _; omega, (innerD x)[i], p ++ [i + 1], by rw [← ep], List.all_eq_true.mp hkE _ hm, hkS _ hm, by omega, by omega, by rw [List.length_append]; show p.length + 1 + _ ≤ _; omega, fun L2 g1 g2 g3 => ?_⟩
          refine ⟨by rw [List.length_map, List.length_map]; have := hTake (i + 1); omega, hN _ ⟨L ++ L2, _, by rw [List.map_append]; rfl, by rw [List.length_append]; omega, by rw [List.length_append, tk]; omega, fun q hq => ?_⟩⟩
          rcases List.mem_append.mp hq with hq | hq
          · exact h3 q hq
          · obtain ⟨r, rfl, hr⟩ := g3 q hq
            exact ⟨(i + 1) :: r, by simp, .cons k2 hr⟩
        · rintro env ⟨L, c, rfl, h1, h2, h3⟩
          have := hTake (0 + (List.map (fun (i : Nat) => D.int (i : Int)) (List.range ((innerD x).length : Int).toNat)).length)
          exact hp L h1 (by omega) h3
theorem Kid.at {x y : D} {i : Nat} (k : Kid x i y) (hE : isE x = true) (hs : sm x = true) : ∃ its, x = .tup its ∧ its[i]? = some y ∧ isE y = true ∧ sm y = true ∧ its.length ≤ 2000 ∧ i < its.length ∧
    ∀ y', isE y' = false → isE (.tup (its.take i ++ [y'] ++ its.drop (i + 1))) = false := by
  rw [isE_eq] at hE
  obtain ⟨hF, hkE⟩ := Bool.and_eq_true_iff.mp hE
  have hkS := (formK_of hF).inner_sm hs
  cases k with
  | f1 _ b =>
    have hE2 : ∀ z ∈ [y, b], isE z = true := List.all_eq_true.mp hkE
    refine ⟨_, rfl, rfl, hE2 y List.mem_cons_self, hkS y List.mem_cons_self, by simp, by simp, fun y' h => ?_⟩
    rw [isE_eq]
    show (true && (isE y' && _)) = false
    rw [h]
    rfl
  | f2 a _ =>
    have hE2 : ∀ z ∈ [a, y], isE z = true := List.all_eq_true.mp hkE
    refine ⟨_, rfl, rfl, hE2 y (by simp), hkS y (List.mem_cons_of_mem _ List.mem_cons_self), by simp, by simp, fun y' h => ?_⟩
    rw [isE_eq]
    show (true && (isE a && (isE y' && true))) = false
    rw [h]
    simp
  | of h xs i y hi =>
    have hm := List.mem_of_getElem? hi
    have hi2 := (List.getElem?_eq_some_iff.mp hi).1
    have hE2 : ∀ y ∈ xs, isE y = true := List.all_eq_true.mp hkE
    unfold sm at hs
    have hl := of_decide_eq_true (Bool.and_eq_true_iff.mp hs).1
    refine ⟨_, rfl, hi, hE2 y hm, hkS y hm, hl, by simp; omega, fun y' h' => ?_⟩
    rw [isE_eq]
    show (formB (.tup (.str "of" :: h :: (xs.take i ++ [y'] ++ xs.drop (i + 1)))) && (xs.take i ++ [y'] ++ xs.drop (i + 1)).all isE) = false
    rw [List.all_append, List.all_append, List.all_cons, h']
    simp
theorem sm_put {its : List D} {i : Nat} {y' : D} (hs : sm (.tup its) = true) (hi : i < its.length) (hy : sm y' = true) : sm (.tup (its.take i ++ [y'] ++ its.drop (i + 1))) = true := by
  unfold sm at hs ⊢
  obtain ⟨h1, h2⟩ := Bool.and_eq_true_iff.mp hs
  have h1' := of_decide_eq_true h1
  refine Bool.and_eq_true_iff.mpr ⟨decide_eq_true ?_, smAll_of fun d hd => ?_⟩
  · rw [List.length_append, List.length_append, List.length_take, List.length_drop, List.length_singleton]
    omega
  · rcases List.mem_append.mp hd with hd | hd
    · rcases List.mem_append.mp hd with hd | hd
      · exact smAll_mem h2 d (List.mem_of_mem_take hd)
      · rw [List.mem_singleton.mp hd]
        exact hy
    · exact smAll_mem h2 d (List.mem_of_mem_drop hd)
theorem cnt_put {its : List D} {i : Nat} {y y' : D} (hi : its[i]? = some y) : cnt (.tup (its.take i ++ [y'] ++ its.drop (i + 1))) + cnt y = cnt (.tup its) + cnt y' := by
  have hl := (List.getElem?_eq_some_iff.mp hi).1
  have e : its = its.take i ++ [y] ++ its.drop (i + 1) := by
    have e1 : its[i] = y := (List.getElem?_eq_some_iff.mp hi).2
    rw [← e1, List.append_assoc, List.singleton_append, List.getElem_cons_drop, List.take_append_drop]
  have e2 : cntAll its = cntAll (its.take i) + cnt y + cntAll (its.drop (i + 1)) := by
    have e3 := congrArg cntAll e
    rw [cntAll_app, cntAll_app, cntAll.eq_2, cntAll] at e3
    exact e3
  show cntAll (its.take i ++ [y'] ++ its.drop (i + 1)) + 1 + cnt y = cntAll its + 1 + cnt y'
  rw [cntAll_app, cntAll_app, cntAll.eq_2, cntAll, e2]
  omega
def FPut (n : Nat) : Fn := fun ds P _ => ∃ (x part : D) (p : List Nat), ds = [x, pathD p, part] ∧ p.length < n ∧ isE x = true ∧ sm x = true ∧ PathIn x p ∧ isE part = false ∧ sm part = true ∧
  ∀ y, isE y = false → sm y = true → cnt y ≤ cnt x + cnt part → P y
theorem ok_put {W : Wd} (T : Txt K mg) (F : DefAt K mg "_law_my_put" s__law_my_put) : ∀ n, FnAt P w K mg base W (n + 1) "_law_my_put" (FPut n)
  | 0 => (fnAt_false F fun f fd F => ⟨["_law_one", "_law_path", "_law_part"], F.bindsN (fun _ _ _ _ _ _ us hl => match us, hl with | [_, _, _], _ => rfl)⟩).imp fun as Pd R h => by
    obtain ⟨x, y, p, _, h, _⟩ := h
    omega
  | n + 1 => by
    have G__law_my_put : FnAt P w K mg base W (n + 1) "_law_my_put" (FPut n) := ok_put T F n
    refine okF (k := n + 1) F sc__law_my_put (fun _ _ _ _ _ _ us hl => match us, hl with | [_, _, _], _ => rfl) (fun as Pd R h => ?_) (fun f cdv A outer s H E hr => (db_cons (ds_if (dt_cmp (op_eq.or (op_eqP hr.units)) s_eq (dq_var 1) ((de_tup da_nil)).q (nomark _)) (db_one (ds_ret (de_var 2))) db_nil) (db_cons (ds_set 3 sc__law_my_put.nd (de_ix (dq_var 1) (de_int).q)) (db_one (ds_ret (de_op op_addA s_add ((de_op op_addA s_add ((de_sl (dq_var 0) do_none (do_some (de_var 3)))).q ((de_tup (da_cons (de_callF G__law_my_put (hr.mono (by first | decide | omega)) (takes_of rfl rfl rfl rfl) (da_cons (de_ix (dq_var 0) (dq_var 3)) (da_cons (de_sl (dq_var 1) (do_some de_int) do_none) (da_cons (de_var 2) da_nil)))) da_nil))).q)).q ((de_sl (dq_var 0) (do_some (de_op op_addA s_add (dq_var 3) (de_int).q)) do_none)).q)))))) (fun as Pd R h => ?_)
    · obtain ⟨x, y, p, rfl, _⟩ := h
      rfl
    · obtain ⟨x, part, p, rfl, hl, hE, hs, hP, hpE, hps, hp⟩ := h
      have plp : ∀ q : List Nat, plAll (q.map fun (i : Nat) => D.int (i : Int)) = true := fun q => by
        induction q with
        | nil => rfl
        | cons a q ih => exact ih
      cases hP with
      | nil =>
        simp (config := { maxSteps := 2000000 }) only [dMulA, dApp, dExt, dPop, dSetOwn, kb_NoneType_bool, kb_NoneType_int, kb_NoneType_str, kb_NoneType_tuple, kb_NoneType_list, kb_NoneType_dict, kb_bool_bool, kb_bool_int, kb_bool_str, kb_bool_tuple, kb_bool_list, kb_bool_dict, kb_int_bool, kb_int_int, kb_int_str, kb_int_tuple, kb_int_list, kb_int_dict, kb_str_bool, kb_str_int, kb_str_str, kb_str_tuple, kb_str_list, kb_str_dict, kb_tuple_bool, kb_tuple_int, kb_tuple_str, kb_tuple_tuple, kb_tuple_list, kb_tuple_dict, kb_list_bool, kb_list_int, kb_list_str, kb_list_tuple, kb_list_list, kb_list_dict, kb_dict_bool, kb_dict_int, kb_dict_str, kb_dict_tuple, kb_dict_list, kb_dict_dict, nx_non, nx_bl, nx_int, nx_str, nx_tup, nx_lst, nx_obj, nx_dct, implies_true, DL.isNon, Bool.not_true, Bool.not_false, beq_self_eq_true, Bool.false_beq, Bool.true_beq, bagD, atI_c0, atI_c1, atI_c2, atI_c3, atI_c4, atI_c5, ixN5_1, ixN5_2, ixN5_3, ixN5_4, ii_eqb, ss_eqb, bb_eqb, scl_ii, scl_ss, scl_bb, dExLen, dExAt, true_or, true_and, and_true, Nat.reduceAdd, startE, retK, takeK, dSeqS, dIfS, dNot, dAnd, dOr, dTest, dOp, dUn, dCallB, dVar, dVarQ, dC, dRet, dRetN, dSet, dNx, dDrop, dTr, dTruth, dIf, dAndV, dOrV, dNotV, dBl, dChain, dIsi, dIsiT, tyD, dCons, dNil, dTup, dLst, dCall, dAsg, dPar, dFor, dLc, dSeq, dRng1, dRng2, dZip, dgName, dgPair, dgTrip, dYes, dM1, dM0, dSl, dPart, dNoPart, dCut, dPut, ownL, dAdd, dI0, dIC, dIn, dNotIn, dIsN, dNotN, dEq, dNe, dIx, dLen, dAll, dAny, dListOf, dTupOf, dInt, dJoin, wipeE, itemsOf, List.map_cons, List.map_nil, List.length_cons, List.length_nil, List.replicate, List.cons_append, List.nil_append, List.set_cons_zero, List.set_cons_succ, List.getElem?_cons_zero, List.getElem?_cons_succ, List.zip_cons_cons, List.zip_nil_left, List.zip_nil_right, List.zip, List.zipWith, pathD]
        exact ⟨by decide, .inr (by decide), hp part hpE hps (Nat.le_add_left _ _)⟩
      | @cons _ y i q k hq =>
        obtain ⟨its, hx, hi, hyE, hyS, hlen, hil, hbad⟩ := k.at hE hs
        subst hx
        have big : 5000 ≤ sizeLine := by decide
        have a1 : atI its (i : Int) = some y := atI_nat hi
        have c1 : cutG its none (some (i : Int)) = its.take i := cutG_to its i
        have c2 : cutG its (some ((i : Int) + 1)) none = its.drop (i + 1) := by
          have e : ((i : Int) + 1) = ((i + 1 : Nat) : Int) := by omega
          rw [e]
          exact cutG_from its (i + 1)
        simp (config := { maxSteps := 2000000 }) only [dMulA, dApp, dExt, dPop, dSetOwn, kb_NoneType_bool, kb_NoneType_int, kb_NoneType_str, kb_NoneType_tuple, kb_NoneType_list, kb_NoneType_dict, kb_bool_bool, kb_bool_int, kb_bool_str, kb_bool_tuple, kb_bool_list, kb_bool_dict, kb_int_bool, kb_int_int, kb_int_str, kb_int_tuple, kb_int_list, kb_int_dict, kb_str_bool, kb_str_int, kb_str_str, kb_str_tuple, kb_str_list, kb_str_dict, kb_tuple_bool, kb_tuple_int, kb_tuple_str, kb_tuple_tuple, kb_tuple_list, kb_tuple_dict, kb_list_bool, kb_list_int, kb_list_str, kb_list_tuple, kb_list_list, kb_list_dict, kb_dict_bool, kb_dict_int, kb_dict_str, kb_dict_tuple, kb_dict_list, kb_dict_dict, nx_non, nx_bl, nx_int, nx_str, nx_tup, nx_lst, nx_obj, nx_dct, implies_true, DL.isNon, Bool.not_true, Bool.not_false, beq_self_eq_true, Bool.false_beq, Bool.true_beq, bagD, atI_c0, atI_c1, atI_c2, atI_c3, atI_c4, atI_c5, ixN5_1, ixN5_2, ixN5_3, ixN5_4, ii_eqb, ss_eqb, bb_eqb, scl_ii, scl_ss, scl_bb, dExLen, dExAt, true_or, true_and, and_true, Nat.reduceAdd, startE, retK, takeK, dSeqS, dIfS, dNot, dAnd, dOr, dTest, dOp, dUn, dCallB, dVar, dVarQ, dC, dRet, dRetN, dSet, dNx, dDrop, dTr, dTruth, dIf, dAndV, dOrV, dNotV, dBl, dChain, dIsi, dIsiT, tyD, dCons, dNil, dTup, dLst, dCall, dAsg, dPar, dFor, dLc, dSeq, dRng1, dRng2, dZip, dgName, dgPair, dgTrip, dYes, dM1, dM0, dSl, dPart, dNoPart, dCut, dPut, ownL, dAdd, dI0, dIC, dIn, dNotIn, dIsN, dNotN, dEq, dNe, dIx, dLen, dAll, dAny, dListOf, dTupOf, dInt, dJoin, wipeE, itemsOf, List.map_cons, List.map_nil, List.length_cons, List.length_nil, List.replicate, List.cons_append, List.nil_append, List.set_cons_zero, List.set_cons_succ, List.getElem?_cons_zero, List.getElem?_cons_succ, List.zip_cons_cons, List.zip_nil_left, List.zip_nil_right, List.zip, List.zipWith, pathD, a1, c1, c2, cutG_1]
        refine ⟨by decide, .inr (eqOk_nil (plp (i :: q))), ?_⟩
        have ne : (D.tup (D.int (i : Int) :: q.map fun (i : Nat) => D.int (i : Int))).eqb (D.tup []) = false := rfl
        rw [ne]
        refine ⟨y, part, q, rfl, by simpa using hl, hyE, hyS, hq, hpE, hps, fun y' h1 h2 h3 => ?_⟩
        have cp := cnt_put (y' := y') hi
        have lt1 : (its.take i).length = i := by rw [List.length_take]; omega
        refine ⟨by decide, by rw [lt1]; omega, by rw [List.length_append, lt1, List.length_drop, List.length_singleton]; omega, hp _ (hbad y' h1) (sm_put hs hil h2) (by omega)⟩
/-! ### the odd parts -/
def FOdd : Fn := fun ds P _ => ds = [.ex 0] ∧ ∀ d, isE d = false → sm d = true → cnt d ≤ 10 → P d
theorem ok_odd {b sa : Addr} (T : Txt K mg) (F : DefAt K mg "_law_my_odd" s__law_my_odd) (G__law_my_pick : FnAt P w K mg base (bagW b sa) 3 "_law_my_pick" FPick) : FnAt P w K mg base (bagW b sa) 4 "_law_my_odd" FOdd := by
  refine okF (k := 3) F sc__law_my_odd (fun _ _ _ _ _ _ us hl => match us, hl with | [_], _ => rfl) (fun as Pd R h => ?_) (fun f cdv A outer s H E hr => (db_one (ds_ret (de_callF G__law_my_pick (hr.mono (by first | decide | omega)) (takes_of rfl rfl rfl rfl) (da_cons (de_var 0) (da_cons (de_lst (da_cons de_non (da_cons de_bl (da_cons de_int (da_cons de_str (da_cons de_str (da_cons (de_lst da_nil) (da_cons (de_tup da_nil) (da_cons (de_tup (da_cons de_str da_nil)) (da_cons (de_lst (da_cons de_str da_nil)) (da_cons (de_tup (da_cons de_str (da_cons de_int da_nil))) (da_cons (de_tup (da_cons de_str da_nil)) (da_cons (de_tup (da_cons de_str (da_cons de_str da_nil))) (da_cons (de_tup (da_cons de_str (da_cons (de_lst (da_cons de_str da_nil)) da_nil))) (da_cons (de_tup (da_cons de_str (da_cons (de_tup (da_cons de_str da_nil)) da_nil))) (da_cons (de_tup (da_cons de_str da_nil)) (da_cons (de_tup (da_cons de_str (da_cons de_str da_nil))) (da_cons (de_tup (da_cons de_str (da_cons de_int da_nil))) (da_cons (de_tup (da_cons de_int (da_cons de_str da_nil))) (da_cons (de_tup (da_cons de_str da_nil)) (da_cons (de_tup (da_cons (de_tup (da_cons de_str da_nil)) da_nil)) da_nil))))))))))))))))))))) da_nil)))))) (fun as Pd R h => ?_)
  · obtain ⟨rfl, _⟩ := h
    rfl
  · obtain ⟨rfl, hp⟩ := h
    simp (config := { maxSteps := 2000000 }) only [dMulA, dApp, dExt, dPop, dSetOwn, kb_NoneType_bool, kb_NoneType_int, kb_NoneType_str, kb_NoneType_tuple, kb_NoneType_list, kb_NoneType_dict, kb_bool_bool, kb_bool_int, kb_bool_str, kb_bool_tuple, kb_bool_list, kb_bool_dict, kb_int_bool, kb_int_int, kb_int_str, kb_int_tuple, kb_int_list, kb_int_dict, kb_str_bool, kb_str_int, kb_str_str, kb_str_tuple, kb_str_list, kb_str_dict, kb_tuple_bool, kb_tuple_int, kb_tuple_str, kb_tuple_tuple, kb_tuple_list, kb_tuple_dict, kb_list_bool, kb_list_int, kb_list_str, kb_list_tuple, kb_list_list, kb_list_dict, kb_dict_bool, kb_dict_int, kb_dict_str, kb_dict_tuple, kb_dict_list, kb_dict_dict, nx_non, nx_bl, nx_int, nx_str, nx_tup, nx_lst, nx_obj, nx_dct, implies_true, DL.isNon, Bool.not_true, Bool.not_false, beq_self_eq_true, Bool.false_beq, Bool.true_beq, bagD, atI_c0, atI_c1, atI_c2, atI_c3, atI_c4, atI_c5, ixN5_1, ixN5_2, ixN5_3, ixN5_4, ii_eqb, ss_eqb, bb_eqb, scl_ii, scl_ss, scl_bb, dExLen, dExAt, true_or, true_and, and_true, Nat.reduceAdd, startE, retK, takeK, dSeqS, dIfS, dNot, dAnd, dOr, dTest, dOp, dUn, dCallB, dVar, dVarQ, dC, dRet, dRetN, dSet, dNx, dDrop, dTr, dTruth, dIf, dAndV, dOrV, dNotV, dBl, dChain, dIsi, dIsiT, tyD, dCons, dNil, dTup, dLst, dCall, dAsg, dPar, dFor, dLc, dSeq, dRng1, dRng2, dZip, dgName, dgPair, dgTrip, dYes, dM1, dM0, dSl, dPart, dNoPart, dCut, dPut, ownL, dAdd, dI0, dIC, dIn, dNotIn, dIsN, dNotN, dEq, dNe, dIx, dLen, dAll, dAny, dListOf, dTupOf, dInt, dJoin, wipeE, itemsOf, List.map_cons, List.map_nil, List.length_cons, List.length_nil, List.replicate, List.cons_append, List.nil_append, List.set_cons_zero, List.set_cons_succ, List.getElem?_cons_zero, List.getElem?_cons_succ, List.zip_cons_cons, List.zip_nil_left, List.zip_nil_right, List.zip, List.zipWith, Nat.reduceLeDiff]
    refine ⟨_, _, rfl, rfl, by decide, by decide, fun x hx => ?_⟩
    have key : isE x = false ∧ sm x = true ∧ cnt x ≤ 10 := by
      simp only [List.mem_cons, List.not_mem_nil, or_false] at hx
      rcases hx with rfl | rfl | rfl | rfl | rfl | rfl | rfl | rfl | rfl | rfl | rfl | rfl | rfl | rfl | rfl | rfl | rfl | rfl | rfl | rfl <;> exact ⟨by decide +kernel, by decide +kernel, by decide +kernel⟩
    exact hp x key.1 key.2.1 key.2.2
/-! ### the law -/
def deepD : Nat → D
  | 0 => .tup [.str "bead"]
  | n + 1 => .tup [.str "fun", .tup [.str "top"], deepD n]
theorem deep_ok : ∀ n, isE (deepD n) = true ∧ sm (deepD n) = true ∧ cnt (deepD n) = 4 * n + 2
  | 0 => ⟨by decide +kernel, by decide, rfl⟩
  | n + 1 => by
    obtain ⟨h1, h2, h3⟩ := deep_ok n
    refine ⟨?_, ?_, ?_⟩
    · rw [isE_eq]
      show (true && (isE (.tup [.str "top"]) && (isE (deepD n) && true))) = true
      rw [h1]
      decide +kernel
    · show (true && (true && (true && (sm (deepD n) && true)))) = true
      rw [h2]
      rfl
    · show 1 + (2 + (cnt (deepD n) + 0)) + 1 = _
      omega
def exB : Nat → Nat
  | 0 => 3
  | n + 1 => 3 + 3 * exB n
theorem exB_pos : ∀ n, 3 ≤ exB n
  | 0 => Nat.le_refl _
  | n + 1 => by
    unfold exB
    omega
theorem cntAll_le {c : Nat} : ∀ {xs : List D}, (∀ x ∈ xs, cnt x ≤ c) → cntAll xs ≤ xs.length * c
  | [], _ => Nat.zero_le _
  | x :: xs, h => by
    have h1 := h x List.mem_cons_self
    have h2 := cntAll_le fun y hy => h y (List.mem_cons_of_mem _ hy)
    rw [cntAll.eq_2, List.length_cons, Nat.succ_mul]
    omega
theorem ex_ok {hs : List (Str × Nat)} {ws : List Str} (hh : ∀ p ∈ hs, p.2 ≤ 3 ∧ wordB (.str p.1) = true ∧ p.1.length ≤ 2000) (hw : ∀ w ∈ ws, wordB (.str w) = true ∧ w.length ≤ 2000) {n : Nat} {e : D} (h : Ex hs ws n e) : isE e = true ∧ sm e = true ∧ cnt e ≤ exB n := by
  induction h with
  | @top n => exact ⟨by decide +kernel, by decide, Nat.le_trans (by decide : 2 ≤ 3) (exB_pos n)⟩
  | @bead n => exact ⟨by decide +kernel, by decide, Nat.le_trans (by decide : 2 ≤ 3) (exB_pos n)⟩
  | @var n w hm =>
    obtain ⟨h1, h2⟩ := hw w hm
    refine ⟨?_, ?_, exB_pos n⟩
    · rw [isE_eq]
      show (wordB (.str w) && true) = true
      rw [h1]
      rfl
    · show (true && (true && (decide (w.length ≤ 2000) && true))) = true
      rw [decide_eq_true h2]
      rfl
  | @fn n a b ha hb iha ihb =>
    obtain ⟨a1, a2, a3⟩ := iha
    obtain ⟨b1, b2, b3⟩ := ihb
    refine ⟨?_, ?_, ?_⟩
    · rw [isE_eq]
      show (true && (isE a && (isE b && true))) = true
      rw [a1, b1]
      rfl
    · show (true && (true && (sm a && (sm b && true)))) = true
      rw [a2, b2]
      rfl
    · show 1 + (cnt a + (cnt b + 0)) + 1 ≤ 3 + 3 * exB n
      have := exB_pos n
      omega
  | @of n h xs hm hx ih =>
    obtain ⟨h1, h2, h3⟩ := hh _ hm
    have h1' : xs.length ≤ 3 := h1
    refine ⟨?_, ?_, ?_⟩
    · rw [isE_eq]
      show (wordB (.str h) && xs.all isE) = true
      rw [h2, List.all_eq_true.mpr fun x hx' => (ih x hx').1]
      rfl
    · unfold sm
      refine Bool.and_eq_true_iff.mpr ⟨decide_eq_true (by rw [List.length_cons, List.length_cons]; omega), ?_⟩
      show (true && (decide (h.length ≤ 2000) && smAll xs)) = true
      rw [decide_eq_true h3, smAll_of fun x hx' => (ih x hx').2.1]
      rfl
    · have hc := cntAll_le fun x hx' => (ih x hx').2.2
      have : xs.length * exB n ≤ 3 * exB n := Nat.mul_le_mul_right _ h1'
      show 1 + (1 + cntAll xs) + 1 ≤ 3 + 3 * exB n
      omega
def heads : List (Str × Nat) := [("box", 1), ("pair", 2), ("unit", 0)]
def words : List Str := ["x", "y"]
theorem pathIn_len {x : D} {q : List Nat} (h : PathIn x q) : q.length < cnt x := by
  induction h with
  | nil x => exact cnt_pos x
  | @cons x y i q k _ ih =>
    have : cnt y < cnt x := by
      cases k with
      | f1 a b =>
        show cnt y < 1 + (cnt y + (cnt b + 0)) + 1
        omega
      | f2 a b =>
        show cnt y < 1 + (cnt a + (cnt y + 0)) + 1
        omega
      | of h xs i y hi =>
        have := mem_cnt (List.mem_of_getElem? hi)
        show cnt y < cntAll (.str "of" :: h :: xs) + 1
        rw [cntAll.eq_2, cntAll.eq_2]
        omega
    rw [List.length_cons]
    omega
theorem ok_law (T : Txt K mg) {f : Addr} {fd : FuncData} (F : FunD K "law" "law" (defArgs s_law) (defBody s_law) (defScope s_law) [] [] f fd) (GB : ∃ f fd, FnOk P w K mg base (L2.CX P w) 2 f fd ["_law_script"] (spBag K) ∧ mg "_law_my_bag" = some (.ref f) ∧ PySem.W.keepIn K (.ref f) = true ∧ Binds K fd ["_law_script"] [])
    (Gp : ∀ b sa, FnAt P w K mg base (bagW b sa) 3 "_law_my_pick" FPick) (Gs : ∀ W n, FnAt P w K mg base W n "_law_my_same" (FSame n)) (Ga : ∀ b sa, FnAt P w K mg base (bagW b sa) 8 "_law_my_any_one" (FAny 3))
    (Gq : ∀ W, FnAt P w K mg base W 132 "_law_my_paths" (FPaths 130)) (Gu : ∀ W, FnAt P w K mg base W 131 "_law_my_put" (FPut 130)) (Go : ∀ b sa, FnAt P w K mg base (bagW b sa) 4 "_law_my_odd" FOdd) (Ge : ∀ W, FnAt P w K mg base W 4 "is_expression" FIsE) :
    FnOk P w K mg base CX0 141 f fd ["_law_script"] (spLaw K) := by
  obtain ⟨fB, fdB, gB, mB, kB, bB⟩ := GB
  refine okLaw (k := 140) F sc_law (fun f cdv A outer s H E hr => pss_cons (ps_set (i := 1) sc_law.nd rfl (by first | exact Or.inl rfl | exact Or.inr rfl) (pe_callSD gB (hr.mono (by decide)) rfl mB kB bB .nil (fun σ => passAt (takes_of rfl rfl rfl rfl) σ) (pa_cons (pv 0) pa_nil))) (pss_ex fun b sa =>
    have G__law_my_pick := Gp b sa
    have G__law_my_same := Gs (bagW b sa) 3
    have G__law_my_any_one := Ga b sa
    have G__law_my_paths := Gq (bagW b sa)
    have G__law_my_put := Gu (bagW b sa)
    have G__law_my_odd := Go b sa
    have G_is_expression := Ge (bagW b sa)
    (db_cons (ds_set 2 sc_law.nd (de_lst (da_cons (de_tup (da_cons de_str (da_cons de_int da_nil))) (da_cons (de_tup (da_cons de_str (da_cons de_int da_nil))) (da_cons (de_tup (da_cons de_str (da_cons de_int da_nil))) da_nil))))) (db_cons (ds_for (di_range1 T.b_range (da_cons de_int da_nil)) (dg_name 3 sc_law.nd) (db_cons (ds_set 6 sc_law.nd (de_callF G__law_my_any_one (hr.mono (by first | decide | omega)) L2.takes0 (da_cons (de_var 1) (da_cons (de_var 2) (da_cons (de_lst (da_cons de_str (da_cons de_str da_nil))) (da_cons de_int da_nil)))))) (db_cons (ds_set 7 sc_law.nd (de_callF G__law_my_pick (hr.mono (by first | decide | omega)) L2.takes0 (da_cons (de_var 1) (da_cons (de_callF G__law_my_paths (hr.mono (by first | decide | omega)) L2.takes0 (da_cons (de_var 6) (da_cons (de_tup da_nil) da_nil))) da_nil)))) (db_cons (ds_if (dt_not (dt_truth ((de_callF G__law_my_same (hr.mono (by first | decide | omega)) L2.takes0 (da_cons (de_callF G_is_expression (hr.mono (by first | decide | omega)) L2.takes0 (da_cons (de_var 6) da_nil)) (da_cons de_bl da_nil)))).q)) (db_one (ds_ret de_bl)) db_nil) (db_one (ds_if (dt_not (dt_truth ((de_callF G__law_my_same (hr.mono (by first | decide | omega)) L2.takes0 (da_cons (de_callF G_is_expression (hr.mono (by first | decide | omega)) L2.takes0 (da_cons (de_callF G__law_my_put (hr.mono (by first | decide | omega)) L2.takes0 (da_cons (de_var 6) (da_cons (de_var 7) (da_cons (de_callF G__law_my_odd (hr.mono (by first | decide | omega)) L2.takes0 (da_cons (de_var 1) da_nil)) da_nil)))) da_nil)) (da_cons de_bl da_nil)))).q)) (db_one (ds_ret de_bl)) db_nil))))) (passes_of rfl)) (db_cons (ds_set 4 sc_law.nd (de_tup (da_cons de_str da_nil))) (db_cons (ds_for (di_range1 T.b_range (da_cons de_int da_nil)) (dg_name 3 sc_law.nd) (db_one (ds_set 4 sc_law.nd (de_tup (da_cons de_str (da_cons (de_tup (da_cons de_str da_nil)) (da_cons (de_var 4) da_nil)))))) (passes_of rfl)) (db_cons (ds_set 5 sc_law.nd (de_lst (da_cons (de_tup (da_cons de_str da_nil)) (da_cons (de_tup (da_cons de_str (da_cons de_str da_nil))) (da_cons (de_tup (da_cons de_str (da_cons de_str (da_cons (de_tup (da_cons de_str (da_cons de_str da_nil))) da_nil)))) (da_cons (de_var 4) da_nil)))))) (db_one (ds_ret (de_callF G__law_my_same (hr.mono (by first | decide | omega)) L2.takes0 (da_cons (de_lc (own := [("_law_one", 6)]) sc_law.nd (di_seq (de_op op_addA s_add (dq_var 5) ((de_lst (da_cons (de_sl (dq_var 4) do_none (do_some de_int)) (da_cons (de_tup (da_cons de_str (da_cons de_str (da_cons (de_tup (da_cons de_str da_nil)) da_nil)))) da_nil)))).q)) (blkOk_by (own := [("_law_one", 6)]) (N := N_law) (sc := defScope s_law) (by decide +kernel)) (fun _ _ _ _ _ => dg_name 6 sc_law.nd) (fun _ _ _ _ _ => dts_nil) (fun _ _ _ _ _ => (de_callF G_is_expression (hr.mono (by first | decide | omega)) L2.takes0 (da_cons (de_var 6) da_nil)))) (da_cons (de_op op_addA s_add ((de_op op_mulA s_mulA ((de_lst (da_cons de_bl da_nil))).q (de_int).q)).q ((de_op op_mulA s_mulA ((de_lst (da_cons de_bl da_nil))).q (de_int).q)).q) da_nil)))))))))))) ?_
  · simp (config := { maxSteps := 2000000 }) only [dMulA, dApp, dExt, dPop, dSetOwn, kb_NoneType_bool, kb_NoneType_int, kb_NoneType_str, kb_NoneType_tuple, kb_NoneType_list, kb_NoneType_dict, kb_bool_bool, kb_bool_int, kb_bool_str, kb_bool_tuple, kb_bool_list, kb_bool_dict, kb_int_bool, kb_int_int, kb_int_str, kb_int_tuple, kb_int_list, kb_int_dict, kb_str_bool, kb_str_int, kb_str_str, kb_str_tuple, kb_str_list, kb_str_dict, kb_tuple_bool, kb_tuple_int, kb_tuple_str, kb_tuple_tuple, kb_tuple_list, kb_tuple_dict, kb_list_bool, kb_list_int, kb_list_str, kb_list_tuple, kb_list_list, kb_list_dict, kb_dict_bool, kb_dict_int, kb_dict_str, kb_dict_tuple, kb_dict_list, kb_dict_dict, nx_non, nx_bl, nx_int, nx_str, nx_tup, nx_lst, nx_obj, nx_dct, implies_true, DL.isNon, Bool.not_true, Bool.not_false, beq_self_eq_true, Bool.false_beq, Bool.true_beq, bagD, atI_c0, atI_c1, atI_c2, atI_c3, atI_c4, atI_c5, ixN5_1, ixN5_2, ixN5_3, ixN5_4, ii_eqb, ss_eqb, bb_eqb, scl_ii, scl_ss, scl_bb, dExLen, dExAt, true_or, true_and, and_true, Nat.reduceAdd, startE, retK, takeK, dSeqS, dIfS, dNot, dAnd, dOr, dTest, dOp, dUn, dCallB, dVar, dVarQ, dC, dRet, dRetN, dSet, dNx, dDrop, dTr, dTruth, dIf, dAndV, dOrV, dNotV, dBl, dChain, dIsi, dIsiT, tyD, dCons, dNil, dTup, dLst, dCall, dAsg, dPar, dFor, dLc, dSeq, dRng1, dRng2, dZip, dgName, dgPair, dgTrip, dYes, dM1, dM0, dSl, dPart, dNoPart, dCut, dPut, ownL, dAdd, dI0, dIC, dIn, dNotIn, dIsN, dNotN, dEq, dNe, dIx, dLen, dAll, dAny, dListOf, dTupOf, dInt, dJoin, wipeE, itemsOf, List.map_cons, List.map_nil, List.length_cons, List.length_nil, List.replicate, List.cons_append, List.nil_append, List.set_cons_zero, List.set_cons_succ, List.getElem?_cons_zero, List.getElem?_cons_succ, List.zip_cons_cons, List.zip_nil_left, List.zip_nil_right, List.zip, List.zipWith, lawEnv, lawK, Nat.reduceLeDiff, Int.reduceLE]
    have hd0 : ∀ p ∈ heads, p.2 ≤ 3 ∧ wordB (.str p.1) = true ∧ p.1.length ≤ 2000 := by decide +kernel
    have wd0 : ∀ w ∈ words, wordB (.str w) = true ∧ w.length ≤ 2000 := by decide +kernel
    have hd1 : ∀ p ∈ heads, p.2 ≤ 100 := by decide +kernel
    refine goFor_inv (fun env => ∃ a d e : En, env = [none, some (.ex 0, none), some (.lst (hsD heads), none), a, none, none, d, e]) _ _ ⟨none, none, none, rfl⟩ ?_ ?_
    · rintro x hx env N ⟨a, d, e, rfl⟩ hN
      simp (config := { maxSteps := 2000000 }) only [dMulA, dApp, dExt, dPop, dSetOwn, kb_NoneType_bool, kb_NoneType_int, kb_NoneType_str, kb_NoneType_tuple, kb_NoneType_list, kb_NoneType_dict, kb_bool_bool, kb_bool_int, kb_bool_str, kb_bool_tuple, kb_bool_list, kb_bool_dict, kb_int_bool, kb_int_int, kb_int_str, kb_int_tuple, kb_int_list, kb_int_dict, kb_str_bool, kb_str_int, kb_str_str, kb_str_tuple, kb_str_list, kb_str_dict, kb_tuple_bool, kb_tuple_int, kb_tuple_str, kb_tuple_tuple, kb_tuple_list, kb_tuple_dict, kb_list_bool, kb_list_int, kb_list_str, kb_list_tuple, kb_list_list, kb_list_dict, kb_dict_bool, kb_dict_int, kb_dict_str, kb_dict_tuple, kb_dict_list, kb_dict_dict, nx_non, nx_bl, nx_int, nx_str, nx_tup, nx_lst, nx_obj, nx_dct, implies_true, DL.isNon, Bool.not_true, Bool.not_false, beq_self_eq_true, Bool.false_beq, Bool.true_beq, bagD, atI_c0, atI_c1, atI_c2, atI_c3, atI_c4, atI_c5, ixN5_1, ixN5_2, ixN5_3, ixN5_4, ii_eqb, ss_eqb, bb_eqb, scl_ii, scl_ss, scl_bb, dExLen, dExAt, true_or, true_and, and_true, Nat.reduceAdd, startE, retK, takeK, dSeqS, dIfS, dNot, dAnd, dOr, dTest, dOp, dUn, dCallB, dVar, dVarQ, dC, dRet, dRetN, dSet, dNx, dDrop, dTr, dTruth, dIf, dAndV, dOrV, dNotV, dBl, dChain, dIsi, dIsiT, tyD, dCons, dNil, dTup, dLst, dCall, dAsg, dPar, dFor, dLc, dSeq, dRng1, dRng2, dZip, dgName, dgPair, dgTrip, dYes, dM1, dM0, dSl, dPart, dNoPart, dCut, dPut, ownL, dAdd, dI0, dIC, dIn, dNotIn, dIsN, dNotN, dEq, dNe, dIx, dLen, dAll, dAny, dListOf, dTupOf, dInt, dJoin, wipeE, itemsOf, List.map_cons, List.map_nil, List.length_cons, List.length_nil, List.replicate, List.cons_append, List.nil_append, List.set_cons_zero, List.set_cons_succ, List.getElem?_cons_zero, List.getElem?_cons_succ, List.zip_cons_cons, List.zip_nil_left, List.zip_nil_right, List.zip, List.zipWith]
      refine ⟨by decide, heads, words, rfl, by decide, hd1, by decide, fun one hone => ?_⟩
      obtain ⟨o1, o2, o3⟩ := ex_ok hd0 wd0 hone
      have o4 : cnt one ≤ 120 := o3
      refine ⟨by decide, one, [], rfl, o1, o2, by omega, by omega, by simp; omega, fun L l1 l2 l3 => ?_⟩
      refine ⟨_, L.map pathD, rfl, rfl, by rw [List.length_map]; exact l1, by rw [List.length_map]; omega, fun p hp => ?_⟩
      obtain ⟨q, hq, rfl⟩ := List.mem_map.mp hp
      obtain ⟨q2, e2, pin⟩ := l3 q hq
      rw [List.nil_append] at e2
      subst e2
      refine ⟨one, rfl, o2, by omega, _, by rw [o1], rfl, rfl, fun odd h1 h2 h3 => ?_⟩
      refine ⟨one, odd, q, rfl, by have := pathIn_len pin; omega, o1, o2, pin, h1, h2, fun y y1 y2 y3 => ⟨y, rfl, y2, by omega, _, by rw [y1], rfl, hN _ ⟨_, _, _, rfl⟩⟩⟩
    · rintro env ⟨a, d, e, rfl⟩
      simp (config := { maxSteps := 2000000 }) only [dMulA, dApp, dExt, dPop, dSetOwn, kb_NoneType_bool, kb_NoneType_int, kb_NoneType_str, kb_NoneType_tuple, kb_NoneType_list, kb_NoneType_dict, kb_bool_bool, kb_bool_int, kb_bool_str, kb_bool_tuple, kb_bool_list, kb_bool_dict, kb_int_bool, kb_int_int, kb_int_str, kb_int_tuple, kb_int_list, kb_int_dict, kb_str_bool, kb_str_int, kb_str_str, kb_str_tuple, kb_str_list, kb_str_dict, kb_tuple_bool, kb_tuple_int, kb_tuple_str, kb_tuple_tuple, kb_tuple_list, kb_tuple_dict, kb_list_bool, kb_list_int, kb_list_str, kb_list_tuple, kb_list_list, kb_list_dict, kb_dict_bool, kb_dict_int, kb_dict_str, kb_dict_tuple, kb_dict_list, kb_dict_dict, nx_non, nx_bl, nx_int, nx_str, nx_tup, nx_lst, nx_obj, nx_dct, implies_true, DL.isNon, Bool.not_true, Bool.not_false, beq_self_eq_true, Bool.false_beq, Bool.true_beq, bagD, atI_c0, atI_c1, atI_c2, atI_c3, atI_c4, atI_c5, ixN5_1, ixN5_2, ixN5_3, ixN5_4, ii_eqb, ss_eqb, bb_eqb, scl_ii, scl_ss, scl_bb, dExLen, dExAt, true_or, true_and, and_true, Nat.reduceAdd, startE, retK, takeK, dSeqS, dIfS, dNot, dAnd, dOr, dTest, dOp, dUn, dCallB, dVar, dVarQ, dC, dRet, dRetN, dSet, dNx, dDrop, dTr, dTruth, dIf, dAndV, dOrV, dNotV, dBl, dChain, dIsi, dIsiT, tyD, dCons, dNil, dTup, dLst, dCall, dAsg, dPar, dFor, dLc, dSeq, dRng1, dRng2, dZip, dgName, dgPair, dgTrip, dYes, dM1, dM0, dSl, dPart, dNoPart, dCut, dPut, ownL, dAdd, dI0, dIC, dIn, dNotIn, dIsN, dNotN, dEq, dNe, dIx, dLen, dAll, dAny, dListOf, dTupOf, dInt, dJoin, wipeE, itemsOf, List.map_cons, List.map_nil, List.length_cons, List.length_nil, List.replicate, List.cons_append, List.nil_append, List.set_cons_zero, List.set_cons_succ, List.getElem?_cons_zero, List.getElem?_cons_succ, List.zip_cons_cons, List.zip_nil_left, List.zip_nil_right, List.zip, List.zipWith, Nat.reduceLeDiff, Int.reduceLE]
      refine goFor_invN (fun n env => ∃ a d e : En, env = [none, some (.ex 0, none), some (.lst (hsD heads), none), a, some (deepD n, none), none, d, e]) _ 0 _ ⟨a, d, e, rfl⟩ ?_ ?_
      · rintro i x hx env N ⟨a, d, e, rfl⟩ hN
        simp (config := { maxSteps := 2000000 }) only [dMulA, dApp, dExt, dPop, dSetOwn, kb_NoneType_bool, kb_NoneType_int, kb_NoneType_str, kb_NoneType_tuple, kb_NoneType_list, kb_NoneType_dict, kb_bool_bool, kb_bool_int, kb_bool_str, kb_bool_tuple, kb_bool_list, kb_bool_dict, kb_int_bool, kb_int_int, kb_int_str, kb_int_tuple, kb_int_list, kb_int_dict, kb_str_bool, kb_str_int, kb_str_str, kb_str_tuple, kb_str_list, kb_str_dict, kb_tuple_bool, kb_tuple_int, kb_tuple_str, kb_tuple_tuple, kb_tuple_list, kb_tuple_dict, kb_list_bool, kb_list_int, kb_list_str, kb_list_tuple, kb_list_list, kb_list_dict, kb_dict_bool, kb_dict_int, kb_dict_str, kb_dict_tuple, kb_dict_list, kb_dict_dict, nx_non, nx_bl, nx_int, nx_str, nx_tup, nx_lst, nx_obj, nx_dct, implies_true, DL.isNon, Bool.not_true, Bool.not_false, beq_self_eq_true, Bool.false_beq, Bool.true_beq, bagD, atI_c0, atI_c1, atI_c2, atI_c3, atI_c4, atI_c5, ixN5_1, ixN5_2, ixN5_3, ixN5_4, ii_eqb, ss_eqb, bb_eqb, scl_ii, scl_ss, scl_bb, dExLen, dExAt, true_or, true_and, and_true, Nat.reduceAdd, startE, retK, takeK, dSeqS, dIfS, dNot, dAnd, dOr, dTest, dOp, dUn, dCallB, dVar, dVarQ, dC, dRet, dRetN, dSet, dNx, dDrop, dTr, dTruth, dIf, dAndV, dOrV, dNotV, dBl, dChain, dIsi, dIsiT, tyD, dCons, dNil, dTup, dLst, dCall, dAsg, dPar, dFor, dLc, dSeq, dRng1, dRng2, dZip, dgName, dgPair, dgTrip, dYes, dM1, dM0, dSl, dPart, dNoPart, dCut, dPut, ownL, dAdd, dI0, dIC, dIn, dNotIn, dIsN, dNotN, dEq, dNe, dIx, dLen, dAll, dAny, dListOf, dTupOf, dInt, dJoin, wipeE, itemsOf, List.map_cons, List.map_nil, List.length_cons, List.length_nil, List.replicate, List.cons_append, List.nil_append, List.set_cons_zero, List.set_cons_succ, List.getElem?_cons_zero, List.getElem?_cons_succ, List.zip_cons_cons, List.zip_nil_left, List.zip_nil_right, List.zip, List.zipWith, Nat.reduceLeDiff, Int.reduceLE]
        exact hN _ ⟨_, _, _, rfl⟩
      · rintro env ⟨a, d, e, rfl⟩
        have e9 : 0 + (List.map (fun (i : Nat) => D.int (i : Int)) (List.range (Int.toNat 299))).length = 298 + 1 := by decide +kernel
        rw [e9]
        obtain ⟨d1, d2, d3⟩ := deep_ok (298 + 1)
        have ed : deepD (298 + 1) = .tup [.str "fun", .tup [.str "top"], deepD 298] := rfl
        rw [ed] at d1 d2 d3 ⊢
        simp (config := { maxSteps := 2000000 }) only [dMulA, dApp, dExt, dPop, dSetOwn, kb_NoneType_bool, kb_NoneType_int, kb_NoneType_str, kb_NoneType_tuple, kb_NoneType_list, kb_NoneType_dict, kb_bool_bool, kb_bool_int, kb_bool_str, kb_bool_tuple, kb_bool_list, kb_bool_dict, kb_int_bool, kb_int_int, kb_int_str, kb_int_tuple, kb_int_list, kb_int_dict, kb_str_bool, kb_str_int, kb_str_str, kb_str_tuple, kb_str_list, kb_str_dict, kb_tuple_bool, kb_tuple_int, kb_tuple_str, kb_tuple_tuple, kb_tuple_list, kb_tuple_dict, kb_list_bool, kb_list_int, kb_list_str, kb_list_tuple, kb_list_list, kb_list_dict, kb_dict_bool, kb_dict_int, kb_dict_str, kb_dict_tuple, kb_dict_list, kb_dict_dict, nx_non, nx_bl, nx_int, nx_str, nx_tup, nx_lst, nx_obj, nx_dct, implies_true, DL.isNon, Bool.not_true, Bool.not_false, beq_self_eq_true, Bool.false_beq, Bool.true_beq, bagD, atI_c0, atI_c1, atI_c2, atI_c3, atI_c4, atI_c5, ixN5_1, ixN5_2, ixN5_3, ixN5_4, ii_eqb, ss_eqb, bb_eqb, scl_ii, scl_ss, scl_bb, dExLen, dExAt, true_or, true_and, and_true, Nat.reduceAdd, startE, retK, takeK, dSeqS, dIfS, dNot, dAnd, dOr, dTest, dOp, dUn, dCallB, dVar, dVarQ, dC, dRet, dRetN, dSet, dNx, dDrop, dTr, dTruth, dIf, dAndV, dOrV, dNotV, dBl, dChain, dIsi, dIsiT, tyD, dCons, dNil, dTup, dLst, dCall, dAsg, dPar, dFor, dLc, dSeq, dRng1, dRng2, dZip, dgName, dgPair, dgTrip, dYes, dM1, dM0, dSl, dPart, dNoPart, dCut, dPut, ownL, dAdd, dI0, dIC, dIn, dNotIn, dIsN, dNotN, dEq, dNe, dIx, dLen, dAll, dAny, dListOf, dTupOf, dInt, dJoin, wipeE, itemsOf, List.map_cons, List.map_nil, List.length_cons, List.length_nil, List.replicate, List.cons_append, List.nil_append, List.set_cons_zero, List.set_cons_succ, List.getElem?_cons_zero, List.getElem?_cons_succ, List.zip_cons_cons, List.zip_nil_left, List.zip_nil_right, List.zip, List.zipWith, Nat.reduceLeDiff, Int.reduceLE, cutG_t2]
        refine ⟨by decide, goLc_map (fun d => .bl (isE d)) _ [] (fun x hx Q hQ => ?_) ?_⟩
        · simp (config := { maxSteps := 2000000 }) only [dMulA, dApp, dExt, dPop, dSetOwn, kb_NoneType_bool, kb_NoneType_int, kb_NoneType_str, kb_NoneType_tuple, kb_NoneType_list, kb_NoneType_dict, kb_bool_bool, kb_bool_int, kb_bool_str, kb_bool_tuple, kb_bool_list, kb_bool_dict, kb_int_bool, kb_int_int, kb_int_str, kb_int_tuple, kb_int_list, kb_int_dict, kb_str_bool, kb_str_int, kb_str_str, kb_str_tuple, kb_str_list, kb_str_dict, kb_tuple_bool, kb_tuple_int, kb_tuple_str, kb_tuple_tuple, kb_tuple_list, kb_tuple_dict, kb_list_bool, kb_list_int, kb_list_str, kb_list_tuple, kb_list_list, kb_list_dict, kb_dict_bool, kb_dict_int, kb_dict_str, kb_dict_tuple, kb_dict_list, kb_dict_dict, nx_non, nx_bl, nx_int, nx_str, nx_tup, nx_lst, nx_obj, nx_dct, implies_true, DL.isNon, Bool.not_true, Bool.not_false, beq_self_eq_true, Bool.false_beq, Bool.true_beq, bagD, atI_c0, atI_c1, atI_c2, atI_c3, atI_c4, atI_c5, ixN5_1, ixN5_2, ixN5_3, ixN5_4, ii_eqb, ss_eqb, bb_eqb, scl_ii, scl_ss, scl_bb, dExLen, dExAt, true_or, true_and, and_true, Nat.reduceAdd, startE, retK, takeK, dSeqS, dIfS, dNot, dAnd, dOr, dTest, dOp, dUn, dCallB, dVar, dVarQ, dC, dRet, dRetN, dSet, dNx, dDrop, dTr, dTruth, dIf, dAndV, dOrV, dNotV, dBl, dChain, dIsi, dIsiT, tyD, dCons, dNil, dTup, dLst, dCall, dAsg, dPar, dFor, dLc, dSeq, dRng1, dRng2, dZip, dgName, dgPair, dgTrip, dYes, dM1, dM0, dSl, dPart, dNoPart, dCut, dPut, ownL, dAdd, dI0, dIC, dIn, dNotIn, dIsN, dNotN, dEq, dNe, dIx, dLen, dAll, dAny, dListOf, dTupOf, dInt, dJoin, wipeE, itemsOf, List.map_cons, List.map_nil, List.length_cons, List.length_nil, List.replicate, List.cons_append, List.nil_append, List.set_cons_zero, List.set_cons_succ, List.getElem?_cons_zero, List.getElem?_cons_succ, List.zip_cons_cons, List.zip_nil_left, List.zip_nil_right, List.zip, List.zipWith]
          have key : sm x = true ∧ cnt x ≤ 100000 := by
            simp only [List.mem_cons, List.not_mem_nil, or_false] at hx
            rcases hx with rfl | rfl | rfl | rfl | rfl | rfl
            · exact ⟨by decide +kernel, by decide +kernel⟩
            · exact ⟨by decide +kernel, by decide +kernel⟩
            · exact ⟨by decide +kernel, by decide +kernel⟩
            · exact ⟨d2, by rw [d3]; decide⟩
            · exact ⟨by decide +kernel, by decide +kernel⟩
            · exact ⟨by decide +kernel, by decide +kernel⟩
          exact ⟨x, rfl, key.1, key.2, hQ⟩
        · have f1 : isE (.tup [.str "top"]) = true := by decide +kernel
          have f2 : isE (.tup [.str "of", .str "of"]) = true := by decide +kernel
          have f3 : isE (.tup [.str "of", .str "var", .tup [.str "var", .str "fun"]]) = true := by decide +kernel
          have f5 : isE (.tup [.str "fun", .tup [.str "top"]]) = false := by decide +kernel
          have f6 : isE (.tup [.str "of", .str "top", .tup [.str "top"]]) = false := by decide +kernel
          simp only [List.nil_append, List.map_cons, List.map_nil, f1, f2, f3, d1, f5, f6]
          exact ⟨by decide, by decide, by decide, by decide, by decide, by decide, by decide, _, rfl, by decide, rfl⟩
end
/-! ### the head, the joint -/
def dd_is_word : He.DefD := ⟨("is_word", none), "is_word", "is_word", defArgs s_is_word, defBody s_is_word, defScope s_is_word, [], []⟩
def dd_inner : He.DefD := ⟨("inner", none), "inner", "inner", defArgs s_inner, defBody s_inner, defScope s_inner, [], []⟩
def dd_has_form : He.DefD := ⟨("has_form", none), "has_form", "has_form", defArgs s_has_form, defBody s_has_form, defScope s_has_form, [], []⟩
def dd_is_expression : He.DefD := ⟨("is_expression", none), "is_expression", "is_expression", defArgs s_is_expression, defBody s_is_expression, defScope s_is_expression, [], []⟩
def dd__law_my_bag : He.DefD := ⟨("_law_my_bag", none), "_law_my_bag", "_law_my_bag", defArgs s__law_my_bag, defBody s__law_my_bag, defScope s__law_my_bag, [], []⟩
def dd__law_my_take : He.DefD := ⟨("_law_my_take", none), "_law_my_take", "_law_my_take", defArgs s__law_my_take, defBody s__law_my_take, defScope s__law_my_take, [], []⟩
def dd__law_my_pick : He.DefD := ⟨("_law_my_pick", none), "_law_my_pick", "_law_my_pick", defArgs s__law_my_pick, defBody s__law_my_pick, defScope s__law_my_pick, [], []⟩
def dd__law_my_leaf : He.DefD := ⟨("_law_my_leaf", none), "_law_my_leaf", "_law_my_leaf", defArgs s__law_my_leaf, defBody s__law_my_leaf, defScope s__law_my_leaf, [], []⟩
def dd__law_my_any_one : He.DefD := ⟨("_law_my_any_one", none), "_law_my_any_one", "_law_my_any_one", defArgs s__law_my_any_one, defBody s__law_my_any_one, defScope s__law_my_any_one, [], []⟩
def dd__law_my_inner : He.DefD := ⟨("_law_my_inner", none), "_law_my_inner", "_law_my_inner", defArgs s__law_my_inner, defBody s__law_my_inner, defScope s__law_my_inner, [], []⟩
def dd__law_my_paths : He.DefD := ⟨("_law_my_paths", none), "_law_my_paths", "_law_my_paths", defArgs s__law_my_paths, defBody s__law_my_paths, defScope s__law_my_paths, [], []⟩
def dd__law_my_same : He.DefD := ⟨("_law_my_same", none), "_law_my_same", "_law_my_same", defArgs s__law_my_same, defBody s__law_my_same, defScope s__law_my_same, [], []⟩
def dd__law_my_put : He.DefD := ⟨("_law_my_put", none), "_law_my_put", "_law_my_put", defArgs s__law_my_put, defBody s__law_my_put, defScope s__law_my_put, [], []⟩
def dd__law_my_odd : He.DefD := ⟨("_law_my_odd", none), "_law_my_odd", "_law_my_odd", defArgs s__law_my_odd, defBody s__law_my_odd, defScope s__law_my_odd, [], []⟩
def dd_law : He.DefD := ⟨("law", none), "law", "law", defArgs s_law, defBody s_law, defScope s_law, [], []⟩
def fns : List He.DefD := [dd_is_word, dd_inner, dd_has_form, dd_is_expression, dd__law_my_bag, dd__law_my_take, dd__law_my_pick, dd__law_my_leaf, dd__law_my_any_one, dd__law_my_inner, dd__law_my_paths, dd__law_my_same, dd__law_my_put, dd__law_my_odd, dd_law]
def fas : List He.Fa := [.glo "is_word", .glo "inner", .glo "has_form", .glo "is_expression", .glo "_law_my_bag", .glo "_law_my_take", .glo "_law_my_pick", .glo "_law_my_leaf", .glo "_law_my_any_one", .glo "_law_my_inner", .glo "_law_my_paths", .glo "_law_my_same", .glo "_law_my_put", .glo "_law_my_odd", .glo "law", .free "int", .free "len", .free "isinstance", .free "str", .free "bool", .free "tuple", .free "list", .free "all", .free "zip", .free "range", .str "LETTERS" "abcdefghijklmnopqrstuvwxyz", .glo "RESERVED", .int "LONGEST_WORD" 6]
def exs (K : PySem.W.Frag) : Bool := He.tupB K "RESERVED" [.str "top", .str "bead", .str "kind", .str "gives", .str "takes", .str "holds"]
abbrev RR : PySem.W.OpenRow := PySem.W.OpenLaw.row PySem.Challenge.rw_kindsigns_k03_values_that_are_expression
abbrev hk : PySem.W.Hook := He.hookX 4 fas fns [] [] exs
def ob (s : PySem.W.SharedT) : He.AlX := He.obsX 4 fas fns [] [] exs (HandSHeadRun.getT s)
theorem ob_eq (s : PySem.W.SharedT) : ob s = hk.obs s.abs := He.obsX_eq (HandSHeadRun.getT_eq s)
def names0 : List PySem.Str := ["__name__", "LETTERS", "RESERVED", "LONGEST_WORD", "is_word", "inner", "has_form", "is_expression", "_law_my_bag", "_law_my_take", "_law_my_pick", "_law_my_leaf", "_law_my_any_one", "_law_my_inner", "_law_my_paths", "_law_my_same", "_law_my_put", "_law_my_odd"]
def names : List PySem.Str := names0
abbrev qv : Program := PySem.W.view RR.prog [19]

theorem run (w : World) : HandSHeadRun.RunEq RR qv hk ob 8000 names w := by
  intro os
  kernel_rfl
theorem facts {w : World} {K : PySem.W.Frag} {h : Heap} {mg : Str → Option Value} {fa : Addr} (X : K.In h) (G : h.Ns mainGlobals mg) (hfa : mg ("law" : Str) = some (.ref fa)) (c : He.SaysX fas fns [] [] exs w h K) (P : Program) :
    ∃ fd : FuncData, (∀ (s : Shared) (v : Value), BindsTo s fd ⟨[v], []⟩ [("_law_script", v)]) ∧ ∀ base : Heap, FnOk P w K mg base CX0 141 fa fd ["_law_script"] (spLaw K) := by
  have D := c.t.d
  have EX0 := c.more
  have T : Txt K mg := {
    b_int := He.free_ok X G (c.t.d.fact 15 (f := .free "int") rfl)
    b_len := He.free_ok X G (c.t.d.fact 16 (f := .free "len") rfl)
    b_isinstance := He.free_ok X G (c.t.d.fact 17 (f := .free "isinstance") rfl)
    b_str := He.free_ok X G (c.t.d.fact 18 (f := .free "str") rfl)
    b_bool := He.free_ok X G (c.t.d.fact 19 (f := .free "bool") rfl)
    b_tuple := He.free_ok X G (c.t.d.fact 20 (f := .free "tuple") rfl)
    b_list := He.free_ok X G (c.t.d.fact 21 (f := .free "list") rfl)
    b_all := He.free_ok X G (c.t.d.fact 22 (f := .free "all") rfl)
    b_zip := He.free_ok X G (c.t.d.fact 23 (f := .free "zip") rfl)
    b_range := He.free_ok X G (c.t.d.fact 24 (f := .free "range") rfl)
    g_LETTERS := fun W => glob_str X G (c.t.d.fact 25 (f := .str "LETTERS" "abcdefghijklmnopqrstuvwxyz") rfl)
    g_RESERVED := fun W => glob_tup (ds := [.str "top", .str "bead", .str "kind", .str "gives", .str "takes", .str "holds"]) X G (c.t.d.fact 26 (f := .glo "RESERVED") rfl) (by exact EX0) rfl
    g_LONGEST_WORD := fun W => glob_int X G (c.t.d.fact 27 (f := .int "LONGEST_WORD" 6) rfl)
  }
  have A_is_word : DefAt K mg "is_word" s_is_word := defAt_of X G D 0 0 rfl rfl
  have A_inner : DefAt K mg "inner" s_inner := defAt_of X G D 1 1 rfl rfl
  have A_has_form : DefAt K mg "has_form" s_has_form := defAt_of X G D 2 2 rfl rfl
  have A_is_expression : DefAt K mg "is_expression" s_is_expression := defAt_of X G D 3 3 rfl rfl
  have A__law_my_bag : DefAt K mg "_law_my_bag" s__law_my_bag := defAt_of X G D 4 4 rfl rfl
  have A__law_my_take : DefAt K mg "_law_my_take" s__law_my_take := defAt_of X G D 5 5 rfl rfl
  have A__law_my_pick : DefAt K mg "_law_my_pick" s__law_my_pick := defAt_of X G D 6 6 rfl rfl
  have A__law_my_leaf : DefAt K mg "_law_my_leaf" s__law_my_leaf := defAt_of X G D 7 7 rfl rfl
  have A__law_my_any_one : DefAt K mg "_law_my_any_one" s__law_my_any_one := defAt_of X G D 8 8 rfl rfl
  have A__law_my_inner : DefAt K mg "_law_my_inner" s__law_my_inner := defAt_of X G D 9 9 rfl rfl
  have A__law_my_paths : DefAt K mg "_law_my_paths" s__law_my_paths := defAt_of X G D 10 10 rfl rfl
  have A__law_my_same : DefAt K mg "_law_my_same" s__law_my_same := defAt_of X G D 11 11 rfl rfl
  have A__law_my_put : DefAt K mg "_law_my_put" s__law_my_put := defAt_of X G D 12 12 rfl rfl
  have A__law_my_odd : DefAt K mg "_law_my_odd" s__law_my_odd := defAt_of X G D 13 13 rfl rfl
  have A_law : DefAt K mg "law" s_law := defAt_of X G D 14 14 rfl rfl
  obtain ⟨f, fd, F, m⟩ := A_law
  cases m.symm.trans hfa
  have b := FunD.bindsA (ps := ["_law_script"]) F (fun _ _ _ _ _ _ us hl => match us, hl with | [_], _ => rfl)
  exact ⟨fd, fun s v => b s [v] rfl, fun base =>
    have gt : ∀ b sa, FnAt P w K mg base (bagW b sa) 2 "_law_my_take" FTake := fun b sa => ok_take T A__law_my_take
    have gp : ∀ b sa, FnAt P w K mg base (bagW b sa) 3 "_law_my_pick" FPick := fun b sa => ok_pick T A__law_my_pick (gt b sa)
    ok_law T F (ok_bag A__law_my_bag T.b_int T.b_list) gp (fun W n => ok_same T A__law_my_same n) (fun b sa => ok_any T A__law_my_any_one (gt b sa) (gp b sa) (ok_leaf T A__law_my_leaf (gt b sa) (gp b sa)) 3)
      (fun W => ok_paths T A__law_my_paths (ok_my_inner T A__law_my_inner) 130) (fun W => ok_put T A__law_my_put 130) (fun b sa => ok_odd T A__law_my_odd (gp b sa)) (fun W => ok_is_expression T A_is_expression (ok_has_form T A_has_form (ok_is_word T A_is_word)) (ok_inner T A_inner))⟩
end KS
open PySem PySem.W PySem.Calls PyProof.Rows
theorem PySem.Challenge.cw_kindsigns_k03_values_that_are_expression_holds : PySem.Challenge.rw_kindsigns_k03_values_that_are_expression.Holds := by
  w_on; o_law
  refine HandSHeadRun.head_any (r := OpenLaw.row PySem.Challenge.rw_kindsigns_k03_values_that_are_expression) (q := view (OpenLaw.row PySem.Challenge.rw_kindsigns_k03_values_that_are_expression).prog [19]) (H := KS.hk) (ob := KS.ob) (M := 8000) (loose := KS.names) (d := HandSHeadRun.topDef (OpenLaw.row PySem.Challenge.rw_kindsigns_k03_values_that_are_expression).prog 19) (kwd := []) KS.ob_eq
    (by kernel_rfl) (fun s => by kernel_rfl) KS.run (by kernel_rfl) (by kernel_rfl) (by kernel_rfl) (by rfl) (by first | assumption | decide +kernel) (by decide +kernel) ⟨rfl, rfl, rfl, rfl, rfl, by decide +kernel⟩ ?hw ?hc
  case hw => w_witness2
  case hc =>
    refine L2.walk_ofE (l := PySem.Challenge.rw_kindsigns_k03_values_that_are_expression) (n := 63) (k := 141) (x := "_law_script") (CX := L2.CX0) rfl (by decide) (by kernel_rfl) ⟨rfl, by decide, by decide⟩ ?F (fun _ _ _ _ z => z)
    intro w mg fa h Y G hmg0
    obtain ⟨K, KX, c⟩ := Y
    have hmg : mg ("law" : PySem.Str) = some (.ref fa) := by
      have e : (HandSHeadRun.topDef (OpenLaw.row PySem.Challenge.rw_kindsigns_k03_values_that_are_expression).prog 19).name = ("law" : PySem.Str) := by kernel_rfl
      rw [← e]
      exact hmg0
    have hF := KS.facts (w := w) KX G hmg c (PySem.Challenge.rw_kindsigns_k03_values_that_are_expression).prog
    obtain ⟨fd, hb, hF⟩ := hF
    exact ⟨K, fd, DL.spLaw K, KX, hb, fun H a ns hl _ hS => ⟨a, ns, rfl, hS, hl, fun _ => rfl⟩, fun base _ _ => hF base⟩
