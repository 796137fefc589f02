import PyProof.Rows.All
import Wide.All
import OpenK.AllK
import Wide.FinOn
import HandS.ForMost
import HandS.ForExc
import KE.DataEq
import KE.DataCmp
import HandS.Style
import HandS.IsInst
import HandS.Text
import HandS.Steps
import HandS.Comp
import HandS.Iter
import HandS.WordsDict
import KE.KSortedM
import HandS.CallSlots
import HandS.Defaults
import HandS.WordsExc
import HandS.Star
import HandS.Property
import HandS.FStr
import PyProof.InstNe
import PyProof.InstSpecial
import PyProof.FactsAll.object_2
import PySem.Challenge.RW_fullestfirst_k01_keys_and_mixings
set_option Elab.async false
set_option linter.all false
set_option maxRecDepth 100000
/-! DL: a data layer over HandS. Plain data D (trees), what it means that a value stands for data (Rep), slots that hold data, shared or owned (Sync), and the primitive steps. -/
namespace DL
open PySem L2

/-! ### data -/
inductive D where
  | non | bl (b : Bool) | int (i : Int) | str (x : Str) | ty (n : String) | rf (a : Addr)
  | lst (xs : List D) | tup (xs : List D)
  | kl (xs : List D)
  | dK (kvs : List (Key × D)) | dT (kvs : List (List Key × D))
  | obj (C : Addr) (fs : List (Str × D))
  | box (d : D)

/-- an exception of one's own: its class, its attributes -/
structure Exc where
  cls : Value
  fs : List (Str × D)

mutual
inductive Rep (K : PySem.W.Frag) (G : Hp) : D → V → Prop
  | non : Rep K G .non .non
  | bl (b : Bool) : Rep K G (.bl b) (.bl b)
  | int (i : Int) : Rep K G (.int i) (.int i)
  | str (x : Str) : Rep K G (.str x) (.str x)
  | ty (n : String) : Rep K G (.ty n) (.ty n)
  | rf (a : Addr) : Rep K G (.rf a) (.ref a)
  | lst {a : Addr} {vs : List V} {ds : List D} : G a = some (.lst vs) → RepA K G ds vs → Rep K G (.lst ds) (.ref a)
  | kl {a : Addr} {vs : List V} {ds : List D} : SqL K G a vs → RepA K G ds vs → Rep K G (.kl ds) (.ref a)
  | tup {a : Addr} {vs : List V} {ds : List D} : SqT K G a vs → RepA K G ds vs → Rep K G (.tup ds) (.ref a)
  | dK {a : Addr} {kv : List (Key × V)} {kd : List (Key × D)} : Rd G a (.dK kv) → kv.map (·.1) = kd.map (·.1) → RepA K G (kd.map (·.2)) (kv.map (·.2)) → Rep K G (.dK kd) (.ref a)
  | dT {a : Addr} {kv : List (List Key × V)} {kd : List (List Key × D)} : Rd G a (.dT kv) → kv.map (·.1) = kd.map (·.1) → RepA K G (kd.map (·.2)) (kv.map (·.2)) → Rep K G (.dT kd) (.ref a)
  | obj {a C dx : Addr} {fv : List (Str × V)} {fd : List (Str × D)} : G a = some (.ins C dx fv) → fv.map (·.1) = fd.map (·.1) → RepA K G (fd.map (·.2)) (fv.map (·.2)) → Rep K G (.obj C fd) (.ref a)
inductive RepA (K : PySem.W.Frag) (G : Hp) : List D → List V → Prop
  | nil : RepA K G [] []
  | cons {d : D} {v : V} {ds : List D} {vs : List V} : Rep K G d v → RepA K G ds vs → RepA K G (d :: ds) (v :: vs)
end

/-- an object that stands for data, its parts shared -/
inductive OR (K : PySem.W.Frag) (G : Hp) : HO → D → Prop
  | lst {vs : List V} {ds : List D} : RepA K G ds vs → OR K G (.lst vs) (.lst ds)
  | tup {vs : List V} {ds : List D} : RepA K G ds vs → OR K G (.tup vs) (.tup ds)
  | dK {kv : List (Key × V)} {kd : List (Key × D)} : kv.map (·.1) = kd.map (·.1) → RepA K G (kd.map (·.2)) (kv.map (·.2)) → OR K G (.dK kv) (.dK kd)
  | dT {kv : List (List Key × V)} {kd : List (List Key × D)} : kv.map (·.1) = kd.map (·.1) → RepA K G (kd.map (·.2)) (kv.map (·.2)) → OR K G (.dT kv) (.dT kd)
  | obj {C dx : Addr} {fv : List (Str × V)} {fd : List (Str × D)} : fv.map (·.1) = fd.map (·.1) → RepA K G (fd.map (·.2)) (fv.map (·.2)) → OR K G (.ins C dx fv) (.obj C fd)

section
variable {K : PySem.W.Frag} {G G' : Hp}
theorem sqT_mono {a : Addr} {xs : List V} (e : Same G G') (h : SqT K G a xs) : SqT K G' a xs := by
  rcases h with (h | ⟨o, h⟩) | h
  · exact .inl (.inl (e a _ h))
  · exact .inl (.inr ⟨o, e a _ h⟩)
  · exact .inr h
theorem rd_mono {a : Addr} {u : HO} (e : Same G G') (h : Rd G a u) : Rd G' a u := by
  rcases h with h | ⟨o, h⟩
  · exact .inl (e a _ h)
  · exact .inr ⟨o, e a _ h⟩
mutual
theorem Rep.mono (e : Same G G') : ∀ {d : D} {v : V}, Rep K G d v → Rep K G' d v
  | _, _, .non => .non
  | _, _, .bl b => .bl b
  | _, _, .int i => .int i
  | _, _, .str x => .str x
  | _, _, .ty n => .ty n
  | _, _, .rf a => .rf a
  | _, _, .lst h r => .lst (e _ _ h) (RepA.mono e r)
  | _, _, .kl h r => .kl (e.seq h) (RepA.mono e r)
  | _, _, .tup h r => .tup (sqT_mono e h) (RepA.mono e r)
  | _, _, .dK h k r => .dK (rd_mono e h) k (RepA.mono e r)
  | _, _, .dT h k r => .dT (rd_mono e h) k (RepA.mono e r)
  | _, _, .obj h k r => .obj (e _ _ h) k (RepA.mono e r)
theorem RepA.mono (e : Same G G') : ∀ {ds : List D} {vs : List V}, RepA K G ds vs → RepA K G' ds vs
  | _, _, .nil => .nil
  | _, _, .cons h t => .cons (Rep.mono e h) (RepA.mono e t)
end
theorem OR.mono (e : Same G G') {o : HO} {d : D} (h : OR K G o d) : OR K G' o d := by
  cases h with
  | lst r => exact .lst (r.mono e)
  | tup r => exact .tup (r.mono e)
  | dK k r => exact .dK k (r.mono e)
  | dT k r => exact .dT k (r.mono e)
  | obj k r => exact .obj k (r.mono e)
theorem OR.rep {o : HO} {d : D} {a : Addr} (h : OR K G o d) (e : G a = some o) : Rep K G d (.ref a) := by
  cases h with
  | lst r => exact .lst e r
  | tup r => exact .tup (.inl (.inl e)) r
  | dK k r => exact .dK (.inl e) k r
  | dT k r => exact .dT (.inl e) k r
  | obj k r => exact .obj e k r
theorem RepA.length : ∀ {ds : List D} {vs : List V}, RepA K G ds vs → ds.length = vs.length
  | _, _, .nil => rfl
  | _, _, .cons _ t => congrArg (· + 1) (RepA.length t)
theorem RepA.get : ∀ {ds : List D} {vs : List V} {i : Nat} {d : D}, RepA K G ds vs → ds[i]? = some d → ∃ v, vs[i]? = some v ∧ Rep K G d v
  | _, _, _, _, .nil, e => by simp at e
  | _, _, 0, _, .cons h _, e => by simp at e; subst e; exact ⟨_, rfl, h⟩
  | _, _, i + 1, d, .cons _ t, e => by
    obtain ⟨v, h1, h2⟩ := RepA.get (i := i) (d := d) t (by simpa using e)
    exact ⟨v, by simpa using h1, h2⟩
theorem RepA.getV : ∀ {ds : List D} {vs : List V} {i : Nat} {v : V}, RepA K G ds vs → vs[i]? = some v → ∃ d, ds[i]? = some d ∧ Rep K G d v
  | _, _, _, _, .nil, e => by simp at e
  | _, _, 0, _, .cons h _, e => by simp at e; subst e; exact ⟨_, rfl, h⟩
  | _, _, i + 1, d, .cons _ t, e => by
    obtain ⟨v, h1, h2⟩ := RepA.getV (i := i) (v := d) t (by simpa using e)
    exact ⟨v, by simpa using h1, h2⟩
theorem RepA.append : ∀ {ds es : List D} {vs us : List V}, RepA K G ds vs → RepA K G es us → RepA K G (ds ++ es) (vs ++ us)
  | _, _, _, _, .nil, s => s
  | _, _, _, _, .cons r t, s => .cons r (RepA.append t s)
theorem RepA.take : ∀ {ds : List D} {vs : List V} (n : Nat), RepA K G ds vs → RepA K G (ds.take n) (vs.take n)
  | _, _, 0, _ => .nil
  | _, _, _ + 1, .nil => .nil
  | _, _, n + 1, .cons r t => .cons r (RepA.take n t)
theorem RepA.drop : ∀ {ds : List D} {vs : List V} (n : Nat), RepA K G ds vs → RepA K G (ds.drop n) (vs.drop n)
  | _, _, 0, r => r
  | _, _, _ + 1, .nil => .nil
  | _, _, n + 1, .cons _ t => RepA.drop n t
theorem RepA.set {d : D} {v : V} (r : Rep K G d v) : ∀ {ds : List D} {vs : List V} (i : Nat), RepA K G ds vs → RepA K G (ds.set i d) (vs.set i v)
  | _, _, _, .nil => .nil
  | _, _, 0, .cons _ t => .cons r t
  | _, _, i + 1, .cons q t => .cons q (RepA.set r i t)
theorem RepA.reverse {ds : List D} {vs : List V} (h : RepA K G ds vs) : RepA K G ds.reverse vs.reverse := by
  induction ds generalizing vs with
  | nil => cases h; exact .nil
  | cons d ds ih =>
    cases h with
    | cons r t => rw [List.reverse_cons, List.reverse_cons]; exact (ih t).append (.cons r .nil)
theorem RepA.eraseIdx : ∀ {ds : List D} {vs : List V} (i : Nat), RepA K G ds vs → RepA K G (ds.eraseIdx i) (vs.eraseIdx i)
  | _, _, _, .nil => .nil
  | _, _, 0, .cons _ t => t
  | _, _, i + 1, .cons q t => .cons q (RepA.eraseIdx i t)
theorem RepA.dropLast : ∀ {ds : List D} {vs : List V}, RepA K G ds vs → RepA K G ds.dropLast vs.dropLast
  | _, _, .nil => .nil
  | _, _, .cons _ .nil => .nil
  | _, _, .cons r (.cons q t) => .cons r (RepA.dropLast (.cons q t))
theorem RepA.ints : ∀ {ns : List Int} {vs : List V}, RepA K G (ns.map D.int) vs → vs = ns.map V.int
  | [], _, .nil => rfl
  | n :: ns, _, .cons h t => by cases h; rw [RepA.ints (ns := ns) t]; rfl
theorem RepA.bls : ∀ {ns : List Bool} {vs : List V}, RepA K G (ns.map D.bl) vs → vs = ns.map V.bl
  | [], _, .nil => rfl
  | n :: ns, _, .cons h t => by cases h; rw [RepA.bls (ns := ns) t]; rfl
theorem RepA.strs : ∀ {ns : List Str} {vs : List V}, RepA K G (ns.map D.str) vs → vs = ns.map V.str
  | [], _, .nil => rfl
  | n :: ns, _, .cons h t => by cases h; rw [RepA.strs (ns := ns) t]; rfl
theorem RepA.of_ints : ∀ (ns : List Int), RepA K G (ns.map D.int) (ns.map V.int)
  | [] => .nil
  | n :: ns => .cons (.int n) (RepA.of_ints ns)
theorem RepA.of_strs : ∀ (ns : List Str), RepA K G (ns.map D.str) (ns.map V.str)
  | [] => .nil
  | n :: ns => .cons (.str n) (RepA.of_strs ns)
end

/-! ### owned things: an object of one's own, its boxed parts one's own too -/
inductive ChA (K : PySem.W.Frag) (G H : Hp) : List D → List V → List Addr → Prop
  | nil : ChA K G H [] [] []
  | sh {d : D} {v : V} {ds : List D} {vs : List V} {fp : List Addr} : Rep K G d v → ChA K G H ds vs fp → ChA K G H (d :: ds) (v :: vs) fp
  | bx {d : D} {b : Addr} {o : HO} {ds : List D} {vs : List V} {fp : List Addr} : H b = some o → OR K G o d → ChA K G H ds vs fp → ChA K G H (.box d :: ds) (.ref b :: vs) (b :: fp)
inductive Own (K : PySem.W.Frag) (G H : Hp) : D → Addr → List Addr → Prop
  | flat {a : Addr} {o : HO} {d : D} : H a = some o → OR K G o d → Own K G H d a [a]
  | obj {a C dx : Addr} {fv : List (Str × V)} {fd : List (Str × D)} {fp : List Addr} : H a = some (.ins C dx fv) → fv.map (·.1) = fd.map (·.1) → ChA K G H (fd.map (·.2)) (fv.map (·.2)) fp → Own K G H (.obj C fd) a (a :: fp)
section
variable {K : PySem.W.Frag} {G G' H H' : Hp}
theorem ChA.mono (e : Same G G') {ds : List D} {vs : List V} {fp : List Addr} (h : ChA K G H ds vs fp) : (∀ b ∈ fp, H' b = H b) → ChA K G' H' ds vs fp := by
  induction h with
  | nil => exact fun _ => .nil
  | sh r _ ih => exact fun k => .sh (r.mono e) (ih k)
  | bx hb r _ ih => exact fun k => .bx (by rw [k _ List.mem_cons_self]; exact hb) (r.mono e) (ih fun b z => k b (List.mem_cons_of_mem _ z))
theorem Own.mono (e : Same G G') {d : D} {a : Addr} {fp : List Addr} (h : Own K G H d a fp) (k : ∀ b ∈ fp, H' b = H b) : Own K G' H' d a fp := by
  cases h with
  | flat h r => exact .flat (by rw [k _ List.mem_cons_self]; exact h) (r.mono e)
  | obj h f c => exact .obj (by rw [k _ List.mem_cons_self]; exact h) f (c.mono e fun b z => k b (List.mem_cons_of_mem _ z))
theorem ChA.live {ds : List D} {vs : List V} {fp : List Addr} (h : ChA K G H ds vs fp) : ∀ b ∈ fp, ∃ o, H b = some o := by
  induction h with
  | nil => exact fun _ z => nomatch z
  | sh _ _ ih => exact ih
  | bx hb _ _ ih =>
    intro b z
    rcases List.mem_cons.mp z with rfl | z
    · exact ⟨_, hb⟩
    · exact ih b z
theorem Own.live {d : D} {a : Addr} {fp : List Addr} (h : Own K G H d a fp) : ∀ b ∈ fp, ∃ o, H b = some o := by
  cases h with
  | flat h r =>
    intro b z
    rw [List.mem_singleton] at z
    subst z
    exact ⟨_, h⟩
  | obj h f c =>
    intro b z
    rcases List.mem_cons.mp z with rfl | z
    · exact ⟨_, h⟩
    · exact c.live b z
theorem Own.mem {d : D} {a : Addr} {fp : List Addr} (h : Own K G H d a fp) : a ∈ fp := by
  cases h <;> exact List.mem_cons_self
end
end DL

namespace DL
open PySem L2

/-! ### slots that hold data; the state in step with the heap -/
/-- shared data; data of one's own (mu: lent by the caller) -/
inductive Slot where
  | sh (d : D) | ow (mu : Bool) (d : D)
abbrev DSt := List (Option Slot)
/-- a def's entry: the heap; its shared part; what must stay as it is; the addresses that were lent; which slot was lent what -/
structure Fr where
  He : Hp
  G0 : Hp
  pr : Hp
  hid : Addr → Prop
  mfp : Nat → List Addr
  mua : Nat → Option Addr

def isOw (st : DSt) (i : Nat) : Prop := ∃ m d, st[i]? = some (some (Slot.ow m d))
structure Sync (K : PySem.W.Frag) (F : Fr) (G : Hp) (fpf : Nat → List Addr) (σ : St) (H : Hp) (st : DSt) : Prop where
  len : st.length = σ.length
  sh : ∀ (i : Nat) (d : D), st[i]? = some (some (Slot.sh d)) → ∃ v, σ[i]? = some (some v) ∧ Rep K G d v
  ow : ∀ (i : Nat) (m : Bool) (d : D), st[i]? = some (some (Slot.ow m d)) → ∃ a, σ[i]? = some (some (.ref a)) ∧ Own K G H d a (fpf i) ∧ (fpf i).Nodup ∧ (∀ b ∈ fpf i, G b = none ∧ (F.He b = none ∨ (m = true ∧ b ∈ F.mfp i)) ∧ F.pr b = none) ∧ (m = true → F.mua i = some a)
  sep : ∀ (i j : Nat), isOw st i → isOw st j → i ≠ j → ∀ b ∈ fpf i, b ∉ fpf j
  g0 : Same F.G0 G
  gh : Same G H
  new : ∀ a o, G a = some o → F.G0 a = some o ∨ F.He a = none
  pr : Same F.pr H
  live : ∀ a o, F.He a = some o → ∃ o', H a = some o'
  hidG : ∀ a, F.hid a → G a = none
  hidP : ∀ a, F.hid a → ∃ o, F.pr a = some o

section
variable {K : PySem.W.Frag} {F : Fr} {G H : Hp} {fpf : Nat → List Addr} {σ : St} {st : DSt}
theorem same_upd {G H : Hp} {p : Addr} {o : HO} (g : Same G H) (hp : H p = none) : Same G (upd G p o) := fun b u e => by
  have : b ≠ p := fun z => by subst z; rw [g _ _ e] at hp; cases hp
  rw [upd_ne this]; exact e
theorem same_upd2 {G H : Hp} {p : Addr} {o : HO} (g : Same G H) : Same (upd G p o) (upd H p o) := fun b u e => by
  by_cases z : b = p
  · subst z; rw [upd_same] at e ⊢; exact e
  · rw [upd_ne z] at e ⊢; exact g _ _ e
theorem Sync.fresh (S : Sync K F G fpf σ H st) {p : Addr} (hp : H p = none) : F.He p = none := by
  cases e : F.He p with
  | none => rfl
  | some o =>
    obtain ⟨o', e'⟩ := S.live p o e
    rw [hp] at e'; cases e'
theorem Sync.freshP (S : Sync K F G fpf σ H st) {p : Addr} (hp : H p = none) : F.pr p = none := by
  cases e : F.pr p with
  | none => rfl
  | some o => rw [S.pr p o e] at hp; cases hp
theorem Sync.freshG (S : Sync K F G fpf σ H st) {p : Addr} (hp : H p = none) : G p = none := by
  cases e : G p with
  | none => rfl
  | some o => rw [S.gh p o e] at hp; cases hp
theorem Sync.hid_ne (S : Sync K F G fpf σ H st) {p a : Addr} (hp : H p = none) (ha : F.hid a) : a ≠ p := fun z => by
  obtain ⟨o, e⟩ := S.hidP a ha
  rw [z] at e
  rw [S.pr p o e] at hp; cases hp
theorem Sync.ne_fp (S : Sync K F G fpf σ H st) {p : Addr} (hp : H p = none) {i : Nat} (h : isOw st i) : ∀ b ∈ fpf i, b ≠ p := fun b hb z => by
  obtain ⟨m, d, e⟩ := h
  obtain ⟨a, _, ow, _⟩ := S.ow i m d e
  obtain ⟨o, eo⟩ := ow.live b hb
  rw [z, hp] at eo; cases eo

/-- the heap grows, all slots as they are -/
theorem Sync.grow (S : Sync K F G fpf σ H st) {G' H' : Hp} (gg : Same G G') (gh : Same G' H') (new : ∀ a o, G' a = some o → G a = some o ∨ F.He a = none) (hh : ∀ a o, H a = some o → H' a = some o)
    (off : ∀ (i : Nat), isOw st i → ∀ b ∈ fpf i, G' b = none) (hd : ∀ a, F.hid a → G' a = none) : Sync K F G' fpf σ H' st where
  len := S.len
  sh := fun i d e => let ⟨v, e1, r⟩ := S.sh i d e; ⟨v, e1, r.mono gg⟩
  ow := fun i m d e => by
    obtain ⟨a, e1, o, nd, f, mm⟩ := S.ow i m d e
    refine ⟨a, e1, o.mono gg (fun b hb => ?_), nd, fun b hb => ⟨off i ⟨m, d, e⟩ b hb, (f b hb).2⟩, mm⟩
    obtain ⟨u, eu⟩ := o.live b hb
    rw [eu]; exact hh b u eu
  sep := S.sep
  g0 := S.g0.trans gg
  gh := gh
  new := fun a o e => (new a o e).elim (S.new a o) .inr
  pr := fun a o e => hh a o (S.pr a o e)
  live := fun a o e => let ⟨o', e'⟩ := S.live a o e; ⟨o', hh _ _ e'⟩
  hidG := hd
  hidP := S.hidP
/-- a new shared object -/
theorem Sync.alloc (S : Sync K F G fpf σ H st) {p : Addr} {o : HO} (hp : H p = none) : Sync K F (upd G p o) fpf σ (upd H p o) st :=
  S.grow (same_upd S.gh hp) (same_upd2 S.gh) (fun a u e => by
    by_cases z : a = p
    · subst z; exact .inr (S.fresh hp)
    · rw [upd_ne z] at e; exact .inl e) (fun a u e => by rw [upd_ne (ne_of_none e hp)]; exact e) (fun i hi b hb => by
    rw [upd_ne (S.ne_fp hp hi b hb)]
    obtain ⟨m, d, e⟩ := hi
    obtain ⟨_, _, _, _, f, _⟩ := S.ow i m d e
    exact (f b hb).1) (fun a ha => by rw [upd_ne fun (z : a = p) => S.hid_ne hp ha z]; exact S.hidG a ha)
/-- a new object that is not (yet) shared -/
theorem Sync.allocH (S : Sync K F G fpf σ H st) {p : Addr} {o : HO} (hp : H p = none) : Sync K F G fpf σ (upd H p o) st :=
  S.grow (Same.refl G) (fun a u e => by rw [upd_ne (ne_of_none (S.gh a u e) hp)]; exact S.gh a u e) (fun a u e => .inl e) (fun a u e => by rw [upd_ne (ne_of_none e hp)]; exact e) (fun i ⟨m, d, e⟩ b hb => by
    obtain ⟨_, _, _, _, f, _⟩ := S.ow i m d e
    exact (f b hb).1) S.hidG

/-- a fresh thing: nobody else's -/
structure Fresh (K : PySem.W.Frag) (F : Fr) (G : Hp) (fpf : Nat → List Addr) (st : DSt) (H : Hp) (d : D) (v : V) : Prop where
  ex : ∃ a fp, v = .ref a ∧ Own K G H d a fp ∧ fp.Nodup ∧ ∀ b ∈ fp, G b = none ∧ (F.He b = none ∧ F.pr b = none) ∧ ∀ (j : Nat), isOw st j → b ∉ fpf j

theorem get_set {α : Type} {l : List α} {i j : Nat} {x y : α} (h : (l.set i x)[j]? = some y) : (j = i ∧ y = x ∧ i < l.length) ∨ (j ≠ i ∧ l[j]? = some y) := by
  rw [List.getElem?_set] at h
  by_cases e : i = j
  · subst e
    rw [if_pos rfl] at h
    by_cases z : i < l.length
    · rw [if_pos z] at h; cases h; exact .inl ⟨rfl, rfl, z⟩
    · rw [if_neg z] at h; cases h
  · rw [if_neg e] at h; exact .inr ⟨fun z => e z.symm, h⟩
theorem ow_set {i j : Nat} {x : Option Slot} (h : isOw (st.set i x) j) : (j = i ∧ ∃ m d, x = some (Slot.ow m d)) ∨ (j ≠ i ∧ isOw st j) := by
  obtain ⟨m, d, e⟩ := h
  rcases get_set e with ⟨a, b, _⟩ | ⟨a, b⟩
  · exact .inl ⟨a, m, d, b.symm⟩
  · exact .inr ⟨a, m, d, b⟩
/-- a slot takes a shared value -/
theorem Sync.assign (S : Sync K F G fpf σ H st) (i : Nat) {d : D} {v : V} (r : Rep K G d v) : Sync K F G fpf (σ.set i (some v)) H (st.set i (some (Slot.sh d))) where
  len := by simp [S.len]
  sh := fun j e h => by
    rcases get_set h with ⟨rfl, b, l⟩ | ⟨a, b⟩
    · cases b
      exact ⟨v, by rw [List.getElem?_set_self (by rw [← S.len]; exact l)], r⟩
    · obtain ⟨u, h1, h2⟩ := S.sh j e b
      exact ⟨u, by rw [List.getElem?_set_ne (Ne.symm a)]; exact h1, h2⟩
  ow := fun j m e h => by
    rcases get_set h with ⟨rfl, b, l⟩ | ⟨a, b⟩
    · cases b
    · obtain ⟨u, h1, h2⟩ := S.ow j m e b
      exact ⟨u, by rw [List.getElem?_set_ne (Ne.symm a)]; exact h1, h2⟩
  sep := fun j k hj hk n => by
    rcases ow_set hj with ⟨_, m, e, z⟩ | ⟨_, hj⟩
    · cases z
    · rcases ow_set hk with ⟨_, m, e, z⟩ | ⟨_, hk⟩
      · cases z
      · exact S.sep j k hj hk n
  g0 := S.g0
  gh := S.gh
  new := S.new
  pr := S.pr
  live := S.live
  hidG := S.hidG
  hidP := S.hidP
/-- a slot takes a fresh thing -/
theorem Sync.assignF (S : Sync K F G fpf σ H st) (i : Nat) {d : D} {v : V} (f : Fresh K F G fpf st H d v) : ∃ fpf', Sync K F G fpf' (σ.set i (some v)) H (st.set i (some (Slot.ow false d))) := by
  obtain ⟨a, fp, rfl, o, nd, off⟩ := f.ex
  refine ⟨fun j => if j = i then fp else fpf j, ⟨by simp [S.len], fun j e h => ?_, fun j m e h => ?_, fun j k hj hk n b hb => ?_, S.g0, S.gh, S.new, S.pr, S.live, S.hidG, S.hidP⟩⟩
  · rcases get_set h with ⟨rfl, b, l⟩ | ⟨z, b⟩
    · cases b
    · obtain ⟨u, h1, h2⟩ := S.sh j e b
      exact ⟨u, by rw [List.getElem?_set_ne (Ne.symm z)]; exact h1, h2⟩
  · rcases get_set h with ⟨rfl, b, l⟩ | ⟨z, b⟩
    · cases b
      rw [if_pos rfl]
      exact ⟨a, by rw [List.getElem?_set_self (by rw [← S.len]; exact l)], o, nd, fun b hb => ⟨(off b hb).1, .inl (off b hb).2.1.1, (off b hb).2.1.2⟩, fun z => nomatch z⟩
    · rw [if_neg z]
      obtain ⟨u, h1, h2⟩ := S.ow j m e b
      exact ⟨u, by rw [List.getElem?_set_ne (Ne.symm z)]; exact h1, h2⟩
  · rcases ow_set hj with ⟨ej, _⟩ | ⟨nj, oj⟩
    · rcases ow_set hk with ⟨ek, _⟩ | ⟨nk, ok⟩
      · exact absurd (ej.trans ek.symm) n
      · simp only [if_neg nk]
        simp only [if_pos ej] at hb
        exact (off b hb).2.2 k ok
    · simp only [if_neg nj] at hb
      rcases ow_set hk with ⟨ek, _⟩ | ⟨nk, ok⟩
      · simp only [if_pos ek]
        exact fun z => (off b z).2.2 j oj hb
      · simp only [if_neg nk]
        exact S.sep j k oj ok n b hb
/-- a slot is forgotten -/
theorem Sync.forget (S : Sync K F G fpf σ H st) (i : Nat) : Sync K F G fpf σ H (st.set i none) where
  len := by simp [S.len]
  sh := fun j e h => by
    rcases get_set h with ⟨rfl, b, l⟩ | ⟨a, b⟩
    · cases b
    · exact S.sh j e b
  ow := fun j m e h => by
    rcases get_set h with ⟨rfl, b, l⟩ | ⟨a, b⟩
    · cases b
    · exact S.ow j m e b
  sep := fun j k hj hk n => by
    rcases ow_set hj with ⟨_, m, e, z⟩ | ⟨_, hj⟩
    · cases z
    · rcases ow_set hk with ⟨_, m, e, z⟩ | ⟨_, hk⟩
      · cases z
      · exact S.sep j k hj hk n
  g0 := S.g0
  gh := S.gh
  new := S.new
  pr := S.pr
  live := S.live
  hidG := S.hidG
  hidP := S.hidP
/-- .. and it may then hold anything -/
theorem Sync.any (S : Sync K F G fpf σ H st) (i : Nat) (x : Option V) : Sync K F G fpf (σ.set i x) H (st.set i none) where
  len := by simp [S.len]
  sh := fun j e h => by
    rcases get_set h with ⟨rfl, b, l⟩ | ⟨a, b⟩
    · cases b
    · obtain ⟨u, h1, h2⟩ := S.sh j e b
      exact ⟨u, by rw [List.getElem?_set_ne (Ne.symm a)]; exact h1, h2⟩
  ow := fun j m e h => by
    rcases get_set h with ⟨rfl, b, l⟩ | ⟨a, b⟩
    · cases b
    · obtain ⟨u, h1, h2⟩ := S.ow j m e b
      exact ⟨u, by rw [List.getElem?_set_ne (Ne.symm a)]; exact h1, h2⟩
  sep := fun j k hj hk n => by
    rcases ow_set hj with ⟨_, m, e, z⟩ | ⟨_, hj⟩
    · cases z
    · rcases ow_set hk with ⟨_, m, e, z⟩ | ⟨_, hk⟩
      · cases z
      · exact S.sep j k hj hk n
  g0 := S.g0
  gh := S.gh
  new := S.new
  pr := S.pr
  live := S.live
  hidG := S.hidG
  hidP := S.hidP

/-! ### sharing what was one's own -/
def isBox : D → Bool
  | .box _ => true
  | _ => false
/-- nothing boxed in it -/
def flatD : D → Bool
  | .obj _ fs => fs.all fun p => !isBox p.2
  | _ => true
theorem ChA.flat {ds : List D} {vs : List V} {fp : List Addr} (h : ChA K G H ds vs fp) : (∀ d ∈ ds, isBox d = false) → fp = [] ∧ RepA K G ds vs := by
  induction h with
  | nil => exact fun _ => ⟨rfl, .nil⟩
  | sh r _ ih =>
    intro k
    obtain ⟨a, b⟩ := ih fun d hd => k d (List.mem_cons_of_mem _ hd)
    exact ⟨a, .cons r b⟩
  | bx hb r _ ih =>
    intro k
    have := k _ List.mem_cons_self
    cases this
theorem Own.isFlat {d : D} {a : Addr} {fp : List Addr} (h : Own K G H d a fp) (f : flatD d = true) : ∃ o, H a = some o ∧ OR K G o d ∧ fp = [a] := by
  cases h with
  | flat h r => exact ⟨_, h, r, rfl⟩
  | obj h k c =>
    obtain ⟨e, r⟩ := c.flat fun d hd => by
      obtain ⟨p, hp, rfl⟩ := List.mem_map.mp hd
      have := List.all_eq_true.mp f p hp
      simpa using this
    subst e
    exact ⟨_, h, .obj k r, rfl⟩
theorem Sync.freeze (S : Sync K F G fpf σ H st) {i : Nat} {d : D} (e : st[i]? = some (some (Slot.ow false d))) (f : flatD d = true) :
    ∃ G' v, Same G G' ∧ Sync K F G' fpf σ H (st.set i (some (Slot.sh d))) ∧ σ[i]? = some (some v) ∧ Rep K G' d v := by
  obtain ⟨a, e1, ow, nd, off, _⟩ := S.ow i false d e
  obtain ⟨o, ho, r, hfp⟩ := ow.isFlat f
  have hG : G a = none := (off a ow.mem).1
  have hE : F.He a = none := by
    rcases (off a ow.mem).2.1 with z | ⟨z, _⟩
    · exact z
    · cases z
  have gg : Same G (upd G a o) := fun b u q => by rw [upd_ne (ne_of_none q hG)]; exact q
  have rr : Rep K (upd G a o) d (.ref a) := (r.mono gg).rep upd_same
  have aj : ∀ (j : Nat), isOw st j → j ≠ i → a ∉ fpf j := fun j hj n z => S.sep j i hj ⟨_, _, e⟩ n a z ow.mem
  refine ⟨upd G a o, .ref a, gg, ⟨by simp [S.len], fun j d' h => ?_, fun j m d' h => ?_, fun j k hj hk n => ?_, S.g0.trans gg, fun b u q => ?_, fun b u q => ?_, S.pr, S.live, fun b hb => ?_, S.hidP⟩, e1, rr⟩
  · rcases get_set h with ⟨rfl, b, l⟩ | ⟨z, b⟩
    · cases b; exact ⟨_, e1, rr⟩
    · obtain ⟨u, h1, h2⟩ := S.sh j d' b
      exact ⟨u, h1, h2.mono gg⟩
  · rcases get_set h with ⟨rfl, b, l⟩ | ⟨z, b⟩
    · cases b
    · obtain ⟨u, h1, h2, h3, h4, h5⟩ := S.ow j m d' b
      refine ⟨u, h1, h2.mono gg fun _ _ => rfl, h3, fun c hc => ⟨?_, (h4 c hc).2⟩, h5⟩
      rw [upd_ne fun (q : c = a) => aj j ⟨m, d', b⟩ z (q ▸ hc)]
      exact (h4 c hc).1
  · rcases ow_set hj with ⟨_, m, e, z⟩ | ⟨_, hj⟩
    · cases z
    · rcases ow_set hk with ⟨_, m, e, z⟩ | ⟨_, hk⟩
      · cases z
      · exact S.sep j k hj hk n
  · by_cases z : b = a
    · subst z; rw [upd_same] at q; cases q; exact ho
    · rw [upd_ne z] at q; exact S.gh b u q
  · by_cases z : b = a
    · subst z; exact .inr hE
    · rw [upd_ne z] at q; exact S.new b u q
  · by_cases z : b = a
    · subst z
      obtain ⟨o, e⟩ := S.hidP b hb
      rw [(off b ow.mem).2.2] at e; cases e
    · rw [upd_ne z]; exact S.hidG b hb
/-- a fresh flat thing becomes shared -/
theorem Sync.share (S : Sync K F G fpf σ H st) {d : D} {v : V} (f : Fresh K F G fpf st H d v) (fl : flatD d = true) : ∃ G', Same G G' ∧ Sync K F G' fpf σ H st ∧ Rep K G' d v := by
  obtain ⟨a, fp, rfl, ow, nd, off⟩ := f.ex
  obtain ⟨o, ho, r, hfp⟩ := ow.isFlat fl
  obtain ⟨hG, ⟨hE, hP⟩, hj⟩ := off a ow.mem
  have gg : Same G (upd G a o) := fun b u q => by rw [upd_ne (ne_of_none q hG)]; exact q
  refine ⟨upd G a o, gg, S.grow gg (fun b u q => ?_) (fun b u q => ?_) (fun _ _ q => q) (fun i hi b hb => ?_) (fun b hb => ?_), (r.mono gg).rep upd_same⟩
  · by_cases z : b = a
    · subst z; rw [upd_same] at q; cases q; exact ho
    · rw [upd_ne z] at q; exact S.gh b u q
  · by_cases z : b = a
    · subst z; exact .inr hE
    · rw [upd_ne z] at q; exact .inl q
  · rw [upd_ne fun (q : b = a) => hj i hi (q ▸ hb)]
    obtain ⟨m, d', e⟩ := hi
    obtain ⟨_, _, _, _, f, _⟩ := S.ow i m d' e
    exact (f b hb).1
  · by_cases z : b = a
    · subst z
      obtain ⟨o, e⟩ := S.hidP b hb
      rw [hP] at e; cases e
    · rw [upd_ne z]; exact S.hidG b hb

/-! ### writing to one's own -/
/-- the things of slot i have become d' by writes to its own addresses -/
theorem Sync.write (S : Sync K F G fpf σ H st) {i : Nat} {m : Bool} {d d' : D} {H' : Hp} (e : st[i]? = some (some (Slot.ow m d)))
    (ow' : ∀ a, σ[i]? = some (some (.ref a)) → Own K G H' d' a (fpf i)) (k : ∀ b, b ∉ fpf i → H' b = H b) : Sync K F G fpf σ H' (st.set i (some (Slot.ow m d'))) := by
  obtain ⟨a, e1, ow, nd, off, mm⟩ := S.ow i m d e
  have il : i < st.length := (List.getElem?_eq_some_iff.mp e).1
  have keepO : ∀ b o, H b = some o → b ∉ fpf i → H' b = some o := fun b o q n => by rw [k b n]; exact q
  refine ⟨by simp [S.len], fun j e' h => ?_, fun j m' e' h => ?_, fun j l hj hk n => ?_, S.g0, fun b u q => ?_, S.new, fun b o q => ?_, fun b o q => ?_, S.hidG, S.hidP⟩
  · rcases get_set h with ⟨rfl, b, l⟩ | ⟨z, b⟩
    · cases b
    · exact S.sh j e' b
  · rcases get_set h with ⟨rfl, b, l⟩ | ⟨z, b⟩
    · cases b; exact ⟨a, e1, ow' a e1, nd, off, mm⟩
    · obtain ⟨u, h1, h2, h3⟩ := S.ow j m' e' b
      exact ⟨u, h1, h2.mono (Same.refl G) fun c hc => k c (S.sep j i ⟨_, _, b⟩ ⟨_, _, e⟩ z c hc), h3⟩
  · have o1 : ∀ {x}, isOw (st.set i (some (Slot.ow m d'))) x → isOw st x := fun {x} hx => by
      rcases ow_set hx with ⟨rfl, _⟩ | ⟨_, hx⟩
      · exact ⟨_, _, e⟩
      · exact hx
    exact S.sep j l (o1 hj) (o1 hk) n
  · refine keepO b u (S.gh b u q) fun hb => ?_
    rw [(off b hb).1] at q; cases q
  · refine keepO b o (S.pr b o q) fun hb => ?_
    rw [(off b hb).2.2] at q; cases q
  · by_cases hb : b ∈ fpf i
    · exact (ow' a e1).live b hb
    · obtain ⟨o', q'⟩ := S.live b o q
      exact ⟨o', keepO b o' q' hb⟩
/-- .. the one flat object of slot i -/
theorem Sync.write1 (S : Sync K F G fpf σ H st) {i : Nat} {m : Bool} {d d' : D} {a : Addr} {o' : HO} (e : st[i]? = some (some (Slot.ow m d))) (ea : σ[i]? = some (some (.ref a))) (f : flatD d = true)
    (r : OR K G o' d') : Sync K F G fpf σ (upd H a o') (st.set i (some (Slot.ow m d'))) := by
  obtain ⟨a', e1, ow, nd, off, mm⟩ := S.ow i m d e
  obtain ⟨o, ho, r0, hfp⟩ := ow.isFlat f
  have : a' = a := by rw [ea] at e1; cases e1; rfl
  subst this
  refine S.write e (fun b hb => ?_) fun b hb => upd_ne fun z => hb (by rw [z]; exact ow.mem)
  rw [ea] at hb
  cases hb
  rw [hfp]
  exact .flat upd_same r

/-! ### a thing that is hidden meanwhile -/
/-- the thing at a is kept as it is, and hidden -/
def Fr.hide (F : Fr) (a : Addr) (o : HO) : Fr := { F with pr := upd F.pr a o, hid := fun b => F.hid b ∨ b = a }
/-- a is nobody's yet -/
structure Apart (F : Fr) (G : Hp) (fpf : Nat → List Addr) (st : DSt) (a : Addr) : Prop where
  g : G a = none
  he : F.He a = none
  pr : F.pr a = none
  fp : ∀ (i : Nat), isOw st i → a ∉ fpf i
theorem Sync.hide (S : Sync K F G fpf σ H st) {a : Addr} {o : HO} (p : Apart F G fpf st a) (ha : H a = some o) : Sync K (F.hide a o) G fpf σ H st where
  len := S.len
  sh := S.sh
  ow := fun i m d e => by
    obtain ⟨u, h1, h2, h3, h4, h5⟩ := S.ow i m d e
    refine ⟨u, h1, h2, h3, fun b hb => ⟨(h4 b hb).1, (h4 b hb).2.1, ?_⟩, h5⟩
    show upd F.pr a o b = none
    rw [upd_ne fun (z : b = a) => p.fp i ⟨m, d, e⟩ (z ▸ hb)]
    exact (h4 b hb).2.2
  sep := S.sep
  g0 := S.g0
  gh := S.gh
  new := S.new
  pr := fun b u e => by
    by_cases z : b = a
    · subst z
      have e' : upd F.pr b o b = some u := e
      rw [upd_same] at e'; cases e'; exact ha
    · have e' : upd F.pr a o b = some u := e
      rw [upd_ne z] at e'; exact S.pr b u e'
  live := S.live
  hidG := fun b hb => hb.elim (S.hidG b) fun z => by rw [z]; exact p.g
  hidP := fun b hb => by
    by_cases z : b = a
    · exact ⟨o, by rw [z]; exact upd_same⟩
    · obtain ⟨u, e⟩ := S.hidP b (hb.resolve_right z)
      exact ⟨u, (upd_ne (H := F.pr) z).trans e⟩
theorem Sync.unhide {a : Addr} {o : HO} (S : Sync K (F.hide a o) G fpf σ H st) (hp : F.pr a = none) (he : F.He a = none) (hh : ∀ b, F.hid b → ∃ u, F.pr b = some u) : Sync K F G fpf σ H st ∧ Apart F G fpf st a ∧ H a = some o := by
  have sp : Same F.pr (upd F.pr a o) := fun b u e => by rw [upd_ne (ne_of_none e hp)]; exact e
  refine ⟨⟨S.len, S.sh, fun i m d e => ?_, S.sep, S.g0, S.gh, S.new, fun b u e => S.pr b u (sp b u e), S.live, fun b hb => S.hidG b (.inl hb), hh⟩, ⟨S.hidG a (.inr rfl), he, hp, fun i hi hb => ?_⟩, S.pr a o upd_same⟩
  · obtain ⟨u, h1, h2, h3, h4, h5⟩ := S.ow i m d e
    refine ⟨u, h1, h2, h3, fun b hb => ⟨(h4 b hb).1, (h4 b hb).2.1, ?_⟩, h5⟩
    have z : upd F.pr a o b = none := (h4 b hb).2.2
    by_cases y : b = a
    · subst y; exact hp
    · rw [upd_ne y] at z; exact z
  · obtain ⟨m, d, e⟩ := hi
    obtain ⟨_, _, _, _, h4, _⟩ := S.ow i m d e
    have z : upd F.pr a o a = none := (h4 a hb).2.2
    rw [upd_same] at z; cases z
/-- .. and changed -/
theorem Sync.poke (S : Sync K F G fpf σ H st) {a : Addr} {o : HO} (p : Apart F G fpf st a) : Sync K F G fpf σ (upd H a o) st where
  len := S.len
  sh := S.sh
  ow := fun i m d e => by
    obtain ⟨u, h1, h2, h3⟩ := S.ow i m d e
    exact ⟨u, h1, h2.mono (Same.refl G) fun b hb => upd_ne fun (z : b = a) => p.fp i ⟨m, d, e⟩ (z ▸ hb), h3⟩
  sep := S.sep
  g0 := S.g0
  gh := fun b u e => by rw [upd_ne (ne_of_none e p.g)]; exact S.gh b u e
  new := S.new
  pr := fun b u e => by rw [upd_ne (ne_of_none e p.pr)]; exact S.pr b u e
  live := fun b u e => by
    by_cases z : b = a
    · exact ⟨o, by rw [z]; exact upd_same⟩
    · obtain ⟨w, q⟩ := S.live b u e
      exact ⟨w, by rw [upd_ne z]; exact q⟩
  hidG := S.hidG
  hidP := S.hidP
end
end DL

namespace DL
open PySem L2

/-! ### computations over data -/
inductive Res (α : Type) where
  | ok (a : α) (st : DSt) | err (x : Exc) (st : DSt) | stuck
abbrev M (α : Type) := DSt → Res α
def ret {α : Type} (a : α) : M α := fun st => .ok a st
def bnd {α β : Type} (m : M α) (f : α → M β) : M β := fun st => match m st with
  | .ok a st' => f a st'
  | .err x st' => .err x st'
  | .stuck => .stuck
def lift {α : Type} (o : Option α) : M α := fun st => match o with
  | some a => .ok a st
  | none => .stuck
def stuckM {α : Type} : M α := fun _ => .stuck
def raiseM {α : Type} (x : Exc) : M α := fun st => .err x st

/-! ### what a computation asks of the state: its result stands for data (R), in a heap that grew -/
abbrev Rl (α ρ : Type) := Hp → (Nat → List Addr) → DSt → Hp → α → ρ → Prop
section
variable (K : PySem.W.Frag) (F : Fr) (W : WX) {α β ρ τ : Type}
def At (q : Bool) (R : Rl α ρ) (r : Res α) (st : DSt) (G : Hp) (fpf : Nat → List Addr) (σ : St) (H : Hp) (Q : ρ → Hp → Prop) : Prop :=
  match r with
  | .ok d st' => ∀ (v : ρ) (H' G' : Hp) (fpf' : Nat → List Addr), (q = true → H' = H ∧ G' = G ∧ fpf' = fpf) → Same G G' → Sync K F G' fpf' σ H' st' → R G' fpf' st' H' d v → Q v H'
  | .err x st' => ∀ (a : Addr) (fv : List (Str × V)) (H' G' : Hp) (fpf' : Nat → List Addr), Same G G' → Sync K F G' fpf' σ H' st' → H' a = some (.xd fv) → fv.map (·.1) = x.fs.map (·.1) → RepA K G' (x.fs.map (·.2)) (fv.map (·.2)) → W x.cls (some a) σ H'
  | .stuck => False
def tM (q : Bool) (R : Rl α ρ) (m : M α) : St → Hp → (ρ → Hp → Prop) → Prop := fun σ H Q =>
  ∃ (st : DSt) (G : Hp) (fpf : Nat → List Addr), Sync K F G fpf σ H st ∧ At K F W q R (m st) st G fpf σ H Q
end

section
variable {K : PySem.W.Frag} {F : Fr} {W : WX} {α β ρ τ : Type} {q q1 q2 : Bool} {R : Rl α ρ} {R1 : Rl β τ} {r : Res α} {st : DSt} {G H : Hp} {fpf : Nat → List Addr} {σ : St} {Q Q' : ρ → Hp → Prop}
theorem At.imp (h : At K F W q R r st G fpf σ H Q) (k : ∀ v H', Q v H' → Q' v H') : At K F W q R r st G fpf σ H Q' := by
  cases r with
  | ok d st' => exact fun v H' G' fpf' a b c d => k _ _ (h v H' G' fpf' a b c d)
  | err x st' => exact h
  | stuck => exact h
/-- what is asked of any end is asked of a quiet one -/
theorem At.quiet (h : At K F W false R r st G fpf σ H Q) : At K F W q R r st G fpf σ H Q := by
  cases r with
  | ok d st' => exact fun v H' G' fpf' _ b c d => h v H' G' fpf' (fun z => nomatch z) b c d
  | err x st' => exact h
  | stuck => exact h
/-- m, then f -/
theorem At.bnd {m : M β} {f : β → M α} (hq : q = true → q1 = true ∧ q2 = true) (h : At K F W q R (DL.bnd m f st) st G fpf σ H Q) :
    At K F W q1 R1 (m st) st G fpf σ H fun v H1 => ∃ d st1 G1 fpf1, Same G G1 ∧ Sync K F G1 fpf1 σ H1 st1 ∧ (q1 = true → H1 = H ∧ G1 = G ∧ fpf1 = fpf) ∧ m st = .ok d st1 ∧ R1 G1 fpf1 st1 H1 d v ∧ At K F W q2 R (f d st1) st1 G1 fpf1 σ H1 Q := by
  unfold DL.bnd at h
  cases e : m st with
  | stuck => rw [e] at h; exact h
  | err x st1 => rw [e] at h; exact h
  | ok d st1 =>
    rw [e] at h
    refine fun v H1 G1 fpf1 z gg S1 r1 => ⟨d, st1, G1, fpf1, gg, S1, z, rfl, r1, ?_⟩
    revert h
    show At K F W q R (f d st1) st G fpf σ H Q → _
    cases f d st1 with
    | stuck => exact fun h => h
    | err x st2 => exact fun h a fv H' G' fpf' gg' => h a fv H' G' fpf' (gg.trans gg')
    | ok c st2 =>
      intro h
      refine fun v H' G' fpf' z' gg' S' r' => h v H' G' fpf' (fun y => ?_) (gg.trans gg') S' r'
      obtain ⟨y1, y2⟩ := hq y
      obtain ⟨a1, a2, a3⟩ := z y1
      obtain ⟨b1, b2, b3⟩ := z' y2
      exact ⟨b1.trans a1, b2.trans a2, b3.trans a3⟩
end

/-! ### how results stand -/
/-- to be read, now: shared, or one's own -/
inductive Rp (K : PySem.W.Frag) (G H : Hp) : D → V → Prop
  | rep {d : D} {v : V} : Rep K G d v → Rp K G H d v
  | own {d : D} {a : Addr} {fp : List Addr} : Own K G H d a fp → Rp K G H d (.ref a)
inductive RpA (K : PySem.W.Frag) (G H : Hp) : List D → List V → Prop
  | nil : RpA K G H [] []
  | cons {d : D} {v : V} {ds : List D} {vs : List V} : Rp K G H d v → RpA K G H ds vs → RpA K G H (d :: ds) (v :: vs)
def RSh (K : PySem.W.Frag) : Rl D V := fun G _ _ _ d v => Rep K G d v
def RPk (K : PySem.W.Frag) : Rl D V := fun G _ _ H d v => Rp K G H d v
def RFr (K : PySem.W.Frag) (F : Fr) : Rl D V := fun G fpf st H d v => Fresh K F G fpf st H d v
def REq {α : Type} : Rl α α := fun _ _ _ _ b c => c = b
def RLs (K : PySem.W.Frag) : Rl (List D) (List V) := fun G _ _ _ ds vs => RepA K G ds vs
def RLp (K : PySem.W.Frag) : Rl (List D) (List V) := fun G _ _ H ds vs => RpA K G H ds vs
theorem RpA.of {K : PySem.W.Frag} {G H : Hp} : ∀ {ds : List D} {vs : List V}, RepA K G ds vs → RpA K G H ds vs
  | _, _, .nil => .nil
  | _, _, .cons h t => .cons (.rep h) (RpA.of t)
section
variable {K : PySem.W.Frag} {G H : Hp} {v : V}
theorem Rp.non (h : Rp K G H .non v) : v = .non := by
  cases h with
  | rep h => cases h; rfl
  | own h => cases h with | flat h r => cases r
theorem Rp.bl {b : Bool} (h : Rp K G H (.bl b) v) : v = .bl b := by
  cases h with
  | rep h => cases h; rfl
  | own h => cases h with | flat h r => cases r
theorem Rp.int {i : Int} (h : Rp K G H (.int i) v) : v = .int i := by
  cases h with
  | rep h => cases h; rfl
  | own h => cases h with | flat h r => cases r
theorem Rp.str {x : Str} (h : Rp K G H (.str x) v) : v = .str x := by
  cases h with
  | rep h => cases h; rfl
  | own h => cases h with | flat h r => cases r
theorem Rp.ty {n : String} (h : Rp K G H (.ty n) v) : v = .ty n := by
  cases h with
  | rep h => cases h; rfl
  | own h => cases h with | flat h r => cases r
theorem Rp.rf {a : Addr} (h : Rp K G H (.rf a) v) : v = .ref a := by
  cases h with
  | rep h => cases h; rfl
  | own h => cases h with | flat h r => cases r
theorem Rp.lst {ds : List D} (g : Same G H) (h : Rp K G H (.lst ds) v) : ∃ a vs, v = .ref a ∧ H a = some (.lst vs) ∧ RepA K G ds vs := by
  cases h with
  | rep h => cases h with | lst h r => exact ⟨_, _, rfl, g _ _ h, r⟩
  | own h => cases h with | flat h r => cases r with | lst r => exact ⟨_, _, rfl, h, r⟩
theorem Rp.kl {ds : List D} (g : Same G H) (h : Rp K G H (.kl ds) v) : ∃ a vs, v = .ref a ∧ SqL K H a vs ∧ RepA K G ds vs := by
  cases h with
  | rep h => cases h with | kl h r => exact ⟨_, _, rfl, g.seq h, r⟩
  | own h => cases h with | flat h r => cases r
theorem Rp.seqL {d : D} {ds : List D} (g : Same G H) (h : Rp K G H d v) (e : d = .lst ds ∨ d = .kl ds) : ∃ a vs, v = .ref a ∧ SqL K H a vs ∧ RepA K G ds vs := by
  rcases e with rfl | rfl
  · obtain ⟨a, vs, rfl, h, r⟩ := h.lst g
    exact ⟨a, vs, rfl, .inl (.inl h), r⟩
  · exact h.kl g
theorem Rp.tup {ds : List D} (g : Same G H) (h : Rp K G H (.tup ds) v) : ∃ a vs, v = .ref a ∧ SqT K H a vs ∧ RepA K G ds vs := by
  cases h with
  | rep h => cases h with | tup h r => exact ⟨_, _, rfl, sqT_mono g h, r⟩
  | own h => cases h with | flat h r => cases r with | tup r => exact ⟨_, _, rfl, .inl (.inl h), r⟩
theorem Rp.dK {kd : List (Key × D)} (g : Same G H) (h : Rp K G H (.dK kd) v) : ∃ a kv, v = .ref a ∧ Rd H a (.dK kv) ∧ kv.map (·.1) = kd.map (·.1) ∧ RepA K G (kd.map (·.2)) (kv.map (·.2)) := by
  cases h with
  | rep h => cases h with | dK h k r => exact ⟨_, _, rfl, rd_mono g h, k, r⟩
  | own h => cases h with | flat h r => cases r with | dK k r => exact ⟨_, _, rfl, .inl h, k, r⟩
theorem Rp.dT {kd : List (List Key × D)} (g : Same G H) (h : Rp K G H (.dT kd) v) : ∃ a kv, v = .ref a ∧ Rd H a (.dT kv) ∧ kv.map (·.1) = kd.map (·.1) ∧ RepA K G (kd.map (·.2)) (kv.map (·.2)) := by
  cases h with
  | rep h => cases h with | dT h k r => exact ⟨_, _, rfl, rd_mono g h, k, r⟩
  | own h => cases h with | flat h r => cases r with | dT k r => exact ⟨_, _, rfl, .inl h, k, r⟩
end

/-- the end of an operation: a value as it is, or one new object -/
def Res1 (K : PySem.W.Frag) (G H : Hp) (z : D) (v : V) (H' : Hp) : Prop :=
  (H' = H ∧ Rep K G z v) ∨ ∃ p o, H p = none ∧ v = .ref p ∧ H' = upd H p o ∧ OR K G o z
/-- a new object -/
def ResN (K : PySem.W.Frag) (G H : Hp) (z : D) (v : V) (H' : Hp) : Prop := ∃ p o, H p = none ∧ v = .ref p ∧ H' = upd H p o ∧ OR K G o z
section
variable {K : PySem.W.Frag} {F : Fr} {W : WX} {q : Bool} {st : DSt} {G H H' : Hp} {fpf : Nat → List Addr} {σ : St} {z : D} {v : V} {Q : VK}
theorem At.end0 (S : Sync K F G fpf σ H st) (h : At K F W q (RSh K) (.ok z st) st G fpf σ H Q) (r : Rep K G z v) : Q v H :=
  h v H G fpf (fun _ => ⟨rfl, rfl, rfl⟩) (Same.refl G) S r
theorem At.endN (S : Sync K F G fpf σ H st) (h : At K F W false (RSh K) (.ok z st) st G fpf σ H Q) (r : ResN K G H z v H') : Q v H' := by
  obtain ⟨p, o, hp, rfl, rfl, r⟩ := r
  have gg : Same G (upd G p o) := same_upd S.gh hp
  exact h _ _ (upd G p o) fpf (fun z => nomatch z) gg (S.alloc hp) ((r.mono gg).rep upd_same)
theorem At.end1 (S : Sync K F G fpf σ H st) (h : At K F W false (RSh K) (.ok z st) st G fpf σ H Q) (r : Res1 K G H z v H') : Q v H' := by
  rcases r with ⟨rfl, r⟩ | r
  · exact h.end0 S r
  · exact h.endN S r
theorem At.endF (S : Sync K F G fpf σ H st) (h : At K F W false (RFr K F) (.ok z st) st G fpf σ H Q) (r : ResN K G H z v H') : Q v H' := by
  obtain ⟨p, o, hp, rfl, rfl, r⟩ := r
  refine h _ _ G fpf (fun z => nomatch z) (Same.refl G) (S.allocH hp) ⟨⟨p, [p], rfl, .flat upd_same r, by simp, fun b hb => ?_⟩⟩
  rw [List.mem_singleton] at hb
  subst hb
  exact ⟨S.freshG hp, ⟨S.fresh hp, S.freshP hp⟩, fun j hj hb => S.ne_fp hp hj _ hb rfl⟩
end

theorem PE_mono {X : Cx} {e : Expr} {t t' : TE} (h : PE X e t) (k : ∀ σ H Q, t' σ H Q → t σ H Q) : PE X e t' := ⟨fun pins s σ H Q I q => h.run pins s σ H Q I (k _ _ _ q)⟩
theorem PT_mono {X : Cx} {e : Expr} {t t' : TT} (h : PT X e t) (k : ∀ σ H Q, t' σ H Q → t σ H Q) : PT X e t' := ⟨fun pins s σ H Q I q => h.run pins s σ H Q I (k _ _ _ q)⟩
theorem PA_mono {X : Cx} {es : List Expr} {t t' : TA} (h : PA X es t) (k : ∀ σ H Q, t' σ H Q → t σ H Q) : PA X es t' := ⟨fun pos pins s σ H Q I q => h.run pos pins s σ H Q I (k _ _ _ q)⟩
theorem PW_mono {X : Cx} {e : Expr} {t t' : TT} (h : PW X e t) (k : ∀ σ H Q, t' σ H Q → t σ H Q) : PW X e t' := ⟨fun wh pins s σ H Q I q => h.run wh pins s σ H Q I (k _ _ _ q)⟩
end DL

namespace DL
open PySem L2

/-! ### operations on data -/
def OpS (K : PySem.W.Frag) (r : R2) (g : D → D → Option D) : Prop := ∀ {G H : Hp} {d e z : D} {x y : V} {Q : VK}, Same G H → Rp K G H d x → Rp K G H e y → g d e = some z → (∀ v H', Res1 K G H z v H' → Q v H') → r x y H Q
/-- .. that make nothing -/
def OpS0 (K : PySem.W.Frag) (r : R2) (g : D → D → Option D) : Prop := ∀ {G H : Hp} {d e z : D} {x y : V} {Q : VK}, Same G H → Rp K G H d x → Rp K G H e y → g d e = some z → (∀ v, Rep K G z v → Q v H) → r x y H Q
/-- .. that make a new object -/
def OpSN (K : PySem.W.Frag) (r : R2) (g : D → D → Option D) : Prop := ∀ {G H : Hp} {d e z : D} {x y : V} {Q : VK}, Same G H → Rp K G H d x → Rp K G H e y → g d e = some z → (∀ v H', ResN K G H z v H' → Q v H') → r x y H Q
theorem OpS0.any {K : PySem.W.Frag} {r : R2} {g : D → D → Option D} (h : OpS0 K r g) : OpS K r g := fun a b c d k => h a b c d fun v q => k v _ (.inl ⟨rfl, q⟩)
theorem OpSN.any {K : PySem.W.Frag} {r : R2} {g : D → D → Option D} (h : OpSN K r g) : OpS K r g := fun a b c d k => h a b c d fun v H' q => k v H' (.inr q)
/-- two rules for one operator -/
def orD (g g' : D → D → Option D) : D → D → Option D := fun d e => match g d e with
  | some z => some z
  | none => g' d e
theorem OpS.or {K : PySem.W.Frag} {r r' : R2} {g g' : D → D → Option D} (h : OpS K r g) (h' : OpS K r' g') : OpS K (fun x y H Q => r x y H Q ∨ r' x y H Q) (orD g g') := fun {G H d e z x y Q} a b c k q => by
  unfold orD at k
  cases w : g d e with
  | some u => rw [w] at k; cases k; exact .inl (h a b c w q)
  | none => rw [w] at k; exact .inr (h' a b c k q)
theorem OpS0.or {K : PySem.W.Frag} {r r' : R2} {g g' : D → D → Option D} (h : OpS0 K r g) (h' : OpS0 K r' g') : OpS0 K (fun x y H Q => r x y H Q ∨ r' x y H Q) (orD g g') := fun {G H d e z x y Q} a b c k q => by
  unfold orD at k
  cases w : g d e with
  | some u => rw [w] at k; cases k; exact .inl (h a b c w q)
  | none => rw [w] at k; exact .inr (h' a b c k q)
theorem OpR.or {X : Cx} {f : Value → Value → Sem Value} {r r' : R2} (h : OpR X f r) (h' : OpR X f r') : OpR X f (fun x y H Q => r x y H Q ∨ r' x y H Q) := by
  intro pins s σ H x y v u Q I rx ry q
  rcases q with q | q
  · exact h pins s σ H x y v u Q I rx ry q
  · exact h' pins s σ H x y v u Q I rx ry q
def opM (g : D → D → Option D) (ma mb : M D) : M D := bnd ma fun x => bnd mb fun y => lift (g x y)
def unM (g : D → Option D) (ma : M D) : M D := bnd ma fun x => lift (g x)
def UnS (K : PySem.W.Frag) (r : V → Hp → VK → Prop) (g : D → Option D) : Prop := ∀ {G H : Hp} {d z : D} {x : V} {Q : VK}, Same G H → Rp K G H d x → g d = some z → (∀ v, Rep K G z v → Q v H) → r x H Q
def testM (m : M D) : M Bool := bnd m fun d => match d with
  | .bl b => ret b
  | _ => stuckM
def andM (ma mb : M Bool) : M Bool := bnd ma fun c => if c = true then mb else ret false
def orM (ma mb : M Bool) : M Bool := bnd ma fun c => if c = true then ret true else mb
def notM (ma : M Bool) : M Bool := bnd ma fun c => ret (!c)
def iteM {α : Type} (mc : M Bool) (ma mb : M α) : M α := bnd mc fun c => if c = true then ma else mb
def boolM (m : M Bool) : M D := bnd m fun b => ret (.bl b)
def andV (ma mb : M D) : M D := bnd ma fun d => match d with
  | .bl true => mb
  | .bl false => ret (.bl false)
  | _ => stuckM
def orV (ma mb : M D) : M D := bnd ma fun d => match d with
  | .bl true => ret (.bl true)
  | .bl false => mb
  | _ => stuckM
def notV (ma : M D) : M D := bnd ma fun d => match d with
  | .bl b => ret (.bl (!b))
  | _ => stuckM
def shareM (m : M D) : M D := bnd m fun d => if flatD d = true then ret d else stuckM
def varM (i : Nat) : M D := fun st => match st[i]? with
  | some (some (Slot.sh d)) => .ok d st
  | some (some (Slot.ow false d)) => if flatD d = true then .ok d (st.set i (some (Slot.sh d))) else .stuck
  | _ => .stuck
def peekM (i : Nat) : M D := fun st => match st[i]? with
  | some (some (Slot.sh d)) => .ok d st
  | some (some (Slot.ow _ d)) => .ok d st
  | _ => .stuck
def argsM : List (M D) → M (List D)
  | [] => ret []
  | m :: ms => bnd m fun d => bnd (argsM ms) fun ds => ret (d :: ds)

section
variable {K : PySem.W.Frag} {F : Fr} {W : WX} {q q1 q2 : Bool} {σ : St} {H : Hp} {g : D → D → Option D} {r : R2} {ma mb : M D}
theorem nq {P : Prop} : false = true → P := fun z => Bool.noConfusion z
theorem At.bndK {α ρ β τ : Type} {R : Rl α ρ} {R1 : Rl β τ} {m : M β} {f : β → M α} {st : DSt} {G : Hp} {fpf : Nat → List Addr} {Q : ρ → Hp → Prop} {T : τ → Hp → Prop} (hq : q = true → q1 = true ∧ q2 = true) (h : At K F W q R (DL.bnd m f st) st G fpf σ H Q)
    (k : ∀ d st1 G1 fpf1 v H1, Same G G1 → Sync K F G1 fpf1 σ H1 st1 → (q1 = true → H1 = H ∧ G1 = G ∧ fpf1 = fpf) → m st = .ok d st1 → R1 G1 fpf1 st1 H1 d v → At K F W q2 R (f d st1) st1 G1 fpf1 σ H1 Q → T v H1) : At K F W q1 R1 (m st) st G fpf σ H T :=
  (h.bnd (q1 := q1) (q2 := q2) (R1 := R1) hq).imp fun v H1 z => by
    obtain ⟨d, st1, G1, fpf1, a, b, c, e, f, g⟩ := z
    exact k d st1 G1 fpf1 v H1 a b c e f g
theorem op_of (hs : OpS K r g) {Q : VK} (h : tM K F W false (RSh K) (opM g ma mb) σ H Q) : tOp r (tM K F W q1 (RSh K) ma) (tM K F W q2 (RPk K) mb) σ H Q := by
  obtain ⟨st, G, fpf, S, A⟩ := h
  refine ⟨st, G, fpf, S, A.bndK (q1 := q1) (q2 := false) (R1 := RSh K) nq fun d st1 G1 fpf1 v H1 g1 S1 z1 e1 r1 A1 => ?_⟩
  refine ⟨st1, G1, fpf1, S1, A1.bndK (q1 := q2) (q2 := false) (R1 := RPk K) nq fun e st2 G2 fpf2 u H2 g2 S2 z2 e2 r2 A2 => ?_⟩
  unfold lift at A2
  cases w : g d e with
  | none => rw [w] at A2; exact A2.elim
  | some z => rw [w] at A2; exact hs S2.gh (.rep (Rep.mono g2 r1)) r2 w fun v H' k => A2.end1 S2 k
theorem op_ofQ (hs : OpS K r g) {Q : VK} (h : tM K F W false (RSh K) (opM g ma mb) σ H Q) : tOp r (tM K F W q1 (RPk K) ma) (tM K F W true (RPk K) mb) σ H Q := by
  obtain ⟨st, G, fpf, S, A⟩ := h
  refine ⟨st, G, fpf, S, A.bndK (q1 := q1) (q2 := false) (R1 := RPk K) nq fun d st1 G1 fpf1 v H1 g1 S1 z1 e1 r1 A1 => ?_⟩
  refine ⟨st1, G1, fpf1, S1, A1.bndK (q1 := true) (q2 := false) (R1 := RPk K) nq fun e st2 G2 fpf2 u H2 g2 S2 z2 e2 r2 A2 => ?_⟩
  obtain ⟨rfl, rfl, rfl⟩ := z2 rfl
  unfold lift at A2
  cases w : g d e with
  | none => rw [w] at A2; exact A2.elim
  | some z => rw [w] at A2; exact hs S2.gh r1 r2 w fun v H' k => A2.end1 S2 k
theorem op_ofN (hs : OpSN K r g) {Q : VK} (h : tM K F W false (RFr K F) (opM g ma mb) σ H Q) : tOp r (tM K F W q1 (RPk K) ma) (tM K F W true (RPk K) mb) σ H Q := by
  obtain ⟨st, G, fpf, S, A⟩ := h
  refine ⟨st, G, fpf, S, A.bndK (q1 := q1) (q2 := false) (R1 := RPk K) nq fun d st1 G1 fpf1 v H1 g1 S1 z1 e1 r1 A1 => ?_⟩
  refine ⟨st1, G1, fpf1, S1, A1.bndK (q1 := true) (q2 := false) (R1 := RPk K) nq fun e st2 G2 fpf2 u H2 g2 S2 z2 e2 r2 A2 => ?_⟩
  obtain ⟨rfl, rfl, rfl⟩ := z2 rfl
  unfold lift at A2
  cases w : g d e with
  | none => rw [w] at A2; exact A2.elim
  | some z => rw [w] at A2; exact hs S2.gh r1 r2 w fun v H' k => A2.endF S2 k
theorem op_ofN2 (hs : OpSN K r g) {Q : VK} (h : tM K F W false (RFr K F) (opM g ma mb) σ H Q) : tOp r (tM K F W q1 (RSh K) ma) (tM K F W q2 (RPk K) mb) σ H Q := by
  obtain ⟨st, G, fpf, S, A⟩ := h
  refine ⟨st, G, fpf, S, A.bndK (q1 := q1) (q2 := false) (R1 := RSh K) nq fun d st1 G1 fpf1 v H1 g1 S1 z1 e1 r1 A1 => ?_⟩
  refine ⟨st1, G1, fpf1, S1, A1.bndK (q1 := q2) (q2 := false) (R1 := RPk K) nq fun e st2 G2 fpf2 u H2 g2 S2 z2 e2 r2 A2 => ?_⟩
  unfold lift at A2
  cases w : g d e with
  | none => rw [w] at A2; exact A2.elim
  | some z => rw [w] at A2; exact hs S2.gh (.rep (Rep.mono g2 r1)) r2 w fun v H' k => A2.endF S2 k
theorem op_of0 (hs : OpS0 K r g) {Q : VK} (h : tM K F W (q1 && q2) (RSh K) (opM g ma mb) σ H Q) : tOp r (tM K F W q1 (RSh K) ma) (tM K F W q2 (RPk K) mb) σ H Q := by
  obtain ⟨st, G, fpf, S, A⟩ := h
  refine ⟨st, G, fpf, S, A.bndK (q1 := q1) (q2 := q2) (R1 := RSh K) (fun z => Bool.and_eq_true_iff.mp z) fun d st1 G1 fpf1 v H1 g1 S1 z1 e1 r1 A1 => ?_⟩
  refine ⟨st1, G1, fpf1, S1, A1.bndK (q1 := q2) (q2 := true) (R1 := RPk K) (fun z => ⟨z, rfl⟩) fun e st2 G2 fpf2 u H2 g2 S2 z2 e2 r2 A2 => ?_⟩
  unfold lift at A2
  cases w : g d e with
  | none => rw [w] at A2; exact A2.elim
  | some z => rw [w] at A2; exact hs S2.gh (.rep (Rep.mono g2 r1)) r2 w fun v k => A2.end0 S2 k
theorem op_of0Q (hs : OpS0 K r g) {Q : VK} (h : tM K F W q1 (RSh K) (opM g ma mb) σ H Q) : tOp r (tM K F W q1 (RPk K) ma) (tM K F W true (RPk K) mb) σ H Q := by
  obtain ⟨st, G, fpf, S, A⟩ := h
  refine ⟨st, G, fpf, S, A.bndK (q1 := q1) (q2 := true) (R1 := RPk K) (fun z => ⟨z, rfl⟩) fun d st1 G1 fpf1 v H1 g1 S1 z1 e1 r1 A1 => ?_⟩
  refine ⟨st1, G1, fpf1, S1, A1.bndK (q1 := true) (q2 := true) (R1 := RPk K) (fun z => ⟨z, rfl⟩) fun e st2 G2 fpf2 u H2 g2 S2 z2 e2 r2 A2 => ?_⟩
  obtain ⟨rfl, rfl, rfl⟩ := z2 rfl
  unfold lift at A2
  cases w : g d e with
  | none => rw [w] at A2; exact A2.elim
  | some z => rw [w] at A2; exact hs S2.gh r1 r2 w fun v k => A2.end0 S2 k
theorem un_of {g : D → Option D} {r : V → Hp → VK → Prop} (hs : UnS K r g) {Q : VK} (h : tM K F W q (RSh K) (unM g ma) σ H Q) : tUn r (tM K F W q (RPk K) ma) σ H Q := by
  obtain ⟨st, G, fpf, S, A⟩ := h
  refine ⟨st, G, fpf, S, A.bndK (q1 := q) (q2 := true) (R1 := RPk K) (fun z => ⟨z, rfl⟩) fun d st1 G1 fpf1 v H1 g1 S1 z1 e1 r1 A1 => ?_⟩
  unfold lift at A1
  cases w : g d with
  | none => rw [w] at A1; exact A1.elim
  | some z => rw [w] at A1; exact hs S1.gh r1 w fun v k => A1.end0 S1 k
theorem test_of {m : M D} {Q : Bool → Hp → Prop} (h : tM K F W q REq (testM m) σ H Q) : tM K F W q (RSh K) m σ H (fun x H' => ∃ k, x = .bl k ∧ Q k H') := by
  obtain ⟨st, G, fpf, S, A⟩ := h
  refine ⟨st, G, fpf, S, A.bndK (q1 := q) (q2 := true) (R1 := RSh K) (fun z => ⟨z, rfl⟩) fun d st1 G1 fpf1 v H1 g1 S1 z1 e1 r1 A1 => ?_⟩
  cases d with
  | bl b => exact ⟨b, (Rp.rep (H := H1) r1).bl, A1 b H1 G1 fpf1 (fun _ => ⟨rfl, rfl, rfl⟩) (Same.refl G1) S1 rfl⟩
  | _ => exact A1.elim
/-- shared is readable -/
theorem pk_of {m : M D} {Q : VK} (h : tM K F W q (RPk K) m σ H Q) : tM K F W q (RSh K) m σ H Q := by
  obtain ⟨st, G, fpf, S, A⟩ := h
  refine ⟨st, G, fpf, S, ?_⟩
  revert A
  cases m st with
  | ok d st' => exact fun A v H' G' fpf' a b c e => A v H' G' fpf' a b c (.rep e)
  | err x st' => exact id
  | stuck => exact id
theorem quiet_of {α ρ : Type} {R : Rl α ρ} {m : M α} {Q : ρ → Hp → Prop} (h : tM K F W false R m σ H Q) : tM K F W q R m σ H Q := by
  obtain ⟨st, G, fpf, S, A⟩ := h
  exact ⟨st, G, fpf, S, A.quiet⟩
/-- a fresh flat thing is shared -/
theorem share_of {m : M D} {Q : VK} (h : tM K F W false (RSh K) (shareM m) σ H Q) : tM K F W q (RFr K F) m σ H Q := by
  obtain ⟨st, G, fpf, S, A⟩ := h
  refine ⟨st, G, fpf, S, A.bndK (q1 := q) (q2 := false) (R1 := RFr K F) nq fun d st1 G1 fpf1 v H1 g1 S1 z1 e1 r1 A1 => ?_⟩
  by_cases f : flatD d = true
  · rw [if_pos f] at A1
    obtain ⟨G2, gg, S2, rr⟩ := S1.share r1 f
    exact A1 v H1 G2 fpf1 nq gg S2 rr
  · rw [if_neg f] at A1
    exact A1.elim
theorem bind_of {α ρ β τ : Type} {R : Rl α ρ} {R1 : Rl β τ} {m : M β} {f : β → M α} (hq : q = true → q1 = true ∧ q2 = true) {Q : ρ → Hp → Prop} {T : τ → Hp → Prop} (h : tM K F W q R (bnd m f) σ H Q)
    (k : ∀ d st1 G1 fpf1 v H1, Sync K F G1 fpf1 σ H1 st1 → R1 G1 fpf1 st1 H1 d v → At K F W q2 R (f d st1) st1 G1 fpf1 σ H1 Q → T v H1) : tM K F W q1 R1 m σ H T := by
  obtain ⟨st, G, fpf, S, A⟩ := h
  exact ⟨st, G, fpf, S, (A.bnd (q1 := q1) (q2 := q2) (R1 := R1) hq).imp fun v H1 ⟨d, st1, G1, fpf1, g1, S1, z1, e1, r1, A1⟩ => k d st1 G1 fpf1 v H1 S1 r1 A1⟩
theorem At.done {α ρ : Type} {R : Rl α ρ} {d : α} {st : DSt} {G : Hp} {fpf : Nat → List Addr} {Q : ρ → Hp → Prop} {v : ρ} (A : At K F W q R (.ok d st) st G fpf σ H Q) (S : Sync K F G fpf σ H st) (r : R G fpf st H d v) : Q v H :=
  A v H G fpf (fun _ => ⟨rfl, rfl, rfl⟩) (Same.refl G) S r
end

section
variable {X : Cx} {F : Fr} {W : WX} {q q1 q2 : Bool} {a b c e o : Expr} {es : List Expr} {pos p : Pos} {ma mb mc m : M D} {ta tb : M Bool}
/-! ### constants, names -/
theorem de_int {i : Int} {j : Nat} : PE X (.Constant (.int i) j pos) (tM X.K F W q (RSh X.K) (ret (.int i))) := PE_mono pe_int fun σ H Q ⟨st, G, fpf, S, A⟩ => A.done S (.int i)
theorem de_bl {i : Bool} {j : Nat} : PE X (.Constant (.bool i) j pos) (tM X.K F W q (RSh X.K) (ret (.bl i))) := PE_mono pe_bl fun σ H Q ⟨st, G, fpf, S, A⟩ => A.done S (.bl i)
theorem de_non {j : Nat} : PE X (.Constant .none j pos) (tM X.K F W q (RSh X.K) (ret .non)) := PE_mono pe_non fun σ H Q ⟨st, G, fpf, S, A⟩ => A.done S .non
theorem de_str {x : Str} {j : Nat} : PE X (.Constant (.str x) j pos) (tM X.K F W q (RSh X.K) (ret (.str x))) := PE_mono pe_str fun σ H Q ⟨st, G, fpf, S, A⟩ => A.done S (.str x)
theorem de_glob {x : Str} {v : V} {u : Value} {d : D} (hg : Gl X x) (hm : X.mg x = some u) (r : RelV v u) (rd : ∀ G, Rep X.K G d v) (hd : (x == ("__debug__" : Str)) = false := by decide) : PE X (.Name x pos) (tM X.K F W q (RSh X.K) (ret d)) :=
  PE_mono (pe_glob hg hm r hd) fun σ H Q ⟨st, G, fpf, S, A⟩ => A.done S (rd G)
theorem de_ty {x : Str} {n : String} (hg : Gl X x) (hm : X.mg x = none) (hv : bootBuiltins x = some (.type n) := by decide +kernel) (hn : x ≠ "__name__" := by decide) (hd : (x == ("__debug__" : Str)) = false := by decide) : PE X (.Name x pos) (tM X.K F W q (RSh X.K) (ret (.ty n))) :=
  PE_mono (pe_bltn (v := .ty n) hg hm hv rfl hn hd) fun σ H Q ⟨st, G, fpf, S, A⟩ => A.done S (.ty n)
theorem de_var (i : Nat) {x : Str} (hN : X.N[i]? = some x := by rfl) (hv : Vis X.env.scope x := by first | exact Or.inl rfl | exact Or.inr (Or.inl rfl) | exact Or.inr (Or.inr rfl)) (hd : (x == ("__debug__" : Str)) = false := by decide) (hcd : (x == ("__classdict__" : Str)) = false := by decide) :
    PE X (.Name x pos) (tM X.K F W false (RSh X.K) (varM i)) := PE_mono (pv i hN hv hd hcd) fun σ H Q ⟨st, G, fpf, S, A⟩ => by
  unfold varM at A
  cases h : st[i]? with
  | none => rw [h] at A; exact A.elim
  | some s =>
    rw [h] at A
    cases s with
    | none => exact A.elim
    | some s =>
      cases s with
      | sh d =>
        obtain ⟨v, h1, h2⟩ := S.sh i d h
        exact ⟨v, h1, A.done S h2⟩
      | ow mu d =>
        cases mu with
        | true => exact A.elim
        | false =>
          dsimp only at A
          by_cases f : flatD d = true
          · rw [if_pos f] at A
            obtain ⟨G', v, gg, S', h1, h2⟩ := S.freeze h f
            exact ⟨v, h1, A v H G' fpf nq gg S' h2⟩
          · rw [if_neg f] at A; exact A.elim
theorem dp_var (i : Nat) {x : Str} (hN : X.N[i]? = some x := by rfl) (hv : Vis X.env.scope x := by first | exact Or.inl rfl | exact Or.inr (Or.inl rfl) | exact Or.inr (Or.inr rfl)) (hd : (x == ("__debug__" : Str)) = false := by decide) (hcd : (x == ("__classdict__" : Str)) = false := by decide) :
    PE X (.Name x pos) (tM X.K F W q (RPk X.K) (peekM i)) := PE_mono (pv i hN hv hd hcd) fun σ H Q ⟨st, G, fpf, S, A⟩ => by
  unfold peekM at A
  cases h : st[i]? with
  | none => rw [h] at A; exact A.elim
  | some s =>
    rw [h] at A
    cases s with
    | none => exact A.elim
    | some s =>
      cases s with
      | sh d =>
        obtain ⟨v, h1, h2⟩ := S.sh i d h
        exact ⟨v, h1, A.done S (.rep h2)⟩
      | ow mu d =>
        obtain ⟨a, h1, h2, _⟩ := S.ow i mu d h
        exact ⟨.ref a, h1, A.done S (.own h2)⟩
theorem de_pk (h : PE X e (tM X.K F W q (RSh X.K) m)) : PE X e (tM X.K F W q (RPk X.K) m) := PE_mono h fun _ _ _ z => pk_of z
theorem de_lo (h : PE X e (tM X.K F W q (RSh X.K) m)) : PE X e (tM X.K F W false (RSh X.K) m) := PE_mono h fun _ _ _ z => quiet_of z
theorem dp_lo (h : PE X e (tM X.K F W q (RPk X.K) m)) : PE X e (tM X.K F W false (RPk X.K) m) := PE_mono h fun _ _ _ z => quiet_of z
theorem de_fr (h : PE X e (tM X.K F W q (RFr X.K F) m)) : PE X e (tM X.K F W false (RSh X.K) (shareM m)) := PE_mono h fun _ _ _ z => share_of z

/-! ### operators -/
variable {op : Operator} {cop : CmpOp} {r r' : R2} {g g' : D → D → Option D}
theorem de_op (ho : OpR X (binaryOp op) r) (hs : OpS X.K r g) (ha : PE X a (tM X.K F W q1 (RSh X.K) ma)) (hb : PE X b (tM X.K F W q2 (RPk X.K) mb)) : PE X (.BinOp a op b pos) (tM X.K F W false (RSh X.K) (opM g ma mb)) :=
  PE_mono (pe_op ho ha hb) fun _ _ _ h => op_of hs h
theorem de_opQ (ho : OpR X (binaryOp op) r) (hs : OpS X.K r g) (ha : PE X a (tM X.K F W q1 (RPk X.K) ma)) (hb : PE X b (tM X.K F W true (RPk X.K) mb)) : PE X (.BinOp a op b pos) (tM X.K F W false (RSh X.K) (opM g ma mb)) :=
  PE_mono (pe_op ho ha hb) fun _ _ _ h => op_ofQ hs h
theorem de_op0 (ho : OpR X (binaryOp op) r) (hs : OpS0 X.K r g) (ha : PE X a (tM X.K F W q1 (RSh X.K) ma)) (hb : PE X b (tM X.K F W q2 (RPk X.K) mb)) : PE X (.BinOp a op b pos) (tM X.K F W (q1 && q2) (RSh X.K) (opM g ma mb)) :=
  PE_mono (pe_op ho ha hb) fun _ _ _ h => op_of0 hs h
theorem de_op0Q (ho : OpR X (binaryOp op) r) (hs : OpS0 X.K r g) (ha : PE X a (tM X.K F W q1 (RPk X.K) ma)) (hb : PE X b (tM X.K F W true (RPk X.K) mb)) : PE X (.BinOp a op b pos) (tM X.K F W q1 (RSh X.K) (opM g ma mb)) :=
  PE_mono (pe_op ho ha hb) fun _ _ _ h => op_of0Q hs h
theorem df_op (ho : OpR X (binaryOp op) r) (hs : OpSN X.K r g) (ha : PE X a (tM X.K F W q1 (RSh X.K) ma)) (hb : PE X b (tM X.K F W q2 (RPk X.K) mb)) : PE X (.BinOp a op b pos) (tM X.K F W false (RFr X.K F) (opM g ma mb)) :=
  PE_mono (pe_op ho ha hb) fun _ _ _ h => op_ofN2 hs h
theorem df_opQ (ho : OpR X (binaryOp op) r) (hs : OpSN X.K r g) (ha : PE X a (tM X.K F W q1 (RPk X.K) ma)) (hb : PE X b (tM X.K F W true (RPk X.K) mb)) : PE X (.BinOp a op b pos) (tM X.K F W false (RFr X.K F) (opM g ma mb)) :=
  PE_mono (pe_op ho ha hb) fun _ _ _ h => op_ofN hs h
theorem de_un {uop : UnaryOp} {r : V → Hp → VK → Prop} {g : D → Option D} (ho : UnR X (unaryOp uop) r) (hs : UnS X.K r g) (ha : PE X a (tM X.K F W q (RPk X.K) ma)) : PE X (.UnaryOp uop a pos) (tM X.K F W q (RSh X.K) (unM g ma)) :=
  PE_mono (pe_un ho ha) fun _ _ _ h => un_of hs h
theorem de_cmp (ho : OpR X (compareOp cop) r) (hs : OpS0 X.K r g) (ha : PE X a (tM X.K F W q1 (RSh X.K) ma)) (hb : PE X b (tM X.K F W q2 (RPk X.K) mb)) (hm : behindInMarks cop b = false) : PE X (.Compare a [cop] [b] pos) (tM X.K F W (q1 && q2) (RSh X.K) (opM g ma mb)) :=
  PE_mono (pe_cmpR ho ha hb hm) fun _ _ _ h => op_of0 hs h
theorem de_cmpQ (ho : OpR X (compareOp cop) r) (hs : OpS0 X.K r g) (ha : PE X a (tM X.K F W q1 (RPk X.K) ma)) (hb : PE X b (tM X.K F W true (RPk X.K) mb)) (hm : behindInMarks cop b = false) : PE X (.Compare a [cop] [b] pos) (tM X.K F W q1 (RSh X.K) (opM g ma mb)) :=
  PE_mono (pe_cmpR ho ha hb hm) fun _ _ _ h => op_of0Q hs h
theorem dt_cmp (ho : OpR X (compareOp cop) r) (hs : OpS0 X.K r g) (ha : PE X a (tM X.K F W q1 (RSh X.K) ma)) (hb : PE X b (tM X.K F W q2 (RPk X.K) mb)) (hm : behindInMarks cop b = false) : PT X (.Compare a [cop] [b] pos) (tM X.K F W (q1 && q2) REq (testM (opM g ma mb))) :=
  PT_mono (pt_cmpR ho ha hb hm) fun _ _ _ h => op_of0 hs (test_of h)
theorem dt_cmpQ (ho : OpR X (compareOp cop) r) (hs : OpS0 X.K r g) (ha : PE X a (tM X.K F W q1 (RPk X.K) ma)) (hb : PE X b (tM X.K F W true (RPk X.K) mb)) (hm : behindInMarks cop b = false) : PT X (.Compare a [cop] [b] pos) (tM X.K F W q1 REq (testM (opM g ma mb))) :=
  PT_mono (pt_cmpR ho ha hb hm) fun _ _ _ h => op_of0Q hs (test_of h)
theorem dt_val (h : PE X e (tM X.K F W q (RSh X.K) m)) (he : ∀ whole, isTrue e X.env whole = (do let v ← whole; standAt e.pos; holding [v] (truthy v)) := by intro _; rfl) : PT X e (tM X.K F W q REq (testM m)) :=
  PT_mono (pt_val h he) fun _ _ _ h => test_of h

/-! ### and, or, not -/
theorem dt_and1 (ha : PT X a (tM X.K F W q REq ta)) : PW X (.BoolOp .And [a] pos) (tM X.K F W q REq ta) := pw_and1 ha
theorem dt_or1 (ha : PT X a (tM X.K F W q REq ta)) : PW X (.BoolOp .Or [a] pos) (tM X.K F W q REq ta) := pw_or1 ha
theorem dt_and (ha : PT X a (tM X.K F W q1 REq ta)) (hb : PW X (.BoolOp .And (b :: es) pos) (tM X.K F W q2 REq tb)) : PW X (.BoolOp .And (a :: b :: es) pos) (tM X.K F W (q1 && q2) REq (andM ta tb)) :=
  PW_mono (pw_and ha hb) fun σ H Q h => bind_of (q2 := q2) (fun z => Bool.and_eq_true_iff.mp z) h fun d st1 G1 fpf1 v H1 S1 r1 A1 => by
    cases r1
    cases d with
    | true => rw [if_pos rfl] at A1 ⊢; exact ⟨st1, G1, fpf1, S1, A1⟩
    | false => rw [if_neg Bool.false_ne_true] at A1 ⊢; exact A1.done S1 rfl
theorem dt_or (ha : PT X a (tM X.K F W q1 REq ta)) (hb : PW X (.BoolOp .Or (b :: es) pos) (tM X.K F W q2 REq tb)) : PW X (.BoolOp .Or (a :: b :: es) pos) (tM X.K F W (q1 && q2) REq (orM ta tb)) :=
  PW_mono (pw_or ha hb) fun σ H Q h => bind_of (q2 := q2) (fun z => Bool.and_eq_true_iff.mp z) h fun d st1 G1 fpf1 v H1 S1 r1 A1 => by
    cases r1
    cases d with
    | true => rw [if_pos rfl] at A1 ⊢; exact A1.done S1 rfl
    | false => rw [if_neg Bool.false_ne_true] at A1 ⊢; exact ⟨st1, G1, fpf1, S1, A1⟩
theorem dt_not (ha : PT X a (tM X.K F W q REq ta)) : PT X (.UnaryOp .Not a pos) (tM X.K F W q REq (notM ta)) :=
  PT_mono (pt_not ha) fun σ H Q h => bind_of (q2 := true) (fun z => ⟨z, rfl⟩) h fun d st1 G1 fpf1 v H1 S1 r1 A1 => by
    cases r1
    exact A1.done S1 rfl
theorem de_one {bop : BoolOp} (h : PE X a (tM X.K F W q (RSh X.K) m)) : PE X (.BoolOp bop [a] pos) (tM X.K F W q (RSh X.K) m) := pe_one h
theorem de_and (ha : PE X a (tM X.K F W q1 (RSh X.K) ma)) (hb : PE X (.BoolOp .And (b :: es) pos) (tM X.K F W q2 (RSh X.K) mb)) : PE X (.BoolOp .And (a :: b :: es) pos) (tM X.K F W (q1 && q2) (RSh X.K) (andV ma mb)) :=
  PE_mono (pe_and ha hb) fun σ H Q h => bind_of (q2 := q2) (fun z => Bool.and_eq_true_iff.mp z) h fun d st1 G1 fpf1 v H1 S1 r1 A1 => by
    cases d with
    | bl k =>
      refine ⟨k, (Rp.rep (H := H1) r1).bl, ?_⟩
      cases k with
      | true => rw [if_pos rfl]; exact ⟨st1, G1, fpf1, S1, A1⟩
      | false => rw [if_neg Bool.false_ne_true]; exact A1.done S1 (.bl false)
    | _ => exact A1.elim
theorem de_or (ha : PE X a (tM X.K F W q1 (RSh X.K) ma)) (hb : PE X (.BoolOp .Or (b :: es) pos) (tM X.K F W q2 (RSh X.K) mb)) : PE X (.BoolOp .Or (a :: b :: es) pos) (tM X.K F W (q1 && q2) (RSh X.K) (orV ma mb)) :=
  PE_mono (pe_or ha hb) fun σ H Q h => bind_of (q2 := q2) (fun z => Bool.and_eq_true_iff.mp z) h fun d st1 G1 fpf1 v H1 S1 r1 A1 => by
    cases d with
    | bl k =>
      refine ⟨k, (Rp.rep (H := H1) r1).bl, ?_⟩
      cases k with
      | true => rw [if_pos rfl]; exact A1.done S1 (.bl true)
      | false => rw [if_neg Bool.false_ne_true]; exact ⟨st1, G1, fpf1, S1, A1⟩
    | _ => exact A1.elim
theorem de_not (ha : PE X a (tM X.K F W q (RSh X.K) ma)) : PE X (.UnaryOp .Not a pos) (tM X.K F W q (RSh X.K) (notV ma)) :=
  PE_mono (pe_not ha) fun σ H Q h => bind_of (q2 := true) (fun z => ⟨z, rfl⟩) h fun d st1 G1 fpf1 v H1 S1 r1 A1 => by
    cases d with
    | bl k => exact ⟨k, (Rp.rep (H := H1) r1).bl, A1.done S1 (.bl _)⟩
    | _ => exact A1.elim
theorem de_if {c : Expr} (hc : PT X c (tM X.K F W q REq ta)) (ha : PE X a (tM X.K F W q1 (RSh X.K) ma)) (hb : PE X b (tM X.K F W q2 (RSh X.K) mb)) : PE X (.IfExp c a b pos) (tM X.K F W (q && (q1 && q2)) (RSh X.K) (iteM ta ma mb)) :=
  PE_mono (pe_ifExp hc ha hb) fun σ H Q h => bind_of (q2 := q1 && q2) (fun z => Bool.and_eq_true_iff.mp z) h fun d st1 G1 fpf1 v H1 S1 r1 A1 => by
    cases r1
    cases d with
    | true =>
      rw [if_pos rfl] at A1 ⊢
      refine ⟨st1, G1, fpf1, S1, ?_⟩
      revert A1
      cases ma st1 with
      | ok d st' => exact fun A1 v H' G' fpf' z => A1 v H' G' fpf' fun y => z (Bool.and_eq_true_iff.mp y).1
      | err x st' => exact id
      | stuck => exact id
    | false =>
      rw [if_neg Bool.false_ne_true] at A1 ⊢
      refine ⟨st1, G1, fpf1, S1, ?_⟩
      revert A1
      cases mb st1 with
      | ok d st' => exact fun A1 v H' G' fpf' z => A1 v H' G' fpf' fun y => z (Bool.and_eq_true_iff.mp y).2
      | err x st' => exact id
      | stuck => exact id

/-! ### argument lists, displays -/
variable {ms : List (M D)}
theorem da_nil : PA X [] (tM X.K F W q (RLs X.K) (argsM [])) := PA_mono pa_nil fun σ H Q ⟨st, G, fpf, S, A⟩ => A.done S RepA.nil
theorem da_cons (ha : PE X a (tM X.K F W q1 (RSh X.K) m)) (hr : PA X es (tM X.K F W q2 (RLs X.K) (argsM ms))) (hs : starEach (a :: es) X.env = (false, eval a X.env) :: starEach es X.env := by rfl) : PA X (a :: es) (tM X.K F W (q1 && q2) (RLs X.K) (argsM (m :: ms))) :=
  PA_mono (pa_cons ha hr hs) fun σ H Q ⟨st, G, fpf, S, A⟩ => by
    refine ⟨st, G, fpf, S, A.bndK (q1 := q1) (q2 := q2) (R1 := RSh X.K) (fun z => Bool.and_eq_true_iff.mp z) fun d st1 G1 fpf1 v H1 g1 S1 z1 e1 r1 A1 => ?_⟩
    refine ⟨st1, G1, fpf1, S1, A1.bndK (q1 := q2) (q2 := true) (R1 := RLs X.K) (fun z => ⟨z, rfl⟩) fun ds st2 G2 fpf2 u H2 g2 S2 z2 e2 r2 A2 => ?_⟩
    exact A2.done S2 (RepA.cons (Rep.mono g2 r1) r2)
theorem argsM_len : ∀ {ms : List (M D)} {st st' : DSt} {ds : List D}, argsM ms st = .ok ds st' → ds.length = ms.length
  | [], st, st', ds, h => by
    simp only [argsM, ret] at h
    cases h; rfl
  | m :: ms, st, st', ds, h => by
    unfold argsM bnd at h
    cases e : m st with
    | stuck => rw [e] at h; cases h
    | err x s => rw [e] at h; cases h
    | ok d s =>
      rw [e] at h
      dsimp only at h
      cases e2 : argsM ms s with
      | stuck => rw [e2] at h; cases h
      | err x s => rw [e2] at h; cases h
      | ok ds' s' =>
        rw [e2] at h
        dsimp only [ret] at h
        cases h
        rw [List.length_cons, List.length_cons, argsM_len e2]
def lstM (ms : List (M D)) : M D := bnd (argsM ms) fun ds => ret (.lst ds)
def tupM (ms : List (M D)) : M D := bnd (argsM ms) fun ds => ret (.tup ds)
theorem small {n : Nat} (h : n ≤ 1000) : n ≤ sizeLine := by rw [sizeLine_eq]; omega
theorem df_lst (h : PA X es (tM X.K F W q (RLs X.K) (argsM ms))) (hl : ms.length ≤ 1000 := by exact Nat.le_of_ble_eq_true rfl) : PE X (.List es pos) (tM X.K F W false (RFr X.K F) (lstM ms)) :=
  PE_mono (pe_lst h) fun σ H Q ⟨st, G, fpf, S, A⟩ => by
    refine ⟨st, G, fpf, S, A.bndK (q1 := q) (q2 := false) (R1 := RLs X.K) nq fun ds st1 G1 fpf1 vs H1 g1 S1 z1 e1 r1 A1 => ?_⟩
    have r1' : RepA X.K G1 ds vs := r1
    refine ⟨by rw [← r1'.length, argsM_len e1]; exact small hl, fun p hp => A1.endF S1 ⟨p, _, hp, rfl, rfl, .lst r1'⟩⟩
theorem de_tup {x1 : Nat} (h : PA X es (tM X.K F W q (RLs X.K) (argsM ms))) (hl : ms.length ≤ 1000 := by exact Nat.le_of_ble_eq_true rfl) : PE X (.Tuple es x1 pos) (tM X.K F W false (RSh X.K) (tupM ms)) :=
  PE_mono (pe_tup h) fun σ H Q ⟨st, G, fpf, S, A⟩ => by
    refine ⟨st, G, fpf, S, A.bndK (q1 := q) (q2 := false) (R1 := RLs X.K) nq fun ds st1 G1 fpf1 vs H1 g1 S1 z1 e1 r1 A1 => ?_⟩
    have r1' : RepA X.K G1 ds vs := r1
    refine ⟨by rw [← r1'.length, argsM_len e1]; exact small hl, fun p hp => A1.endN S1 ⟨p, _, hp, rfl, rfl, .tup r1'⟩⟩
end
end DL

namespace DL
open PySem L2

/-! ### plain data as the library's -/
mutual
def toP : D → Option PyData
  | .non => some .none
  | .bl b => some (.bool b)
  | .int i => some (.int i)
  | .str x => some (.str x)
  | .lst ds => (toPs ds).map .list
  | .kl ds => (toPs ds).map .list
  | .tup ds => (toPs ds).map .tuple
  | _ => none
def toPs : List D → Option (List PyData)
  | [] => some []
  | d :: ds => match toP d, toPs ds with
    | some p, some ps => some (p :: ps)
    | _, _ => none
end
mutual
theorem plain_toP : ∀ {d : D} {p : PyData}, toP d = some p → p.plain = true
  | .non, p, h => by simp only [toP, Option.some.injEq] at h; subst h; rfl
  | .bl b, p, h => by simp only [toP, Option.some.injEq] at h; subst h; rfl
  | .int b, p, h => by simp only [toP, Option.some.injEq] at h; subst h; rfl
  | .str b, p, h => by simp only [toP, Option.some.injEq] at h; subst h; rfl
  | .lst ds, p, h => by
    simp only [toP, Option.map_eq_some_iff] at h
    obtain ⟨ps, e, rfl⟩ := h
    simp only [PyData.plain]; exact plain_toPs e
  | .kl ds, p, h => by
    simp only [toP, Option.map_eq_some_iff] at h
    obtain ⟨ps, e, rfl⟩ := h
    simp only [PyData.plain]; exact plain_toPs e
  | .tup ds, p, h => by
    simp only [toP, Option.map_eq_some_iff] at h
    obtain ⟨ps, e, rfl⟩ := h
    simp only [PyData.plain]; exact plain_toPs e
  | .ty n, p, h => by simp [toP] at h
  | .rf n, p, h => by simp [toP] at h
  | .dK n, p, h => by simp [toP] at h
  | .dT n, p, h => by simp [toP] at h
  | .obj c n, p, h => by simp [toP] at h
  | .box n, p, h => by simp [toP] at h
theorem plain_toPs : ∀ {ds : List D} {ps : List PyData}, toPs ds = some ps → PyData.plainAll ps = true
  | [], ps, h => by simp only [toPs, Option.some.injEq] at h; subst h; rfl
  | d :: ds, ps, h => by
    unfold toPs at h
    cases e1 : toP d with
    | none => rw [e1] at h; cases h
    | some p =>
      cases e2 : toPs ds with
      | none => rw [e1, e2] at h; cases h
      | some qs =>
        rw [e1, e2] at h
        cases h
        simp only [PyData.plainAll, Bool.and_eq_true]
        exact ⟨plain_toP e1, plain_toPs e2⟩
end
section
variable {K : PySem.W.Frag} {G H : Hp}
mutual
theorem Rep.dp : ∀ {d : D} {v : V} {p : PyData}, Rep K G d v → toP d = some p → Dp K G v p
  | _, _, p, .non, h => by simp only [toP, Option.some.injEq] at h; subst h; exact .non
  | _, _, p, .bl b, h => by simp only [toP, Option.some.injEq] at h; subst h; exact .bl b
  | _, _, p, .int b, h => by simp only [toP, Option.some.injEq] at h; subst h; exact .int b
  | _, _, p, .str b, h => by simp only [toP, Option.some.injEq] at h; subst h; exact .str b
  | _, _, p, .ty b, h => by simp [toP] at h
  | _, _, p, .rf b, h => by simp [toP] at h
  | _, _, p, .lst q r, h => by
    simp only [toP, Option.map_eq_some_iff] at h
    obtain ⟨ps, e, rfl⟩ := h
    exact .lst (.inl (.inl q)) (RepA.dp r e)
  | _, _, p, .kl q r, h => by
    simp only [toP, Option.map_eq_some_iff] at h
    obtain ⟨ps, e, rfl⟩ := h
    exact .lst q (RepA.dp r e)
  | _, _, p, .tup q r, h => by
    simp only [toP, Option.map_eq_some_iff] at h
    obtain ⟨ps, e, rfl⟩ := h
    exact .tup q (RepA.dp r e)
  | _, _, p, .dK _ _ _, h => by simp [toP] at h
  | _, _, p, .dT _ _ _, h => by simp [toP] at h
  | _, _, p, .obj _ _ _, h => by simp [toP] at h
theorem RepA.dp : ∀ {ds : List D} {vs : List V} {ps : List PyData}, RepA K G ds vs → toPs ds = some ps → DpAll K G vs ps
  | _, _, ps, .nil, h => by simp only [toPs, Option.some.injEq] at h; subst h; exact .nil
  | d :: ds, _, ps, .cons r t, h => by
    unfold toPs at h
    cases e1 : toP d with
    | none => rw [e1] at h; cases h
    | some p =>
      cases e2 : toPs ds with
      | none => rw [e1, e2] at h; cases h
      | some qs =>
        rw [e1, e2] at h
        cases h
        exact .cons (Rep.dp r e1) (RepA.dp t e2)
end
theorem Rp.dp {d : D} {v : V} {p : PyData} (g : Same G H) (h : Rp K G H d v) (e : toP d = some p) : Dp K H v p := by
  cases h with
  | rep h => exact (h.mono g).dp e
  | own h =>
    cases h with
    | flat q r => exact ((r.mono g).rep q).dp e
    | obj => simp [toP] at e
end

/-! ### ==, !=, <, <=, >, >= -/
def eqvD (d e : D) : Option Bool := match toP d, toP e with
  | some p, some q => if min p.depth q.depth ≤ 64 then some (PyData.eqv p q) else none
  | _, _ => none
def eqD (d e : D) : Option D := (eqvD d e).map .bl
def neD (d e : D) : Option D := (eqvD d e).map fun b => .bl (!b)
def isNo : PyData → Bool
  | .none => true
  | _ => false
theorem isNo_ne {p : PyData} (h : isNo p = false) : p ≠ .none := by
  rintro rfl
  cases h
def ltvD (d e : D) : Option Bool := match d, e with
  | .int i, .int j => some (decide (i < j))
  | d, e => match toP d, toP e with
    | some p, some q => if min p.depth q.depth ≤ 64 ∧ PySem.W.alike p q = true ∧ isNo p = false then some (PySem.W.dataLt p q) else none
    | _, _ => none
def levD (d e : D) : Option Bool := match d, e with
  | .int i, .int j => some (decide (i ≤ j))
  | d, e => match toP d, toP e with
    | some p, some q => if min p.depth q.depth ≤ 64 ∧ PySem.W.alike p q = true ∧ isNo p = false then some (!PySem.W.dataLt q p) else none
    | _, _ => none
def gtvD (d e : D) : Option Bool := match d, e with
  | .int i, .int j => some (decide (j < i))
  | d, e => match toP d, toP e with
    | some p, some q => if min p.depth q.depth ≤ 64 ∧ PySem.W.alike p q = true ∧ isNo p = false then some (PySem.W.dataLt q p) else none
    | _, _ => none
def gevD (d e : D) : Option Bool := match d, e with
  | .int i, .int j => some (decide (j ≤ i))
  | d, e => match toP d, toP e with
    | some p, some q => if min p.depth q.depth ≤ 64 ∧ PySem.W.alike p q = true ∧ isNo p = false then some (!PySem.W.dataLt p q) else none
    | _, _ => none
def ltD (d e : D) : Option D := (ltvD d e).map .bl
def leD (d e : D) : Option D := (levD d e).map .bl
def gtD (d e : D) : Option D := (gtvD d e).map .bl
def geD (d e : D) : Option D := (gevD d e).map .bl

def rEqP (K : PySem.W.Frag) : R2 := fun x y H Q => ∃ d e, Dp K H x d ∧ Dp K H y e ∧ d.plain = true ∧ e.plain = true ∧ min d.depth e.depth ≤ 64 ∧ Q (.bl (PyData.eqv d e)) H
def rNeP (K : PySem.W.Frag) : R2 := fun x y H Q => ∃ d e, Dp K H x d ∧ Dp K H y e ∧ d.plain = true ∧ e.plain = true ∧ min d.depth e.depth ≤ 64 ∧ Q (.bl (!PyData.eqv d e)) H
def rCmpP (K : PySem.W.Frag) (f : PyData → PyData → Bool) : R2 := fun x y H Q => ∃ d e, Dp K H x d ∧ Dp K H y e ∧ PySem.W.alike d e = true ∧ d ≠ .none ∧ min d.depth e.depth ≤ 64 ∧ Q (.bl (f d e)) H
section
variable {X : Cx}
theorem op_eqP (hu : X.A.units + 64 < cLine) : OpR X (compareOp .Eq) (rEqP X.K) := by
  intro pins s σ H x y v u Q I rx ry h
  obtain ⟨d, e, hd, he, sd, se, hm, q⟩ := h
  obtain ⟨as, r1⟩ := Dp.reads I d x v hd rx
  obtain ⟨bs, r2⟩ := Dp.reads I e y u he ry
  exact PySem.SeqAt.eq_plain r1 r2 sd se (by omega) ⟨.bl _, H, I, rfl, q⟩
theorem op_neP (hu : X.A.units + 64 < cLine) : OpR X (compareOp .NotEq) (rNeP X.K) := by
  intro pins s σ H x y v u Q I rx ry h
  obtain ⟨d, e, hd, he, sd, se, hm, q⟩ := h
  obtain ⟨as, r1⟩ := Dp.reads I d x v hd rx
  obtain ⟨bs, r2⟩ := Dp.reads I e y u he ry
  exact PySem.SeqAt.ne_plain r1 r2 sd se (by omega) ⟨.bl _, H, I, rfl, q⟩
theorem op_ltP (hu : X.A.units + 64 < cLine) : OpR X (compareOp .Lt) (rCmpP X.K fun p q => PySem.W.dataLt p q) := by
  intro pins s σ H x y v u Q I rx ry h
  obtain ⟨d, e, hd, he, al, nn, hm, q⟩ := h
  obtain ⟨as, r1⟩ := Dp.reads I d x v hd rx
  obtain ⟨bs, r2⟩ := Dp.reads I e y u he ry
  exact PySem.W.lt_data r1 r2 al nn (by omega) ⟨.bl _, H, I, rfl, q⟩
theorem op_gtP (hu : X.A.units + 64 < cLine) : OpR X (compareOp .Gt) (rCmpP X.K fun p q => PySem.W.dataLt q p) := by
  intro pins s σ H x y v u Q I rx ry h
  obtain ⟨d, e, hd, he, al, nn, hm, q⟩ := h
  obtain ⟨as, r1⟩ := Dp.reads I d x v hd rx
  obtain ⟨bs, r2⟩ := Dp.reads I e y u he ry
  exact PySem.W.gt_data r1 r2 al nn (by omega) ⟨.bl _, H, I, rfl, q⟩
theorem op_leP (hu : X.A.units + 64 < cLine) : OpR X (compareOp .LtE) (rCmpP X.K fun p q => !PySem.W.dataLt q p) := by
  intro pins s σ H x y v u Q I rx ry h
  obtain ⟨d, e, hd, he, al, nn, hm, q⟩ := h
  obtain ⟨as, r1⟩ := Dp.reads I d x v hd rx
  obtain ⟨bs, r2⟩ := Dp.reads I e y u he ry
  exact PySem.W.le_data r1 r2 al nn (by omega) ⟨.bl _, H, I, rfl, q⟩
theorem op_geP (hu : X.A.units + 64 < cLine) : OpR X (compareOp .GtE) (rCmpP X.K fun p q => !PySem.W.dataLt p q) := by
  intro pins s σ H x y v u Q I rx ry h
  obtain ⟨d, e, hd, he, al, nn, hm, q⟩ := h
  obtain ⟨as, r1⟩ := Dp.reads I d x v hd rx
  obtain ⟨bs, r2⟩ := Dp.reads I e y u he ry
  exact PySem.W.ge_data r1 r2 al nn (by omega) ⟨.bl _, H, I, rfl, q⟩
end
section
variable {K : PySem.W.Frag}
theorem s_eq : OpS0 K (rEqP K) eqD := fun {G H d e z x y Q} g rx ry h q => by
  obtain ⟨b, hb, rfl⟩ := Option.map_eq_some_iff.mp h
  unfold eqvD at hb
  cases e1 : toP d with
  | none => rw [e1] at hb; cases hb
  | some p =>
    cases e2 : toP e with
    | none => rw [e1, e2] at hb; cases hb
    | some p' =>
      rw [e1, e2] at hb
      dsimp only at hb
      by_cases hm : min p.depth p'.depth ≤ 64
      · rw [if_pos hm] at hb; cases hb
        exact ⟨p, p', rx.dp g e1, ry.dp g e2, plain_toP e1, plain_toP e2, hm, q _ (.bl _)⟩
      · rw [if_neg hm] at hb; cases hb
theorem s_ne : OpS0 K (rNeP K) neD := fun {G H d e z x y Q} g rx ry h q => by
  obtain ⟨b, hb, rfl⟩ := Option.map_eq_some_iff.mp h
  unfold eqvD at hb
  cases e1 : toP d with
  | none => rw [e1] at hb; cases hb
  | some p =>
    cases e2 : toP e with
    | none => rw [e1, e2] at hb; cases hb
    | some p' =>
      rw [e1, e2] at hb
      dsimp only at hb
      by_cases hm : min p.depth p'.depth ≤ 64
      · rw [if_pos hm] at hb; cases hb
        exact ⟨p, p', rx.dp g e1, ry.dp g e2, plain_toP e1, plain_toP e2, hm, q _ (.bl _)⟩
      · rw [if_neg hm] at hb; cases hb
/-- an order of data, ints apart -/
theorem s_cmp {f : PyData → PyData → Bool} {p : Int → Int → Bool} {gv : D → D → Option Bool} (h1 : ∀ i j, gv (.int i) (.int j) = some (p i j))
    (h2 : ∀ d e b, gv d e = some b → (∃ i j, d = .int i ∧ e = .int j) ∨ ∃ x y, toP d = some x ∧ toP e = some y ∧ min x.depth y.depth ≤ 64 ∧ PySem.W.alike x y = true ∧ isNo x = false ∧ b = f x y) :
    OpS0 K (fun x y H Q => rI0 (fun i j => .bl (p i j)) x y H Q ∨ rCmpP K f x y H Q) (fun d e => (gv d e).map .bl) := fun {G H d e z x y Q} g rx ry h q => by
  obtain ⟨b, hb, rfl⟩ := Option.map_eq_some_iff.mp h
  rcases h2 d e b hb with ⟨i, j, rfl, rfl⟩ | ⟨a, c, e1, e2, hm, al, nn, rfl⟩
  · rw [h1] at hb; cases hb
    exact .inl ⟨i, j, rx.int, ry.int, q _ (.bl _)⟩
  · exact .inr ⟨a, c, rx.dp g e1, ry.dp g e2, al, isNo_ne nn, hm, q _ (.bl _)⟩
end

theorem ltvD_cases (d e : D) (b : Bool) (h : ltvD d e = some b) : (∃ i j, d = .int i ∧ e = .int j) ∨ ∃ x y, toP d = some x ∧ toP e = some y ∧ min x.depth y.depth ≤ 64 ∧ PySem.W.alike x y = true ∧ isNo x = false ∧ b = PySem.W.dataLt x y := by
  unfold ltvD at h
  split at h
  · exact .inl ⟨_, _, rfl, rfl⟩
  · cases e1 : toP d with
    | none => rw [e1] at h; cases h
    | some x =>
      cases e2 : toP e with
      | none => rw [e1, e2] at h; cases h
      | some y =>
        rw [e1, e2] at h
        dsimp only at h
        by_cases hm : min x.depth y.depth ≤ 64 ∧ PySem.W.alike x y = true ∧ isNo x = false
        · rw [if_pos hm] at h; cases h
          exact .inr ⟨x, y, rfl, rfl, hm.1, hm.2.1, hm.2.2, rfl⟩
        · rw [if_neg hm] at h; cases h

theorem levD_cases (d e : D) (b : Bool) (h : levD d e = some b) : (∃ i j, d = .int i ∧ e = .int j) ∨ ∃ x y, toP d = some x ∧ toP e = some y ∧ min x.depth y.depth ≤ 64 ∧ PySem.W.alike x y = true ∧ isNo x = false ∧ b = !PySem.W.dataLt y x := by
  unfold levD at h
  split at h
  · exact .inl ⟨_, _, rfl, rfl⟩
  · cases e1 : toP d with
    | none => rw [e1] at h; cases h
    | some x =>
      cases e2 : toP e with
      | none => rw [e1, e2] at h; cases h
      | some y =>
        rw [e1, e2] at h
        dsimp only at h
        by_cases hm : min x.depth y.depth ≤ 64 ∧ PySem.W.alike x y = true ∧ isNo x = false
        · rw [if_pos hm] at h; cases h
          exact .inr ⟨x, y, rfl, rfl, hm.1, hm.2.1, hm.2.2, rfl⟩
        · rw [if_neg hm] at h; cases h

theorem gtvD_cases (d e : D) (b : Bool) (h : gtvD d e = some b) : (∃ i j, d = .int i ∧ e = .int j) ∨ ∃ x y, toP d = some x ∧ toP e = some y ∧ min x.depth y.depth ≤ 64 ∧ PySem.W.alike x y = true ∧ isNo x = false ∧ b = PySem.W.dataLt y x := by
  unfold gtvD at h
  split at h
  · exact .inl ⟨_, _, rfl, rfl⟩
  · cases e1 : toP d with
    | none => rw [e1] at h; cases h
    | some x =>
      cases e2 : toP e with
      | none => rw [e1, e2] at h; cases h
      | some y =>
        rw [e1, e2] at h
        dsimp only at h
        by_cases hm : min x.depth y.depth ≤ 64 ∧ PySem.W.alike x y = true ∧ isNo x = false
        · rw [if_pos hm] at h; cases h
          exact .inr ⟨x, y, rfl, rfl, hm.1, hm.2.1, hm.2.2, rfl⟩
        · rw [if_neg hm] at h; cases h

theorem gevD_cases (d e : D) (b : Bool) (h : gevD d e = some b) : (∃ i j, d = .int i ∧ e = .int j) ∨ ∃ x y, toP d = some x ∧ toP e = some y ∧ min x.depth y.depth ≤ 64 ∧ PySem.W.alike x y = true ∧ isNo x = false ∧ b = !PySem.W.dataLt x y := by
  unfold gevD at h
  split at h
  · exact .inl ⟨_, _, rfl, rfl⟩
  · cases e1 : toP d with
    | none => rw [e1] at h; cases h
    | some x =>
      cases e2 : toP e with
      | none => rw [e1, e2] at h; cases h
      | some y =>
        rw [e1, e2] at h
        dsimp only at h
        by_cases hm : min x.depth y.depth ≤ 64 ∧ PySem.W.alike x y = true ∧ isNo x = false
        · rw [if_pos hm] at h; cases h
          exact .inr ⟨x, y, rfl, rfl, hm.1, hm.2.1, hm.2.2, rfl⟩
        · rw [if_neg hm] at h; cases h

section
variable {K : PySem.W.Frag} {X : Cx}
def rLt (K : PySem.W.Frag) : R2 := fun x y H Q => rI0 (fun i j => .bl (decide (i < j))) x y H Q ∨ rCmpP K (fun p q => PySem.W.dataLt p q) x y H Q
def rLe (K : PySem.W.Frag) : R2 := fun x y H Q => rI0 (fun i j => .bl (decide (i ≤ j))) x y H Q ∨ rCmpP K (fun p q => !PySem.W.dataLt q p) x y H Q
def rGt (K : PySem.W.Frag) : R2 := fun x y H Q => rI0 (fun i j => .bl (decide (j < i))) x y H Q ∨ rCmpP K (fun p q => PySem.W.dataLt q p) x y H Q
def rGe (K : PySem.W.Frag) : R2 := fun x y H Q => rI0 (fun i j => .bl (decide (j ≤ i))) x y H Q ∨ rCmpP K (fun p q => !PySem.W.dataLt p q) x y H Q
theorem s_lt : OpS0 K (rLt K) ltD := s_cmp (gv := ltvD) (fun _ _ => rfl) ltvD_cases
theorem s_le : OpS0 K (rLe K) leD := s_cmp (gv := levD) (fun _ _ => rfl) levD_cases
theorem s_gt : OpS0 K (rGt K) gtD := s_cmp (gv := gtvD) (fun _ _ => rfl) gtvD_cases
theorem s_ge : OpS0 K (rGe K) geD := s_cmp (gv := gevD) (fun _ _ => rfl) gevD_cases
theorem o_lt (hu : X.A.units + 64 < cLine) : OpR X (compareOp .Lt) (rLt X.K) := OpR.or op_lt (op_ltP hu)
theorem o_le (hu : X.A.units + 64 < cLine) : OpR X (compareOp .LtE) (rLe X.K) := OpR.or op_le (op_leP hu)
theorem o_gt (hu : X.A.units + 64 < cLine) : OpR X (compareOp .Gt) (rGt X.K) := OpR.or op_gt (op_gtP hu)
theorem o_ge (hu : X.A.units + 64 < cLine) : OpR X (compareOp .GtE) (rGe X.K) := OpR.or op_ge (op_geP hu)
end
end DL

namespace DL
open PySem L2

/-! ### ints -/
def addI : D → D → Option D
  | .int i, .int j => some (.int (i + j))
  | _, _ => none
def subI : D → D → Option D
  | .int i, .int j => some (.int (i - j))
  | _, _ => none
def mulI : D → D → Option D
  | .int i, .int j => if (-18446744073709551616 < i ∧ i < 18446744073709551616) ∨ (-18446744073709551616 < j ∧ j < 18446744073709551616) then some (.int (i * j)) else none
  | _, _ => none
def divI : D → D → Option D
  | .int i, .int j => if 0 < j ∧ j < 1073741824 then some (.int (i / j)) else none
  | _, _ => none
def modI : D → D → Option D
  | .int i, .int j => if 0 < j then some (.int (i % j)) else none
  | _, _ => none
def powI : D → D → Option D
  | .int i, .int j => if 0 ≤ j ∧ j ≤ 1000000 ∧ i.natAbs < 18446744073709551616 then some (.int (i ^ j.toNat)) else none
  | _, _ => none
def shlI : D → D → Option D
  | .int i, .int j => if 0 ≤ j ∧ j ≤ 1000000 ∧ i.natAbs < 18446744073709551616 then some (.int (i * 2 ^ j.toNat)) else none
  | _, _ => none
def shrI : D → D → Option D
  | .int i, .int j => if 0 ≤ j then some (.int (i / 2 ^ j.toNat)) else none
  | _, _ => none
def negI : D → Option D
  | .int i => some (.int (-i))
  | _ => none
section
variable {K : PySem.W.Frag}
theorem s_I0 {f : Int → Int → D} {fv : Int → Int → V} {g : D → D → Option D} (hg : ∀ d e z, g d e = some z → ∃ i j, d = .int i ∧ e = .int j ∧ z = f i j) (hr : ∀ i j G, Rep K G (f i j) (fv i j)) : OpS0 K (rI0 fv) g := fun {G H d e z x y Q} _ rx ry h q => by
  obtain ⟨i, j, rfl, rfl, rfl⟩ := hg d e z h
  exact ⟨i, j, rx.int, ry.int, q _ (hr i j G)⟩
theorem s_I {C : Int → Int → Prop} {f : Int → Int → D} {fv : Int → Int → V} {g : D → D → Option D} (hg : ∀ d e z, g d e = some z → ∃ i j, d = .int i ∧ e = .int j ∧ z = f i j ∧ C i j) (hr : ∀ i j G, Rep K G (f i j) (fv i j)) : OpS0 K (rI C fv) g := fun {G H d e z x y Q} _ rx ry h q => by
  obtain ⟨i, j, rfl, rfl, rfl, c⟩ := hg d e z h
  exact ⟨i, j, rx.int, ry.int, c, q _ (hr i j G)⟩
theorem s_add : OpS0 K (rI0 fun i j => .int (i + j)) addI := s_I0 (f := fun i j => .int (i + j)) (fun d e z h => by
  cases d <;> cases e <;> simp only [addI, Option.some.injEq, reduceCtorEq] at h
  exact ⟨_, _, rfl, rfl, h.symm⟩) fun i j G => .int _
theorem s_sub : OpS0 K (rI0 fun i j => .int (i - j)) subI := s_I0 (f := fun i j => .int (i - j)) (fun d e z h => by
  cases d <;> cases e <;> simp only [subI, Option.some.injEq, reduceCtorEq] at h
  exact ⟨_, _, rfl, rfl, h.symm⟩) fun i j G => .int _
theorem if_some {c : Prop} [Decidable c] {a z : D} (h : (if c then some a else none) = some z) : c ∧ z = a := by
  by_cases k : c
  · rw [if_pos k] at h; exact ⟨k, (Option.some.inj h).symm⟩
  · rw [if_neg k] at h; cases h
theorem s_mul : OpS0 K (rI CMul fun i j => .int (i * j)) mulI := s_I (f := fun i j => .int (i * j)) (fun d e z h => by
  cases d <;> cases e <;> simp only [mulI, reduceCtorEq] at h
  exact ⟨_, _, rfl, rfl, (if_some h).2, (if_some h).1⟩) fun i j G => .int _
theorem s_div : OpS0 K (rI CDiv fun i j => .int (i / j)) divI := s_I (f := fun i j => .int (i / j)) (fun d e z h => by
  cases d <;> cases e <;> simp only [divI, reduceCtorEq] at h
  exact ⟨_, _, rfl, rfl, (if_some h).2, (if_some h).1⟩) fun i j G => .int _
theorem s_mod : OpS0 K (rI (fun _ j => 0 < j) fun i j => .int (i % j)) modI := s_I (f := fun i j => .int (i % j)) (fun d e z h => by
  cases d <;> cases e <;> simp only [modI, reduceCtorEq] at h
  exact ⟨_, _, rfl, rfl, (if_some h).2, (if_some h).1⟩) fun i j G => .int _
theorem s_pow : OpS0 K (rI CPow fun i j => .int (i ^ j.toNat)) powI := s_I (f := fun i j => .int (i ^ j.toNat)) (fun d e z h => by
  cases d <;> cases e <;> simp only [powI, reduceCtorEq] at h
  exact ⟨_, _, rfl, rfl, (if_some h).2, (if_some h).1⟩) fun i j G => .int _
theorem s_shl : OpS0 K (rI CPow fun i j => .int (i * 2 ^ j.toNat)) shlI := s_I (f := fun i j => .int (i * 2 ^ j.toNat)) (fun d e z h => by
  cases d <;> cases e <;> simp only [shlI, reduceCtorEq] at h
  exact ⟨_, _, rfl, rfl, (if_some h).2, (if_some h).1⟩) fun i j G => .int _
theorem s_shr : OpS0 K (rI (fun _ j => 0 ≤ j) fun i j => .int (i / 2 ^ j.toNat)) shrI := s_I (f := fun i j => .int (i / 2 ^ j.toNat)) (fun d e z h => by
  cases d <;> cases e <;> simp only [shrI, reduceCtorEq] at h
  exact ⟨_, _, rfl, rfl, (if_some h).2, (if_some h).1⟩) fun i j G => .int _
theorem s_neg : UnS K (rU fun i => .int (-i)) negI := fun {G H d z x Q} _ rx h q => by
  cases d <;> simp only [negI, Option.some.injEq, reduceCtorEq] at h
  subst h
  exact ⟨_, rx.int, q _ (.int _)⟩

/-! ### + of ints, texts, lists, tuples; * of a list, a text -/
def addS : D → D → Option D
  | .str x, .str y => if x.length + y.length ≤ 16777216 then some (.str (x ++ y)) else none
  | _, _ => none
def addL : D → D → Option D
  | .lst xs, .lst ys => if xs.length + ys.length ≤ 16777216 then some (.lst (xs ++ ys)) else none
  | _, _ => none
def addT : D → D → Option D
  | .tup xs, .tup ys => if xs.length + ys.length ≤ 16777216 ∧ xs.isEmpty = false ∧ ys.isEmpty = false then some (.tup (xs ++ ys)) else none
  | _, _ => none
def addD : D → D → Option D
  | .int i, .int j => some (.int (i + j))
  | .str x, .str y => addS (.str x) (.str y)
  | .lst xs, .lst ys => addL (.lst xs) (.lst ys)
  | .tup xs, .tup ys => addT (.tup xs) (.tup ys)
  | _, _ => none
theorem leLine {n : Nat} (h : n ≤ 16777216) : n ≤ sizeLine := by rw [sizeLine_eq]; exact h
theorem s_addL : OpSN K rCat addL := fun {G H d e z x y Q} g rx ry h q => by
  cases d <;> cases e <;> simp only [addL, reduceCtorEq] at h
  obtain ⟨c, rfl⟩ := if_some h
  obtain ⟨a, vs, rfl, ha, ra⟩ := rx.lst g
  obtain ⟨b, us, rfl, hb, rb⟩ := ry.lst g
  exact ⟨a, b, vs, us, rfl, rfl, ha, hb, by rw [← ra.length, ← rb.length]; exact leLine c, fun p hp => q _ _ ⟨p, _, hp, rfl, rfl, .lst (ra.append rb)⟩⟩
def rAddS : R2 := fun x y H Q => ∃ i j, x = .str i ∧ y = .str j ∧ i.length + j.length ≤ sizeLine ∧ Q (.str (i ++ j)) H
theorem s_addS : OpS0 K rAddS addS := fun {G H d e z x y Q} g rx ry h q => by
  cases d <;> cases e <;> simp only [addS, reduceCtorEq] at h
  obtain ⟨c, rfl⟩ := if_some h
  exact ⟨_, _, rx.str, ry.str, leLine c, q _ (.str _)⟩
theorem s_addT : OpSN K (rCatT K) addT := fun {G H d e z x y Q} g rx ry h q => by
  cases d <;> cases e <;> simp only [addT, reduceCtorEq] at h
  obtain ⟨⟨c, n1, n2⟩, rfl⟩ := if_some h
  obtain ⟨a, vs, rfl, ha, ra⟩ := rx.tup g
  obtain ⟨b, us, rfl, hb, rb⟩ := ry.tup g
  refine ⟨a, b, vs, us, rfl, rfl, ha, hb, fun z => ?_, by rw [← ra.length, ← rb.length]; exact leLine c, fun z => ?_, fun _ p hp => q _ _ ⟨p, _, hp, rfl, rfl, .tup (ra.append rb)⟩⟩
  · subst z; cases ra; cases n1
  · subst z; cases rb; cases n2
def rAddD (K : PySem.W.Frag) : R2 := fun x y H Q => rI0 (fun i j => .int (i + j)) x y H Q ∨ rAddS x y H Q ∨ rCat x y H Q ∨ rCatT K x y H Q
theorem s_addD : OpS K (rAddD K) addD := fun {G H d e z x y Q} g rx ry h q => by
  unfold addD at h
  split at h
  · exact .inl (s_add.any g rx ry h q)
  · exact .inr (.inl (s_addS.any g rx ry h q))
  · exact .inr (.inr (.inl (s_addL.any g rx ry h q)))
  · exact .inr (.inr (.inr (s_addT.any g rx ry h q)))
  · cases h
theorem o_addD {X : Cx} : OpR X (binaryOp .Add) (rAddD X.K) := OpR.or op_add (OpR.or op_add_str (OpR.or op_cat op_catT))
def repL : D → D → Option D
  | .lst xs, .int k => if -9223372036854775808 ≤ k ∧ k < 9223372036854775808 ∧ xs.length * k.toNat ≤ 16777216 then some (.lst (List.replicate k.toNat xs).flatten) else none
  | _, _ => none
theorem repA_rep {G : Hp} {ds : List D} {vs : List V} (r : RepA K G ds vs) : ∀ n : Nat, RepA K G (List.replicate n ds).flatten (List.replicate n vs).flatten
  | 0 => .nil
  | n + 1 => by simp only [List.replicate_succ, List.flatten_cons]; exact r.append (repA_rep r n)
theorem s_repL : OpSN K rRep repL := fun {G H d e z x y Q} g rx ry h q => by
  cases d <;> cases e <;> simp only [repL, reduceCtorEq] at h
  obtain ⟨⟨c1, c2, c3⟩, rfl⟩ := if_some h
  obtain ⟨a, vs, rfl, ha, ra⟩ := rx.lst g
  exact ⟨a, _, vs, rfl, ry.int, ha, c1, c2, by rw [← ra.length]; exact leLine c3, fun p hp => q _ _ ⟨p, _, hp, rfl, rfl, .lst (repA_rep ra _)⟩⟩
def repS : D → D → Option D
  | .str x, .int k => if 0 ≤ k ∧ k ≤ 1000000 ∧ x.length ≤ 16 then some (.str (Txt.mul x k)) else none
  | _, _ => none
def rRepS : R2 := fun x y H Q => ∃ z k, x = .str z ∧ y = .int k ∧ (0 ≤ k ∧ k ≤ 1000000 ∧ z.length ≤ 16) ∧ Q (.str (Txt.mul z k)) H
theorem mulOk {x : Str} {k : Int} (h : 0 ≤ k ∧ k ≤ 1000000 ∧ x.length ≤ 16) : MulOk x k := by
  obtain ⟨h0, h1, h2⟩ := h
  refine ⟨by simp; omega, fun a b c => ?_, fun a b => ?_⟩
  · have : (x.length : Int) ≤ 16 := by omega
    have h3 : (2 ^ 63 - 1 : Int) / k ≥ (2 ^ 63 - 1) / 1000000 := by
      have hk : 0 < k := by omega
      rw [ge_iff_le, Int.le_ediv_iff_mul_le hk]
      have : (2 ^ 63 - 1 : Int) / 1000000 * k ≤ (2 ^ 63 - 1) / 1000000 * 1000000 := Int.mul_le_mul_of_nonneg_left h1 (by decide)
      omega
    have : (2 ^ 63 - 1 : Int) / 1000000 = 9223372036854 := by decide
    omega
  · unfold Builtin.Str.tooLong
    have : x.length * k.toNat ≤ 16 * 1000000 := Nat.mul_le_mul h2 (by omega)
    simp
    have := sizeLine_eq
    omega
theorem o_repS {X : Cx} : OpR X (binaryOp .Mult) rRepS := by
  intro pins s σ H x y v u Q I rx ry h
  obtain ⟨z, k, rfl, rfl, c, q⟩ := h
  obtain ⟨t, rfl⟩ := rx
  obtain ⟨t', rfl⟩ := ry
  exact SB.mul (mulOk c) fun t'' k' => ⟨.str _, H, I.tok _, ⟨_, rfl⟩, q⟩
theorem s_repS : OpS0 K rRepS repS := fun {G H d e z x y Q} g rx ry h q => by
  cases d <;> cases e <;> simp only [repS, reduceCtorEq] at h
  obtain ⟨c, rfl⟩ := if_some h
  exact ⟨_, _, rx.str, ry.int, c, q _ (.str _)⟩
end
end DL

namespace DL
open PySem L2

/-! ### subscripts, slices -/
def ixD : D → D → Option D
  | .lst xs, .int i => atI xs i
  | .kl xs, .int i => atI xs i
  | .tup xs, .int i => atI xs i
  | .str z, .int i => if z.length ≤ 16777216 then (atI z.cps.toList i).map fun c => .str ⟨#[c]⟩ else none
  | _, _ => none
section
variable {K : PySem.W.Frag}
theorem atI_rep {G : Hp} {ds : List D} {vs : List V} {i : Int} {d : D} (r : RepA K G ds vs) (h : atI ds i = some d) : ∃ v, atI vs i = some v ∧ Rep K G d v := by
  unfold atI at h ⊢
  rw [← r.length]
  cases e : ixN ds.length i with
  | none => rw [e] at h; cases h
  | some j =>
    rw [e] at h
    exact r.get (i := j) h
theorem s_ix : OpS0 K (rIx K) ixD := fun {G H d e z x y Q} g rx ry h q => by
  unfold ixD at h
  split at h
  · obtain ⟨a, vs, rfl, ha, ra⟩ := rx.seqL g (.inl rfl)
    obtain ⟨v, hv, rv⟩ := atI_rep ra h
    exact .inl ⟨a, vs, _, v, rfl, ry.int, ha, hv, q _ rv⟩
  · obtain ⟨a, vs, rfl, ha, ra⟩ := rx.seqL g (.inr rfl)
    obtain ⟨v, hv, rv⟩ := atI_rep ra h
    exact .inl ⟨a, vs, _, v, rfl, ry.int, ha, hv, q _ rv⟩
  · obtain ⟨a, vs, rfl, ha, ra⟩ := rx.tup g
    obtain ⟨v, hv, rv⟩ := atI_rep ra h
    exact .inr (.inl ⟨a, vs, _, v, rfl, ry.int, ha, hv, q _ rv⟩)
  · rename_i w i
    by_cases c : w.length ≤ 16777216
    · rw [if_pos c] at h
      obtain ⟨k, hk, rfl⟩ := Option.map_eq_some_iff.mp h
      exact .inr (.inr ⟨w, i, k, rx.str, ry.int, leLine c, hk, q _ (.str _)⟩)
    · rw [if_neg c] at h; cases h
  · cases h
end
def cutD (xs : List D) (lo hi : Option Int) : List D := (xs.drop (HT.sIx xs.length 0 lo)).take (HT.sIx xs.length xs.length hi - HT.sIx xs.length 0 lo)
def slL : D → Option Int → Option Int → Option D
  | .lst xs, lo, hi => some (.lst (cutD xs lo hi))
  | .kl xs, lo, hi => some (.lst (cutD xs lo hi))
  | _, _, _ => none
def slS : D → Option Int → Option Int → Option D
  | .str z, lo, hi => if z.length ≤ 16777216 then some (.str (cutS z lo hi)) else none
  | _, _, _ => none
def slT : D → Option Int → Option Int → Option D
  | .tup xs, lo, hi => if HT.sIx xs.length 0 lo = 0 ∧ HT.sIx xs.length xs.length hi = xs.length then none else some (.tup (cutD xs lo hi))
  | _, _, _ => none
def slD : D → Option Int → Option Int → Option D
  | .lst xs, lo, hi => some (.lst (cutD xs lo hi))
  | .kl xs, lo, hi => some (.lst (cutD xs lo hi))
  | .tup xs, lo, hi => slT (.tup xs) lo hi
  | .str z, lo, hi => slS (.str z) lo hi
  | _, _, _ => none
def SlS (K : PySem.W.Frag) (r : V → Option Int → Option Int → Hp → VK → Prop) (g : D → Option Int → Option Int → Option D) : Prop := ∀ {G H : Hp} {d z : D} {lo hi : Option Int} {x : V} {Q : VK}, Same G H → Rp K G H d x → g d lo hi = some z → (∀ v H', Res1 K G H z v H' → Q v H') → r x lo hi H Q
def SlSN (K : PySem.W.Frag) (r : V → Option Int → Option Int → Hp → VK → Prop) (g : D → Option Int → Option Int → Option D) : Prop := ∀ {G H : Hp} {d z : D} {lo hi : Option Int} {x : V} {Q : VK}, Same G H → Rp K G H d x → g d lo hi = some z → (∀ v H', ResN K G H z v H' → Q v H') → r x lo hi H Q
section
variable {K : PySem.W.Frag}
theorem cut_rep {G : Hp} {ds : List D} {vs : List V} (r : RepA K G ds vs) (lo hi : Option Int) : RepA K G (cutD ds lo hi) (cutV vs lo hi) := by
  unfold cutD cutV
  rw [r.length]
  exact (r.drop _).take _
theorem s_slL : SlSN K (rSlL K) slL := fun {G H d z lo hi x Q} g rx h q => by
  unfold slL at h
  split at h
  · cases h
    obtain ⟨a, vs, rfl, ha, ra⟩ := rx.seqL g (.inl rfl)
    exact ⟨a, vs, rfl, ha, fun p hp => q _ _ ⟨p, _, hp, rfl, rfl, .lst (cut_rep ra lo hi)⟩⟩
  · cases h
    obtain ⟨a, vs, rfl, ha, ra⟩ := rx.seqL g (.inr rfl)
    exact ⟨a, vs, rfl, ha, fun p hp => q _ _ ⟨p, _, hp, rfl, rfl, .lst (cut_rep ra lo hi)⟩⟩
  · cases h
def rSlD (K : PySem.W.Frag) : V → Option Int → Option Int → Hp → VK → Prop := fun x lo hi H Q => rSlL K x lo hi H Q ∨ rSlT K x lo hi H Q ∨ rSlS x lo hi H Q
theorem s_slD : SlS K (rSlD K) slD := fun {G H d z lo hi x Q} g rx h q => by
  unfold slD at h
  split at h
  · exact .inl (s_slL g rx (by exact h) fun v H' k => q v H' (.inr k))
  · exact .inl (s_slL g rx (by exact h) fun v H' k => q v H' (.inr k))
  · unfold slT at h
    dsimp only at h
    rename_i xs
    by_cases c : HT.sIx xs.length 0 lo = 0 ∧ HT.sIx xs.length xs.length hi = xs.length
    · rw [if_pos c] at h; cases h
    · rw [if_neg c] at h
      cases h
      obtain ⟨a, vs, rfl, ha, ra⟩ := rx.tup g
      exact .inr (.inl ⟨a, vs, rfl, ha, by rw [← ra.length]; exact c, fun p hp => q _ _ (.inr ⟨p, _, hp, rfl, rfl, .tup (cut_rep ra lo hi)⟩)⟩)
  · unfold slS at h
    dsimp only at h
    obtain ⟨c, rfl⟩ := if_some h
    exact .inr (.inr ⟨_, rx.str, leLine c, q _ _ (.inl ⟨rfl, .str _⟩)⟩)
  · cases h
end
theorem o_slD {X : Cx} : SlR X (rSlD X.K) := SlR.or sl_list (SlR.or sl_tup sl_str)
def partM : Option (M D) → M (Option Int)
  | none => ret none
  | some m => bnd m fun d => match d with
    | .int i => ret (some i)
    | _ => stuckM
def slM (g : D → Option Int → Option Int → Option D) (me : M D) (lo hi : Option (M D)) : M D := bnd me fun x => bnd (partM lo) fun l => bnd (partM hi) fun h => lift (g x l h)
section
variable {X : Cx} {F : Fr} {W : WX} {q q1 q2 q3 : Bool} {a b e : Expr} {lo hi : Option Expr} {pos p2 : Pos} {ma mb me : M D} {ml mh : Option (M D)}
theorem dx_none : PO X none (tM X.K F W true REq (partM none)) := ⟨fun pins s σ H Q I ⟨st, G, fpf, S, A⟩ => po_none.run pins s σ H Q I (A.done S rfl)⟩
theorem dx_some {m : M D} (h : PE X e (tM X.K F W q (RSh X.K) m)) : PO X (some e) (tM X.K F W q REq (partM (some m))) :=
  ⟨fun pins s σ H Q I z => (po_some h).run pins s σ H Q I (bind_of (q2 := true) (R1 := RSh X.K) (fun y => ⟨y, rfl⟩) z fun d st1 G1 fpf1 v H1 S1 r1 A1 => by
    cases d with
    | int i => exact ⟨i, (Rp.rep (H := H1) r1).int, A1.done S1 rfl⟩
    | _ => exact A1.elim)⟩
theorem sl_of {K : PySem.W.Frag} {r : V → Option Int → Option Int → Hp → VK → Prop} {g : D → Option Int → Option Int → Option D} {σ : St} {H : Hp} {Q : VK} (hs : SlS K r g) (h : tM K F W false (RSh K) (slM g me ml mh) σ H Q) :
    tSl r (tM K F W q1 (RSh K) me) (tM K F W q2 REq (partM ml)) (tM K F W q3 REq (partM mh)) σ H Q := by
  refine bind_of (q2 := false) (R1 := RSh K) nq h fun d st1 G1 fpf1 v H1 S1 r1 A1 => ?_
  refine ⟨st1, G1, fpf1, S1, A1.bndK (q1 := q2) (q2 := false) (R1 := REq) nq fun l st2 G2 fpf2 l' H2 g2 S2 z2 e2 r2 A2 => ?_⟩
  refine ⟨st2, G2, fpf2, S2, A2.bndK (q1 := q3) (q2 := false) (R1 := REq) nq fun u st3 G3 fpf3 u' H3 g3 S3 z3 e3 r3 A3 => ?_⟩
  cases r2
  cases r3
  unfold lift at A3
  cases w : g d l u with
  | none => rw [w] at A3; exact A3.elim
  | some z => rw [w] at A3; exact hs S3.gh (.rep ((Rep.mono g2 r1).mono g3)) w fun v H' k => A3.end1 S3 k
theorem sl_ofQ {K : PySem.W.Frag} {r : V → Option Int → Option Int → Hp → VK → Prop} {g : D → Option Int → Option Int → Option D} {σ : St} {H : Hp} {Q : VK} (hs : SlS K r g) (h : tM K F W false (RSh K) (slM g me ml mh) σ H Q) :
    tSl r (tM K F W q1 (RPk K) me) (tM K F W true REq (partM ml)) (tM K F W true REq (partM mh)) σ H Q := by
  refine bind_of (q2 := false) (R1 := RPk K) nq h fun d st1 G1 fpf1 v H1 S1 r1 A1 => ?_
  refine ⟨st1, G1, fpf1, S1, A1.bndK (q1 := true) (q2 := false) (R1 := REq) nq fun l st2 G2 fpf2 l' H2 g2 S2 z2 e2 r2 A2 => ?_⟩
  refine ⟨st2, G2, fpf2, S2, A2.bndK (q1 := true) (q2 := false) (R1 := REq) nq fun u st3 G3 fpf3 u' H3 g3 S3 z3 e3 r3 A3 => ?_⟩
  cases r2
  cases r3
  obtain ⟨rfl, rfl, rfl⟩ := z2 rfl
  obtain ⟨rfl, rfl, rfl⟩ := z3 rfl
  unfold lift at A3
  cases w : g d l u with
  | none => rw [w] at A3; exact A3.elim
  | some z => rw [w] at A3; exact hs S3.gh r1 w fun v H' k => A3.end1 S3 k
theorem sl_ofN {K : PySem.W.Frag} {r : V → Option Int → Option Int → Hp → VK → Prop} {g : D → Option Int → Option Int → Option D} {σ : St} {H : Hp} {Q : VK} (hs : SlSN K r g) (h : tM K F W false (RFr K F) (slM g me ml mh) σ H Q) :
    tSl r (tM K F W q1 (RPk K) me) (tM K F W true REq (partM ml)) (tM K F W true REq (partM mh)) σ H Q := by
  refine bind_of (q2 := false) (R1 := RPk K) nq h fun d st1 G1 fpf1 v H1 S1 r1 A1 => ?_
  refine ⟨st1, G1, fpf1, S1, A1.bndK (q1 := true) (q2 := false) (R1 := REq) nq fun l st2 G2 fpf2 l' H2 g2 S2 z2 e2 r2 A2 => ?_⟩
  refine ⟨st2, G2, fpf2, S2, A2.bndK (q1 := true) (q2 := false) (R1 := REq) nq fun u st3 G3 fpf3 u' H3 g3 S3 z3 e3 r3 A3 => ?_⟩
  cases r2
  cases r3
  obtain ⟨rfl, rfl, rfl⟩ := z2 rfl
  obtain ⟨rfl, rfl, rfl⟩ := z3 rfl
  unfold lift at A3
  cases w : g d l u with
  | none => rw [w] at A3; exact A3.elim
  | some z => rw [w] at A3; exact hs S3.gh r1 w fun v H' k => A3.endF S3 k
theorem de_ix (ha : PE X a (tM X.K F W q1 (RSh X.K) ma)) (hb : PE X b (tM X.K F W q2 (RPk X.K) mb)) (hs : PlainIx b) : PE X (.Subscript a b pos) (tM X.K F W (q1 && q2) (RSh X.K) (opM ixD ma mb)) :=
  PE_mono (pe_ix ix_seq ha hb hs) fun _ _ _ h => op_of0 s_ix h
theorem de_ixQ (ha : PE X a (tM X.K F W q1 (RPk X.K) ma)) (hb : PE X b (tM X.K F W true (RPk X.K) mb)) (hs : PlainIx b) : PE X (.Subscript a b pos) (tM X.K F W q1 (RSh X.K) (opM ixD ma mb)) :=
  PE_mono (pe_ix ix_seq ha hb hs) fun _ _ _ h => op_of0Q s_ix h
theorem de_sl (he : PE X e (tM X.K F W q1 (RSh X.K) me)) (hl : PO X lo (tM X.K F W q2 REq (partM ml))) (hh : PO X hi (tM X.K F W q3 REq (partM mh))) : PE X (.Subscript e (.Slice lo hi none p2) pos) (tM X.K F W false (RSh X.K) (slM slD me ml mh)) :=
  PE_mono (pe_slice o_slD he hl hh) fun _ _ _ h => sl_of s_slD h
theorem de_slQ (he : PE X e (tM X.K F W q1 (RPk X.K) me)) (hl : PO X lo (tM X.K F W true REq (partM ml))) (hh : PO X hi (tM X.K F W true REq (partM mh))) : PE X (.Subscript e (.Slice lo hi none p2) pos) (tM X.K F W false (RSh X.K) (slM slD me ml mh)) :=
  PE_mono (pe_slice o_slD he hl hh) fun _ _ _ h => sl_ofQ s_slD h
theorem df_sl (he : PE X e (tM X.K F W q1 (RPk X.K) me)) (hl : PO X lo (tM X.K F W true REq (partM ml))) (hh : PO X hi (tM X.K F W true REq (partM mh))) : PE X (.Subscript e (.Slice lo hi none p2) pos) (tM X.K F W false (RFr X.K F) (slM slL me ml mh)) :=
  PE_mono (pe_slice sl_list he hl hh) fun _ _ _ h => sl_ofN s_slL h
def revD : D → Option D
  | .lst xs => some (.lst xs.reverse)
  | .kl xs => some (.lst xs.reverse)
  | _ => none
theorem df_rev {k : Nat} {p1 p2 p3 : Pos} (he : PE X e (tM X.K F W q (RPk X.K) me)) : PE X (.Subscript e (.Slice none none (some (.UnaryOp .USub (.Constant (.int 1) k p1) p2)) p3) pos) (tM X.K F W false (RFr X.K F) (unM revD me)) :=
  PE_mono (pe_revL he) fun σ H Q h => bind_of (q2 := false) (R1 := RPk X.K) nq h fun d st1 G1 fpf1 v H1 S1 r1 A1 => by
    unfold lift at A1
    have r1' : Rp X.K G1 H1 d v := r1
    cases w : revD d with
    | none => rw [w] at A1; exact A1.elim
    | some z =>
      rw [w] at A1
      unfold revD at w
      split at w
      · cases w
        obtain ⟨a, vs, rfl, ha, ra⟩ := r1'.seqL S1.gh (.inl rfl)
        exact ⟨a, vs, rfl, ha, fun p hp => A1.endF S1 ⟨p, _, hp, rfl, rfl, .lst ra.reverse⟩⟩
      · cases w
        obtain ⟨a, vs, rfl, ha, ra⟩ := r1'.seqL S1.gh (.inr rfl)
        exact ⟨a, vs, rfl, ha, fun p hp => A1.endF S1 ⟨p, _, hp, rfl, rfl, .lst ra.reverse⟩⟩
      · cases w
end

/-! ### in, is -/
def seqP : PyData → Option (List PyData)
  | .list ps => some ps
  | .tuple ps => some ps
  | _ => none
def invD (d e : D) : Option Bool := match toP d, toP e with
  | some (.str x), some (.str z) => match x.cps.toList with
    | [c] => some (decide (c ∈ z.cps.toList))
    | _ => none
  | some p, some q => match seqP q with
    | some ps => if min (PyData.depthAll ps) p.depth ≤ 60 then some (ps.any fun y => PyData.eqv y p) else none
    | none => none
  | _, _ => none
def inD (d e : D) : Option D := (invD d e).map .bl
def ninD (d e : D) : Option D := (invD d e).map fun b => .bl (!b)
def rInP (K : PySem.W.Frag) (f : Bool → Bool) : R2 := fun x y H Q => (∃ (c : Nat) (z : Str), x = .str ⟨#[c]⟩ ∧ y = .str z ∧ Q (.bl (f (decide (c ∈ z.cps.toList)))) H) ∨
  ∃ d e ps, Dp K H x d ∧ Dp K H y e ∧ d.plain = true ∧ e.plain = true ∧ seqP e = some ps ∧ min (PyData.depthAll ps) d.depth ≤ 60 ∧ Q (.bl (f (ps.any fun y => PyData.eqv y d))) H
section
variable {X : Cx}
theorem o_in (hu : X.A.units + 64 < cLine) : OpR X (compareOp .In) (rInP X.K id) := by
  intro pins s σ H x y v u Q I rx ry h
  rcases h with ⟨c, z, hx, hy, q⟩ | ⟨d, e, ps, hd, he, sd, se, hq, hm, q⟩
  · exact op_in_sign pins s σ H x y v u Q I rx ry ⟨c, z, hx, hy, q⟩
  · obtain ⟨as, r1⟩ := Dp.reads I d x v hd rx
    obtain ⟨bs, r2⟩ := Dp.reads I e y u he ry
    unfold seqP at hq
    split at hq
    · cases hq
      exact PySem.SeqAt.in_list_data r2 r1 (by simpa [PyData.plain] using se) sd (by omega) ⟨.bl _, H, I, rfl, q⟩
    · cases hq
      exact PySem.SeqAt.in_tuple_data r2 r1 (by simpa [PyData.plain] using se) sd (by omega) ⟨.bl _, H, I, rfl, q⟩
    · cases hq
theorem o_nin (hu : X.A.units + 64 < cLine) : OpR X (compareOp .NotIn) (rInP X.K not) := by
  intro pins s σ H x y v u Q I rx ry h
  rcases h with ⟨c, z, hx, hy, q⟩ | ⟨d, e, ps, hd, he, sd, se, hq, hm, q⟩
  · exact op_notIn_sign pins s σ H x y v u Q I rx ry ⟨c, z, hx, hy, q⟩
  · obtain ⟨as, r1⟩ := Dp.reads I d x v hd rx
    obtain ⟨bs, r2⟩ := Dp.reads I e y u he ry
    unfold seqP at hq
    split at hq
    · cases hq
      exact PySem.SeqAt.notIn_list_data r2 r1 (by simpa [PyData.plain] using se) sd (by omega) ⟨.bl _, H, I, rfl, q⟩
    · cases hq
      exact PySem.SeqAt.notIn_tuple_data r2 r1 (by simpa [PyData.plain] using se) sd (by omega) ⟨.bl _, H, I, rfl, q⟩
    · cases hq
end
section
variable {K : PySem.W.Frag}
theorem toP_str {d : D} {x : Str} (h : toP d = some (.str x)) : d = .str x := by
  cases d <;> simp [toP] at h
  rw [h]
theorem inv_cases {d e : D} {b : Bool} (h : invD d e = some b) : (∃ c z, d = .str ⟨#[c]⟩ ∧ e = .str z ∧ b = decide (c ∈ z.cps.toList)) ∨
    ∃ p q ps, toP d = some p ∧ toP e = some q ∧ seqP q = some ps ∧ min (PyData.depthAll ps) p.depth ≤ 60 ∧ b = ps.any fun y => PyData.eqv y p := by
  unfold invD at h
  split at h
  · rename_i x z e1 e2
    split at h
    · rename_i c ec
      cases h
      refine .inl ⟨c, z, ?_, toP_str e2, rfl⟩
      rw [toP_str e1]
      congr 1
      cases x
      congr 1
      exact Array.toList_inj.mp ec
    · cases h
  · rename_i p q _ e1 e2
    split at h
    · rename_i ps eq
      by_cases c : min (PyData.depthAll ps) p.depth ≤ 60
      · rw [if_pos c] at h; cases h
        exact .inr ⟨p, q, ps, e1, e2, eq, c, rfl⟩
      · rw [if_neg c] at h; cases h
    · cases h
  · cases h
theorem s_inv {f : Bool → Bool} : OpS0 K (rInP K f) (fun d e => (invD d e).map fun b => .bl (f b)) := fun {G H d e z x y Q} g rx ry h q => by
  obtain ⟨b, hb, rfl⟩ := Option.map_eq_some_iff.mp h
  rcases inv_cases hb with ⟨c, w, rfl, rfl, rfl⟩ | ⟨p, q', ps, e1, e2, eq, c, rfl⟩
  · exact .inl ⟨c, w, rx.str, ry.str, q _ (.bl _)⟩
  · exact .inr ⟨p, q', ps, rx.dp g e1, ry.dp g e2, plain_toP e1, plain_toP e2, eq, c, q _ (.bl _)⟩
theorem s_in : OpS0 K (rInP K id) inD := s_inv
theorem s_nin : OpS0 K (rInP K not) ninD := s_inv
def isNon : D → Bool
  | .non => true
  | _ => false
theorem rp_non {G H : Hp} {d : D} {v : V} (h : Rp K G H d v) : decide (v = .non) = isNon d := by
  cases h with
  | rep h => cases h <;> simp [isNon]
  | own h => cases h with
    | flat q r => cases r <;> simp [isNon]
    | obj => simp [isNon]
def isD : D → D → Option D
  | d, .non => some (.bl (isNon d))
  | .bl a, .bl b => some (.bl (decide (a = b)))
  | _, _ => none
def isnD : D → D → Option D
  | d, .non => some (.bl (!isNon d))
  | .bl a, .bl b => some (.bl (!decide (a = b)))
  | _, _ => none
def rIs : R2 := fun x y H Q => (y = .non ∧ Q (.bl (decide (x = .non))) H) ∨ rIsB x y H Q
def rIsn : R2 := fun x y H Q => (y = .non ∧ Q (.bl (!decide (x = .non))) H) ∨ rNotB x y H Q
theorem s_is : OpS0 K rIs isD := fun {G H d e z x y Q} g rx ry h q => by
  unfold isD at h
  split at h
  · cases h; exact .inl ⟨ry.non, by rw [rp_non rx]; exact q _ (.bl _)⟩
  · cases h; exact .inr ⟨_, _, rx.bl, ry.bl, q _ (.bl _)⟩
  · cases h
theorem s_isn : OpS0 K rIsn isnD := fun {G H d e z x y Q} g rx ry h q => by
  unfold isnD at h
  split at h
  · cases h; exact .inl ⟨ry.non, by rw [rp_non rx]; exact q _ (.bl _)⟩
  · cases h; exact .inr ⟨_, _, rx.bl, ry.bl, q _ (.bl _)⟩
  · cases h
theorem o_is {X : Cx} : OpR X (compareOp .Is) rIs := OpR.or op_isN op_isBl
theorem o_isn {X : Cx} : OpR X (compareOp .IsNot) rIsn := OpR.or op_notN op_notBl
end
end DL

namespace DL
open PySem L2

/-! ### statements -/
inductive Out where
  | nx (st : DSt) | rt (fr : Bool) (d : D) (st : DSt) | bk (st : DSt) | ct (st : DSt) | err (x : Exc) (st : DSt) | stuck
abbrev MS := DSt → Out
section
variable (K : PySem.W.Frag) (F : Fr) (W : WX)
def AtS (r : Out) (G : Hp) (E : Ends) : Prop := match r with
  | .nx st' => ∀ (σ' : St) (H' G' : Hp) (fpf' : Nat → List Addr), Same G G' → Sync K F G' fpf' σ' H' st' → E.nx σ' H'
  | .rt false d st' => ∀ (v : V) (σ' : St) (H' G' : Hp) (fpf' : Nat → List Addr), Same G G' → Sync K F G' fpf' σ' H' st' → Rep K G' d v → E.rt v H'
  | .rt true d st' => ∀ (v : V) (σ' : St) (H' G' : Hp) (fpf' : Nat → List Addr), Same G G' → Sync K F G' fpf' σ' H' st' → Fresh K F G' fpf' st' H' d v → E.rt v H'
  | .bk st' => ∀ (σ' : St) (H' G' : Hp) (fpf' : Nat → List Addr), Same G G' → Sync K F G' fpf' σ' H' st' → E.bk σ' H'
  | .ct st' => ∀ (σ' : St) (H' G' : Hp) (fpf' : Nat → List Addr), Same G G' → Sync K F G' fpf' σ' H' st' → E.ct σ' H'
  | .err x st' => ∀ (a : Addr) (fv : List (Str × V)) (σ' : St) (H' G' : Hp) (fpf' : Nat → List Addr), Same G G' → Sync K F G' fpf' σ' H' st' → H' a = some (.xd fv) → fv.map (·.1) = x.fs.map (·.1) → RepA K G' (x.fs.map (·.2)) (fv.map (·.2)) → W x.cls (some a) σ' H'
  | .stuck => False
def tS (m : MS) : TS := fun E σ H => ∃ (st : DSt) (G : Hp) (fpf : Nat → List Addr), Sync K F G fpf σ H st ∧ AtS K F W (m st) G E
end
section
variable {K : PySem.W.Frag} {F : Fr} {W : WX} {r : Out} {G G0 : Hp} {E E' : Ends}
theorem AtS.back (h : AtS K F W r G0 E) (g : Same G0 G) : AtS K F W r G E := by
  cases r with
  | nx st' => exact fun σ' H' G' fpf' gg => h σ' H' G' fpf' (g.trans gg)
  | rt fr d st' =>
    cases fr with
    | true => exact fun v σ' H' G' fpf' gg => h v σ' H' G' fpf' (g.trans gg)
    | false => exact fun v σ' H' G' fpf' gg => h v σ' H' G' fpf' (g.trans gg)
  | bk st' => exact fun σ' H' G' fpf' gg => h σ' H' G' fpf' (g.trans gg)
  | ct st' => exact fun σ' H' G' fpf' gg => h σ' H' G' fpf' (g.trans gg)
  | err x st' => exact fun a fv σ' H' G' fpf' gg => h a fv σ' H' G' fpf' (g.trans gg)
  | stuck => exact h
end
/-- a computation, then what is done with its result -/
def doM {α : Type} (m : M α) (f : α → MS) : MS := fun st => match m st with
  | .ok d st' => f d st'
  | .err x st' => .err x st'
  | .stuck => .stuck
def skipM : MS := fun st => .nx st
def seqM (a b : MS) : MS := fun st => match a st with
  | .nx st' => b st'
  | r => r
def ifM (c : M Bool) (a b : MS) : MS := doM c fun k => if k = true then a else b
def dropM {α : Type} (m : M α) : MS := doM m fun _ => skipM
def retM (m : M D) : MS := doM m fun d st => .rt false d st
def retF (m : M D) : MS := doM m fun d st => .rt true d st
def retN : MS := fun st => .rt false .non st
def bkM : MS := fun st => .bk st
def ctM : MS := fun st => .ct st
structure Tg where
  sl : List Nat
  run : D → DSt → Option DSt
def nameT (i : Nat) : Tg := ⟨[i], fun d st => some (st.set i (some (Slot.sh d)))⟩
def tgsT : List Tg → List D → DSt → Option DSt
  | [], [], st => some st
  | t :: ts, d :: ds, st => match t.run d st with
    | some st' => tgsT ts ds st'
    | none => none
  | _, _, _ => none
def tupT (ts : List Tg) : Tg := ⟨ts.flatMap (·.sl), fun d st => match d with
  | .tup ds => tgsT ts ds st
  | _ => none⟩
def asgM (m : M D) (t : Tg) : MS := doM m fun d st => match t.run d st with
  | some st' => .nx st'
  | none => .stuck
def asgF (m : M D) (i : Nat) : MS := doM m fun d st => .nx (st.set i (some (Slot.ow false d)))
def retOw (i : Nat) : MS := fun st => match st[i]? with
  | some (some (Slot.ow false d)) => .rt true d (st.set i none)
  | _ => .stuck

theorem PS_mono {X : Cx} {s : Stmt} {t t' : TS} (h : PS X s t) (k : ∀ D σ H, t' D σ H → t D σ H) : PS X s t' := ⟨fun pins st σ H D I q => h.run pins st σ H D I (k _ _ _ q)⟩
theorem PSs_mono {X : Cx} {s : List Stmt} {t t' : TS} (h : PSs X s t) (k : ∀ D σ H, t' D σ H → t D σ H) : PSs X s t' := ⟨fun pins st σ H D I q => h.run pins st σ H D I (k _ _ _ q)⟩

section
variable {K : PySem.W.Frag} {F : Fr} {W : WX} {α ρ : Type} {q : Bool} {R : Rl α ρ} {E : Ends} {σ : St} {H : Hp}
theorem do_of {m : M α} {f : α → MS} {T : ρ → Hp → Prop} (h : tS K F W (doM m f) E σ H)
    (k : ∀ d st1 G1 fpf1 v H1, Sync K F G1 fpf1 σ H1 st1 → R G1 fpf1 st1 H1 d v → AtS K F W (f d st1) G1 E → T v H1) : tM K F W q R m σ H T := by
  obtain ⟨st, G, fpf, S, A⟩ := h
  refine ⟨st, G, fpf, S, ?_⟩
  unfold doM at A
  cases e : m st with
  | stuck => rw [e] at A; exact A
  | err x st' => rw [e] at A; exact fun a fv H' G' fpf' g S' => A a fv σ H' G' fpf' g S'
  | ok d st' => rw [e] at A; exact fun v H' G' fpf' _ g S' r => k d st' G' fpf' v H' S' r (A.back g)
end

section
variable {X : Cx} {F : Fr} {W : WX} {q : Bool} {e : Expr} {s : Stmt} {ss : List Stmt} {pos : Pos} {m : M D} {a b : MS} {c : M Bool}
theorem dss_nil : PSs X [] (tS X.K F W skipM) := PSs_mono pss_nil fun D σ H ⟨st, G, fpf, S, A⟩ => A σ H G fpf (Same.refl G) S
theorem dss_cons (h1 : PS X s (tS X.K F W a)) (h2 : PSs X ss (tS X.K F W b)) : PSs X (s :: ss) (tS X.K F W (seqM a b)) :=
  PSs_mono (pss_cons h1 h2) fun D σ H ⟨st, G, fpf, S, A⟩ => by
    refine ⟨st, G, fpf, S, ?_⟩
    unfold seqM at A
    cases e : a st with
    | nx st' => rw [e] at A; exact fun σ' H' G' fpf' g S' => ⟨st', G', fpf', S', AtS.back A g⟩
    | rt fr d st' => rw [e] at A; cases fr <;> exact A
    | bk st' => rw [e] at A; exact A
    | ct st' => rw [e] at A; exact A
    | err x st' => rw [e] at A; exact A
    | stuck => rw [e] at A; exact A
theorem dss_one (h1 : PS X s (tS X.K F W a)) : PSs X [s] (tS X.K F W a) := pss_one h1
theorem ds_pass : PS X (.Pass pos) (tS X.K F W skipM) := PS_mono ps_pass fun D σ H ⟨st, G, fpf, S, A⟩ => A σ H G fpf (Same.refl G) S
theorem ds_break : PS X (.Break pos) (tS X.K F W bkM) := PS_mono ps_break fun D σ H ⟨st, G, fpf, S, A⟩ => A σ H G fpf (Same.refl G) S
theorem ds_cont : PS X (.Continue pos) (tS X.K F W ctM) := PS_mono ps_continue fun D σ H ⟨st, G, fpf, S, A⟩ => A σ H G fpf (Same.refl G) S
theorem ds_never : PS X s (tS X.K F W fun _ => .stuck) := PS_mono ps_never fun D σ H ⟨st, G, fpf, S, A⟩ => A
theorem ds_expr {R : Rl D V} (he : PE X e (tM X.K F W q R m)) (hs : swapsWith e none pos.line X.env = pure false := by rfl) : PS X (.Expr e pos) (tS X.K F W (dropM m)) :=
  PS_mono (ps_expr he hs) fun D σ H h => do_of h fun d st1 G1 fpf1 v H1 S1 r1 A1 => A1 σ H1 G1 fpf1 (Same.refl G1) S1
theorem ds_ret (he : PE X e (tM X.K F W q (RSh X.K) m)) : PS X (.Return (some e) pos) (tS X.K F W (retM m)) :=
  PS_mono (ps_ret he) fun D σ H h => do_of h fun d st1 G1 fpf1 v H1 S1 r1 A1 => A1 v σ H1 G1 fpf1 (Same.refl G1) S1 r1
theorem ds_retF (he : PE X e (tM X.K F W q (RFr X.K F) m)) : PS X (.Return (some e) pos) (tS X.K F W (retF m)) :=
  PS_mono (ps_ret he) fun D σ H h => do_of h fun d st1 G1 fpf1 v H1 S1 r1 A1 => A1 v σ H1 G1 fpf1 (Same.refl G1) S1 r1
theorem ds_retN : PS X (.Return none pos) (tS X.K F W retN) := PS_mono ps_retN fun D σ H ⟨st, G, fpf, S, A⟩ => A .non σ H G fpf (Same.refl G) S .non
theorem ds_retOw (i : Nat) {x : Str} {p : Pos} (hN : X.N[i]? = some x := by rfl) (hv : Vis X.env.scope x := by first | exact Or.inl rfl | exact Or.inr (Or.inl rfl) | exact Or.inr (Or.inr rfl)) (hd : (x == ("__debug__" : Str)) = false := by decide) (hcd : (x == ("__classdict__" : Str)) = false := by decide) :
    PS X (.Return (some (.Name x p)) pos) (tS X.K F W (retOw i)) := PS_mono (ps_ret (pv i hN hv hd hcd)) fun D σ H ⟨st, G, fpf, S, A⟩ => by
  unfold retOw at A
  cases h : st[i]? with
  | none => rw [h] at A; exact A.elim
  | some s =>
    rw [h] at A
    cases s with
    | none => exact A.elim
    | some s =>
      cases s with
      | sh d => exact A.elim
      | ow mu d =>
        cases mu with
        | true => exact A.elim
        | false =>
          obtain ⟨a, h1, ow, nd, off, _⟩ := S.ow i false d h
          refine ⟨.ref a, h1, A (.ref a) σ H G fpf (Same.refl G) (S.forget i) ⟨⟨a, fpf i, rfl, ow, nd, fun b hb => ⟨(off b hb).1, ?_, fun j hj z => ?_⟩⟩⟩⟩
          · rcases (off b hb).2.1 with z | ⟨z, _⟩
            · exact ⟨z, (off b hb).2.2⟩
            · cases z
          · rcases ow_set hj with ⟨_, m, e, z⟩ | ⟨n, hj⟩
            · cases z
            · exact S.sep i j ⟨_, _, h⟩ hj (Ne.symm n) b hb z
theorem ds_if {c' : Expr} {sa sb : List Stmt} (hc : PT X c' (tM X.K F W q REq c)) (ha : PSs X sa (tS X.K F W a)) (hb : PSs X sb (tS X.K F W b)) : PS X (.If c' sa sb pos) (tS X.K F W (ifM c a b)) :=
  PS_mono (ps_if hc ha hb) fun D σ H h => do_of h fun d st1 G1 fpf1 v H1 S1 r1 A1 => by
    cases r1
    cases d with
    | true => rw [if_pos rfl] at A1 ⊢; exact ⟨st1, G1, fpf1, S1, A1⟩
    | false => rw [if_neg Bool.false_ne_true] at A1 ⊢; exact ⟨st1, G1, fpf1, S1, A1⟩

/-! ### targets, stores to names -/
theorem wipe_set {σ : St} {x : Option V} : ∀ {vs : List Nat} {i : Nat}, i ∈ vs → wipe (σ.set i x) vs = wipe σ vs
  | v :: vs, i, h => by
    unfold wipe
    by_cases hi : i ∈ vs
    · rw [wipe_set hi]
    · rcases List.mem_cons.mp h with rfl | h
      · have : ∀ (ws : List Nat), i ∉ ws → wipe (σ.set i x) ws = (wipe σ ws).set i x := by
          intro ws
          induction ws with
          | nil => intro _; rfl
          | cons w ws ih =>
            intro hw
            unfold wipe
            rw [ih fun z => hw (List.mem_cons_of_mem _ z), List.set_comm _ _ fun z => hw (by rw [← z]; exact List.mem_cons_self)]
        rw [this vs hi, List.set_set]
      · exact absurd h hi
def tG (K : PySem.W.Frag) (F : Fr) (t : Tg) : TG := fun v σ H Q => ∃ (d : D) (st : DSt) (G : Hp) (fpf : Nat → List Addr), Sync K F G fpf σ H st ∧ Rep K G d v ∧ ∃ st', t.run d st = some st' ∧ ∀ σ', Sync K F G fpf σ' H st' → (∀ vs, (∀ i ∈ t.sl, i ∈ vs) → wipe σ' vs = wipe σ vs) → Q σ' H
def tGs (K : PySem.W.Frag) (F : Fr) (ts : List Tg) : TGs := fun vs σ H Q => ∃ (ds : List D) (st : DSt) (G : Hp) (fpf : Nat → List Addr), Sync K F G fpf σ H st ∧ RepA K G ds vs ∧ ∃ st', tgsT ts ds st = some st' ∧ ∀ σ', Sync K F G fpf σ' H st' → (∀ vs, (∀ i ∈ ts.flatMap (·.sl), i ∈ vs) → wipe σ' vs = wipe σ vs) → Q σ' H
theorem PG_mono {X : Cx} {e : Expr} {t t' : TG} (h : PG X e t) (k : ∀ v σ H Q, t' v σ H Q → t v σ H Q) : PG X e t' := ⟨fun pins s σ H v u Q I r q => h.run pins s σ H v u Q I r (k _ _ _ _ q)⟩
theorem PGs_mono {X : Cx} {e : List Expr} {t t' : TGs} (h : PGs X e t) (k : ∀ v σ H Q, t' v σ H Q → t v σ H Q) : PGs X e t' := ⟨fun pins s σ H v u Q I r q => h.run pins s σ H v u Q I r (k _ _ _ _ q)⟩
theorem dg_name (i : Nat) {x : Str} (hN : X.N.Nodup) (hi : X.N[i]? = some x := by rfl) (hx : Loc X.env.scope x := by first | exact Or.inl rfl | exact Or.inr rfl) (hf : X.fn x = true ∨ X.env.scope.names.lookup x = some .local := by first | exact .inl rfl | exact .inr rfl) : PG X (.Name x pos) (tG X.K F (nameT i)) :=
  PG_mono (pg_name hN hi hx hf) fun v σ H Q ⟨d, st, G, fpf, S, r, st', e, k⟩ => by
    cases e
    exact k _ (S.assign i r) fun vs h => wipe_set (h i List.mem_cons_self)
theorem dgs_nil : PGs X [] (tGs X.K F []) := PGs_mono pgs_nil fun vs σ H Q ⟨ds, st, G, fpf, S, r, st', e, k⟩ => by
  cases r with
  | nil => cases e; exact ⟨rfl, k _ S fun _ _ => rfl⟩
  | cons _ _ => cases e
theorem dgs_cons {e : Expr} {es : List Expr} {t : Tg} {ts : List Tg} (h1 : PG X e (tG X.K F t)) (h2 : PGs X es (tGs X.K F ts)) (hs : (assignEach (e :: es) X.env).map (·.2) = assign e X.env :: (assignEach es X.env).map (·.2) := by rfl) : PGs X (e :: es) (tGs X.K F (t :: ts)) :=
  PGs_mono (pgs_cons h1 h2 hs) fun vs σ H Q ⟨ds, st, G, fpf, S, r, st', e, k⟩ => by
    cases r with
    | nil => cases e
    | @cons d v ds' vs' r rr =>
      unfold tgsT at e
      cases h : t.run d st with
      | none => rw [h] at e; cases e
      | some st1 =>
        rw [h] at e
        refine ⟨v, vs', rfl, d, st, G, fpf, S, r, st1, h, fun σ1 S1 w1 => ⟨ds', st1, G, fpf, S1, rr, st', e, fun σ2 S2 w2 => k σ2 S2 fun vs hv => ?_⟩⟩
        rw [List.flatMap_cons] at hv
        rw [w2 vs fun i hi => hv i (List.mem_append_right _ hi), w1 vs fun i hi => hv i (List.mem_append_left _ hi)]
theorem tgsT_len : ∀ {ts : List Tg} {ds : List D} {st st' : DSt}, tgsT ts ds st = some st' → ds.length = ts.length
  | [], [], _, _, _ => rfl
  | t :: ts, d :: ds, st, st', h => by
    unfold tgsT at h
    cases e : t.run d st with
    | none => rw [e] at h; cases h
    | some st1 => rw [e] at h; exact congrArg (· + 1) (tgsT_len h)
  | [], _ :: _, _, _, h => by cases h
  | _ :: _, [], _, _, h => by cases h
theorem dg_tup {es : List Expr} {ts : List Tg} {k : Nat} (hc : X.calm = true) (h : PGs X es (tGs X.K F ts)) (hn : (assignEach es X.env).length = ts.length := by rfl) (hst : (assignEach es X.env).findIdx? (·.1) = none := by rfl) : PG X (.Tuple es k pos) (tG X.K F (tupT ts)) :=
  PG_mono (pg_tup hc h hn hst) fun v σ H Q ⟨d, st, G, fpf, S, r, st', e, k⟩ => by
    unfold tupT at e
    dsimp only at e
    cases d with
    | tup ds =>
      obtain ⟨a, vs, rfl, ha, ra⟩ := (Rp.rep (H := H) r).tup S.gh
      exact ⟨a, vs, rfl, ha, by rw [← ra.length, tgsT_len e], ds, st, G, fpf, S, ra, st', e, k⟩
    | _ => cases e
theorem asg_of {K : PySem.W.Frag} {t : Tg} {σ : St} {H : Hp} {E : Ends} (h : tS K F W (asgM m t) E σ H) : tAsg (tM K F W q (RSh K) m) (tG K F t) E σ H :=
  do_of (R := RSh K) h fun d st1 G1 fpf1 v H1 S1 r1 A1 => by
    cases e : t.run d st1 with
    | none => rw [e] at A1; exact A1.elim
    | some st' => rw [e] at A1; exact ⟨d, st1, G1, fpf1, S1, r1, st', e, fun σ' S' _ => A1 σ' H1 G1 fpf1 (Same.refl G1) S'⟩
theorem ds_set (i : Nat) {x : Str} {p : Pos} (hN : X.N.Nodup) (he : PE X e (tM X.K F W q (RSh X.K) m)) (hi : X.N[i]? = some x := by rfl) (hx : Loc X.env.scope x := by first | exact Or.inl rfl | exact Or.inr rfl)
    (hs : swapsWith e (some (.Name x p)) pos.line X.env = pure false := by rfl) (hf : X.fn x = true ∨ X.env.scope.names.lookup x = some .local := by first | exact .inl rfl | exact .inr rfl) : PS X (.Assign [.Name x p] e pos) (tS X.K F W (asgM m (nameT i))) :=
  PS_mono (ps_set hN hi hx he hs hf) fun D σ H h => do_of (R := RSh X.K) h fun d st1 G1 fpf1 v H1 S1 r1 A1 => A1 _ H1 G1 fpf1 (Same.refl G1) (S1.assign i r1)
theorem ds_setF (i : Nat) {x : Str} {p : Pos} (hN : X.N.Nodup) (he : PE X e (tM X.K F W q (RFr X.K F) m)) (hi : X.N[i]? = some x := by rfl) (hx : Loc X.env.scope x := by first | exact Or.inl rfl | exact Or.inr rfl)
    (hs : swapsWith e (some (.Name x p)) pos.line X.env = pure false := by rfl) (hf : X.fn x = true ∨ X.env.scope.names.lookup x = some .local := by first | exact .inl rfl | exact .inr rfl) : PS X (.Assign [.Name x p] e pos) (tS X.K F W (asgF m i)) :=
  PS_mono (ps_set hN hi hx he hs hf) fun D σ H h => do_of (R := RFr X.K F) h fun d st1 G1 fpf1 v H1 S1 r1 A1 => by
    obtain ⟨fpf', S'⟩ := S1.assignF i r1
    exact A1 _ H1 G1 fpf' (Same.refl G1) S'
theorem ds_asg {tg : Expr} {t : Tg} (he : PE X e (tM X.K F W q (RSh X.K) m)) (hg : PG X tg (tG X.K F t)) (hs : swapsWithSole [tg] e pos.line X.env = pure false := by rfl) (hw : swappedStores [tg] e X.env = pure none := by rfl)
    (h1 : (assignEach [tg] X.env).map (·.2) = [assign tg X.env] := by rfl) : PS X (.Assign [tg] e pos) (tS X.K F W (asgM m t)) :=
  PS_mono (ps_asg he hg hs hw h1) fun D σ H h => asg_of h
/-- a, b = x, y -/
def parM (m : M (List D)) (i j : Nat) : MS := doM m fun ds st => match ds with
  | [d, e] => .nx ((st.set i (some (Slot.sh d))).set j (some (Slot.sh e)))
  | _ => .stuck
theorem ds_par {i j : Nat} {x y : Str} {a b : Expr} {ma : M (List D)} {px py pt : Pos} {kt k2 : Nat} {pt2 : Pos} (hc : X.calm = true) (hN : X.N.Nodup) (ha : PA X [a, b] (tM X.K F W q (RLs X.K) ma)) (hij : i ≠ j := by decide) (hi : X.N[i]? = some x := by rfl) (hj : X.N[j]? = some y := by rfl)
    (hx : X.env.scope.names.lookup x = some .local := by rfl) (hy : X.env.scope.names.lookup y = some .local := by rfl)
    (hw : swappedStores [.Tuple [.Name x px, .Name y py] kt pt] (.Tuple [a, b] k2 pt2) X.env = pure (some [x, y]) := by rfl)
    (hs : swapsWithSole [.Tuple [.Name x px, .Name y py] kt pt] (.Tuple [a, b] k2 pt2) pos.line X.env = pure false := by rfl) :
    PS X (.Assign [.Tuple [.Name x px, .Name y py] kt pt] (.Tuple [a, b] k2 pt2) pos) (tS X.K F W (parM ma i j)) :=
  PS_mono (ps_par hc hN hi hj hij hx hy ha hw hs) fun D σ H h => do_of (R := RLs X.K) h fun ds st1 G1 fpf1 vs H1 S1 r1 A1 => by
    have r1' : RepA X.K G1 ds vs := r1
    cases r1' with
    | nil => exact A1.elim
    | cons ra rr =>
      cases rr with
      | nil => exact A1.elim
      | cons rb rs =>
        cases rs with
        | nil => exact ⟨_, _, rfl, A1 _ H1 G1 fpf1 (Same.refl G1) ((S1.assign i ra).assign j rb)⟩
        | cons _ _ => exact A1.elim
/-- x op= e, two shared values -/
def augM (g : D → D → Option D) (i : Nat) (m : M D) : MS := doM (bnd (peekM i) fun x => bnd m fun y => lift (g x y)) fun d st => .nx (st.set i (some (Slot.sh d)))
end
end DL

namespace DL
open PySem L2

/-! ### while -/
def whileM : Nat → M Bool → MS → MS
  | 0, _, _ => fun _ => .stuck
  | n + 1, c, b => doM c fun k => if k = true then fun st => match b st with
      | .nx st' => whileM n c b st'
      | .ct st' => whileM n c b st'
      | .bk st' => .nx st'
      | r => r
    else skipM
theorem ds_while (n : Nat) {X : Cx} {F : Fr} {W : WX} {q : Bool} {c : Expr} {body : List Stmt} {pos : Pos} {mc : M Bool} {b : MS} (hp : PassesOwn (model X.prog X.w) X.A X.env X.xe) (hc : PT X c (tM X.K F W q REq mc)) (hb : PSs X body (tS X.K F W b)) :
    PS X (.While c body [] pos) (tS X.K F W (whileM n mc b)) := PS_mono (ps_while hp hc hb) fun D σ H h => by
  refine ⟨fun m σ H => ∃ st G fpf, Sync X.K F G fpf σ H st ∧ AtS X.K F W (whileM m mc b st) G D, ⟨n, h⟩, ?_⟩
  rintro m σ H ⟨st, G, fpf, S, A⟩
  cases m with
  | zero => exact A.elim
  | succ m =>
    refine do_of (R := REq) ⟨st, G, fpf, S, A⟩ fun d st1 G1 fpf1 v H1 S1 r1 A1 => ?_
    cases r1
    cases d with
    | false => rw [if_neg Bool.false_ne_true] at A1 ⊢; exact A1 σ H1 G1 fpf1 (Same.refl G1) S1
    | true =>
      rw [if_pos rfl] at A1 ⊢
      refine ⟨fun σ' H' => ∃ st' G' fpf', Sync X.K F G' fpf' σ' H' st' ∧ AtS X.K F W (whileM m mc b st') G' D, fun σ' H' z => ⟨m, Nat.lt_succ_self m, z⟩, st1, G1, fpf1, S1, ?_⟩
      cases e : b st1 with
      | nx st' => rw [e] at A1; exact fun σ' H' G' fpf' g S' => ⟨st', G', fpf', S', AtS.back A1 g⟩
      | ct st' => rw [e] at A1; exact fun σ' H' G' fpf' g S' => ⟨st', G', fpf', S', AtS.back A1 g⟩
      | bk st' => rw [e] at A1; exact A1
      | rt fr d st' => rw [e] at A1; cases fr <;> exact A1
      | err x st' => rw [e] at A1; exact A1
      | stuck => rw [e] at A1; exact A1

/-! ### what is walked -/
/-- J yields these data, in any later heap -/
def ItR (K : PySem.W.Frag) (J : It) (G : Hp) (ds : List D) : Prop := ∀ (G2 H2 : Hp), Same G G2 → Same G2 H2 → ∀ i : Nat, (∀ d, ds[i]? = some d → J.go i H2 ∧ ∀ x H3, J.yld i H2 x H3 → Res1 K G2 H2 d x H3) ∧ (ds[i]? = none → J.stop i H2)
def AtI (K : PySem.W.Frag) (F : Fr) (W : WX) (r : Res (List D)) (G : Hp) (σ : St) (R : It → Hp → Prop) : Prop := match r with
  | .ok ds st' => ∀ (J : It) (H' G' : Hp) (fpf' : Nat → List Addr), Same G G' → Sync K F G' fpf' σ H' st' → ItR K J G' ds → R J H'
  | .err x st' => ∀ (a : Addr) (fv : List (Str × V)) (H' G' : Hp) (fpf' : Nat → List Addr), Same G G' → Sync K F G' fpf' σ H' st' → H' a = some (.xd fv) → fv.map (·.1) = x.fs.map (·.1) → RepA K G' (x.fs.map (·.2)) (fv.map (·.2)) → W x.cls (some a) σ H'
  | .stuck => False
def tI (K : PySem.W.Frag) (F : Fr) (W : WX) (mi : M (List D)) : TI := fun σ H R => ∃ (st : DSt) (G : Hp) (fpf : Nat → List Addr), Sync K F G fpf σ H st ∧ AtI K F W (mi st) G σ R
theorem AtI.back {K : PySem.W.Frag} {F : Fr} {W : WX} {r : Res (List D)} {G0 G : Hp} {σ : St} {R : It → Hp → Prop} (h : AtI K F W r G0 σ R) (g : Same G0 G) : AtI K F W r G σ R := by
  cases r with
  | ok ds st' => exact fun J H' G' fpf' gg => h J H' G' fpf' (g.trans gg)
  | err x st' => exact fun a fv H' G' fpf' gg => h a fv H' G' fpf' (g.trans gg)
  | stuck => exact h
theorem PI_mono {X : Cx} {tg e : Expr} {t t' : TI} (h : PI X tg e t) (k : ∀ σ H R, t' σ H R → t σ H R) : PI X tg e t' := ⟨fun pins s σ H R I q => h.run pins s σ H R I (k _ _ _ q)⟩
theorem PI.or {X : Cx} {tg e : Expr} {t t' : TI} (h : PI X tg e t) (h' : PI X tg e t') : PI X tg e (fun σ H R => t σ H R ∨ t' σ H R) := ⟨fun pins s σ H R I q => q.elim (h.run pins s σ H R I) (h'.run pins s σ H R I)⟩
section
variable {K : PySem.W.Frag} {G : Hp}
theorem itr_list {a : Addr} {vs : List V} {ds : List D} (h : SqL K G a vs) (r : RepA K G ds vs) : ItR K (Itl K a) G ds := fun G2 H2 g1 g2 i => by
  have hs : SqL K H2 a vs := g2.seq (g1.seq h)
  refine ⟨fun d hd => ?_, fun hn => ⟨vs, hs, ?_⟩⟩
  · obtain ⟨v, hv, rv⟩ := r.get hd
    refine ⟨⟨vs, v, hs, hv⟩, fun x H3 y => ?_⟩
    obtain ⟨rfl, y⟩ := y
    have := y vs hs
    rw [hv] at this; cases this
    exact .inl ⟨rfl, rv.mono g1⟩
  · rw [← r.length]; exact List.getElem?_eq_none_iff.mp hn
theorem itr_tup {a : Addr} {vs : List V} {ds : List D} (h : SqT K G a vs) (r : RepA K G ds vs) : ItR K (Itt K a) G ds := fun G2 H2 g1 g2 i => by
  have hs : SqT K H2 a vs := sqT_mono g2 (sqT_mono g1 h)
  refine ⟨fun d hd => ?_, fun hn => ⟨vs, hs, ?_⟩⟩
  · obtain ⟨v, hv, rv⟩ := r.get hd
    refine ⟨⟨vs, v, hs, hv⟩, fun x H3 y => ?_⟩
    obtain ⟨rfl, y⟩ := y
    have := y vs hs
    rw [hv] at this; cases this
    exact .inl ⟨rfl, rv.mono g1⟩
  · rw [← r.length]; exact List.getElem?_eq_none_iff.mp hn
def rangeD (lo : Int) (n : Nat) : List D := (List.range n).map fun i => .int (lo + (i : Nat))
theorem itr_rng {lo : Int} {n : Nat} : ItR K (Itr lo n) G (rangeD lo n) := fun G2 H2 g1 g2 i => by
  refine ⟨fun d hd => ?_, fun hn => ?_⟩
  · unfold rangeD at hd
    rw [List.getElem?_map, Option.map_eq_some_iff] at hd
    obtain ⟨j, hj, rfl⟩ := hd
    obtain ⟨hl, hj⟩ := List.getElem?_eq_some_iff.mp hj
    rw [List.getElem_range] at hj
    subst hj
    rw [List.length_range] at hl
    refine ⟨hl, fun x H3 y => ?_⟩
    obtain ⟨rfl, rfl⟩ := y
    exact .inl ⟨rfl, .int _⟩
  · have := List.getElem?_eq_none_iff.mp hn
    unfold rangeD at this
    rw [List.length_map, List.length_range] at this
    exact this
end
def strD (z : Str) : List D := z.cps.toList.map fun c => .str ⟨#[c]⟩
section
variable {X : Cx} {F : Fr} {W : WX} {q q1 q2 q3 : Bool} {tg e iter : Expr} {es : List Expr} {m : M D} {pos : Pos}
def seqM' (m : M D) : M (List D) := bnd m fun d => match d with
  | .lst ds => ret ds
  | .kl ds => ret ds
  | _ => stuckM
def tupM' (m : M D) : M (List D) := bnd m fun d => match d with
  | .tup ds => ret ds
  | _ => stuckM
theorem di_of {K : PySem.W.Frag} {α ρ : Type} {m : M α} {f : α → M (List D)} {σ : St} {H : Hp} {R : It → Hp → Prop} {T : ρ → Hp → Prop} {RR : Rl α ρ} (h : tI K F W (bnd m f) σ H R)
    (k : ∀ d st1 G1 fpf1 v H1, Sync K F G1 fpf1 σ H1 st1 → RR G1 fpf1 st1 H1 d v → AtI K F W (f d st1) G1 σ R → T v H1) : tM K F W q RR m σ H T := by
  obtain ⟨st, G, fpf, S, A⟩ := h
  refine ⟨st, G, fpf, S, ?_⟩
  unfold bnd at A
  cases e : m st with
  | stuck => rw [e] at A; exact A
  | err x st' => rw [e] at A; exact A
  | ok d st' =>
    rw [e] at A
    exact fun v H1 G1 fpf1 _ g S1 r1 => k d st' G1 fpf1 v H1 S1 r1 (AtI.back A g)
theorem di_list (h : PE X e (tM X.K F W q (RSh X.K) m)) : PI X tg e (tI X.K F W (seqM' m)) :=
  PI_mono (pi_list h) fun σ H R z => di_of (RR := RSh X.K) z fun d st1 G1 fpf1 v H1 S1 r1 A1 => by
    have go : ∀ ds, (d = .lst ds ∨ d = .kl ds) → (∀ (J : It) (H' G' : Hp) (fpf' : Nat → List Addr), Same G1 G' → Sync X.K F G' fpf' σ H' st1 → ItR X.K J G' ds → R J H') → ∃ a, v = .ref a ∧ (∃ xs, SqL X.K H1 a xs) ∧ R (Itl X.K a) H1 := fun ds e k => by
      have : ∃ a vs, v = .ref a ∧ SqL X.K G1 a vs ∧ RepA X.K G1 ds vs := by
        have r1' : Rep X.K G1 d v := r1
        rcases e with rfl | rfl
        · cases r1' with | lst h r => exact ⟨_, _, rfl, .inl (.inl h), r⟩
        · cases r1' with | kl h r => exact ⟨_, _, rfl, h, r⟩
      obtain ⟨a, vs, rfl, ha, ra⟩ := this
      exact ⟨a, rfl, ⟨vs, S1.gh.seq ha⟩, k _ H1 G1 fpf1 (Same.refl G1) S1 (itr_list ha ra)⟩
    cases d with
    | lst ds => exact go ds (.inl rfl) A1
    | kl ds => exact go ds (.inr rfl) A1
    | _ => exact A1.elim
theorem di_tup (h : PE X e (tM X.K F W q (RSh X.K) m)) : PI X tg e (tI X.K F W (tupM' m)) :=
  PI_mono (pi_tup h) fun σ H R z => di_of (RR := RSh X.K) z fun d st1 G1 fpf1 v H1 S1 r1 A1 => by
    cases d with
    | tup ds =>
      have r1' : Rep X.K G1 (.tup ds) v := r1
      cases r1' with
      | tup h r => exact ⟨_, rfl, ⟨_, sqT_mono S1.gh h⟩, A1 _ H1 G1 fpf1 (Same.refl G1) S1 (itr_tup h r)⟩
    | _ => exact A1.elim
/-- range(n), range(a, b) -/
def rng1M (m : M D) : M (List D) := bnd m fun d => match d with
  | .int j => if -4611686018427387904 ≤ j ∧ j < 4611686018427387904 then ret (rangeD 0 j.toNat) else stuckM
  | _ => stuckM
def rng2M (ma mb : M D) : M (List D) := bnd (argsM [ma, mb]) fun ds => match ds with
  | [.int i, .int j] => if -4611686018427387904 ≤ i ∧ i < 4611686018427387904 ∧ -4611686018427387904 ≤ j ∧ j < 4611686018427387904 then ret (rangeD i (j - i).toNat) else stuckM
  | _ => stuckM
theorem one_of {K : PySem.W.Frag} {α : Type} {R : Rl α V} {ma : M α} {σ : St} {H : Hp} {Q : List V → Hp → Prop} (h : tM K F W q R ma σ H fun v H' => Q [v] H') : tCons (tM K F W q R ma) tNil σ H Q := h
theorem di_rng1 {p1 : Pos} (hg : Gl X "range") (hm : X.mg "range" = none) (ha : PE X e (tM X.K F W q (RSh X.K) m)) (hs : starEach [e] X.env = [(false, eval e X.env)] := by rfl) :
    PI X tg (.Call (.Name "range" p1) [e] [] pos) (tI X.K F W (rng1M m)) :=
  PI_mono (pi_range1 hg hm (pa_cons ha pa_nil hs) hs) fun σ H R z => one_of (di_of (RR := RSh X.K) z fun d st1 G1 fpf1 v H1 S1 r1 A1 => by
    cases d with
    | int j =>
      by_cases c : -4611686018427387904 ≤ j ∧ j < 4611686018427387904
      · dsimp only at A1; rw [if_pos c] at A1
        exact ⟨j, by rw [(Rp.rep (H := H1) r1).int], c.1, c.2, A1 _ H1 G1 fpf1 (Same.refl G1) S1 itr_rng⟩
      · dsimp only at A1; rw [if_neg c] at A1; exact A1.elim
    | _ => exact A1.elim)
theorem di_rng2 {p1 : Pos} {a b : Expr} {ma mb : M D} (hg : Gl X "range") (hm : X.mg "range" = none) (ha : PE X a (tM X.K F W q1 (RSh X.K) ma)) (hb : PE X b (tM X.K F W q2 (RSh X.K) mb)) (hs : starEach [a, b] X.env = [(false, eval a X.env), (false, eval b X.env)] := by rfl) (hs2 : starEach [b] X.env = [(false, eval b X.env)] := by rfl) :
    PI X tg (.Call (.Name "range" p1) [a, b] [] pos) (tI X.K F W (rng2M ma mb)) :=
  PI_mono (pi_range2 hg hm (da_cons ha (da_cons hb (da_nil (q := true)) hs2) (by rw [hs, hs2])) hs hs2) fun σ H R z => di_of (RR := RLs X.K) z fun ds st1 G1 fpf1 vs H1 S1 r1 A1 => by
    have r1' : RepA X.K G1 ds vs := r1
    split at A1
    · rename_i i j
      by_cases c : -4611686018427387904 ≤ i ∧ i < 4611686018427387904 ∧ -4611686018427387904 ≤ j ∧ j < 4611686018427387904
      · rw [if_pos c] at A1
        have e : vs = [.int i, .int j] := RepA.ints (ns := [i, j]) r1'
        exact ⟨i, j, e, c, A1 _ H1 G1 fpf1 (Same.refl G1) S1 itr_rng⟩
      · rw [if_neg c] at A1; exact A1.elim
    · exact A1.elim
end

/-! ### for -/
def loopM (t : Tg) (b : MS) : List D → MS
  | [] => skipM
  | d :: ds => fun st => match t.run d st with
    | none => .stuck
    | some st1 => match b st1 with
      | .nx st2 => loopM t b ds st2
      | .ct st2 => loopM t b ds st2
      | .bk st2 => .nx st2
      | r => r
def forM (mi : M (List D)) (t : Tg) (b : MS) : MS := doM mi (loopM t b)
/-- what an item of a walk brings: the item stands, maybe made new -/
theorem Sync.took {K : PySem.W.Frag} {F : Fr} {G : Hp} {fpf : Nat → List Addr} {σ : St} {H H' : Hp} {st : DSt} (S : Sync K F G fpf σ H st) {d : D} {v : V} (r : Res1 K G H d v H') : ∃ G', Same G G' ∧ Sync K F G' fpf σ H' st ∧ Rep K G' d v := by
  rcases r with ⟨rfl, r⟩ | ⟨p, o, hp, rfl, rfl, r⟩
  · exact ⟨G, Same.refl G, S, r⟩
  · exact ⟨upd G p o, same_upd S.gh hp, S.alloc hp, (r.mono (same_upd S.gh hp)).rep upd_same⟩
theorem ds_for {X : Cx} {F : Fr} {W : WX} {tg iter : Expr} {body : List Stmt} {pos : Pos} {mi : M (List D)} {t : Tg} {b : MS} (hp : PassesOwn (model X.prog X.w) X.A X.env X.xe) (hc : X.calm = true) (hi : PI X tg iter (tI X.K F W mi)) (hg : PG X tg (tG X.K F t)) (hb : PSs X body (tS X.K F W b))
    (hs : ∀ x, foldedSetIterable iter X.env x = pure x := by intro _; rfl) : PS X (.For tg iter body [] pos) (tS X.K F W (forM mi t b)) := PS_mono (ps_for hp hc hi hg hb hs) fun D σ H h => by
  obtain ⟨st, G, fpf, S, A⟩ := h
  refine ⟨st, G, fpf, S, ?_⟩
  unfold forM doM at A
  cases e : mi st with
  | stuck => rw [e] at A; exact A
  | err x st' => rw [e] at A; exact fun a fv H' G' fpf' g S' => A a fv σ H' G' fpf' g S'
  | ok ds st' =>
    rw [e] at A
    intro J H1 G1 fpf1 g1 S1 it
    refine ⟨fun i m σ' H' => m = ds.length - i ∧ i ≤ ds.length ∧ ∃ st2 G2 fpf2, Same G1 G2 ∧ Sync X.K F G2 fpf2 σ' H' st2 ∧ AtS X.K F W (loopM t b (ds.drop i) st2) G2 D, ⟨ds.length, by simp, Nat.zero_le _, st', G1, fpf1, Same.refl G1, S1, by rw [List.drop_zero]; exact AtS.back A g1⟩, ?_⟩
    rintro i m σ' H' ⟨rfl, hi, st2, G2, fpf2, g2, S2, A2⟩
    obtain ⟨it1, it2⟩ := it G2 H' g2 S2.gh i
    by_cases hl : i < ds.length
    · rw [List.drop_eq_getElem_cons hl] at A2
      obtain ⟨go, yl⟩ := it1 ds[i] (List.getElem?_eq_getElem hl)
      refine .inr ⟨go, fun σ3 H3 => ∃ st3 G3 fpf3, Same G1 G3 ∧ Sync X.K F G3 fpf3 σ3 H3 st3 ∧ AtS X.K F W (loopM t b (ds.drop (i + 1)) st3) G3 D, fun σ3 H3 z => ⟨ds.length - (i + 1), by omega, rfl, hl, z⟩, fun x H3 y => ?_⟩
      obtain ⟨G3, g3, S3, r3⟩ := S2.took (yl x H3 y)
      unfold loopM at A2
      cases et : t.run ds[i] st2 with
      | none => rw [et] at A2; exact A2.elim
      | some st4 =>
        rw [et] at A2
        dsimp only at A2
        refine ⟨ds[i], st2, G3, fpf2, S3, r3, st4, et, fun σ4 S4 _ => ⟨st4, G3, fpf2, S4, ?_⟩⟩
        cases eb : b st4 with
        | nx st5 => rw [eb] at A2; exact fun σ5 H5 G5 fpf5 g5 S5 => ⟨st5, G5, fpf5, (g2.trans g3).trans g5, S5, AtS.back A2 (g3.trans g5)⟩
        | ct st5 => rw [eb] at A2; exact fun σ5 H5 G5 fpf5 g5 S5 => ⟨st5, G5, fpf5, (g2.trans g3).trans g5, S5, AtS.back A2 (g3.trans g5)⟩
        | bk st5 => rw [eb] at A2; exact fun σ5 H5 G5 fpf5 g5 S5 => A2 σ5 H5 G5 fpf5 (g3.trans g5) S5
        | rt fr d st5 => rw [eb] at A2; cases fr <;> exact fun v σ5 H5 G5 fpf5 g5 S5 r5 => A2 v σ5 H5 G5 fpf5 (g3.trans g5) S5 r5
        | err x st5 => rw [eb] at A2; exact fun a fv σ5 H5 G5 fpf5 g5 S5 => A2 a fv σ5 H5 G5 fpf5 (g3.trans g5) S5
        | stuck => rw [eb] at A2; exact A2
    · rw [List.drop_eq_nil_of_le (by omega)] at A2
      exact .inl ⟨it2 (List.getElem?_eq_none_iff.mpr (by omega)), A2 σ' H' G2 fpf2 (Same.refl G2) S2⟩
end DL

namespace DL
open PySem L2

/-! ### list comprehensions -/
def WF : WX := fun _ _ _ _ => False
def wipeD (st : DSt) : List Nat → DSt
  | [] => st
  | v :: vs => (wipeD st vs).set v none
def compL (vs : List Nat) (t : Tg) (mt : M Bool) (me : M D) : List D → List D → M D
  | [], acc => fun st => .ok (.lst acc) st
  | d :: ds, acc => fun st => match t.run d st with
    | none => .stuck
    | some st1 => match mt st1 with
      | .ok true st2 => match me st2 with
        | .ok y st3 => if acc.length < 16777216 then compL vs t mt me ds (acc ++ [y]) (wipeD st3 vs) else .stuck
        | _ => .stuck
      | .ok false st2 => compL vs t mt me ds acc (wipeD st2 vs)
      | _ => .stuck
def compM (vs : List Nat) (mi : M (List D)) (t : Tg) (mt : M Bool) (me : M D) : M D := bnd mi fun ds st => compL vs t mt me ds [] (wipeD st vs)

section
variable {K : PySem.W.Frag} {F : Fr} {G : Hp} {fpf : Nat → List Addr} {σ : St} {H : Hp} {st : DSt}
theorem Sync.wipe (S : Sync K F G fpf σ H st) : ∀ vs : List Nat, Sync K F G fpf (L2.wipe σ vs) H (wipeD st vs)
  | [] => S
  | v :: vs => (Sync.wipe S vs).any v none
theorem wipe_get {σ : St} {i : Nat} : ∀ {vs : List Nat}, i ∉ vs → (L2.wipe σ vs)[i]? = σ[i]?
  | [], _ => rfl
  | v :: vs, h => by
    unfold L2.wipe
    rw [List.getElem?_set_ne fun z => h (by rw [z]; exact List.mem_cons_self)]
    exact wipe_get fun z => h (List.mem_cons_of_mem _ z)
theorem wipeD_get {st : DSt} {i : Nat} : ∀ {vs : List Nat}, i ∉ vs → (wipeD st vs)[i]? = st[i]?
  | [], _ => rfl
  | v :: vs, h => by
    unfold wipeD
    rw [List.getElem?_set_ne fun z => h (by rw [z]; exact List.mem_cons_self)]
    exact wipeD_get fun z => h (List.mem_cons_of_mem _ z)
theorem wipeD_none {st : DSt} {i : Nat} : ∀ {vs : List Nat}, i ∈ vs → ∀ s, (wipeD st vs)[i]? ≠ some (some s)
  | v :: vs, h, s, e => by
    unfold wipeD at e
    rcases get_set e with ⟨_, b, _⟩ | ⟨a, b⟩
    · cases b
    · rcases List.mem_cons.mp h with z | z
      · exact a z
      · exact wipeD_none z s b
theorem wipeD_idem (st : DSt) : ∀ vs : List Nat, wipeD (wipeD st vs) vs = wipeD st vs := by
  intro vs
  apply List.ext_getElem?
  intro i
  by_cases h : i ∈ vs
  · have l : ∀ (s : DSt) (ws : List Nat), (wipeD s ws).length = s.length := by
      intro s ws
      induction ws with
      | nil => rfl
      | cons w ws ih => unfold wipeD; rw [List.length_set, ih]
    cases e : (wipeD st vs)[i]? with
    | none =>
      rw [List.getElem?_eq_none_iff] at e ⊢
      rw [l]; exact e
    | some s =>
      cases s with
      | some s => exact absurd e (wipeD_none h s)
      | none =>
        have li := (List.getElem?_eq_some_iff.mp e).1
        cases e2 : (wipeD (wipeD st vs) vs)[i]? with
        | none => rw [List.getElem?_eq_none_iff, l] at e2; omega
        | some s2 =>
          cases s2 with
          | none => rfl
          | some s2 => exact absurd e2 (wipeD_none h s2)
  · rw [wipeD_get h]
theorem wipeS_none {σ : St} {i : Nat} : ∀ {vs : List Nat}, i ∈ vs → ∀ s, (L2.wipe σ vs)[i]? ≠ some (some s)
  | v :: vs, h, s, e => by
    unfold L2.wipe at e
    rcases get_set e with ⟨_, b, _⟩ | ⟨a, b⟩
    · cases b
    · rcases List.mem_cons.mp h with z | z
      · exact a z
      · exact wipeS_none z s b
theorem wipe_wipe (σ : St) (vs : List Nat) : L2.wipe (L2.wipe σ vs) vs = L2.wipe σ vs := by
  apply List.ext_getElem?
  intro i
  by_cases h : i ∈ vs
  · cases e : (L2.wipe σ vs)[i]? with
    | none =>
      rw [List.getElem?_eq_none_iff] at e ⊢
      rw [wipe_length]; exact e
    | some s =>
      cases s with
      | some s => exact absurd e (wipeS_none h s)
      | none =>
        have li := (List.getElem?_eq_some_iff.mp e).1
        cases e2 : (L2.wipe (L2.wipe σ vs) vs)[i]? with
        | none => rw [List.getElem?_eq_none_iff, wipe_length] at e2; omega
        | some s2 =>
          cases s2 with
          | none => rfl
          | some s2 => exact absurd e2 (wipeS_none h s2)
  · rw [wipe_get h]
/-- back from the block -/
theorem Sync.unwipe {vs : List Nat} (S : Sync K F G fpf (L2.wipe σ vs) H (wipeD st vs)) : Sync K F G fpf σ H (wipeD st vs) where
  len := by rw [S.len, wipe_length]
  sh := fun i d e => by
    have h : i ∉ vs := fun z => wipeD_none z _ e
    obtain ⟨v, h1, h2⟩ := S.sh i d e
    exact ⟨v, by rw [← wipe_get h]; exact h1, h2⟩
  ow := fun i m d e => by
    have h : i ∉ vs := fun z => wipeD_none z _ e
    obtain ⟨v, h1, h2⟩ := S.ow i m d e
    exact ⟨v, by rw [← wipe_get h]; exact h1, h2⟩
  sep := S.sep
  g0 := S.g0
  gh := S.gh
  new := S.new
  pr := S.pr
  live := S.live
  hidG := S.hidG
  hidP := S.hidP
theorem wipe_idem' {σ σ2 : St} {vs : List Nat} (h : L2.wipe σ2 vs = L2.wipe σ vs) (S : Sync K F G fpf σ2 H st) : Sync K F G fpf (L2.wipe σ vs) H (wipeD st vs) := by
  rw [← h]; exact S.wipe vs
end
structure LcI (K : PySem.W.Frag) (F : Fr) (W : WX) (vs : List Nat) (t : Tg) (mt : M Bool) (me : M D) (σ : St) (G1 : Hp) (Dn : Addr) (Q : VK) (ds : List D) (H' : Hp) : Prop where
  ex : ∃ (st2 : DSt) (G2 : Hp) (fpf2 : Nat → List Addr) (acc : List D) (va : List V), Same G1 G2 ∧ Sync K F G2 fpf2 (L2.wipe σ vs) H' (wipeD st2 vs) ∧ Apart F G2 fpf2 (wipeD st2 vs) Dn ∧ H' Dn = some (.lst va) ∧ RepA K G2 acc va ∧ At K F W false (RFr K F) (compL vs t mt me ds acc (wipeD st2 vs)) (wipeD st2 vs) G2 fpf2 σ H' Q
theorem At.move {K : PySem.W.Frag} {F : Fr} {W : WX} {α ρ : Type} {R : Rl α ρ} {r : Res α} {st st' : DSt} {G G' H H' : Hp} {fpf fpf' : Nat → List Addr} {σ : St} {Q : ρ → Hp → Prop} (h : At K F W false R r st G fpf σ H Q) (g : Same G G') : At K F W false R r st' G' fpf' σ H' Q := by
  cases r with
  | ok d s => exact fun v H2 G2 fpf2 _ gg => h v H2 G2 fpf2 nq (g.trans gg)
  | err x s => exact fun a fv H2 G2 fpf2 gg => h a fv H2 G2 fpf2 (g.trans gg)
  | stuck => exact h
section
variable {X : Cx} {F : Fr} {W : WX} {q1 q2 : Bool} {elt tg iter : Expr} {ifs : List Expr} {scope : Scope} {own : List (Str × Nat)} {pos spos : Pos} {mi : M (List D)} {t : Tg} {mt : M Bool} {me : M D}
theorem lc_of {K : PySem.W.Frag} {σ : St} {H : Hp} {Q : VK} {vs : List Nat} (ht : ∀ i ∈ t.sl, i ∈ vs) (h : tM K F W false (RFr K F) (compM vs mi t mt me) σ H Q) :
    tLc (tI K F W mi) (fun v σ H Q => ∃ F', tG K F' t v σ H Q) (fun σ H Q => ∃ F', tM K F' WF q1 REq mt σ H Q) (fun σ H Q => ∃ F', tM K F' WF q2 (RSh K) me σ H Q) vs σ H Q := by
  obtain ⟨st, G, fpf, S, A⟩ := h
  refine ⟨st, G, fpf, S, ?_⟩
  unfold compM bnd at A
  cases e : mi st with
  | stuck => rw [e] at A; exact A
  | err x st' => rw [e] at A; exact A
  | ok ds st' =>
    rw [e] at A
    intro J H1 G1 fpf1 g1 S1 it Dn hDn
    have ap : Apart F G1 fpf1 (wipeD st' vs) Dn := ⟨S1.freshG hDn, S1.fresh hDn, S1.freshP hDn, fun i hi hb => (S1.wipe vs).ne_fp hDn hi _ hb rfl⟩
    refine ⟨fun i m H' => m = ds.length - i ∧ i ≤ ds.length ∧ LcI K F W vs t mt me σ G1 Dn Q (ds.drop i) H', ⟨ds.length, by simp, Nat.zero_le _, ⟨⟨st', G1, fpf1, [], [], Same.refl G1, (S1.wipe vs).allocH hDn, ap, upd_same, .nil, by rw [List.drop_zero]; exact At.move A g1⟩⟩⟩, ?_⟩
    rintro i m H' ⟨rfl, hi, ⟨st2, G2, fpf2, acc, va, g2, S2, ap2, hD, ra, A2⟩⟩
    obtain ⟨it1, it2⟩ := it G2 H' g2 S2.gh i
    by_cases hl : i < ds.length
    · rw [List.drop_eq_getElem_cons hl] at A2
      obtain ⟨go, yl⟩ := it1 ds[i] (List.getElem?_eq_getElem hl)
      refine .inr ⟨go, fun H3 => LcI K F W vs t mt me σ G1 Dn Q (ds.drop (i + 1)) H3, fun H3 z => ⟨ds.length - (i + 1), by omega, rfl, hl, z⟩, fun x H3 y => ?_⟩
      have S2' := S2.hide ap2 hD
      have hh := S2.hidP
      obtain ⟨G3, g3, S3, r3⟩ := S2'.took (yl x H3 y)
      unfold compL at A2
      cases et : t.run ds[i] (wipeD st2 vs) with
      | none => rw [et] at A2; exact A2.elim
      | some st4 =>
        rw [et] at A2
        dsimp only at A2
        refine ⟨F.hide Dn (.lst va), ds[i], wipeD st2 vs, G3, fpf2, S3, r3, st4, et, fun σ4 S4 w4 => ⟨?_, ?_⟩⟩
        · rw [w4 vs ht]
          exact wipe_wipe σ vs
        · have w5 : L2.wipe σ4 vs = L2.wipe σ vs := (w4 vs ht).trans (wipe_wipe σ vs)
          refine ⟨F.hide Dn (.lst va), st4, G3, fpf2, S4, ?_⟩
          cases em : mt st4 with
          | stuck => rw [em] at A2; exact A2.elim
          | err x s => rw [em] at A2; exact A2.elim
          | ok b st5 =>
            rw [em] at A2
            intro b' H5 G5 fpf5 _ g5 S5 eb
            have eb' : b' = b := eb
            subst eb'
            cases b' with
            | false =>
              dsimp only at A2
              rw [if_neg Bool.false_ne_true]
              obtain ⟨U, ap5, hD5⟩ := (wipe_idem' w5 S5).unhide ap2.pr ap2.he hh
              exact ⟨⟨st5, G5, fpf5, acc, va, (g2.trans g3).trans g5, U, ap5, hD5, (ra.mono g3).mono g5, At.move A2 (g3.trans g5)⟩⟩
            | true =>
              dsimp only at A2
              rw [if_pos rfl]
              refine ⟨F.hide Dn (.lst va), st5, G5, fpf5, S5, ?_⟩
              cases ee : me st5 with
              | stuck => rw [ee] at A2; exact A2.elim
              | err x s => rw [ee] at A2; exact A2.elim
              | ok y st6 =>
                rw [ee] at A2
                intro v H6 G6 fpf6 _ g6 S6 r6
                have r6' : Rep K G6 y v := r6
                dsimp only at A2
                by_cases c : acc.length < 16777216
                · rw [if_pos c] at A2
                  obtain ⟨U, ap6, hD6⟩ := (wipe_idem' w5 S6).unhide ap2.pr ap2.he hh
                  refine ⟨va, hD6, by rw [← ra.length, sizeLine_eq]; exact c, ⟨⟨st6, G6, fpf6, acc ++ [y], va ++ [v], ((g2.trans g3).trans g5).trans g6, U.poke ap6, ap6, upd_same, (((ra.mono g3).mono g5).mono g6).append (.cons r6' .nil), At.move A2 ((g3.trans g5).trans g6)⟩⟩⟩
                · rw [if_neg c] at A2; exact A2.elim
    · rw [List.drop_eq_nil_of_le (by omega)] at A2
      refine .inl ⟨it2 (List.getElem?_eq_none_iff.mpr (by omega)), ?_⟩
      exact A2 (.ref Dn) H' G2 fpf2 nq (Same.refl G2) S2.unwipe ⟨⟨Dn, [Dn], rfl, .flat hD (.lst ra), by simp, fun b hb => by
        rw [List.mem_singleton] at hb
        subst hb
        exact ⟨ap2.g, ⟨ap2.he, ap2.pr⟩, fun j hj => ap2.fp j hj⟩⟩⟩
theorem df_lc (hc : X.calm = true) (hN : X.N.Nodup) (hi : PI X tg iter (tI X.K F W mi)) (ok : BlkOk X.N X.env.scope scope own)
    (hg : ∀ (s : Shared) (H : Hp) (C : Addr) (cl : List (Str × Addr)) (fp : List Addr) (F' : Fr), PG (X.blk s H scope (compEnvC scope cl C X.env) fp) tg (tG X.K F' t))
    (ht : ∀ (s : Shared) (H : Hp) (C : Addr) (cl : List (Str × Addr)) (fp : List Addr) (F' : Fr), PTs (X.blk s H scope (compEnvC scope cl C X.env) fp) ifs (tM X.K F' WF q1 REq mt))
    (he : ∀ (s : Shared) (H : Hp) (C : Addr) (cl : List (Str × Addr)) (fp : List Addr) (F' : Fr), PE (X.blk s H scope (compEnvC scope cl C X.env) fp) elt (tM X.K F' WF q2 (RSh X.K) me))
    (hv : ∀ i ∈ t.sl, i ∈ own.map (·.2) := by decide) (hs : ∀ x, foldedSetIterable iter X.env x = pure x := by intro _; rfl) :
    PE X (.ListComp elt [⟨tg, iter, ifs, 0⟩] scope pos) (tM X.K F W false (RFr X.K F) (compM (own.map (·.2)) mi t mt me)) :=
  PE_mono (pe_lc hc hN hi ok (fun s H C cl fp => ⟨fun pins s' σ H' v u Q I r ⟨F', z⟩ => (hg s H C cl fp F').run pins s' σ H' v u Q I r z⟩) (fun s H C cl fp => ⟨fun pins s' σ H' Q I ⟨F', z⟩ => (ht s H C cl fp F').run pins s' σ H' Q I z⟩)
    (fun s H C cl fp => ⟨fun pins s' σ H' Q I ⟨F', z⟩ => (he s H C cl fp F').run pins s' σ H' Q I z⟩) hs) fun σ H Q h => lc_of hv h
/-- name = [..] on one line -/
theorem ds_setLc (i : Nat) {y : Str} {py : Pos} (hc : X.calm = true) (hN : X.N.Nodup) (hi : PI X tg iter (tI X.K F W mi)) (ok : BlkOk X.N X.env.scope scope own)
    (hg : ∀ (s : Shared) (H : Hp) (C : Addr) (cl : List (Str × Addr)) (fp : List Addr) (F' : Fr), PG (X.blk s H scope (compEnvC scope cl C X.env) fp) tg (tG X.K F' t))
    (ht : ∀ (s : Shared) (H : Hp) (C : Addr) (cl : List (Str × Addr)) (fp : List Addr) (F' : Fr), PTs (X.blk s H scope (compEnvC scope cl C X.env) fp) ifs (tM X.K F' WF q1 REq mt))
    (he : ∀ (s : Shared) (H : Hp) (C : Addr) (cl : List (Str × Addr)) (fp : List Addr) (F' : Fr), PE (X.blk s H scope (compEnvC scope cl C X.env) fp) elt (tM X.K F' WF q2 (RSh X.K) me))
    (hy : X.N[i]? = some y := by rfl) (hyl : X.env.scope.names.lookup y = some .local := by rfl)
    (hsw : swapsWith (.ListComp elt [⟨tg, iter, ifs, 0⟩] scope pos) (some (.Name y py)) spos.line X.env = pure true := by exact sw_true rfl rfl rfl (by decide +kernel))
    (hv : ∀ i ∈ t.sl, i ∈ own.map (·.2) := by decide) (hs : ∀ x, foldedSetIterable iter X.env x = pure x := by intro _; rfl) :
    PS X (.Assign [.Name y py] (.ListComp elt [⟨tg, iter, ifs, 0⟩] scope pos) spos) (tS X.K F W (asgF (compM (own.map (·.2)) mi t mt me) i)) :=
  PS_mono (ps_setLc hc hN hy hyl hsw hi ok (fun s H C cl fp => ⟨fun pins s' σ H' v u Q I r ⟨F', z⟩ => (hg s H C cl fp F').run pins s' σ H' v u Q I r z⟩) (fun s H C cl fp => ⟨fun pins s' σ H' Q I ⟨F', z⟩ => (ht s H C cl fp F').run pins s' σ H' Q I z⟩)
    (fun s H C cl fp => ⟨fun pins s' σ H' Q I ⟨F', z⟩ => (he s H C cl fp F').run pins s' σ H' Q I z⟩) hs) fun D σ H h =>
    lc_of (W := W) hv (do_of (R := RFr X.K F) h fun d st1 G1 fpf1 v H1 S1 r1 A1 => by
      obtain ⟨fpf', S'⟩ := S1.assignF i r1
      exact A1 _ H1 G1 fpf' (Same.refl G1) S')
theorem dt_yes : PTs X [] (tM X.K F WF true REq (ret true)) := ⟨fun pins s σ H Q I ⟨st, G, fpf, S, A⟩ => pts_nil.run pins s σ H Q I (A.done S rfl)⟩
theorem dt_ifs {c : Expr} {q : Bool} (h : PT X c (tM X.K F WF q REq mt)) : PTs X [c] (tM X.K F WF q REq mt) := pts_one h
end
end DL

namespace DL
open PySem L2

/-! ### calls of built-ins -/
def Ca (K : PySem.W.Frag) (r : List V → Hp → VK → Prop) (g : D → Option D) : Prop := ∀ {G H : Hp} {d z : D} {x : V} {Q : VK}, Same G H → Rp K G H d x → g d = some z → (∀ v H', Res1 K G H z v H' → Q v H') → r [x] H Q
def Ca0 (K : PySem.W.Frag) (r : List V → Hp → VK → Prop) (g : D → Option D) : Prop := ∀ {G H : Hp} {d z : D} {x : V} {Q : VK}, Same G H → Rp K G H d x → g d = some z → (∀ v, Rep K G z v → Q v H) → r [x] H Q
def CaN (K : PySem.W.Frag) (r : List V → Hp → VK → Prop) (g : D → Option D) : Prop := ∀ {G H : Hp} {d z : D} {x : V} {Q : VK}, Same G H → Rp K G H d x → g d = some z → (∀ v H', ResN K G H z v H' → Q v H') → r [x] H Q
def Cb0 (K : PySem.W.Frag) (r : List V → Hp → VK → Prop) (g : D → D → Option D) : Prop := ∀ {G H : Hp} {d e z : D} {x y : V} {Q : VK}, Same G H → Rp K G H d x → Rp K G H e y → g d e = some z → (∀ v, Rep K G z v → Q v H) → r [x, y] H Q
def Cb (K : PySem.W.Frag) (r : List V → Hp → VK → Prop) (g : D → D → Option D) : Prop := ∀ {G H : Hp} {d e z : D} {x y : V} {Q : VK}, Same G H → Rp K G H d x → Rp K G H e y → g d e = some z → (∀ v H', Res1 K G H z v H' → Q v H') → r [x, y] H Q
theorem Ca0.any {K : PySem.W.Frag} {r : List V → Hp → VK → Prop} {g : D → Option D} (h : Ca0 K r g) : Ca K r g := fun a b c k => h a b c fun v q => k v _ (.inl ⟨rfl, q⟩)
theorem CaN.any {K : PySem.W.Frag} {r : List V → Hp → VK → Prop} {g : D → Option D} (h : CaN K r g) : Ca K r g := fun a b c k => h a b c fun v H' q => k v H' (.inr q)
theorem Cb0.any {K : PySem.W.Frag} {r : List V → Hp → VK → Prop} {g : D → D → Option D} (h : Cb0 K r g) : Cb K r g := fun a b c d k => h a b c d fun v q => k v _ (.inl ⟨rfl, q⟩)
section
variable {K : PySem.W.Frag} {F : Fr} {W : WX} {q q1 q2 : Bool} {σ : St} {H : Hp} {m ma mb : M D} {r : List V → Hp → VK → Prop} {Q : VK}
theorem ca_of {g : D → Option D} (hs : Ca K r g) (h : tM K F W false (RSh K) (unM g m) σ H Q) : tCB r (tCons (tM K F W q (RPk K) m) tNil) σ H Q :=
  bind_of (q2 := false) (R1 := RPk K) nq h fun d st1 G1 fpf1 v H1 S1 r1 A1 => by
    unfold lift at A1
    cases w : g d with
    | none => rw [w] at A1; exact A1.elim
    | some z => rw [w] at A1; exact hs S1.gh r1 w fun v H' k => A1.end1 S1 k
theorem ca_of0 {g : D → Option D} (hs : Ca0 K r g) (h : tM K F W q (RSh K) (unM g m) σ H Q) : tCB r (tCons (tM K F W q (RPk K) m) tNil) σ H Q :=
  bind_of (q2 := true) (R1 := RPk K) (fun z => ⟨z, rfl⟩) h fun d st1 G1 fpf1 v H1 S1 r1 A1 => by
    unfold lift at A1
    cases w : g d with
    | none => rw [w] at A1; exact A1.elim
    | some z => rw [w] at A1; exact hs S1.gh r1 w fun v k => A1.end0 S1 k
theorem ca_ofN {g : D → Option D} (hs : CaN K r g) (h : tM K F W false (RFr K F) (unM g m) σ H Q) : tCB r (tCons (tM K F W q (RPk K) m) tNil) σ H Q :=
  bind_of (q2 := false) (R1 := RPk K) nq h fun d st1 G1 fpf1 v H1 S1 r1 A1 => by
    unfold lift at A1
    cases w : g d with
    | none => rw [w] at A1; exact A1.elim
    | some z => rw [w] at A1; exact hs S1.gh r1 w fun v H' k => A1.endF S1 k
theorem cb_of0 {g : D → D → Option D} (hs : Cb0 K r g) (h : tM K F W (q1 && q2) (RSh K) (opM g ma mb) σ H Q) : tCB r (tCons (tM K F W q1 (RSh K) ma) (tCons (tM K F W q2 (RPk K) mb) tNil)) σ H Q := by
  refine bind_of (q2 := q2) (R1 := RSh K) (fun z => Bool.and_eq_true_iff.mp z) h fun d st1 G1 fpf1 v H1 S1 r1 A1 => ?_
  refine ⟨st1, G1, fpf1, S1, A1.bndK (q1 := q2) (q2 := true) (R1 := RPk K) (fun z => ⟨z, rfl⟩) fun e st2 G2 fpf2 u H2 g2 S2 z2 e2 r2 A2 => ?_⟩
  unfold lift at A2
  cases w : g d e with
  | none => rw [w] at A2; exact A2.elim
  | some z => rw [w] at A2; exact hs S2.gh (.rep (Rep.mono g2 r1)) r2 w fun v k => A2.end0 S2 k
theorem cb_of {g : D → D → Option D} (hs : Cb K r g) (h : tM K F W false (RSh K) (opM g ma mb) σ H Q) : tCB r (tCons (tM K F W q1 (RSh K) ma) (tCons (tM K F W q2 (RPk K) mb) tNil)) σ H Q := by
  refine bind_of (q2 := false) (R1 := RSh K) nq h fun d st1 G1 fpf1 v H1 S1 r1 A1 => ?_
  refine ⟨st1, G1, fpf1, S1, A1.bndK (q1 := q2) (q2 := false) (R1 := RPk K) nq fun e st2 G2 fpf2 u H2 g2 S2 z2 e2 r2 A2 => ?_⟩
  unfold lift at A2
  cases w : g d e with
  | none => rw [w] at A2; exact A2.elim
  | some z => rw [w] at A2; exact hs S2.gh (.rep (Rep.mono g2 r1)) r2 w fun v H' k => A2.end1 S2 k
theorem cb_of0Q {g : D → D → Option D} (hs : Cb0 K r g) (h : tM K F W q1 (RSh K) (opM g ma mb) σ H Q) : tCB r (tCons (tM K F W q1 (RPk K) ma) (tCons (tM K F W true (RPk K) mb) tNil)) σ H Q := by
  refine bind_of (q2 := true) (R1 := RPk K) (fun z => ⟨z, rfl⟩) h fun d st1 G1 fpf1 v H1 S1 r1 A1 => ?_
  refine ⟨st1, G1, fpf1, S1, A1.bndK (q1 := true) (q2 := true) (R1 := RPk K) (fun z => ⟨z, rfl⟩) fun e st2 G2 fpf2 u H2 g2 S2 z2 e2 r2 A2 => ?_⟩
  obtain ⟨rfl, rfl, rfl⟩ := z2 rfl
  unfold lift at A2
  cases w : g d e with
  | none => rw [w] at A2; exact A2.elim
  | some z => rw [w] at A2; exact hs S2.gh r1 r2 w fun v k => A2.end0 S2 k
end
section
variable {X : Cx} {F : Fr} {W : WX} {q q1 q2 : Bool} {e a b : Expr} {x : Str} {pos p : Pos} {m ma mb : M D} {r : List V → Hp → VK → Prop} {id T : String}
/-- f(e), a built-in function; T(e), a built-in class -/
theorem de_call {g : D → Option D} (hc : CallR X (.builtin id) r) (hs : Ca X.K r g) (hg : Gl X x) (hm : X.mg x = none) (ha : PE X e (tM X.K F W q (RPk X.K) m)) (hv : bootBuiltins x = some (.builtin id) := by decide +kernel) (hn : x ≠ "__name__" := by decide) (hdb : (x == ("__debug__" : Str)) = false := by decide)
    (he : starEach [e] X.env = (false, eval e X.env) :: starEach [] X.env := by rfl) (hpl : (backTo pos (starEach [] X.env)).any (·.1) = false := by rfl) : PE X (.Call (.Name x p) [e] [] pos) (tM X.K F W false (RSh X.K) (unM g m)) :=
  PE_mono (pe_callB hc hg hm hv (pa_cons ha pa_nil he) hn hdb he hpl) fun σ H Q h => ca_of hs h
theorem de_call0 {g : D → Option D} (hc : CallR X (.builtin id) r) (hs : Ca0 X.K r g) (hg : Gl X x) (hm : X.mg x = none) (ha : PE X e (tM X.K F W q (RPk X.K) m)) (hv : bootBuiltins x = some (.builtin id) := by decide +kernel) (hn : x ≠ "__name__" := by decide) (hdb : (x == ("__debug__" : Str)) = false := by decide)
    (he : starEach [e] X.env = (false, eval e X.env) :: starEach [] X.env := by rfl) (hpl : (backTo pos (starEach [] X.env)).any (·.1) = false := by rfl) : PE X (.Call (.Name x p) [e] [] pos) (tM X.K F W q (RSh X.K) (unM g m)) :=
  PE_mono (pe_callB hc hg hm hv (pa_cons ha pa_nil he) hn hdb he hpl) fun σ H Q h => ca_of0 hs h
theorem df_call {g : D → Option D} (hc : CallR X (.builtin id) r) (hs : CaN X.K r g) (hg : Gl X x) (hm : X.mg x = none) (ha : PE X e (tM X.K F W q (RPk X.K) m)) (hv : bootBuiltins x = some (.builtin id) := by decide +kernel) (hn : x ≠ "__name__" := by decide) (hdb : (x == ("__debug__" : Str)) = false := by decide)
    (he : starEach [e] X.env = (false, eval e X.env) :: starEach [] X.env := by rfl) (hpl : (backTo pos (starEach [] X.env)).any (·.1) = false := by rfl) : PE X (.Call (.Name x p) [e] [] pos) (tM X.K F W false (RFr X.K F) (unM g m)) :=
  PE_mono (pe_callB hc hg hm hv (pa_cons ha pa_nil he) hn hdb he hpl) fun σ H Q h => ca_ofN hs h
theorem de_callT {g : D → Option D} (hc : CallR X (.type T) r) (hs : Ca X.K r g) (hg : Gl X x) (hm : X.mg x = none) (ha : PE X e (tM X.K F W q (RPk X.K) m)) (hv : bootBuiltins x = some (.type T) := by decide +kernel) (hn : x ≠ "__name__" := by decide) (hdb : (x == ("__debug__" : Str)) = false := by decide)
    (he : starEach [e] X.env = (false, eval e X.env) :: starEach [] X.env := by rfl) (hpl : (backTo pos (starEach [] X.env)).any (·.1) = false := by rfl) : PE X (.Call (.Name x p) [e] [] pos) (tM X.K F W false (RSh X.K) (unM g m)) :=
  PE_mono (pe_callTy hc hg hm hv (pa_cons ha pa_nil he) hn hdb he hpl) fun σ H Q h => ca_of hs h
theorem de_callT0 {g : D → Option D} (hc : CallR X (.type T) r) (hs : Ca0 X.K r g) (hg : Gl X x) (hm : X.mg x = none) (ha : PE X e (tM X.K F W q (RPk X.K) m)) (hv : bootBuiltins x = some (.type T) := by decide +kernel) (hn : x ≠ "__name__" := by decide) (hdb : (x == ("__debug__" : Str)) = false := by decide)
    (he : starEach [e] X.env = (false, eval e X.env) :: starEach [] X.env := by rfl) (hpl : (backTo pos (starEach [] X.env)).any (·.1) = false := by rfl) : PE X (.Call (.Name x p) [e] [] pos) (tM X.K F W q (RSh X.K) (unM g m)) :=
  PE_mono (pe_callTy hc hg hm hv (pa_cons ha pa_nil he) hn hdb he hpl) fun σ H Q h => ca_of0 hs h
theorem df_callT {g : D → Option D} (hc : CallR X (.type T) r) (hs : CaN X.K r g) (hg : Gl X x) (hm : X.mg x = none) (ha : PE X e (tM X.K F W q (RPk X.K) m)) (hv : bootBuiltins x = some (.type T) := by decide +kernel) (hn : x ≠ "__name__" := by decide) (hdb : (x == ("__debug__" : Str)) = false := by decide)
    (he : starEach [e] X.env = (false, eval e X.env) :: starEach [] X.env := by rfl) (hpl : (backTo pos (starEach [] X.env)).any (·.1) = false := by rfl) : PE X (.Call (.Name x p) [e] [] pos) (tM X.K F W false (RFr X.K F) (unM g m)) :=
  PE_mono (pe_callTy hc hg hm hv (pa_cons ha pa_nil he) hn hdb he hpl) fun σ H Q h => ca_ofN hs h
theorem de_call2 {g : D → D → Option D} (hc : CallR X (.builtin id) r) (hs : Cb0 X.K r g) (hg : Gl X x) (hm : X.mg x = none) (ha : PE X a (tM X.K F W q1 (RSh X.K) ma)) (hb : PE X b (tM X.K F W q2 (RPk X.K) mb)) (hv : bootBuiltins x = some (.builtin id) := by decide +kernel) (hn : x ≠ "__name__" := by decide) (hdb : (x == ("__debug__" : Str)) = false := by decide)
    (hb1 : starEach [b] X.env = (false, eval b X.env) :: starEach [] X.env := by rfl) (he : starEach [a, b] X.env = (false, eval a X.env) :: starEach [b] X.env := by rfl) (hpl : (backTo pos (starEach [b] X.env)).any (·.1) = false := by rfl) : PE X (.Call (.Name x p) [a, b] [] pos) (tM X.K F W (q1 && q2) (RSh X.K) (opM g ma mb)) :=
  PE_mono (pe_callB hc hg hm hv (pa_cons ha (pa_cons hb pa_nil hb1) he) hn hdb he hpl) fun σ H Q h => cb_of0 hs h
theorem de_call2A {g : D → D → Option D} (hc : CallR X (.builtin id) r) (hs : Cb X.K r g) (hg : Gl X x) (hm : X.mg x = none) (ha : PE X a (tM X.K F W q1 (RSh X.K) ma)) (hb : PE X b (tM X.K F W q2 (RPk X.K) mb)) (hv : bootBuiltins x = some (.builtin id) := by decide +kernel) (hn : x ≠ "__name__" := by decide) (hdb : (x == ("__debug__" : Str)) = false := by decide)
    (hb1 : starEach [b] X.env = (false, eval b X.env) :: starEach [] X.env := by rfl) (he : starEach [a, b] X.env = (false, eval a X.env) :: starEach [b] X.env := by rfl) (hpl : (backTo pos (starEach [b] X.env)).any (·.1) = false := by rfl) : PE X (.Call (.Name x p) [a, b] [] pos) (tM X.K F W false (RSh X.K) (opM g ma mb)) :=
  PE_mono (pe_callB hc hg hm hv (pa_cons ha (pa_cons hb pa_nil hb1) he) hn hdb he hpl) fun σ H Q h => cb_of hs h
theorem de_call2Q {g : D → D → Option D} (hc : CallR X (.builtin id) r) (hs : Cb0 X.K r g) (hg : Gl X x) (hm : X.mg x = none) (ha : PE X a (tM X.K F W q1 (RPk X.K) ma)) (hb : PE X b (tM X.K F W true (RPk X.K) mb)) (hv : bootBuiltins x = some (.builtin id) := by decide +kernel) (hn : x ≠ "__name__" := by decide) (hdb : (x == ("__debug__" : Str)) = false := by decide)
    (hb1 : starEach [b] X.env = (false, eval b X.env) :: starEach [] X.env := by rfl) (he : starEach [a, b] X.env = (false, eval a X.env) :: starEach [b] X.env := by rfl) (hpl : (backTo pos (starEach [b] X.env)).any (·.1) = false := by rfl) : PE X (.Call (.Name x p) [a, b] [] pos) (tM X.K F W q1 (RSh X.K) (opM g ma mb)) :=
  PE_mono (pe_callB hc hg hm hv (pa_cons ha (pa_cons hb pa_nil hb1) he) hn hdb he hpl) fun σ H Q h => cb_of0Q hs h
end

/-! ### the built-ins by data -/
def lenD : D → Option D
  | .lst xs => some (.int xs.length)
  | .kl xs => some (.int xs.length)
  | .tup xs => some (.int xs.length)
  | .str z => if z.length ≤ 16777216 then some (.int z.length) else none
  | _ => none
def intD : D → Option D
  | .int i => some (.int i)
  | .bl b => some (.int (if b then 1 else 0))
  | _ => none
def boolD : D → Option D
  | .int i => some (.bl (i != 0))
  | .bl b => some (.bl b)
  | _ => none
def absD : D → Option D
  | .int i => some (.int (if i < 0 then -i else i))
  | _ => none
def max2D : D → D → Option D
  | .int i, .int j => some (.int (if j > i then j else i))
  | _, _ => none
def min2D : D → D → Option D
  | .int i, .int j => some (.int (if j < i then j else i))
  | _, _ => none
def ordD : D → Option D
  | .str z => if z.length = 1 then some (.int ((z.cps.getD 0 0 : Nat) : Int)) else none
  | _ => none
def chrD : D → Option D
  | .int i => if 0 ≤ i ∧ i ≤ 1114111 then some (.str ⟨#[i.toNat]⟩) else none
  | _ => none
def listD : D → Option D
  | .lst xs => some (.lst xs)
  | .kl xs => some (.lst xs)
  | .tup xs => some (.lst xs)
  | _ => none
def tupleD : D → Option D
  | .lst xs => some (.tup xs)
  | .kl xs => some (.tup xs)
  | _ => none
def asInts : List D → Option (List Int)
  | [] => some []
  | .int i :: ds => (asInts ds).map (i :: ·)
  | _ => none
def asBls : List D → Option (List Bool)
  | [] => some []
  | .bl i :: ds => (asBls ds).map (i :: ·)
  | _ => none
def seqOf : D → Option (List D)
  | .lst xs => some xs
  | .kl xs => some xs
  | _ => none
def intsOf (d : D) : Option (List Int) := (seqOf d).bind asInts
def blsOf (d : D) : Option (List Bool) := (seqOf d).bind asBls
def maxL : List Int → Int
  | [] => 0
  | [x] => x
  | x :: xs => max x (maxL xs)
def minL : List Int → Int
  | [] => 0
  | [x] => x
  | x :: xs => min x (minL xs)
def insI (x : Int) : List Int → List Int
  | [] => [x]
  | y :: ys => if x ≤ y then x :: y :: ys else y :: insI x ys
def sortI : List Int → List Int
  | [] => []
  | x :: xs => insI x (sortI xs)
def sumD (d : D) : Option D := (intsOf d).map fun ns => .int ns.sum
def maxD (d : D) : Option D := (intsOf d).bind fun ns => if ns = [] then none else some (.int (maxL ns))
def minD (d : D) : Option D := (intsOf d).bind fun ns => if ns = [] then none else some (.int (minL ns))
def sortD (d : D) : Option D := (intsOf d).bind fun ns => if ns.length < 64 then some (.lst ((sortI ns).map .int)) else none
def allD (d : D) : Option D := (blsOf d).map fun bs => .bl (bs.all id)
def anyD (d : D) : Option D := (blsOf d).map fun bs => .bl (bs.any id)
def divmodD : D → D → Option D
  | .int i, .int j => if 0 < j ∧ j < 1073741824 then some (.tup [.int (i / j), .int (i % j)]) else none
  | _, _ => none
theorem asInts_map : ∀ ns : List Int, asInts (ns.map .int) = some ns
  | [] => rfl
  | n :: ns => by show (asInts (ns.map .int)).map (n :: ·) = _; rw [asInts_map ns]; rfl
theorem asBls_map : ∀ ns : List Bool, asBls (ns.map .bl) = some ns
  | [] => rfl
  | n :: ns => by show (asBls (ns.map .bl)).map (n :: ·) = _; rw [asBls_map ns]; rfl
theorem asInts_inv : ∀ {ds : List D} {ns : List Int}, asInts ds = some ns → ds = ns.map .int
  | [], ns, h => by cases h; rfl
  | d :: ds, ns, h => by
    cases d <;> simp only [asInts, reduceCtorEq] at h
    obtain ⟨ms, e, rfl⟩ := Option.map_eq_some_iff.mp h
    rw [asInts_inv e]; rfl
theorem asBls_inv : ∀ {ds : List D} {ns : List Bool}, asBls ds = some ns → ds = ns.map .bl
  | [], ns, h => by cases h; rfl
  | d :: ds, ns, h => by
    cases d <;> simp only [asBls, reduceCtorEq] at h
    obtain ⟨ms, e, rfl⟩ := Option.map_eq_some_iff.mp h
    rw [asBls_inv e]; rfl
theorem maxL_mem : ∀ {ns : List Int}, ns ≠ [] → maxL ns ∈ ns ∧ ∀ y ∈ ns, y ≤ maxL ns
  | [], h => absurd rfl h
  | [x], _ => by simp [maxL]
  | x :: y :: ys, _ => by
    obtain ⟨h1, h2⟩ := maxL_mem (ns := y :: ys) (by simp)
    have e : maxL (x :: y :: ys) = max x (maxL (y :: ys)) := rfl
    rw [e]
    refine ⟨?_, fun z hz => ?_⟩
    · rcases Int.le_total x (maxL (y :: ys)) with k | k
      · rw [Int.max_eq_right k]; exact List.mem_cons_of_mem _ h1
      · rw [Int.max_eq_left k]; exact List.mem_cons_self
    · rcases List.mem_cons.mp hz with rfl | hz
      · exact Int.le_max_left _ _
      · exact Int.le_trans (h2 z hz) (Int.le_max_right _ _)
theorem minL_mem : ∀ {ns : List Int}, ns ≠ [] → minL ns ∈ ns ∧ ∀ y ∈ ns, minL ns ≤ y
  | [], h => absurd rfl h
  | [x], _ => by simp [minL]
  | x :: y :: ys, _ => by
    obtain ⟨h1, h2⟩ := minL_mem (ns := y :: ys) (by simp)
    have e : minL (x :: y :: ys) = min x (minL (y :: ys)) := rfl
    rw [e]
    refine ⟨?_, fun z hz => ?_⟩
    · rcases Int.le_total x (minL (y :: ys)) with k | k
      · rw [Int.min_eq_left k]; exact List.mem_cons_self
      · rw [Int.min_eq_right k]; exact List.mem_cons_of_mem _ h1
    · rcases List.mem_cons.mp hz with rfl | hz
      · exact Int.min_le_left _ _
      · exact Int.le_trans (Int.min_le_right _ _) (h2 z hz)
theorem insI_perm (x : Int) : ∀ ys : List Int, (insI x ys).Perm (x :: ys)
  | [] => List.Perm.refl _
  | y :: ys => by
    unfold insI
    by_cases h : x ≤ y
    · rw [if_pos h]
    · rw [if_neg h]; exact ((insI_perm x ys).cons y).trans (List.Perm.swap x y ys)
theorem sortI_perm : ∀ xs : List Int, (sortI xs).Perm xs
  | [] => List.Perm.refl _
  | x :: xs => (insI_perm x _).trans ((sortI_perm xs).cons x)
theorem insI_sorted (x : Int) : ∀ {ys : List Int}, ys.Pairwise (· ≤ ·) → (insI x ys).Pairwise (· ≤ ·)
  | [], _ => by simp [insI]
  | y :: ys, h => by
    unfold insI
    obtain ⟨h1, h2⟩ := List.pairwise_cons.mp h
    by_cases k : x ≤ y
    · rw [if_pos k]
      refine List.pairwise_cons.mpr ⟨fun z hz => ?_, h⟩
      rcases List.mem_cons.mp hz with rfl | hz
      · exact k
      · exact Int.le_trans k (h1 z hz)
    · rw [if_neg k]
      refine List.pairwise_cons.mpr ⟨fun z hz => ?_, insI_sorted x h2⟩
      rcases List.mem_cons.mp ((insI_perm x ys).mem_iff.mp hz) with rfl | hz
      · omega
      · exact h1 z hz
theorem sortI_sorted : ∀ xs : List Int, (sortI xs).Pairwise (· ≤ ·)
  | [] => List.Pairwise.nil
  | x :: xs => insI_sorted x (sortI_sorted xs)
theorem sortI_one {xs ys : List Int} (p : ys.Perm xs) (h : ys.Pairwise (· ≤ ·)) : ys = sortI xs := PySem.W.ksm_same (p.trans (sortI_perm xs).symm) h (sortI_sorted xs)
section
variable {K : PySem.W.Frag}
def rLenD (K : PySem.W.Frag) : List V → Hp → VK → Prop := fun xs H Q => (∃ p ys, xs = [.ref p] ∧ (SqL K H p ys ∨ SqT K H p ys) ∧ Q (.int ys.length) H) ∨ ∃ z, xs = [.str z] ∧ z.length ≤ sizeLine ∧ Q (.int z.length) H
theorem k_len {X : Cx} : CallR X (.builtin "len") (rLenD X.K) := CallR.or call_len_seq call_len_str
theorem s_len : Ca0 K (rLenD K) lenD := fun {G H d z x Q} g rx h q => by
  unfold lenD at h
  split at h
  · cases h
    obtain ⟨a, vs, rfl, ha, ra⟩ := rx.seqL g (.inl rfl)
    exact .inl ⟨a, vs, rfl, .inl ha, by rw [← ra.length]; exact q _ (.int _)⟩
  · cases h
    obtain ⟨a, vs, rfl, ha, ra⟩ := rx.seqL g (.inr rfl)
    exact .inl ⟨a, vs, rfl, .inl ha, by rw [← ra.length]; exact q _ (.int _)⟩
  · cases h
    obtain ⟨a, vs, rfl, ha, ra⟩ := rx.tup g
    exact .inl ⟨a, vs, rfl, .inr ha, by rw [← ra.length]; exact q _ (.int _)⟩
  · obtain ⟨c, rfl⟩ := if_some h
    exact .inr ⟨_, by rw [rx.str], leLine c, q _ (.int _)⟩
  · cases h
def rInt1 : List V → Hp → VK → Prop := fun xs H Q => (∃ i, xs = [.int i] ∧ Q (.int i) H) ∨ ∃ k, xs = [.bl k] ∧ Q (.int (if k then 1 else 0)) H
def rBool1 : List V → Hp → VK → Prop := fun xs H Q => (∃ i, xs = [.int i] ∧ Q (.bl (i != 0)) H) ∨ ∃ k, xs = [.bl k] ∧ Q (.bl k) H
theorem s_int : Ca0 K rInt1 intD := fun {G H d z x Q} g rx h q => by
  unfold intD at h
  split at h
  · cases h; exact .inl ⟨_, by rw [rx.int], q _ (.int _)⟩
  · cases h; exact .inr ⟨_, by rw [rx.bl], q _ (.int _)⟩
  · cases h
theorem s_bool : Ca0 K rBool1 boolD := fun {G H d z x Q} g rx h q => by
  unfold boolD at h
  split at h
  · cases h; exact .inl ⟨_, by rw [rx.int], q _ (.bl _)⟩
  · cases h; exact .inr ⟨_, by rw [rx.bl], q _ (.bl _)⟩
  · cases h
def rAbs : List V → Hp → VK → Prop := fun xs H Q => ∃ i, xs = [.int i] ∧ Q (.int (if i < 0 then -i else i)) H
theorem s_abs : Ca0 K rAbs absD := fun {G H d z x Q} g rx h q => by
  unfold absD at h
  split at h
  · cases h; exact ⟨_, by rw [rx.int], q _ (.int _)⟩
  · cases h
def rMax2 : List V → Hp → VK → Prop := fun xs H Q => ∃ i j, xs = [.int i, .int j] ∧ Q (.int (if j > i then j else i)) H
def rMin2 : List V → Hp → VK → Prop := fun xs H Q => ∃ i j, xs = [.int i, .int j] ∧ Q (.int (if j < i then j else i)) H
theorem s_max2 : Cb0 K rMax2 max2D := fun {G H d e z x y Q} g rx ry h q => by
  unfold max2D at h
  split at h
  · cases h; exact ⟨_, _, by rw [rx.int, ry.int], q _ (.int _)⟩
  · cases h
theorem s_min2 : Cb0 K rMin2 min2D := fun {G H d e z x y Q} g rx ry h q => by
  unfold min2D at h
  split at h
  · cases h; exact ⟨_, _, by rw [rx.int, ry.int], q _ (.int _)⟩
  · cases h
def rOrd : List V → Hp → VK → Prop := fun xs H Q => ∃ x, xs = [.str x] ∧ x.length = 1 ∧ Q (.int (x.cps.getD 0 0 : Nat)) H
theorem s_ord : Ca0 K rOrd ordD := fun {G H d z x Q} g rx h q => by
  unfold ordD at h
  split at h
  · obtain ⟨c, rfl⟩ := if_some h
    exact ⟨_, by rw [rx.str], c, q _ (.int _)⟩
  · cases h
def rChr : List V → Hp → VK → Prop := fun xs H Q => ∃ i, xs = [.int i] ∧ 0 ≤ i ∧ i ≤ 1114111 ∧ Q (.str ⟨#[i.toNat]⟩) H
theorem s_chr : Ca0 K rChr chrD := fun {G H d z x Q} g rx h q => by
  unfold chrD at h
  split at h
  · obtain ⟨c, rfl⟩ := if_some h
    exact ⟨_, by rw [rx.int], c.1, c.2, q _ (.str _)⟩
  · cases h
def rListD (K : PySem.W.Frag) : List V → Hp → VK → Prop := fun xs H Q => ∃ p ys, xs = [.ref p] ∧ (SqL K H p ys ∨ SqT K H p ys) ∧ ∀ l, H l = none → Q (.ref l) (upd H l (.lst ys))
theorem s_list : CaN K (rListD K) listD := fun {G H d z x Q} g rx h q => by
  unfold listD at h
  split at h
  · cases h
    obtain ⟨a, vs, rfl, ha, ra⟩ := rx.seqL g (.inl rfl)
    exact ⟨a, vs, rfl, .inl ha, fun p hp => q _ _ ⟨p, _, hp, rfl, rfl, .lst ra⟩⟩
  · cases h
    obtain ⟨a, vs, rfl, ha, ra⟩ := rx.seqL g (.inr rfl)
    exact ⟨a, vs, rfl, .inl ha, fun p hp => q _ _ ⟨p, _, hp, rfl, rfl, .lst ra⟩⟩
  · cases h
    obtain ⟨a, vs, rfl, ha, ra⟩ := rx.tup g
    exact ⟨a, vs, rfl, .inr ha, fun p hp => q _ _ ⟨p, _, hp, rfl, rfl, .lst ra⟩⟩
  · cases h
def rTupleD (K : PySem.W.Frag) : List V → Hp → VK → Prop := fun xs H Q => ∃ p ys, xs = [.ref p] ∧ ((SqL K H p ys ∧ ∀ l, H l = none → Q (.ref l) (upd H l (.tup ys))) ∨ (SqT K H p ys ∧ Q (.ref p) H))
theorem s_tuple : Ca K (rTupleD K) tupleD := fun {G H d z x Q} g rx h q => by
  unfold tupleD at h
  split at h
  · cases h
    obtain ⟨a, vs, rfl, ha, ra⟩ := rx.seqL g (.inl rfl)
    exact ⟨a, vs, rfl, .inl ⟨ha, fun p hp => q _ _ (.inr ⟨p, _, hp, rfl, rfl, .tup ra⟩)⟩⟩
  · cases h
    obtain ⟨a, vs, rfl, ha, ra⟩ := rx.seqL g (.inr rfl)
    exact ⟨a, vs, rfl, .inl ⟨ha, fun p hp => q _ _ (.inr ⟨p, _, hp, rfl, rfl, .tup ra⟩)⟩⟩
  · cases h
theorem ints_of {G H : Hp} {d : D} {x : V} {ns : List Int} (g : Same G H) (rx : Rp K G H d x) (h : intsOf d = some ns) : ∃ a, x = .ref a ∧ SqL K H a (ns.map V.int) := by
  unfold intsOf at h
  obtain ⟨ds, e1, e2⟩ := Option.bind_eq_some_iff.mp h
  have e3 := asInts_inv e2
  subst e3
  unfold seqOf at e1
  split at e1
  · cases e1
    obtain ⟨a, vs, rfl, ha, ra⟩ := rx.seqL g (.inl rfl)
    rw [ra.ints] at ha
    exact ⟨a, rfl, ha⟩
  · cases e1
    obtain ⟨a, vs, rfl, ha, ra⟩ := rx.seqL g (.inr rfl)
    rw [ra.ints] at ha
    exact ⟨a, rfl, ha⟩
  · cases e1
theorem bls_of {G H : Hp} {d : D} {x : V} {ns : List Bool} (g : Same G H) (rx : Rp K G H d x) (h : blsOf d = some ns) : ∃ a, x = .ref a ∧ SqL K H a (ns.map V.bl) := by
  unfold blsOf at h
  obtain ⟨ds, e1, e2⟩ := Option.bind_eq_some_iff.mp h
  have e3 := asBls_inv e2
  subst e3
  unfold seqOf at e1
  split at e1
  · cases e1
    obtain ⟨a, vs, rfl, ha, ra⟩ := rx.seqL g (.inl rfl)
    rw [ra.bls] at ha
    exact ⟨a, rfl, ha⟩
  · cases e1
    obtain ⟨a, vs, rfl, ha, ra⟩ := rx.seqL g (.inr rfl)
    rw [ra.bls] at ha
    exact ⟨a, rfl, ha⟩
  · cases e1
theorem s_sum : Ca0 K (rSum K) sumD := fun {G H d z x Q} g rx h q => by
  obtain ⟨ns, e, rfl⟩ := Option.map_eq_some_iff.mp h
  obtain ⟨a, rfl, ha⟩ := ints_of g rx e
  exact ⟨a, ns, rfl, ha, q _ (.int _)⟩
theorem s_max : Ca0 K (rMax K) maxD := fun {G H d z x Q} g rx h q => by
  obtain ⟨ns, e, h⟩ := Option.bind_eq_some_iff.mp h
  obtain ⟨a, rfl, ha⟩ := ints_of g rx e
  by_cases c : ns = []
  · rw [if_pos c] at h; cases h
  · rw [if_neg c] at h; cases h
    refine ⟨a, ns, rfl, ha, by cases ns with | nil => exact absurd rfl c | cons _ _ => simp, fun m h1 h2 => ?_⟩
    obtain ⟨k1, k2⟩ := maxL_mem c
    have : m = maxL ns := Int.le_antisymm (k2 m h1) (h2 _ k1)
    rw [this]; exact q _ (.int _)
theorem s_min : Ca0 K (rMin K) minD := fun {G H d z x Q} g rx h q => by
  obtain ⟨ns, e, h⟩ := Option.bind_eq_some_iff.mp h
  obtain ⟨a, rfl, ha⟩ := ints_of g rx e
  by_cases c : ns = []
  · rw [if_pos c] at h; cases h
  · rw [if_neg c] at h; cases h
    refine ⟨a, ns, rfl, ha, by cases ns with | nil => exact absurd rfl c | cons _ _ => simp, fun m h1 h2 => ?_⟩
    obtain ⟨k1, k2⟩ := minL_mem c
    have : m = minL ns := Int.le_antisymm (h2 _ k1) (k2 m h1)
    rw [this]; exact q _ (.int _)
theorem s_sort : CaN K (rSorted K) sortD := fun {G H d z x Q} g rx h q => by
  obtain ⟨ns, e, h⟩ := Option.bind_eq_some_iff.mp h
  obtain ⟨a, rfl, ha⟩ := ints_of g rx e
  obtain ⟨c, rfl⟩ := if_some h
  refine ⟨a, ns, rfl, ha, c, fun ns' p h1 h2 hp => q _ _ ⟨p, _, hp, rfl, rfl, ?_⟩⟩
  rw [sortI_one h1 h2]
  exact .lst (.of_ints _)
theorem s_all : Ca0 K (rAll K) allD := fun {G H d z x Q} g rx h q => by
  obtain ⟨ns, e, rfl⟩ := Option.map_eq_some_iff.mp h
  obtain ⟨a, rfl, ha⟩ := bls_of g rx e
  exact ⟨a, ns, rfl, ha, q _ (.bl _)⟩
theorem s_any : Ca0 K (rAny K) anyD := fun {G H d z x Q} g rx h q => by
  obtain ⟨ns, e, rfl⟩ := Option.map_eq_some_iff.mp h
  obtain ⟨a, rfl, ha⟩ := bls_of g rx e
  exact ⟨a, ns, rfl, ha, q _ (.bl _)⟩
def rDivmod : List V → Hp → VK → Prop := fun xs H Q => ∃ i j, xs = [.int i, .int j] ∧ CDiv i j ∧ ∀ p, H p = none → Q (.ref p) (upd H p (.tup [.int (i / j), .int (i % j)]))
theorem s_divmod : Cb K rDivmod divmodD := fun {G H d e z x y Q} g rx ry h q => by
  unfold divmodD at h
  split at h
  · obtain ⟨c, rfl⟩ := if_some h
    exact ⟨_, _, by rw [rx.int, ry.int], c, fun p hp => q _ _ (.inr ⟨p, _, hp, rfl, rfl, .tup (.cons (.int _) (.cons (.int _) .nil))⟩)⟩
  · cases h
end
end DL

namespace DL
open PySem PySem.Spec PyProof.Rows L2

/-! ### own calls: what is lent, what comes back -/
inductive FRes where
  | ok (fr : Bool) (d : D) (ms : List D) | err (x : Exc) (ms : List D) | stuck
abbrev FD := List D → FRes
structure Ags (K : PySem.W.Frag) (G H : Hp) (mu : List Bool) (ds : List D) (vs : List V) (fp : Nat → List Addr) : Prop where
  lm : mu.length = vs.length
  ld : ds.length = vs.length
  sh : ∀ (i : Nat) (d : D), mu[i]? = some false → ds[i]? = some d → ∃ v, vs[i]? = some v ∧ Rep K G d v
  ow : ∀ (i : Nat) (d : D), mu[i]? = some true → ds[i]? = some d → ∃ a, vs[i]? = some (.ref a) ∧ Own K G H d a (fp i) ∧ (fp i).Nodup ∧ ∀ b ∈ fp i, G b = none
  sep : ∀ (i j : Nat), mu[i]? = some true → mu[j]? = some true → i ≠ j → ∀ b ∈ fp i, b ∉ fp j
def lent (mu : List Bool) (fp : Nat → List Addr) (b : Addr) : Prop := ∃ i : Nat, mu[i]? = some true ∧ b ∈ fp i
structure Bck (K : PySem.W.Frag) (G H G' H' : Hp) (mu : List Bool) (ms : List D) (vs : List V) (fp fp' : Nat → List Addr) : Prop where
  lm : ms.length = mu.length
  ow : ∀ (i : Nat), mu[i]? = some true → ∃ d a, ms[i]? = some d ∧ vs[i]? = some (.ref a) ∧ Own K G' H' d a (fp' i) ∧ (fp' i).Nodup ∧ ∀ b ∈ fp' i, G' b = none ∧ (b ∈ fp i ∨ H b = none)
  sep : ∀ (i j : Nat), mu[i]? = some true → mu[j]? = some true → i ≠ j → ∀ b ∈ fp' i, b ∉ fp' j
  gg : Same G G'
  gh : Same G' H'
  new : ∀ a o, G' a = some o → G a = some o ∨ H a = none
  keep : ∀ b o, H b = some o → ¬ lent mu fp b → H' b = some o
  live : ∀ b o, H b = some o → ∃ o', H' b = some o'
/-- a result that is nobody's yet -/
def NewR (K : PySem.W.Frag) (G' H H' : Hp) (mu : List Bool) (fp' : Nat → List Addr) (d : D) (v : V) : Prop :=
  ∃ a fp0, v = .ref a ∧ Own K G' H' d a fp0 ∧ fp0.Nodup ∧ ∀ b ∈ fp0, G' b = none ∧ H b = none ∧ ¬ lent mu fp' b
/-- a def's promise by data -/
def spD (K : PySem.W.Frag) (mu : List Bool) (f : FD) : Sp := fun vs H Q E => ∃ (ds : List D) (G : Hp) (fp : Nat → List Addr), Same G H ∧ Ags K G H mu ds vs fp ∧
  match f ds with
  | .ok false d ms => ∀ (v : V) (H' G' : Hp) (fp' : Nat → List Addr), Bck K G H G' H' mu ms vs fp fp' → Rep K G' d v → Q v H'
  | .ok true d ms => ∀ (v : V) (H' G' : Hp) (fp' : Nat → List Addr), Bck K G H G' H' mu ms vs fp fp' → NewR K G' H H' mu fp' d v → Q v H'
  | .err x ms => ∀ (a : Addr) (fv : List (Str × V)) (H' G' : Hp) (fp' : Nat → List Addr), Bck K G H G' H' mu ms vs fp fp' → H' a = some (.xd fv) → fv.map (·.1) = x.fs.map (·.1) → RepA K G' (x.fs.map (·.2)) (fv.map (·.2)) → E x.cls (some a) H'
  | .stuck => False
theorem spD_len {K : PySem.W.Frag} {mu : List Bool} {f : FD} {vs : List V} {H : Hp} {Q : VK} {E : XK} (h : spD K mu f vs H Q E) : vs.length = mu.length := by
  obtain ⟨ds, G, fp, _, A, _⟩ := h
  exact A.lm.symm

/-! ### the callee -/
def initS : List Bool → List D → DSt
  | m :: mu, d :: ds => some (if m = true then Slot.ow true d else Slot.sh d) :: initS mu ds
  | _, _ => []
def outS : List Bool → DSt → Option (List D)
  | [], _ => some []
  | true :: mu, some (Slot.ow true d) :: st => (outS mu st).map (d :: ·)
  | false :: mu, _ :: st => (outS mu st).map (D.non :: ·)
  | _, _ => none
theorem initS_len : ∀ {mu : List Bool} {ds : List D}, mu.length = ds.length → (initS mu ds).length = ds.length
  | [], [], _ => rfl
  | _ :: _, _ :: _, h => congrArg (· + 1) (initS_len (Nat.succ.inj h))
  | [], _ :: _, h => by cases h
  | _ :: _, [], h => by cases h
theorem initS_get : ∀ {mu : List Bool} {ds : List D} {i : Nat} {s : Slot}, (initS mu ds)[i]? = some (some s) → ∃ m d, mu[i]? = some m ∧ ds[i]? = some d ∧ s = if m = true then Slot.ow true d else Slot.sh d
  | [], _, _, _, h => by simp [initS] at h
  | _ :: _, [], _, _, h => by simp [initS] at h
  | m :: mu, d :: ds, 0, s, h => by simp [initS] at h; exact ⟨m, d, rfl, rfl, h.symm⟩
  | m :: mu, d :: ds, i + 1, s, h => by
    obtain ⟨m', d', a, b, c⟩ := initS_get (mu := mu) (ds := ds) (i := i) (s := s) (by simpa [initS] using h)
    exact ⟨m', d', by simpa using a, by simpa using b, c⟩
theorem outS_len : ∀ {mu : List Bool} {st : DSt} {ms : List D}, outS mu st = some ms → ms.length = mu.length
  | [], _, _, h => by unfold outS at h; cases h; rfl
  | true :: mu, some (Slot.ow true d) :: st, ms, h => by
    unfold outS at h
    obtain ⟨ms', e, rfl⟩ := Option.map_eq_some_iff.mp h
    exact congrArg (· + 1) (outS_len e)
  | false :: mu, _ :: st, ms, h => by
    unfold outS at h
    obtain ⟨ms', e, rfl⟩ := Option.map_eq_some_iff.mp h
    exact congrArg (· + 1) (outS_len e)
  | true :: mu, [], ms, h => by simp [outS] at h
  | true :: mu, none :: st, ms, h => by simp [outS] at h
  | true :: mu, some (Slot.sh d) :: st, ms, h => by simp [outS] at h
  | true :: mu, some (Slot.ow false d) :: st, ms, h => by simp [outS] at h
  | false :: mu, [], ms, h => by simp [outS] at h
theorem outS_get : ∀ {mu : List Bool} {st : DSt} {ms : List D} {i : Nat}, outS mu st = some ms → mu[i]? = some true → ∃ d, ms[i]? = some d ∧ st[i]? = some (some (Slot.ow true d))
  | [], _, _, _, _, e => by simp at e
  | true :: mu, some (Slot.ow true d) :: st, ms, 0, h, e => by
    unfold outS at h
    obtain ⟨ms', _, rfl⟩ := Option.map_eq_some_iff.mp h
    exact ⟨d, rfl, rfl⟩
  | true :: mu, some (Slot.ow true d) :: st, ms, i + 1, h, e => by
    unfold outS at h
    obtain ⟨ms', h', rfl⟩ := Option.map_eq_some_iff.mp h
    obtain ⟨d', a, b⟩ := outS_get (i := i) h' (by simpa using e)
    exact ⟨d', by simpa using a, by simpa using b⟩
  | false :: mu, _ :: st, ms, 0, h, e => by simp at e
  | false :: mu, _ :: st, ms, i + 1, h, e => by
    unfold outS at h
    obtain ⟨ms', h', rfl⟩ := Option.map_eq_some_iff.mp h
    obtain ⟨d', a, b⟩ := outS_get (i := i) h' (by simpa using e)
    exact ⟨d', by simpa using a, by simpa using b⟩
  | true :: mu, [], ms, _, h, _ => by simp [outS] at h
  | true :: mu, none :: st, ms, _, h, _ => by simp [outS] at h
  | true :: mu, some (Slot.sh d) :: st, ms, _, h, _ => by simp [outS] at h
  | true :: mu, some (Slot.ow false d) :: st, ms, _, h, _ => by simp [outS] at h
  | false :: mu, [], ms, _, h, _ => by simp [outS] at h
def endF (mu : List Bool) (f : List D → FRes) (st : DSt) : FRes := match outS mu st with
  | some ms => f ms
  | none => .stuck
/-- a def's body as a function of its arguments -/
def runF (mu : List Bool) (n : Nat) (body : MS) : FD := fun ds => match body (initS mu ds ++ List.replicate (n - ds.length) none) with
  | .nx st => endF mu (.ok false .non) st
  | .rt fr d st => endF mu (.ok fr d) st
  | .err x st => endF mu (.err x) st
  | _ => .stuck
open Classical in
noncomputable def entry (G H : Hp) (mu : List Bool) (vs : List V) (fp : Nat → List Addr) : Fr where
  He := H
  G0 := G
  pr := fun b => if lent mu fp b then none else H b
  hid := fun _ => False
  mfp := fp
  mua := fun i => match vs[i]? with
    | some (.ref a) => some a
    | _ => none
section
variable {K : PySem.W.Frag} {G H : Hp} {mu : List Bool} {ds : List D} {vs : List V} {fp : Nat → List Addr} {n : Nat}
theorem entry_mua {G H : Hp} {mu : List Bool} {vs : List V} {fp : Nat → List Addr} {i : Nat} {a : Addr} : (entry G H mu vs fp).mua i = some a ↔ vs[i]? = some (.ref a) := by
  unfold entry
  dsimp only
  split
  · rename_i b e
    rw [e]
    constructor
    · intro h; cases h; rfl
    · intro h; cases h; rfl
  · rename_i h
    constructor
    · intro z; cases z
    · intro z; exact absurd z (h a)
open Classical in
theorem entry_sync {N : List Str} (g : Same G H) (A : Ags K G H mu ds vs fp) (hn : vs.length ≤ N.length) : Sync K (entry G H mu vs fp) G fp (L2.start N vs) H (initS mu ds ++ List.replicate (N.length - ds.length) none) := by
  have gi : ∀ {i : Nat} {s : Slot}, (initS mu ds ++ List.replicate (N.length - ds.length) none)[i]? = some (some s) → i < vs.length ∧ ∃ m d, mu[i]? = some m ∧ ds[i]? = some d ∧ s = if m = true then Slot.ow true d else Slot.sh d := fun {i s} h => by
    by_cases hi : i < (initS mu ds).length
    · rw [List.getElem?_append_left hi] at h
      exact ⟨by rw [initS_len (A.lm.trans A.ld.symm), A.ld] at hi; exact hi, initS_get h⟩
    · rw [List.getElem?_append_right (Nat.le_of_not_lt hi), List.getElem?_replicate] at h
      split at h <;> cases h
  have sv : ∀ {i : Nat} {v : V}, vs[i]? = some v → (L2.start N vs)[i]? = some (some v) := fun {i v} h => by
    have hi : i < vs.length := (List.getElem?_eq_some_iff.mp h).1
    unfold L2.start
    rw [List.getElem?_append_left (by simpa using hi), List.getElem?_map, h]
    rfl
  refine ⟨?_, fun i d h => ?_, fun i m d h => ?_, fun i j hi hj n => ?_, Same.refl G, g, fun a o e => .inl e, fun a o e => ?_, fun a o e => ⟨o, e⟩, fun a z => z.elim, fun a z => z.elim⟩
  · unfold L2.start
    rw [List.length_append, List.length_append, List.length_replicate, List.length_replicate, List.length_map, initS_len (A.lm.trans A.ld.symm), A.ld]
  · obtain ⟨_, m, d', h1, h2, h3⟩ := gi h
    cases m with
    | true => rw [if_pos rfl] at h3; cases h3
    | false =>
      rw [if_neg Bool.false_ne_true] at h3
      cases h3
      obtain ⟨v, a, b⟩ := A.sh i d h1 h2
      exact ⟨v, sv a, b⟩
  · obtain ⟨_, m', d', h1, h2, h3⟩ := gi h
    cases m' with
    | false => rw [if_neg Bool.false_ne_true] at h3; cases h3
    | true =>
      rw [if_pos rfl] at h3
      cases h3
      obtain ⟨a, e1, e2, e3, e4⟩ := A.ow i d h1 h2
      refine ⟨a, sv e1, e2, e3, fun b hb => ⟨e4 b hb, .inr ⟨rfl, hb⟩, ?_⟩, fun _ => entry_mua.mpr e1⟩
      show (if lent mu fp b then none else H b) = none
      rw [if_pos ⟨i, h1, hb⟩]
  · have om : ∀ {i : Nat}, isOw (initS mu ds ++ List.replicate (N.length - ds.length) none) i → mu[i]? = some true := fun {i} ⟨m, d, h⟩ => by
      obtain ⟨_, m', d', h1, h2, h3⟩ := gi h
      cases m' with
      | false => rw [if_neg Bool.false_ne_true] at h3; cases h3
      | true => exact h1
    exact A.sep i j (om hi) (om hj) n
  · have e' : (if lent mu fp a then none else H a) = some o := e
    by_cases c : lent mu fp a
    · rw [if_pos c] at e'; cases e'
    · rw [if_neg c] at e'; exact e'
open Classical in
theorem out_bck {G' H' : Hp} {fp' : Nat → List Addr} {σ' : L2.St} {st' : DSt} {ms : List D} (S : Sync K (entry G H mu vs fp) G' fp' σ' H' st') (o : outS mu st' = some ms) : Bck K G H G' H' mu ms vs fp fp' := by
  refine ⟨outS_len o, fun i hi => ?_, fun i j hi hj n => ?_, S.g0, S.gh, S.new, fun b u e nl => S.pr b u ?_, S.live⟩
  · obtain ⟨d, h1, h2⟩ := outS_get o hi
    obtain ⟨a, e1, e2, e3, e4, e5⟩ := S.ow i true d h2
    refine ⟨d, a, h1, entry_mua.mp (e5 rfl), e2, e3, fun b hb => ⟨(e4 b hb).1, ?_⟩⟩
    rcases (e4 b hb).2.1 with z | ⟨_, z⟩
    · exact .inr z
    · exact .inl z
  · obtain ⟨d, _, h2⟩ := outS_get o hi
    obtain ⟨d', _, h2'⟩ := outS_get o hj
    exact S.sep i j ⟨_, _, h2⟩ ⟨_, _, h2'⟩ n
  · show (if lent mu fp b then none else H b) = some u
    rw [if_neg nl]; exact e
theorem out_new {G' H' : Hp} {fp' : Nat → List Addr} {st' : DSt} {ms : List D} {d : D} {v : V} (o : outS mu st' = some ms) (f : Fresh K (entry G H mu vs fp) G' fp' st' H' d v) : NewR K G' H H' mu fp' d v := by
  obtain ⟨a, fp0, e, ow, nd, off⟩ := f.ex
  refine ⟨a, fp0, e, ow, nd, fun b hb => ⟨(off b hb).1, (off b hb).2.1.1, fun ⟨i, hi, hb'⟩ => ?_⟩⟩
  obtain ⟨d', _, h2⟩ := outS_get o hi
  exact (off b hb).2.2 i ⟨_, _, h2⟩ hb'
end
section
variable {P : Program} {w : World} {K : PySem.W.Frag} {mg : Str → Option Value} {base : Heap}
/-- THE RULE for a def -/
theorem fnD {x qual : Str} {params : Arguments} {body : List Stmt} {scope : Scope} {dvs : List V} {kws : List (Str × V)} {f : Addr} {fd : FuncData} {N ps : List Str} {k : Nat} {mu : List Bool} {m : MS}
    (F : FunD K x qual params body scope dvs kws f fd) (S : FnScope N ps scope) (hmu : mu.length = ps.length)
    (hb : ∀ (cdv : Value) (A : Around) (outer : List Env) (s : Shared) (H : Hp) (E : XK), Room k (A.deeper (envOfC qual scope s.heap.objs.size f cdv)) → ∀ (F : Fr) (W : WX), Takes (cxOf (CX P w) P w K mg base N qual scope f cdv A outer s H E) W →
      PassesOwn (model P w) (cxOf (CX P w) P w K mg base N qual scope f cdv A outer s H E).A (cxOf (CX P w) P w K mg base N qual scope f cdv A outer s H E).env (cxOf (CX P w) P w K mg base N qual scope f cdv A outer s H E).xe →
      PSs (cxOf (CX P w) P w K mg base N qual scope f cdv A outer s H E) body (tS K F W m)) : FnOk P w K mg base (CX P w) (k + 1) f fd ps (spD K mu (runF mu N.length m)) := by
  refine F.ok S (fun vs H Q E h => (spD_len h).trans hmu) fun cdv A outer s H vs Q E hr h => ?_
  have hl := spD_len h
  obtain ⟨ds, G, fp, g, Ag, h⟩ := h
  have hN : vs.length ≤ N.length := by
    rw [hl, hmu]
    have := congrArg List.length S.pre
    rw [List.length_take] at this
    omega
  refine ⟨_, hb cdv A outer s H E hr (entry G H mu vs fp) (fun cls d _ H' => E cls d H') (takes_of rfl rfl rfl rfl) (passes_of rfl), _, G, fp, entry_sync g Ag hN, ?_⟩
  unfold runF at h
  revert h
  cases m (initS mu ds ++ List.replicate (N.length - ds.length) none) with
  | nx st' =>
    intro h
    dsimp only [endF] at h
    cases o : outS mu st' with
    | none => rw [o] at h; exact h.elim
    | some ms =>
      rw [o] at h
      exact fun σ' H' G' fp' gg S' => h .non H' G' fp' (out_bck S' o) .non
  | rt fr d st' =>
    intro h
    dsimp only [endF] at h
    cases o : outS mu st' with
    | none => rw [o] at h; exact h.elim
    | some ms =>
      rw [o] at h
      cases fr with
      | false => exact fun v σ' H' G' fp' gg S' r => h v H' G' fp' (out_bck S' o) r
      | true => exact fun v σ' H' G' fp' gg S' r => h v H' G' fp' (out_bck S' o) (out_new o r)
  | err x st' =>
    intro h
    dsimp only [endF] at h
    cases o : outS mu st' with
    | none => rw [o] at h; exact h.elim
    | some ms =>
      rw [o] at h
      exact fun a fv σ' H' G' fp' gg S' e1 e2 e3 => h a fv H' G' fp' (out_bck S' o) e1 e2 e3
  | bk st' => exact fun h => h.elim
  | ct st' => exact fun h => h.elim
  | stuck => exact fun h => h.elim
end
end DL

namespace DL
open PySem L2

/-! ### the caller -/
/-- an argument: data, or the thing of a slot, lent -/
inductive AV where
  | d (x : D) | m (i : Nat)
def avSl : AV → Option Nat
  | .m i => some i
  | .d _ => none
def AvR (K : PySem.W.Frag) (G : Hp) (σ : St) (a : AV) (v : V) : Prop := match a with
  | .d x => Rep K G x v
  | .m i => σ[i]? = some (some v)
inductive AvA (K : PySem.W.Frag) (G : Hp) (σ : St) : List AV → List V → Prop
  | nil : AvA K G σ [] []
  | cons {a : AV} {v : V} {as : List AV} {vs : List V} : AvR K G σ a v → AvA K G σ as vs → AvA K G σ (a :: as) (v :: vs)
def getA (st : DSt) : List Bool → List AV → Option (List D)
  | [], [] => some []
  | false :: mu, .d x :: as => (getA st mu as).map (x :: ·)
  | true :: mu, .m i :: as => match st[i]? with
    | some (some (Slot.ow _ d)) => (getA st mu as).map (d :: ·)
    | _ => none
  | _, _ => none
def setOw (st : DSt) (i : Nat) (d : D) : DSt := match st[i]? with
  | some (some (Slot.ow m _)) => st.set i (some (Slot.ow m d))
  | _ => st
def setBack : List AV → List D → DSt → DSt
  | .m i :: as, d :: ms, st => setBack as ms (setOw st i d)
  | .d _ :: as, _ :: ms, st => setBack as ms st
  | _, _, st => st
def callQ (mu : List Bool) (f : FD) (as : List AV) : M D := fun st => if (as.filterMap avSl).Nodup then (match getA st mu as with
    | some ds => match f ds with
      | .ok false d ms => .ok d (setBack as ms st)
      | .ok true d ms => if flatD d = true then .ok d (setBack as ms st) else .stuck
      | .err x ms => .err x (setBack as ms st)
      | .stuck => .stuck
    | none => .stuck) else .stuck
def callN (mu : List Bool) (f : FD) (as : List AV) : M D := fun st => if (as.filterMap avSl).Nodup then (match getA st mu as with
    | some ds => match f ds with
      | .ok true d ms => .ok d (setBack as ms st)
      | .err x ms => .err x (setBack as ms st)
      | _ => .stuck
    | none => .stuck) else .stuck
section
variable {K : PySem.W.Frag} {F : Fr} {W : WX} {G H : Hp} {fpf : Nat → List Addr} {σ : St} {st : DSt} {mu : List Bool} {as : List AV} {vs : List V} {ds ms : List D}
theorem AvA.mono {G' : Hp} (g : Same G G') : ∀ {as : List AV} {vs : List V}, AvA K G σ as vs → AvA K G' σ as vs
  | _, _, .nil => .nil
  | .d x :: _, _, .cons h t => .cons (show Rep K G' x _ from Rep.mono g h) (AvA.mono g t)
  | .m i :: _, _, .cons h t => .cons h (AvA.mono g t)
theorem AvA.append : ∀ {as bs : List AV} {vs us : List V}, AvA K G σ as vs → AvA K G σ bs us → AvA K G σ (as ++ bs) (vs ++ us)
  | _, _, _, _, .nil, s => s
  | _, _, _, _, .cons r t, s => .cons r (AvA.append t s)
theorem AvA.of_rep : ∀ {ds : List D} {vs : List V}, RepA K G ds vs → AvA K G σ (ds.map AV.d) vs
  | _, _, .nil => .nil
  | _, _, .cons r t => .cons r (AvA.of_rep t)
theorem AvA.length : ∀ {as : List AV} {vs : List V}, AvA K G σ as vs → as.length = vs.length
  | _, _, .nil => rfl
  | _, _, .cons _ t => congrArg (· + 1) (AvA.length t)
theorem AvA.get : ∀ {as : List AV} {vs : List V} {i : Nat} {a : AV}, AvA K G σ as vs → as[i]? = some a → ∃ v, vs[i]? = some v ∧ AvR K G σ a v
  | _, _, _, _, .nil, e => by simp at e
  | _, _, 0, _, .cons h _, e => by simp at e; subst e; exact ⟨_, rfl, h⟩
  | _, _, i + 1, a, .cons _ t, e => by
    obtain ⟨v, h1, h2⟩ := AvA.get (i := i) (a := a) t (by simpa using e)
    exact ⟨v, by simpa using h1, h2⟩
structure GetA (st : DSt) (mu : List Bool) (as : List AV) (ds : List D) : Prop where
  lm : mu.length = as.length
  ld : ds.length = as.length
  sh : ∀ (i : Nat) (d : D), mu[i]? = some false → ds[i]? = some d → as[i]? = some (AV.d d)
  ow : ∀ (i : Nat) (d : D), mu[i]? = some true → ds[i]? = some d → ∃ j m, as[i]? = some (AV.m j) ∧ st[j]? = some (some (Slot.ow m d))
  mo : ∀ (i j : Nat), as[i]? = some (AV.m j) → mu[i]? = some true ∧ isOw st j
theorem GetA.c0 {x : D} (h : GetA st mu as ds) : GetA st (false :: mu) (.d x :: as) (x :: ds) := by
  refine ⟨congrArg (· + 1) h.lm, congrArg (· + 1) h.ld, fun i d a b => ?_, fun i d a b => ?_, fun i j a => ?_⟩
  · cases i with
    | zero => simp at b; subst b; rfl
    | succ i => simpa using h.sh i d (by simpa using a) (by simpa using b)
  · cases i with
    | zero => simp at a
    | succ i => simpa using h.ow i d (by simpa using a) (by simpa using b)
  · cases i with
    | zero => simp at a
    | succ i => simpa using h.mo i j (by simpa using a)
theorem GetA.c1 {x : D} {k : Nat} {m : Bool} (e : st[k]? = some (some (Slot.ow m x))) (h : GetA st mu as ds) : GetA st (true :: mu) (.m k :: as) (x :: ds) := by
  refine ⟨congrArg (· + 1) h.lm, congrArg (· + 1) h.ld, fun i d a b => ?_, fun i d a b => ?_, fun i j a => ?_⟩
  · cases i with
    | zero => simp at a
    | succ i => simpa using h.sh i d (by simpa using a) (by simpa using b)
  · cases i with
    | zero => simp at b; subst b; exact ⟨k, m, rfl, e⟩
    | succ i => simpa using h.ow i d (by simpa using a) (by simpa using b)
  · cases i with
    | zero => simp at a; subst a; exact ⟨rfl, _, _, e⟩
    | succ i => simpa using h.mo i j (by simpa using a)
theorem getA_ok : ∀ {mu : List Bool} {as : List AV} {ds : List D}, getA st mu as = some ds → GetA st mu as ds
  | [], [], ds, h => by
    unfold getA at h; cases h
    exact ⟨rfl, rfl, fun i d a => by simp at a, fun i d a => by simp at a, fun i j a => by simp at a⟩
  | false :: mu, .d x :: as, ds, h => by
    unfold getA at h
    obtain ⟨ds', e, rfl⟩ := Option.map_eq_some_iff.mp h
    exact (getA_ok e).c0
  | true :: mu, .m k :: as, ds, h => by
    unfold getA at h
    split at h
    · rename_i m x e1
      obtain ⟨ds', e, rfl⟩ := Option.map_eq_some_iff.mp h
      exact (getA_ok e).c1 e1
    · cases h
  | false :: mu, .m k :: as, ds, h => by simp [getA] at h
  | true :: mu, .d x :: as, ds, h => by simp [getA] at h
  | [], _ :: _, ds, h => by simp [getA] at h
  | true :: _, [], ds, h => by simp [getA] at h
  | false :: _, [], ds, h => by simp [getA] at h
theorem slot_mem : ∀ {as : List AV} {i : Nat}, i ∈ as.filterMap avSl ↔ ∃ k : Nat, as[k]? = some (AV.m i) := fun {as i} => by
  rw [List.mem_filterMap]
  constructor
  · rintro ⟨a, ha, e⟩
    cases a with
    | d x => cases e
    | m j => cases e; exact List.mem_iff_getElem?.mp ha
  · rintro ⟨k, e⟩
    exact ⟨_, List.mem_iff_getElem?.mpr ⟨k, e⟩, rfl⟩
theorem slot_uq : ∀ {as : List AV} {i k l : Nat}, (as.filterMap avSl).Nodup → as[k]? = some (AV.m i) → as[l]? = some (AV.m i) → k = l
  | [], _, _, _, _, h, _ => by simp at h
  | a :: as, i, 0, 0, _, _, _ => rfl
  | a :: as, i, 0, l + 1, nd, h, h' => by
    simp at h h'
    subst h
    rw [List.filterMap_cons_some (by rfl)] at nd
    exact absurd (slot_mem.mpr ⟨l, h'⟩) (List.nodup_cons.mp nd).1
  | a :: as, i, k + 1, 0, nd, h, h' => by
    simp at h h'
    subst h'
    rw [List.filterMap_cons_some (by rfl)] at nd
    exact absurd (slot_mem.mpr ⟨k, h⟩) (List.nodup_cons.mp nd).1
  | a :: as, i, k + 1, l + 1, nd, h, h' => by
    simp at h h'
    have nd' : (as.filterMap avSl).Nodup := by
      cases a with
      | d x => rwa [List.filterMap_cons_none (by rfl)] at nd
      | m j => rw [List.filterMap_cons_some (by rfl)] at nd; exact (List.nodup_cons.mp nd).2
    rw [slot_uq nd' h h']
theorem setOw_len {i : Nat} {d : D} : (setOw st i d).length = st.length := by
  unfold setOw
  split
  · exact List.length_set
  · rfl
theorem setOw_get {i j : Nat} {d : D} {s : Slot} (h : (setOw st i d)[j]? = some (some s)) : (j = i ∧ ∃ m d0, st[i]? = some (some (Slot.ow m d0)) ∧ s = .ow m d) ∨ ((j ≠ i ∨ ¬ isOw st i) ∧ st[j]? = some (some s)) := by
  unfold setOw at h
  split at h
  · rename_i m d0 e
    rcases get_set h with ⟨rfl, b, _⟩ | ⟨a, b⟩
    · cases b; exact .inl ⟨rfl, m, d0, e, rfl⟩
    · exact .inr ⟨.inl a, b⟩
  · rename_i k
    exact .inr ⟨.inr fun ⟨m, d, e⟩ => k m d e, h⟩
theorem setOw_ow {i j : Nat} {d : D} (h : isOw st j) : isOw (setOw st i d) j := by
  obtain ⟨m, d', e⟩ := h
  unfold setOw
  split
  · rename_i m0 d0 e0
    by_cases c : i = j
    · subst c
      exact ⟨m0, d, by rw [List.getElem?_set_self (List.getElem?_eq_some_iff.mp e0).1]⟩
    · exact ⟨m, d', by rw [List.getElem?_set_ne c]; exact e⟩
  · exact ⟨m, d', e⟩
theorem setBack_len : ∀ {as : List AV} {ms : List D} {st : DSt}, (setBack as ms st).length = st.length
  | [], _, _ => by unfold setBack; rfl
  | .m i :: as, d :: ms, st => by unfold setBack; rw [setBack_len, setOw_len]
  | .d _ :: as, _ :: ms, st => by unfold setBack; rw [setBack_len]
  | .m i :: as, [], st => by unfold setBack; rfl
  | .d i :: as, [], st => by unfold setBack; rfl
theorem setBack_get : ∀ {as : List AV} {ms : List D} {st : DSt} {j : Nat} {s : Slot}, ms.length = as.length → (as.filterMap avSl).Nodup → (∀ k i : Nat, as[k]? = some (AV.m i) → isOw st i) → (setBack as ms st)[j]? = some (some s) →
    (∃ (k : Nat) (m : Bool) (d0 d : D), as[k]? = some (AV.m j) ∧ ms[k]? = some d ∧ st[j]? = some (some (Slot.ow m d0)) ∧ s = .ow m d) ∨ ((∀ k : Nat, as[k]? ≠ some (AV.m j)) ∧ st[j]? = some (some s))
  | [], _, _, _, _, _, _, _, h => by unfold setBack at h; exact .inr ⟨fun k => by simp, h⟩
  | .m i :: as, d :: ms, st, j, s, hl, nd, hw, h => by
    unfold setBack at h
    rw [List.filterMap_cons_some (by rfl)] at nd
    obtain ⟨n1, n2⟩ := List.nodup_cons.mp nd
    rcases setBack_get (Nat.succ.inj hl) n2 (fun k i' e => setOw_ow (hw (k + 1) i' (by simpa using e))) h with ⟨k, m, d0, d', e1, e2, e3, e4⟩ | ⟨e1, e2⟩
    · have hj : j ≠ i := fun z => n1 (slot_mem.mpr ⟨k, z ▸ e1⟩)
      rcases setOw_get e3 with ⟨z, _⟩ | ⟨_, e3⟩
      · exact absurd z hj
      · exact .inl ⟨k + 1, m, d0, d', by simpa using e1, by simpa using e2, e3, e4⟩
    · rcases setOw_get e2 with ⟨rfl, m, d0, e3, e4⟩ | ⟨z, e3⟩
      · exact .inl ⟨0, m, d0, d, rfl, rfl, e3, e4⟩
      · rcases z with z | z
        · refine .inr ⟨fun k e => ?_, e3⟩
          cases k with
          | zero => simp at e; exact z e.symm
          | succ k => exact e1 k (by simpa using e)
        · exact absurd (hw 0 i rfl) z
  | .d x :: as, _ :: ms, st, j, s, hl, nd, hw, h => by
    unfold setBack at h
    rw [List.filterMap_cons_none (by rfl)] at nd
    rcases setBack_get (Nat.succ.inj hl) nd (fun k i' e => hw (k + 1) i' (by simpa using e)) h with ⟨k, m, d0, d', e1, e2, e3, e4⟩ | ⟨e1, e2⟩
    · exact .inl ⟨k + 1, m, d0, d', by simpa using e1, by simpa using e2, e3, e4⟩
    · refine .inr ⟨fun k e => ?_, e2⟩
      cases k with
      | zero => simp at e
      | succ k => exact e1 k (by simpa using e)
  | .m _ :: _, [], _, _, _, hl, _, _, _ => by cases hl
  | .d _ :: _, [], _, _, _, hl, _, _, _ => by cases hl
/-- whose addresses argument k is -/
def argFp (fpf : Nat → List Addr) (as : List AV) (k : Nat) : List Addr := match as[k]? with
  | some (AV.m i) => fpf i
  | _ => []
open Classical in
noncomputable def backFp (fpf fp' : Nat → List Addr) (as : List AV) (j : Nat) : List Addr := if h : ∃ k : Nat, as[k]? = some (AV.m j) then fp' h.choose else fpf j
theorem backFp_m {fpf fp' : Nat → List Addr} {j k : Nat} (nd : (as.filterMap avSl).Nodup) (h : as[k]? = some (AV.m j)) : backFp fpf fp' as j = fp' k := by
  have e : ∃ k : Nat, as[k]? = some (AV.m j) := ⟨k, h⟩
  unfold backFp
  rw [dif_pos e, slot_uq nd e.choose_spec h]
theorem backFp_o {fpf fp' : Nat → List Addr} {j : Nat} (h : ∀ k : Nat, as[k]? ≠ some (AV.m j)) : backFp fpf fp' as j = fpf j := by
  unfold backFp
  rw [dif_neg fun ⟨k, e⟩ => h k e]
theorem args_of (S : Sync K F G fpf σ H st) (r : AvA K G σ as vs) (nd : (as.filterMap avSl).Nodup) (g : getA st mu as = some ds) : Ags K G H mu ds vs (argFp fpf as) := by
  have g := getA_ok g
  refine ⟨g.lm.trans r.length, g.ld.trans r.length, fun i d h1 h2 => ?_, fun i d h1 h2 => ?_, fun i j hi hj n b hb => ?_⟩
  · exact r.get (g.sh i d h1 h2)
  · obtain ⟨j, m, e1, e2⟩ := g.ow i d h1 h2
    obtain ⟨v, e3, e4⟩ := r.get e1
    obtain ⟨a, e5, e6, e7, e8, _⟩ := S.ow j m d e2
    have e4' : σ[j]? = some (some v) := e4
    rw [e5] at e4'
    cases e4'
    have : argFp fpf as i = fpf j := by unfold argFp; rw [e1]
    rw [this]
    exact ⟨a, e3, e6, e7, fun b hb => (e8 b hb).1⟩
  · have hx : ∀ {i : Nat}, mu[i]? = some true → ∃ j, as[i]? = some (AV.m j) ∧ isOw st j := fun {i} h => by
      have hi : i < mu.length := (List.getElem?_eq_some_iff.mp h).1
      rw [g.lm, ← g.ld] at hi
      obtain ⟨j, m, e1, e2⟩ := g.ow i _ h (List.getElem?_eq_getElem hi)
      exact ⟨j, e1, _, _, e2⟩
    obtain ⟨i', ei, oi⟩ := hx hi
    obtain ⟨j', ej, oj⟩ := hx hj
    have e1 : argFp fpf as i = fpf i' := by unfold argFp; rw [ei]
    have e2 : argFp fpf as j = fpf j' := by unfold argFp; rw [ej]
    rw [e1] at hb
    rw [e2]
    refine S.sep i' j' oi oj (fun z => n ?_) b hb
    subst z
    exact slot_uq nd ei ej
theorem Sync.called (S : Sync K F G fpf σ H st) {fp' : Nat → List Addr} {G' H' : Hp} (r : AvA K G σ as vs) (nd : (as.filterMap avSl).Nodup) (g : getA st mu as = some ds) (B : Bck K G H G' H' mu ms vs (argFp fpf as) fp') :
    Sync K F G' (backFp fpf fp' as) σ H' (setBack as ms st) ∧ ∀ b, H b = none → ¬ lent mu fp' b → ∀ j, isOw (setBack as ms st) j → b ∉ backFp fpf fp' as j := by
  have g := getA_ok g
  have hl : ms.length = as.length := B.lm.trans g.lm
  have hw : ∀ k i : Nat, as[k]? = some (AV.m i) → isOw st i := fun k i e => (g.mo k i e).2
  have cs : ∀ {j : Nat} {s : Slot}, (setBack as ms st)[j]? = some (some s) → (∃ (k : Nat) (m : Bool) (d0 d : D), as[k]? = some (AV.m j) ∧ ms[k]? = some d ∧ st[j]? = some (some (Slot.ow m d0)) ∧ s = .ow m d) ∨ ((∀ k : Nat, as[k]? ≠ some (AV.m j)) ∧ st[j]? = some (some s)) := fun h => setBack_get hl nd hw h
  have om : ∀ {j : Nat}, isOw (setBack as ms st) j → isOw st j := fun {j} ⟨m, d, e⟩ => by
    rcases cs e with ⟨k, m, d0, d, _, _, e3, _⟩ | ⟨_, e2⟩
    · exact ⟨_, _, e3⟩
    · exact ⟨_, _, e2⟩
  have notLent : ∀ {j : Nat} {b : Addr}, isOw st j → (∀ k : Nat, as[k]? ≠ some (AV.m j)) → b ∈ fpf j → ¬ lent mu (argFp fpf as) b := fun {j b} oj hn hb ⟨i, hi, hb'⟩ => by
    unfold argFp at hb'
    split at hb'
    · rename_i k e
      exact S.sep j k oj (hw i k e) (fun z => hn i (z ▸ e)) b hb hb'
    · cases hb'
  have liveB : ∀ {j : Nat} {b : Addr}, isOw st j → b ∈ fpf j → ∃ o, H b = some o := fun {j b} ⟨m, d, e⟩ hb => by
    obtain ⟨a, _, ow, _⟩ := S.ow j m d e
    exact ow.live b hb
  have noneG : ∀ {j : Nat} {b : Addr}, isOw st j → b ∈ fpf j → G b = none := fun {j b} ⟨m, d, e⟩ hb => by
    obtain ⟨a, _, _, _, f, _⟩ := S.ow j m d e
    exact (f b hb).1
  have noneG' : ∀ {j : Nat} {b : Addr}, isOw st j → b ∈ fpf j → G' b = none := fun {j b} oj hb => by
    cases e : G' b with
    | none => rfl
    | some o =>
      rcases B.new b o e with z | z
      · rw [noneG oj hb] at z; cases z
      · obtain ⟨o', e'⟩ := liveB oj hb
        rw [z] at e'; cases e'
  have argE : ∀ {k j : Nat}, as[k]? = some (AV.m j) → argFp fpf as k = fpf j := fun {k j} e => by unfold argFp; rw [e]
  refine ⟨⟨by rw [setBack_len]; exact S.len, fun j d h => ?_, fun j m d h => ?_, fun i j hi hj n b hb => ?_, S.g0.trans B.gg, B.gh, fun a o e => ?_, fun a o e => ?_, fun a o e => ?_, fun a ha => ?_, S.hidP⟩, fun b hb nl j hj hbj => ?_⟩
  · rcases cs h with ⟨_, _, _, _, _, _, _, z⟩ | ⟨_, e2⟩
    · cases z
    · obtain ⟨v, e1, r⟩ := S.sh j d e2
      exact ⟨v, e1, r.mono B.gg⟩
  · rcases cs h with ⟨k, m', d0, d', e1, e2, e3, e4⟩ | ⟨e1, e2⟩
    · cases e4
      obtain ⟨a, q1, q2, q3, q4, q5⟩ := S.ow j m d0 e3
      obtain ⟨d', a', p1, p2, p3, p4, p5⟩ := B.ow k (g.mo k j e1).1
      rw [e2] at p1
      cases p1
      obtain ⟨v, p6, p7⟩ := r.get e1
      have p7' : σ[j]? = some (some v) := p7
      rw [p2] at p6
      cases p6
      rw [q1] at p7'
      cases p7'
      rw [backFp_m nd e1]
      refine ⟨a, q1, p3, p4, fun b hb => ⟨(p5 b hb).1, ?_⟩, q5⟩
      rcases (p5 b hb).2 with z | z
      · rw [argE e1] at z
        exact (q4 b z).2
      · exact ⟨.inl (S.fresh z), S.freshP z⟩
    · obtain ⟨a, q1, q2, q3, q4, q5⟩ := S.ow j m d e2
      rw [backFp_o e1]
      refine ⟨a, q1, q2.mono B.gg fun b hb => ?_, q3, fun b hb => ⟨noneG' ⟨_, _, e2⟩ hb, (q4 b hb).2⟩, q5⟩
      obtain ⟨o, eo⟩ := liveB ⟨_, _, e2⟩ hb
      rw [eo, B.keep b o eo (notLent ⟨_, _, e2⟩ e1 hb)]
  · have two : ∀ {i j : Nat} {b : Addr}, isOw st i → isOw st j → i ≠ j → (∃ k : Nat, as[k]? = some (AV.m i)) → (∀ k : Nat, as[k]? ≠ some (AV.m j)) → b ∈ backFp fpf fp' as i → b ∈ backFp fpf fp' as j → False := fun {i j b} oi oj n ⟨k, e⟩ hn h1 h2 => by
      rw [backFp_m nd e] at h1
      rw [backFp_o hn] at h2
      obtain ⟨_, _, _, _, _, _, p5⟩ := B.ow k (g.mo k i e).1
      rcases (p5 b h1).2 with z | z
      · rw [argE e] at z
        exact S.sep i j oi oj n b z h2
      · obtain ⟨o, eo⟩ := liveB oj h2
        rw [z] at eo; cases eo
    intro hb'
    by_cases ci : ∃ k : Nat, as[k]? = some (AV.m i)
    · by_cases cj : ∃ k : Nat, as[k]? = some (AV.m j)
      · obtain ⟨k, ek⟩ := ci
        obtain ⟨l, el⟩ := cj
        rw [backFp_m nd ek] at hb
        rw [backFp_m nd el] at hb'
        refine B.sep k l (g.mo k i ek).1 (g.mo l j el).1 (fun z => n ?_) b hb hb'
        subst z
        rw [ek] at el
        cases el
        rfl
      · exact two (om hi) (om hj) n ci (fun k e => cj ⟨k, e⟩) hb hb'
    · by_cases cj : ∃ k : Nat, as[k]? = some (AV.m j)
      · exact two (om hj) (om hi) (Ne.symm n) cj (fun k e => ci ⟨k, e⟩) hb' hb
      · rw [backFp_o fun k e => ci ⟨k, e⟩] at hb
        rw [backFp_o fun k e => cj ⟨k, e⟩] at hb'
        exact S.sep i j (om hi) (om hj) n b hb hb'
  · rcases B.new a o e with z | z
    · exact S.new a o z
    · exact .inr (S.fresh z)
  · refine B.keep a o (S.pr a o e) fun ⟨i, hi, hb⟩ => ?_
    unfold argFp at hb
    split at hb
    · rename_i k ek
      obtain ⟨m, d, ed⟩ := hw i k ek
      obtain ⟨_, _, _, _, f, _⟩ := S.ow k m d ed
      rw [(f a hb).2.2] at e; cases e
    · cases hb
  · obtain ⟨o', e'⟩ := S.live a o e
    exact B.live a o' e'
  · cases e : G' a with
    | none => rfl
    | some o =>
      rcases B.new a o e with z | z
      · rw [S.hidG a ha] at z; cases z
      · obtain ⟨u, eu⟩ := S.hidP a ha
        rw [S.pr a u eu] at z; cases z
  · by_cases cj : ∃ k : Nat, as[k]? = some (AV.m j)
    · obtain ⟨k, ek⟩ := cj
      rw [backFp_m nd ek] at hbj
      exact nl ⟨k, (g.mo k j ek).1, hbj⟩
    · rw [backFp_o fun k e => cj ⟨k, e⟩] at hbj
      obtain ⟨o, eo⟩ := liveB (om hj) hbj
      rw [hb] at eo; cases eo
variable {f : FD} {Q : VK}
theorem called_new (S : Sync K F G fpf σ H st) {fp' : Nat → List Addr} {G' H' : Hp} {d : D} {v : V} (r : AvA K G σ as vs) (nd : (as.filterMap avSl).Nodup) (g : getA st mu as = some ds) (B : Bck K G H G' H' mu ms vs (argFp fpf as) fp') (n : NewR K G' H H' mu fp' d v) :
    Fresh K F G' (backFp fpf fp' as) (setBack as ms st) H' d v := by
  obtain ⟨a, fp0, rfl, ow, nd0, off⟩ := n
  exact ⟨⟨a, fp0, rfl, ow, nd0, fun b hb => ⟨(off b hb).1, ⟨S.fresh (off b hb).2.1, S.freshP (off b hb).2.1⟩, (S.called r nd g B).2 b (off b hb).2.1 (off b hb).2.2⟩⟩⟩
theorem callQ_at (S : Sync K F G fpf σ H st) (r : AvA K G σ as vs) (A : At K F W false (RSh K) (callQ mu f as st) st G fpf σ H Q) : spD K mu f vs H Q (WE W σ) := by
  unfold callQ at A
  by_cases nd : (as.filterMap avSl).Nodup
  · rw [if_pos nd] at A
    cases g : getA st mu as with
    | none => rw [g] at A; exact A.elim
    | some ds =>
      rw [g] at A
      refine ⟨ds, G, argFp fpf as, S.gh, args_of S r nd g, ?_⟩
      dsimp only at A
      revert A
      cases f ds with
      | ok fr d ms =>
        cases fr with
        | false => exact fun A v H' G' fp' B rr => A v H' G' _ nq B.gg (S.called r nd g B).1 rr
        | true =>
          intro A v H' G' fp' B n
          dsimp only at A
          by_cases c : flatD d = true
          · rw [if_pos c] at A
            obtain ⟨G2, gg, S2, rr⟩ := (S.called r nd g B).1.share (called_new S r nd g B n) c
            exact A v H' G2 _ nq (B.gg.trans gg) S2 rr
          · rw [if_neg c] at A; exact A.elim
      | err x ms => exact fun A a fv H' G' fp' B e1 e2 e3 => A a fv H' G' _ B.gg (S.called r nd g B).1 e1 e2 e3
      | stuck => exact fun A => A.elim
  · rw [if_neg nd] at A; exact A.elim
theorem callN_at (S : Sync K F G fpf σ H st) (r : AvA K G σ as vs) (A : At K F W false (RFr K F) (callN mu f as st) st G fpf σ H Q) : spD K mu f vs H Q (WE W σ) := by
  unfold callN at A
  by_cases nd : (as.filterMap avSl).Nodup
  · rw [if_pos nd] at A
    cases g : getA st mu as with
    | none => rw [g] at A; exact A.elim
    | some ds =>
      rw [g] at A
      refine ⟨ds, G, argFp fpf as, S.gh, args_of S r nd g, ?_⟩
      dsimp only at A
      revert A
      cases f ds with
      | ok fr d ms =>
        cases fr with
        | false => exact fun A => A.elim
        | true => exact fun A v H' G' fp' B n => A v H' G' _ nq B.gg (S.called r nd g B).1 (called_new S r nd g B n)
      | err x ms => exact fun A a fv H' G' fp' B e1 e2 e3 => A a fv H' G' _ B.gg (S.called r nd g B).1 e1 e2 e3
      | stuck => exact fun A => A.elim
  · rw [if_neg nd] at A; exact A.elim
end

/-! ### argument lists of calls -/
def avsM : List (M AV) → M (List AV)
  | [] => ret []
  | m :: ms => bnd m fun a => bnd (avsM ms) fun as => ret (a :: as)
def shA (m : M D) : M AV := bnd m fun d => ret (.d d)
def lnA (i : Nat) : M AV := fun st => match st[i]? with
  | some (some (Slot.ow _ _)) => .ok (.m i) st
  | _ => .stuck
def callM (mu : List Bool) (f : FD) (dD : List D) (ma : M (List AV)) : M D := bnd ma fun as => callQ mu f (as ++ dD.map AV.d)
def callF (mu : List Bool) (f : FD) (dD : List D) (ma : M (List AV)) : M D := bnd ma fun as => callN mu f (as ++ dD.map AV.d)
def tAv (K : PySem.W.Frag) (F : Fr) (W : WX) (q : Bool) (m : M AV) : TE := fun σ H Q => tM K F W q (fun G _ _ _ a v => AvR K G σ a v) m σ H Q
def tAvs (K : PySem.W.Frag) (F : Fr) (W : WX) (q : Bool) (m : M (List AV)) : TA := fun σ H Q => tM K F W q (fun G _ _ _ a v => AvA K G σ a v) m σ H Q
section
variable {X : Cx} {F : Fr} {W : WX} {q q1 q2 : Bool} {e : Expr} {es : List Expr} {m : M D} {a : M AV} {as : List (M AV)} {pos p : Pos}
theorem dv_sh (h : PE X e (tM X.K F W q (RSh X.K) m)) : PE X e (tAv X.K F W q (shA m)) := PE_mono h fun σ H Q z => bind_of (q2 := true) (R1 := RSh X.K) (fun y => ⟨y, rfl⟩) z fun d st1 G1 fpf1 v H1 S1 r1 A1 => A1.done S1 r1
theorem dv_ln (i : Nat) {x : Str} (hN : X.N[i]? = some x := by rfl) (hv : Vis X.env.scope x := by first | exact Or.inl rfl | exact Or.inr (Or.inl rfl) | exact Or.inr (Or.inr rfl)) (hd : (x == ("__debug__" : Str)) = false := by decide) (hcd : (x == ("__classdict__" : Str)) = false := by decide) :
    PE X (.Name x pos) (tAv X.K F W q (lnA i)) := PE_mono (pv i hN hv hd hcd) fun σ H Q ⟨st, G, fpf, S, A⟩ => by
  unfold lnA at A
  split at A
  · rename_i m d e
    obtain ⟨a, e1, _⟩ := S.ow i m d e
    exact ⟨.ref a, e1, A.done S e1⟩
  · exact A.elim
theorem dvs_nil : PA X [] (tAvs X.K F W q (avsM [])) := PA_mono pa_nil fun σ H Q ⟨st, G, fpf, S, A⟩ => A.done S .nil
theorem dvs_cons (ha : PE X e (tAv X.K F W q1 a)) (hr : PA X es (tAvs X.K F W q2 (avsM as))) (hs : starEach (e :: es) X.env = (false, eval e X.env) :: starEach es X.env := by rfl) : PA X (e :: es) (tAvs X.K F W (q1 && q2) (avsM (a :: as))) :=
  PA_mono (pa_cons ha hr hs) fun σ H Q ⟨st, G, fpf, S, A⟩ => by
    refine ⟨st, G, fpf, S, A.bndK (q1 := q1) (q2 := q2) (R1 := fun G _ _ _ a v => AvR X.K G σ a v) (fun z => Bool.and_eq_true_iff.mp z) fun d st1 G1 fpf1 v H1 g1 S1 z1 e1 r1 A1 => ?_⟩
    refine ⟨st1, G1, fpf1, S1, A1.bndK (q1 := q2) (q2 := true) (R1 := fun G _ _ _ a v => AvA X.K G σ a v) (fun z => ⟨z, rfl⟩) fun ds st2 G2 fpf2 u H2 g2 S2 z2 e2 r2 A2 => ?_⟩
    exact A2.done S2 (AvA.cons (by
      cases d with
      | d x => exact (show Rep X.K G2 x v from Rep.mono g2 r1)
      | m i => exact r1) r2)
variable {k : Nat} {f : Addr} {fd : FuncData} {ps : List Str} {mu : List Bool} {fn : FD} {dvs : List V} {ds : List Value} {dD : List D} {x : Str} {ma : M (List AV)}
theorem de_own (F0 : FnOk X.prog X.w X.K X.mg X.base (CX X.prog X.w) k f fd ps (spD X.K mu fn)) (hr : Room k X.A) (tk : Takes X W) (hg : Gl X x) (hm : X.mg x = some (.ref f)) (hk : PySem.W.keepIn X.K (.ref f) = true) (hb : Binds X.K fd ps ds) (hd : Vals dvs ds) (hD : ∀ G, RepA X.K G dD dvs)
    (ha : PA X (e :: es) (tAvs X.K F W q ma)) (hdb : (x == ("__debug__" : Str)) = false := by decide) (he : starEach (e :: es) X.env = (false, eval e X.env) :: starEach es X.env := by rfl) (hpl : (backTo pos (starEach es X.env)).any (·.1) = false := by rfl) :
    PE X (.Call (.Name x p) (e :: es) [] pos) (tM X.K F W false (RSh X.K) (callM mu fn dD ma)) :=
  PE_mono (pe_callSD (E := WE W) F0 hr hg hm hk hb hd (fun σ => passAt tk σ) ha hdb he hpl) fun σ H Q h => bind_of (q2 := false) (R1 := fun G _ _ _ a v => AvA X.K G σ a v) nq h fun as st1 G1 fpf1 vs H1 S1 r1 A1 =>
    callQ_at S1 (AvA.append r1 (AvA.of_rep (hD G1))) A1
theorem df_own (F0 : FnOk X.prog X.w X.K X.mg X.base (CX X.prog X.w) k f fd ps (spD X.K mu fn)) (hr : Room k X.A) (tk : Takes X W) (hg : Gl X x) (hm : X.mg x = some (.ref f)) (hk : PySem.W.keepIn X.K (.ref f) = true) (hb : Binds X.K fd ps ds) (hd : Vals dvs ds) (hD : ∀ G, RepA X.K G dD dvs)
    (ha : PA X (e :: es) (tAvs X.K F W q ma)) (hdb : (x == ("__debug__" : Str)) = false := by decide) (he : starEach (e :: es) X.env = (false, eval e X.env) :: starEach es X.env := by rfl) (hpl : (backTo pos (starEach es X.env)).any (·.1) = false := by rfl) :
    PE X (.Call (.Name x p) (e :: es) [] pos) (tM X.K F W false (RFr X.K F) (callF mu fn dD ma)) :=
  PE_mono (pe_callSD (E := WE W) F0 hr hg hm hk hb hd (fun σ => passAt tk σ) ha hdb he hpl) fun σ H Q h => bind_of (q2 := false) (R1 := fun G _ _ _ a v => AvA X.K G σ a v) nq h fun as st1 G1 fpf1 vs H1 S1 r1 A1 =>
    callN_at S1 (AvA.append r1 (AvA.of_rep (hD G1))) A1
end
end DL

namespace DL
open PySem L2

/-! ### objects: their attributes -/
theorem keys_look {α β : Type} {f : Str} : ∀ {l : List (Str × α)} {m : List (Str × β)}, l.map (·.1) = m.map (·.1) → m.lookup f = none → l.lookup f = none
  | [], _, _, _ => rfl
  | (g, x) :: l, [], h, _ => by cases h
  | (g, x) :: l, (g', y) :: m, h, e => by
    simp only [List.map_cons, List.cons.injEq] at h
    obtain ⟨h1, h2⟩ := h
    subst h1
    simp only [List.lookup] at e ⊢
    split at e
    · cases e
    · rename_i q
      exact keys_look h2 e
theorem look_rep {K : PySem.W.Frag} {G : Hp} {f : Str} {d : D} : ∀ {fv : List (Str × V)} {fd : List (Str × D)}, fv.map (·.1) = fd.map (·.1) → RepA K G (fd.map (·.2)) (fv.map (·.2)) → fd.lookup f = some d → ∃ v, fv.lookup f = some v ∧ Rep K G d v
  | [], [], _, _, e => by cases e
  | (g, x) :: l, [], h, _, _ => by cases h
  | [], (g, x) :: l, h, _, _ => by cases h
  | (g, x) :: l, (g', y) :: m, h, r, e => by
    simp only [List.map_cons, List.cons.injEq] at h
    obtain ⟨h1, h2⟩ := h
    subst h1
    cases r with
    | cons r t =>
      simp only [List.lookup] at e ⊢
      split at e
      · rename_i q
        cases e
        exact ⟨x, rfl, r⟩
      · exact look_rep h2 t e
theorem look_chA {K : PySem.W.Frag} {G H : Hp} {f : Str} {d : D} (nb : isBox d = false) : ∀ {fv : List (Str × V)} {fd : List (Str × D)} {fp : List Addr}, fv.map (·.1) = fd.map (·.1) → ChA K G H (fd.map (·.2)) (fv.map (·.2)) fp → fd.lookup f = some d → ∃ v, fv.lookup f = some v ∧ Rep K G d v
  | [], [], _, _, _, e => by cases e
  | (g, x) :: l, [], _, h, _, _ => by cases h
  | [], (g, x) :: l, _, h, _, _ => by cases h
  | (g, x) :: l, (g', y) :: m, fp, h, r, e => by
    simp only [List.map_cons, List.cons.injEq] at h
    obtain ⟨h1, h2⟩ := h
    subst h1
    simp only [List.lookup] at e ⊢
    split at e
    · cases e
      generalize ey : m.map (·.2) = ms at r
      generalize ev : l.map (·.2) = vs at r
      simp only [List.map_cons] at r
      rw [ey, ev] at r
      cases r with
      | sh r t => exact ⟨x, rfl, r⟩
      | bx hb r t => cases nb
    · simp only [List.map_cons] at r
      cases r with
      | sh r t => exact look_chA nb h2 t e
      | bx hb r t => exact look_chA nb h2 t e
theorem Rp.obj {K : PySem.W.Frag} {G H : Hp} {v : V} {C : Addr} {fd : List (Str × D)} (g : Same G H) (h : Rp K G H (.obj C fd) v) : ∃ a dx fv, v = .ref a ∧ H a = some (.ins C dx fv) ∧ fv.map (·.1) = fd.map (·.1) ∧ ∀ f d, fd.lookup f = some d → isBox d = false → ∃ u, fv.lookup f = some u ∧ Rep K G d u := by
  cases h with
  | rep h => cases h with | obj h k r => exact ⟨_, _, _, rfl, g _ _ h, k, fun f d e _ => look_rep k r e⟩
  | own h =>
    cases h with
    | flat h r => cases r with | obj k r => exact ⟨_, _, _, rfl, h, k, fun f d e _ => look_rep k r e⟩
    | obj h k c => exact ⟨_, _, _, rfl, h, k, fun f d e nb => look_chA nb k c e⟩
/-- an attribute, shared -/
def attD (C : Addr) (f : Str) : D → Option D
  | .obj C' fs => if C' = C then (match fs.lookup f with
    | some d => if isBox d = true then none else some d
    | none => none) else none
  | _ => none
section
variable {X : Cx} {F : Fr} {W : WX} {q : Bool} {C : Addr} {f : Str} {e o : Expr} {pos pos' p : Pos} {m : M D}
theorem de_fld (c : Cls X.K C) (n : NoAttr X.K C f) (he : PE X e (tM X.K F W q (RPk X.K) m)) (hb : attributeBase e f X.env (eval e X.env) = eval e X.env := by rfl) : PE X (.Attribute e f pos) (tM X.K F W q (RSh X.K) (unM (attD C f) m)) :=
  PE_mono (pe_fld he hb) fun σ H Q h => bind_of (q2 := true) (R1 := RPk X.K) (fun y => ⟨y, rfl⟩) h fun d st1 G1 fpf1 v H1 S1 r1 A1 => by
    unfold lift at A1
    cases w : attD C f d with
    | none => rw [w] at A1; exact A1.elim
    | some z =>
      rw [w] at A1
      unfold attD at w
      split at w
      · rename_i C' fs
        by_cases hC : C' = C
        · subst hC
          rw [if_pos rfl] at w
          split at w
          · rename_i d hd
            by_cases b : isBox d = true
            · rw [if_pos b] at w; cases w
            · rw [if_neg b] at w
              cases w
              obtain ⟨a, dx, fv, rfl, ha, k, l⟩ := Rp.obj S1.gh r1
              obtain ⟨u, hu, ru⟩ := l f z hd (by simpa using b)
              exact ⟨a, C', dx, fv, u, rfl, ha, c, n, hu, A1.done S1 ru⟩
          · cases w
        · rw [if_neg hC] at w; cases w
      · cases w
end

/-! ### a store to an attribute: a shared value into an object of one's own -/
def putD (f : Str) (d : D) : List (Str × D) → List (Str × D)
  | [] => [(f, d)]
  | (g, x) :: r => if g = f then (g, d) :: r else (g, x) :: putD f d r
def noBoxAt (f : Str) (fs : List (Str × D)) : Bool := match fs.lookup f with
  | some d => !isBox d
  | none => true
theorem putF_rep {K : PySem.W.Frag} {G : Hp} {f : Str} {d : D} {v : V} (r : Rep K G d v) : ∀ {fv : List (Str × V)} {fd : List (Str × D)}, fv.map (·.1) = fd.map (·.1) → RepA K G (fd.map (·.2)) (fv.map (·.2)) → (putF f v fv).map (·.1) = (putD f d fd).map (·.1) ∧ RepA K G ((putD f d fd).map (·.2)) ((putF f v fv).map (·.2))
  | [], [], _, _ => ⟨rfl, .cons r .nil⟩
  | (g, x) :: l, [], h, _ => by cases h
  | [], (g, x) :: l, h, _ => by cases h
  | (g, x) :: l, (g', y) :: m, h, t => by
    simp only [List.map_cons, List.cons.injEq] at h
    obtain ⟨h1, h2⟩ := h
    subst h1
    cases t with
    | cons t1 t2 =>
      unfold putF putD
      by_cases c : g = f
      · rw [if_pos c, if_pos c]
        exact ⟨by simp [h2], .cons r t2⟩
      · rw [if_neg c, if_neg c]
        obtain ⟨a, b⟩ := putF_rep r h2 t2
        exact ⟨by simp [a], .cons t1 b⟩
theorem putF_chA {K : PySem.W.Frag} {G H : Hp} {f : Str} {d : D} {v : V} (r : Rep K G d v) : ∀ {fv : List (Str × V)} {fd : List (Str × D)} {fp : List Addr}, fv.map (·.1) = fd.map (·.1) → noBoxAt f fd = true → ChA K G H (fd.map (·.2)) (fv.map (·.2)) fp →
    (putF f v fv).map (·.1) = (putD f d fd).map (·.1) ∧ ChA K G H ((putD f d fd).map (·.2)) ((putF f v fv).map (·.2)) fp
  | [], [], fp, _, _, t => by
    cases t
    exact ⟨rfl, .sh r .nil⟩
  | (g, x) :: l, [], _, h, _, _ => by cases h
  | [], (g, x) :: l, _, h, _, _ => by cases h
  | (g, x) :: l, (g', y) :: m, fp, h, nb, t => by
    simp only [List.map_cons, List.cons.injEq] at h
    obtain ⟨h1, h2⟩ := h
    subst h1
    simp only [List.map_cons] at t
    unfold putF putD
    by_cases c : g = f
    · rw [if_pos c, if_pos c]
      subst c
      refine ⟨by simp [h2], ?_⟩
      unfold noBoxAt at nb
      simp only [List.lookup, beq_self_eq_true] at nb
      cases t with
      | sh t1 t2 => exact .sh r t2
      | bx hb t1 t2 => cases nb
    · rw [if_neg c, if_neg c]
      have nb' : noBoxAt f m = true := by
        unfold noBoxAt at nb ⊢
        have : (f == g) = false := by simpa using fun z => c z.symm
        simpa [List.lookup, this] using nb
      cases t with
      | sh t1 t2 =>
        obtain ⟨a, b⟩ := putF_chA r h2 nb' t2
        exact ⟨by simp [a], .sh t1 b⟩
      | bx hb t1 t2 =>
        obtain ⟨a, b⟩ := putF_chA r h2 nb' t2
        exact ⟨by simp [a], .bx hb t1 b⟩
def putM (C : Addr) (f : Str) (i : Nat) (m : M D) : MS := doM m fun d st => match st[i]? with
  | some (some (Slot.ow mu (.obj C' fs))) => if C' = C ∧ fs.length < 1000 ∧ noBoxAt f fs = true then .nx (st.set i (some (Slot.ow mu (.obj C (putD f d fs))))) else .stuck
  | _ => .stuck
theorem ChA.upd {K : PySem.W.Frag} {G H : Hp} {a : Addr} {u : HO} {ds : List D} {vs : List V} {fp : List Addr} (h : ChA K G H ds vs fp) (n : a ∉ fp) : ChA K G (upd H a u) ds vs fp :=
  h.mono (Same.refl G) fun b hb => upd_ne fun (z : b = a) => n (z ▸ hb)
section
variable {X : Cx} {F : Fr} {W : WX} {q : Bool} {C : Addr} {f : Str} {e o : Expr} {pos pos' p : Pos} {m : M D}
theorem ds_put (i : Nat) {x : Str} (c : Cls X.K C) (n : NoAttr X.K C f) (he : PE X e (tM X.K F W q (RSh X.K) m)) (hN : X.N[i]? = some x := by rfl) (hv : Vis X.env.scope x := by first | exact Or.inl rfl | exact Or.inr (Or.inl rfl) | exact Or.inr (Or.inr rfl)) (hd : (x == ("__debug__" : Str)) = false := by decide) (hcd : (x == ("__classdict__" : Str)) = false := by decide)
    (hs : swapsWith e (some (.Attribute (.Name x p) f pos')) pos.line X.env = pure false := by rfl) : PS X (.Assign [.Attribute (.Name x p) f pos'] e pos) (tS X.K F W (putM C f i m)) :=
  PS_mono (ps_fld (pv i hN hv hd hcd) he hs) fun D σ H h => do_of (R := RSh X.K) h fun d st1 G1 fpf1 v H1 S1 r1 A1 => by
    split at A1
    · rename_i mu C' fs es
      by_cases k : C' = C ∧ fs.length < 1000 ∧ noBoxAt f fs = true
      · rw [if_pos k] at A1
        obtain ⟨rfl, k2, k3⟩ := k
        obtain ⟨a, ea, ow, nd, off, mm⟩ := S1.ow i mu _ es
        obtain ⟨a', dx, fv, ev, ha, kk, _⟩ := Rp.obj S1.gh (.own ow)
        cases ev
        have lk : fv.length < 1000 := by
          have := congrArg List.length kk
          rw [List.length_map, List.length_map] at this
          omega
        refine ⟨.ref a, ea, a, C', dx, fv, rfl, ha, c, n, lk, A1 σ _ G1 fpf1 (Same.refl G1) (S1.write es (fun b hb => ?_) fun b hb => upd_ne fun z => hb (by rw [z]; exact ow.mem))⟩
        rw [ea] at hb
        cases hb
        cases hfp : fpf1 i with
        | nil => rw [hfp] at ow; cases ow
        | cons b0 fp0 =>
          rw [hfp] at ow nd
          cases ow with
          | flat h r =>
            cases r with
            | obj k4 r4 =>
              rw [ha] at h
              cases h
              obtain ⟨p1, p2⟩ := putF_rep r1 k4 r4
              exact .flat upd_same (.obj p1 p2)
          | obj h k4 c4 =>
            rw [ha] at h
            cases h
            obtain ⟨p1, p2⟩ := putF_chA r1 k4 k3 c4
            exact .obj upd_same p1 (p2.upd (List.nodup_cons.mp nd).1)
      · rw [if_neg k] at A1; exact A1.elim
    · exact A1.elim
end

/-! ### methods, properties, objects made and called -/
def objAt (st : DSt) : AV → Option (Addr × List (Str × D))
  | .d (.obj C fs) => some (C, fs)
  | .m i => match st[i]? with
    | some (some (Slot.ow _ (.obj C fs))) => some (C, fs)
    | _ => none
  | _ => none
def chkO (C : Addr) (f : Str) (a : AV) : M Unit := fun st => match objAt st a with
  | some (C', fs) => if C' = C ∧ fs.lookup f = none then .ok () st else .stuck
  | none => .stuck
theorem objAt_ok {K : PySem.W.Frag} {F : Fr} {G H : Hp} {fpf : Nat → List Addr} {σ : St} {st : DSt} {a : AV} {v : V} {C : Addr} {fd : List (Str × D)} (S : Sync K F G fpf σ H st) (r : AvR K G σ a v) (h : objAt st a = some (C, fd)) : ∃ p dx fv, v = .ref p ∧ H p = some (.ins C dx fv) ∧ fv.map (·.1) = fd.map (·.1) := by
  unfold objAt at h
  split at h
  · cases h
    obtain ⟨a, dx, fv, e, h1, h2, _⟩ := Rp.obj S.gh (.rep r)
    exact ⟨a, dx, fv, e, h1, h2⟩
  · rename_i i
    split at h
    · rename_i mu C' fs es
      cases h
      obtain ⟨b, e1, ow, _⟩ := S.ow i mu _ es
      have r' : σ[i]? = some (some v) := r
      rw [e1] at r'
      cases r'
      obtain ⟨a, dx, fv, e, h1, h2, _⟩ := Rp.obj S.gh (.own ow)
      exact ⟨a, dx, fv, e, h1, h2⟩
    · cases h
  · cases h
def methM (q : List Bool → FD → List AV → M D) (C : Addr) (nm : Str) (mu : List Bool) (f : FD) (dD : List D) (mo : M AV) (ma : M (List AV)) : M D :=
  bnd mo fun a => bnd (chkO C nm a) fun _ => bnd ma fun as => q mu f (a :: (as ++ dD.map AV.d))
section
variable {X : Cx} {k : Nat} {f g C : Addr} {fd : FuncData} {ps : List Str} {sp : Sp} {E : St → XK} {dvs : List V} {ds : List Value} {nm : Str} {pos apos p : Pos} {o e fe : Expr} {es : List Expr} {ta tf : TE} {t : TA} {pl : Sem Bool}
/-- a def runs where its exceptions are taken at the slots -/
theorem runS {pins : List (Addr × Obj)} {σ : St} {H : Hp} {s : Shared} {Q : VK} {E : XK} {us : List Value} {vs : List V} (F : FnR X.prog X.w X.K X.mg X.base (CX X.prog X.w) k f sp) (hr : Room k X.A) (hx : PassesAt (CX X.prog X.w) X σ E) (I : Inv X pins σ H s) (r : Vals vs us) (h : sp vs H Q E) :
    codeAny (model X.prog X.w) X.A (.call (.ref f) ⟨us, []⟩) (fun r s' => match r with | .ok (.ret v) => EP X pins σ Q v s' | .ok _ => False | .error e => X.xe e s') s :=
  codeAny_mono (F X.A X.stack s H us vs Q E hr I.env0 r h) fun r s' z => match r, z with
    | .error e, z => hx pins H s e s' I z
    | .ok (.ret u), z => I.after z
    | .ok .next, z => z
    | .ok .brk, z => z
    | .ok .cont, z => z
def tMethS (C : Addr) (nm : Str) (sp : Sp) (dvs : List V) (E : St → XK) (ta : TE) (t : TA) : TE := fun σ H Q => ta σ H fun x H1 => ∃ a dx fs, x = .ref a ∧ H1 a = some (.ins C dx fs) ∧ fs.lookup nm = none ∧ t σ H1 fun vs H2 => sp (x :: (vs ++ dvs)) H2 Q (E σ)
theorem pm_meth (he : PE X o ta) (c : Cls X.K C) (hm : Meth X.K C nm f) (F : FnOk X.prog X.w X.K X.mg X.base (CX X.prog X.w) k f fd ps sp) (hr : Room k X.A) (hb : Binds X.K fd ps ds) (hd : Vals dvs ds) (hx : ∀ σ, PassesAt (CX X.prog X.w) X σ (E σ)) (ha : PA X (e :: es) t)
    (hst : starEach (e :: es) X.env = (false, eval e X.env) :: starEach es X.env := by rfl) (hpl : (backTo pos (starEach es X.env)).any (·.1) = false := by rfl)
    (ht : eval (.Call (.Attribute o nm apos) (e :: es) [] pos) X.env = (do let ob ← eval o X.env; standAt apos.atName; let (fn, fst) ← holding [ob] (getMethod ob nm pl); callWith pos fn fst (backTo pos (starEach (e :: es) X.env)) (backToKw pos (keywordEach [] X.env))) := by rfl) :
    PE X (.Call (.Attribute o nm apos) (e :: es) [] pos) (tMethS C nm sp dvs E ta t) := ⟨fun pins s σ H Q I h => by
  refine PySem.W.methodCall_KW (pl := pl) (thn (he.run pins s σ H _ I h) fun u s1 hh => ?_) ht
  obtain ⟨x, H1, I1, rx, a, dx, fs, ex, ea, l, q⟩ := hh
  subst ex
  cases (show u = Value.ref a from rx)
  exact getmeth_ok I1 ea c hm l (PySem.W.callWith_K (first := [.ref a]) (h₀ := X.base) I.ok.mod.kin hm.kp (thn (ha.run pos pins s1 σ H1 _ I1 q) fun us s2 ⟨vs, H2, I2, r, q2⟩ => ⟨I2.kIn, run_fnSD (us := .ref a :: us) (vs := .ref a :: vs) F hr hb hd (hx σ) I2 (.cons rfl r) q2⟩) hst hpl)⟩
theorem pm_meth0 (he : PE X o ta) (c : Cls X.K C) (hm : Meth X.K C nm f) (F : FnOk X.prog X.w X.K X.mg X.base (CX X.prog X.w) k f fd ps sp) (hr : Room k X.A) (hb : Binds X.K fd ps ds) (hd : Vals dvs ds) (hx : ∀ σ, PassesAt (CX X.prog X.w) X σ (E σ))
    (ht : eval (.Call (.Attribute o nm apos) [] [] pos) X.env = (do let ob ← eval o X.env; standAt apos.atName; let (fn, fst) ← holding [ob] (getMethod ob nm pl); callWith pos fn fst (backTo pos (starEach [] X.env)) (backToKw pos (keywordEach [] X.env))) := by rfl) :
    PE X (.Call (.Attribute o nm apos) [] [] pos) (tMethS C nm sp dvs E ta tNil) := ⟨fun pins s σ H Q I h => by
  refine PySem.W.methodCall_KW (pl := pl) (thn (he.run pins s σ H _ I h) fun u s1 hh => ?_) ht
  obtain ⟨x, H1, I1, rx, a, dx, fs, ex, ea, l, q⟩ := hh
  subst ex
  cases (show u = Value.ref a from rx)
  exact getmeth_ok I1 ea c hm l (PySem.W.callWith_K0 (first := [.ref a]) I1.kIn hm.kp (run_fnSD (us := [.ref a]) (vs := [.ref a]) F hr hb hd (hx σ) I1 (.cons rfl .nil) q))⟩
def tCallOS (X : Cx) (C : Addr) (sp : Sp) (E : St → XK) (tf : TE) (t : TA) : TE := fun σ H Q => tf σ H fun y H1 => ∃ a, y = V.ref a ∧ t σ H1 fun vs H2 => StX.InsC X H2 a C ∧ sp (V.ref a :: vs) H2 Q (E σ)
theorem pm_callO (hf : PE X fe tf) (c : StX.CallO X.K C g) (F : FnR X.prog X.w X.K X.mg X.base (CX X.prog X.w) k g sp) (hr : Room k X.A) (hx : ∀ σ, PassesAt (CX X.prog X.w) X σ (E σ)) (ha : PA X (e :: es) t)
    (ht : eval (.Call fe (e :: es) [] pos) X.env = (do callWith pos (← eval fe X.env) [] (backTo pos (starEach (e :: es) X.env)) (backToKw pos (keywordEach [] X.env))) := by rfl)
    (he : starEach (e :: es) X.env = (false, eval e X.env) :: starEach es X.env := by rfl) (hpl : (backTo pos (starEach es X.env)).any (·.1) = false := by rfl) : PE X (.Call fe (e :: es) [] pos) (tCallOS X C sp E tf t) := ⟨fun pins s σ H Q I h => by
  refine PyProof.Rows.Call_ (thn (hf.run pins s σ H _ I h) fun u s1 hh => ?_) ht
  obtain ⟨y, H1, I1, ry, a, ey, q⟩ := hh
  subst ey
  cases (show u = Value.ref a from ry)
  refine StX.callO_with (thn (ha.run pos pins s1 σ H1 _ I1 q) fun us s2 hh => ?_) he hpl
  obtain ⟨vs, H2, I2, r, hi, q2⟩ := hh
  obtain ⟨ox, od, J, hd⟩ := StX.insC_at I2 hi
  exact ⟨⟨C, ox, od, J, hd⟩, wpAny_call (PySem.W.kco_code I2.kIn J hd c.at_ c.fn c.fi (runS (us := .ref a :: us) (vs := .ref a :: vs) F hr (hx σ) I2 (.cons rfl r) q2))⟩⟩
end
end DL

namespace DL
open PySem L2

theorem chk_of {K : PySem.W.Frag} {F : Fr} {W : WX} {α ρ : Type} {q : Bool} {R : Rl α ρ} {C : Addr} {nm : Str} {a : AV} {v : V} {m : M α} {st : DSt} {G H : Hp} {fpf : Nat → List Addr} {σ : St} {Q : ρ → Hp → Prop}
    (S : Sync K F G fpf σ H st) (r : AvR K G σ a v) (A : At K F W q R (bnd (chkO C nm a) (fun _ => m) st) st G fpf σ H Q) :
    (∃ p dx fv, v = .ref p ∧ H p = some (.ins C dx fv) ∧ fv.lookup nm = none) ∧ At K F W q R (m st) st G fpf σ H Q := by
  unfold bnd chkO at A
  cases e : objAt st a with
  | none => rw [e] at A; exact A.elim
  | some x =>
    obtain ⟨C', fd⟩ := x
    rw [e] at A
    dsimp only at A
    by_cases c : C' = C ∧ fd.lookup nm = none
    · rw [if_pos c] at A
      obtain ⟨rfl, c2⟩ := c
      obtain ⟨p, dx, fv, h1, h2, h3⟩ := objAt_ok S r e
      exact ⟨⟨p, dx, fv, h1, h2, keys_look h3 c2⟩, A⟩
    · rw [if_neg c] at A; exact A.elim
def noErr (m : M D) : M D := fun st => match m st with
  | .err _ _ => .stuck
  | r => r
theorem noErr_at {K : PySem.W.Frag} {F : Fr} {W W' : WX} {q : Bool} {R : Rl D V} {m : M D} {st : DSt} {G H : Hp} {fpf : Nat → List Addr} {σ : St} {Q : VK} (A : At K F W q R (noErr m st) st G fpf σ H Q) : At K F W' q R (m st) st G fpf σ H Q := by
  unfold noErr at A
  revert A
  cases m st with
  | ok d st' => exact id
  | err x st' => exact fun A => A.elim
  | stuck => exact fun A => A.elim
def propM (C : Addr) (nm : Str) (mu : List Bool) (f : FD) (mo : M AV) : M D := bnd mo fun a => bnd (chkO C nm a) fun _ => noErr (callQ mu f [a])
def callOM (q : List Bool → FD → List AV → M D) (C : Addr) (mu : List Bool) (f : FD) (dD : List D) (mo : M AV) (ma : M (List AV)) : M D :=
  bnd mo fun a => bnd (chkO C Str.empty a) fun _ => bnd ma fun as => bnd (chkO C Str.empty a) fun _ => q mu f (a :: (as ++ dD.map AV.d))
def mkQ (C : Addr) (mu : List Bool) (f : FD) (as : List AV) : M D := fun st => if (as.filterMap avSl).Nodup then (match getA st mu as with
    | some ds => match f (.obj C [] :: ds) with
      | .ok false .non (d :: ms) => .ok d (setBack as ms st)
      | .err x (_ :: ms) => .err x (setBack as ms st)
      | _ => .stuck
    | none => .stuck) else .stuck
def makeF (C : Addr) (mu : List Bool) (f : FD) (dD : List D) (ma : M (List AV)) : M D := bnd ma fun as => mkQ C mu f (as ++ dD.map AV.d)
theorem AvR.mono {K : PySem.W.Frag} {G G' : Hp} {σ : St} {a : AV} {v : V} (g : Same G G') (h : AvR K G σ a v) : AvR K G' σ a v := by
  cases a with
  | d x => exact (show Rep K G' x v from Rep.mono g h)
  | m i => exact h
section
variable {X : Cx} {F : Fr} {W : WX} {q q1 q2 : Bool} {k : Nat} {f g C p0 : Addr} {fd : FuncData} {ps : List Str} {mu : List Bool} {fn : FD} {dvs : List V} {ds : List Value} {dD : List D} {nm x : Str} {pos apos p : Pos} {o e fe : Expr} {es : List Expr} {mo : M AV} {ma : M (List AV)} {pl : Sem Bool}
theorem de_meth (he : PE X o (tAv X.K F W q1 mo)) (c : Cls X.K C) (hm : Meth X.K C nm f) (F0 : FnOk X.prog X.w X.K X.mg X.base (CX X.prog X.w) k f fd ps (spD X.K mu fn)) (hr : Room k X.A) (tk : Takes X W) (hb : Binds X.K fd ps ds) (hd : Vals dvs ds) (hD : ∀ G, RepA X.K G dD dvs)
    (ha : PA X (e :: es) (tAvs X.K F W q2 ma)) (hst : starEach (e :: es) X.env = (false, eval e X.env) :: starEach es X.env := by rfl) (hpl : (backTo pos (starEach es X.env)).any (·.1) = false := by rfl)
    (ht : eval (.Call (.Attribute o nm apos) (e :: es) [] pos) X.env = (do let ob ← eval o X.env; standAt apos.atName; let (fn, fst) ← holding [ob] (getMethod ob nm pl); callWith pos fn fst (backTo pos (starEach (e :: es) X.env)) (backToKw pos (keywordEach [] X.env))) := by rfl) :
    PE X (.Call (.Attribute o nm apos) (e :: es) [] pos) (tM X.K F W false (RSh X.K) (methM callQ C nm mu fn dD mo ma)) :=
  PE_mono (pm_meth (E := WE W) he c hm F0 hr hb hd (fun σ => passAt tk σ) ha hst hpl ht) fun σ H Q h => bind_of (q2 := false) (R1 := fun G _ _ _ a v => AvR X.K G σ a v) nq h fun a st1 G1 fpf1 v H1 S1 r1 A1 => by
    obtain ⟨⟨p, dx, fv, rfl, h1, h2⟩, A2⟩ := chk_of S1 r1 A1
    refine ⟨p, dx, fv, rfl, h1, h2, st1, G1, fpf1, S1, A2.bndK (q1 := q2) (q2 := false) (R1 := fun G _ _ _ a v => AvA X.K G σ a v) nq fun as st3 G3 fpf3 vs H3 g3 S3 z3 e3 r3 A3 => ?_⟩
    exact callQ_at S3 (AvA.cons (r1.mono g3) (AvA.append r3 (AvA.of_rep (hD G3)))) A3
theorem df_meth (he : PE X o (tAv X.K F W q1 mo)) (c : Cls X.K C) (hm : Meth X.K C nm f) (F0 : FnOk X.prog X.w X.K X.mg X.base (CX X.prog X.w) k f fd ps (spD X.K mu fn)) (hr : Room k X.A) (tk : Takes X W) (hb : Binds X.K fd ps ds) (hd : Vals dvs ds) (hD : ∀ G, RepA X.K G dD dvs)
    (ha : PA X (e :: es) (tAvs X.K F W q2 ma)) (hst : starEach (e :: es) X.env = (false, eval e X.env) :: starEach es X.env := by rfl) (hpl : (backTo pos (starEach es X.env)).any (·.1) = false := by rfl)
    (ht : eval (.Call (.Attribute o nm apos) (e :: es) [] pos) X.env = (do let ob ← eval o X.env; standAt apos.atName; let (fn, fst) ← holding [ob] (getMethod ob nm pl); callWith pos fn fst (backTo pos (starEach (e :: es) X.env)) (backToKw pos (keywordEach [] X.env))) := by rfl) :
    PE X (.Call (.Attribute o nm apos) (e :: es) [] pos) (tM X.K F W false (RFr X.K F) (methM callN C nm mu fn dD mo ma)) :=
  PE_mono (pm_meth (E := WE W) he c hm F0 hr hb hd (fun σ => passAt tk σ) ha hst hpl ht) fun σ H Q h => bind_of (q2 := false) (R1 := fun G _ _ _ a v => AvR X.K G σ a v) nq h fun a st1 G1 fpf1 v H1 S1 r1 A1 => by
    obtain ⟨⟨p, dx, fv, rfl, h1, h2⟩, A2⟩ := chk_of S1 r1 A1
    refine ⟨p, dx, fv, rfl, h1, h2, st1, G1, fpf1, S1, A2.bndK (q1 := q2) (q2 := false) (R1 := fun G _ _ _ a v => AvA X.K G σ a v) nq fun as st3 G3 fpf3 vs H3 g3 S3 z3 e3 r3 A3 => ?_⟩
    exact callN_at S3 (AvA.cons (r1.mono g3) (AvA.append r3 (AvA.of_rep (hD G3)))) A3
theorem de_meth0 (he : PE X o (tAv X.K F W q1 mo)) (c : Cls X.K C) (hm : Meth X.K C nm f) (F0 : FnOk X.prog X.w X.K X.mg X.base (CX X.prog X.w) k f fd ps (spD X.K mu fn)) (hr : Room k X.A) (tk : Takes X W) (hb : Binds X.K fd ps ds) (hd : Vals dvs ds) (hD : ∀ G, RepA X.K G dD dvs)
    (ht : eval (.Call (.Attribute o nm apos) [] [] pos) X.env = (do let ob ← eval o X.env; standAt apos.atName; let (fn, fst) ← holding [ob] (getMethod ob nm pl); callWith pos fn fst (backTo pos (starEach [] X.env)) (backToKw pos (keywordEach [] X.env))) := by rfl) :
    PE X (.Call (.Attribute o nm apos) [] [] pos) (tM X.K F W false (RSh X.K) (methM callQ C nm mu fn dD mo (ret []))) :=
  PE_mono (pm_meth0 (E := WE W) he c hm F0 hr hb hd (fun σ => passAt tk σ) ht) fun σ H Q h => bind_of (q2 := false) (R1 := fun G _ _ _ a v => AvR X.K G σ a v) nq h fun a st1 G1 fpf1 v H1 S1 r1 A1 => by
    obtain ⟨⟨p, dx, fv, rfl, h1, h2⟩, A2⟩ := chk_of S1 r1 A1
    exact ⟨p, dx, fv, rfl, h1, h2, callQ_at S1 (AvA.cons r1 (AvA.of_rep (hD G1))) A2⟩
theorem df_meth0 (he : PE X o (tAv X.K F W q1 mo)) (c : Cls X.K C) (hm : Meth X.K C nm f) (F0 : FnOk X.prog X.w X.K X.mg X.base (CX X.prog X.w) k f fd ps (spD X.K mu fn)) (hr : Room k X.A) (tk : Takes X W) (hb : Binds X.K fd ps ds) (hd : Vals dvs ds) (hD : ∀ G, RepA X.K G dD dvs)
    (ht : eval (.Call (.Attribute o nm apos) [] [] pos) X.env = (do let ob ← eval o X.env; standAt apos.atName; let (fn, fst) ← holding [ob] (getMethod ob nm pl); callWith pos fn fst (backTo pos (starEach [] X.env)) (backToKw pos (keywordEach [] X.env))) := by rfl) :
    PE X (.Call (.Attribute o nm apos) [] [] pos) (tM X.K F W false (RFr X.K F) (methM callN C nm mu fn dD mo (ret []))) :=
  PE_mono (pm_meth0 (E := WE W) he c hm F0 hr hb hd (fun σ => passAt tk σ) ht) fun σ H Q h => bind_of (q2 := false) (R1 := fun G _ _ _ a v => AvR X.K G σ a v) nq h fun a st1 G1 fpf1 v H1 S1 r1 A1 => by
    obtain ⟨⟨p, dx, fv, rfl, h1, h2⟩, A2⟩ := chk_of S1 r1 A1
    exact ⟨p, dx, fv, rfl, h1, h2, callN_at S1 (AvA.cons r1 (AvA.of_rep (hD G1))) A2⟩
/-- o.f, a property -/
theorem de_prop (he : PE X e (tAv X.K F W q1 mo)) (c : Cls X.K C) (hp : PropOf X.K C nm p0 g) (F0 : FnOk X.prog X.w X.K X.mg X.base (CX X.prog X.w) k g fd ps (spD X.K mu fn)) (hr : Room (k + 1) X.A) (hb : Binds X.K fd ps [])
    (hab : attributeBase e nm X.env (eval e X.env) = eval e X.env := by rfl) : PE X (.Attribute e nm pos) (tM X.K F W false (RSh X.K) (propM C nm mu fn mo)) :=
  PE_mono (pe_prop he c hp F0 hr hb .nil passL hab) fun σ H Q h => bind_of (q2 := false) (R1 := fun G _ _ _ a v => AvR X.K G σ a v) nq h fun a st1 G1 fpf1 v H1 S1 r1 A1 => by
    obtain ⟨⟨p, dx, fv, rfl, h1, h2⟩, A2⟩ := chk_of S1 r1 A1
    exact ⟨p, dx, fv, rfl, h1, callQ_at (W := fun _ _ _ _ => False) S1 (AvA.cons r1 .nil) (noErr_at A2)⟩
theorem de_callO (hf : PE X fe (tAv X.K F W q1 mo)) (c : StX.CallO X.K C g) (F0 : FnOk X.prog X.w X.K X.mg X.base (CX X.prog X.w) k g fd ps (spD X.K mu fn)) (hr : Room k X.A) (tk : Takes X W) (hb : Binds X.K fd ps ds) (hd : Vals dvs ds) (hD : ∀ G, RepA X.K G dD dvs) (ha : PA X (e :: es) (tAvs X.K F W q2 ma))
    (ht : eval (.Call fe (e :: es) [] pos) X.env = (do callWith pos (← eval fe X.env) [] (backTo pos (starEach (e :: es) X.env)) (backToKw pos (keywordEach [] X.env))) := by rfl)
    (he : starEach (e :: es) X.env = (false, eval e X.env) :: starEach es X.env := by rfl) (hpl : (backTo pos (starEach es X.env)).any (·.1) = false := by rfl) : PE X (.Call fe (e :: es) [] pos) (tM X.K F W false (RSh X.K) (callOM callQ C mu fn dD mo ma)) :=
  PE_mono (pm_callO (E := WE W) hf c (F0.raw hb hd) hr (fun σ => passAt tk σ) ha ht he hpl) fun σ H Q h => bind_of (q2 := false) (R1 := fun G _ _ _ a v => AvR X.K G σ a v) nq h fun a st1 G1 fpf1 v H1 S1 r1 A1 => by
    obtain ⟨⟨p, dx, fv, rfl, h1, h2⟩, A2⟩ := chk_of S1 r1 A1
    refine ⟨p, rfl, st1, G1, fpf1, S1, A2.bndK (q1 := q2) (q2 := false) (R1 := fun G _ _ _ a v => AvA X.K G σ a v) nq fun as st3 G3 fpf3 vs H3 g3 S3 z3 e3 r3 A3 => ?_⟩
    obtain ⟨⟨p', dx', fv', e', h1', _⟩, A4⟩ := chk_of S3 (r1.mono g3) A3
    cases e'
    exact ⟨.inr ⟨dx', fv', h1'⟩, callQ_at S3 (AvA.cons (r1.mono g3) (AvA.append r3 (AvA.of_rep (hD G3)))) A4⟩

/-! ### C(..) -/
def tMakeS (C : Addr) (sp : Sp) (dvs : List V) (E : St → XK) (t : TA) : TE := fun σ H Q => t σ H fun vs H1 => ∀ x dx, H1 x = none → H1 dx = none → dx ≠ x →
  sp (.ref x :: (vs ++ dvs)) (upd (upd H1 dx (.own x)) x (.ins C dx [])) (fun v H2 => v = .non ∧ Q (.ref x) H2) (E σ)
theorem runMk {pins : List (Addr × Obj)} {σ : St} {H : Hp} {s : Shared} {Q : VK} {us : List Value} {vs : List V} {sp : Sp} {E : XK} (M : Mk X.K C f) (F0 : FnOk X.prog X.w X.K X.mg X.base (CX X.prog X.w) k f fd ps sp) (hr : Room (k + 1) X.A) (hb : Binds X.K fd ps ds) (hd : Vals dvs ds)
    (hx : PassesAt (CX X.prog X.w) X σ E) (I : Inv X pins σ H s) (r : Vals vs us)
    (h : ∀ x dx, H x = none → H dx = none → dx ≠ x → sp (.ref x :: (vs ++ dvs)) (upd (upd H dx (.own x)) x (.ins C dx [])) (fun v H2 => v = .non ∧ Q (.ref x) H2) E) :
    wpAny (model X.prog X.w) X.A (call (.ref C) us) (EP X pins σ Q) X.xe s := by
  have n0 := I.hok.fresh (Nat.le_refl s.heap.objs.size)
  have n1 := I.hok.fresh (Nat.le_succ s.heap.objs.size)
  have z := h _ _ n1 n0 (Nat.ne_of_lt (Nat.lt_succ_self _))
  have J := Inv.made (C := C) I
  have rr : Vals (V.ref (s.heap.objs.size + 1) :: (vs ++ dvs)) (Value.ref (s.heap.objs.size + 1) :: (us ++ ds)) := .cons rfl (r.append hd)
  have len : (Value.ref (s.heap.objs.size + 1) :: us ++ ds).length = ps.length := (rr.length.symm.trans (F0.len _ _ _ _ z))
  have run := F0.run _ X.stack _ _ ⟨Value.ref (s.heap.objs.size + 1) :: us, []⟩ _ _ _ E (hr.make C us []) (J.env0.make C us []) (hb _ (Value.ref (s.heap.objs.size + 1) :: us) J.kIn len) rr z
  refine wpAny_call (make_map (f := f) I.kIn M.makes M.init (beq_iff_eq.mp M.fn) (codeAny_mono run fun r s' y => ?_))
  match r, y with
  | .error e, y => exact hx pins _ _ e s' J y
  | .ok (.ret u), y =>
    obtain ⟨v, H', I3, rv, ev, q3⟩ := J.after y
    cases ev
    exact ⟨rv, V.ref (s.heap.objs.size + 1), H', I3, rfl, q3⟩
  | .ok .next, y => exact y.elim
  | .ok .brk, y => exact y.elim
  | .ok .cont, y => exact y.elim
theorem pm_make {sp : Sp} {E : St → XK} {t : TA} (M : Mk X.K C f) (F0 : FnOk X.prog X.w X.K X.mg X.base (CX X.prog X.w) k f fd ps sp) (hr : Room (k + 1) X.A) (hg : Gl X x) (hm : X.mg x = some (.ref C)) (hb : Binds X.K fd ps ds) (hd : Vals dvs ds) (hx : ∀ σ, PassesAt (CX X.prog X.w) X σ (E σ))
    (ha : PA X (e :: es) t) (hdb : (x == ("__debug__" : Str)) = false := by decide) (he : starEach (e :: es) X.env = (false, eval e X.env) :: starEach es X.env := by rfl) (hpl : (backTo pos (starEach es X.env)).any (·.1) = false := by rfl) :
    PE X (.Call (.Name x p) (e :: es) [] pos) (tMakeS C sp dvs E t) :=
  ⟨fun pins s σ H Q I h => wpAny_Call_Name_kw (ld_glob I hg hm (PySem.W.callWith_K (h₀ := X.base) I.ok.mod.kin M.kp (thn (ha.run pos pins s σ H _ I h) fun us s1 ⟨vs, H1, I1, r, q⟩ => ⟨I1.kIn, runMk M F0 hr hb hd (hx σ) I1 r q⟩) he hpl) hdb)⟩
theorem pm_make0 {sp : Sp} {E : St → XK} (M : Mk X.K C f) (F0 : FnOk X.prog X.w X.K X.mg X.base (CX X.prog X.w) k f fd ps sp) (hr : Room (k + 1) X.A) (hg : Gl X x) (hm : X.mg x = some (.ref C)) (hb : Binds X.K fd ps ds) (hd : Vals dvs ds) (hx : ∀ σ, PassesAt (CX X.prog X.w) X σ (E σ))
    (hdb : (x == ("__debug__" : Str)) = false := by decide) : PE X (.Call (.Name x p) [] [] pos) (tMakeS C sp dvs E tNil) :=
  ⟨fun pins s σ H Q I h => wpAny_Call_Name_kw (ld_glob I hg hm (PySem.W.callWith_K0 I.kIn M.kp (runMk (us := []) M F0 hr hb hd (hx σ) I .nil h)) hdb)⟩
def consFp (x : Addr) (fp : Nat → List Addr) : Nat → List Addr
  | 0 => [x]
  | k + 1 => fp k
theorem mkQ_at {G H : Hp} {fpf : Nat → List Addr} {σ : St} {st : DSt} {as : List AV} {vs : List V} {Q : VK} (S : Sync X.K F G fpf σ H st) (r : AvA X.K G σ as vs) (A : At X.K F W false (RFr X.K F) (mkQ C mu fn as st) st G fpf σ H Q) (y dx : Addr) (hy : H y = none) (hdx : H dx = none) (ne : dx ≠ y) :
    spD X.K (true :: mu) fn (.ref y :: vs) (upd (upd H dx (.own y)) y (.ins C dx [])) (fun v H2 => v = .non ∧ Q (.ref y) H2) (WE W σ) := by
  have s2 : Same H (upd (upd H dx (.own y)) y (.ins C dx [])) := fun b u e => by
    rw [upd_ne (ne_of_none e hy), upd_ne (ne_of_none e hdx)]; exact e
  have back : ∀ {b : Addr}, upd (upd H dx (.own y)) y (.ins C dx []) b = none → H b = none := fun {b} e => by
    cases q : H b with
    | none => rfl
    | some u => rw [s2 b u q] at e; cases e
  unfold mkQ at A
  by_cases nd : (as.filterMap avSl).Nodup
  · rw [if_pos nd] at A
    cases gt : getA st mu as with
    | none => rw [gt] at A; exact A.elim
    | some ds =>
      rw [gt] at A
      have ar := args_of S r nd gt
      refine ⟨.obj C [] :: ds, G, consFp y (argFp fpf as), S.gh.trans s2, ⟨congrArg (· + 1) ar.lm, congrArg (· + 1) ar.ld, fun i d h1 h2 => ?_, fun i d h1 h2 => ?_, fun i j hi hj n b hb => ?_⟩, ?_⟩
      · cases i with
        | zero => simp at h1
        | succ i => simpa using ar.sh i d (by simpa using h1) (by simpa using h2)
      · cases i with
        | zero =>
          simp at h2
          subst h2
          exact ⟨y, rfl, .flat upd_same (.obj rfl .nil), by simp [consFp], fun b hb => by
            rw [show consFp y (argFp fpf as) 0 = [y] from rfl, List.mem_singleton] at hb
            rw [hb]; exact S.freshG hy⟩
        | succ i =>
          obtain ⟨a, e1, e2, e3, e4⟩ := ar.ow i d (by simpa using h1) (by simpa using h2)
          refine ⟨a, by simpa using e1, e2.mono (Same.refl G) fun b hb => ?_, e3, e4⟩
          obtain ⟨u, eu⟩ := e2.live b hb
          rw [eu]; exact s2 b u eu
      · have aux : ∀ {k : Nat} {b : Addr}, mu[k]? = some true → b ∈ argFp fpf as k → b ≠ y := fun {k b} hk hb z => by
          have hl : k < ds.length := by
            have := (List.getElem?_eq_some_iff.mp hk).1
            rw [ar.lm, ← ar.ld] at this
            exact this
          obtain ⟨a, _, e2, _⟩ := ar.ow k _ hk (List.getElem?_eq_getElem hl)
          obtain ⟨u, eu⟩ := e2.live b hb
          rw [z, hy] at eu; cases eu
        cases i with
        | zero =>
          cases j with
          | zero => exact absurd rfl n
          | succ j =>
            rw [show consFp y (argFp fpf as) 0 = [y] from rfl, List.mem_singleton] at hb
            exact fun z => aux (by simpa using hj) z hb
        | succ i =>
          cases j with
          | zero =>
            intro z
            rw [show consFp y (argFp fpf as) 0 = [y] from rfl, List.mem_singleton] at z
            exact aux (by simpa using hi) hb z
          | succ j => exact ar.sep i j (by simpa using hi) (by simpa using hj) (fun z => n (by rw [z])) b hb
      · have tb : ∀ {G' H' : Hp} {d : D} {ms : List D} {fp' : Nat → List Addr}, Bck X.K G (upd (upd H dx (.own y)) y (.ins C dx [])) G' H' (true :: mu) (d :: ms) (.ref y :: vs) (consFp y (argFp fpf as)) fp' → Bck X.K G H G' H' mu ms vs (argFp fpf as) (fun k => fp' (k + 1)) := fun {G' H' d ms fp'} B => by
          refine ⟨Nat.succ.inj B.lm, fun i hi => ?_, fun i j hi hj n => B.sep (i + 1) (j + 1) (by simpa using hi) (by simpa using hj) (fun z => n (Nat.succ.inj z)), B.gg, B.gh, fun a o e => (B.new a o e).imp id back, fun b u e nl => B.keep b u (s2 b u e) fun ⟨i, hi, hb⟩ => ?_, fun b u e => B.live b u (s2 b u e)⟩
          · obtain ⟨d', a, e1, e2, e3, e4, e5⟩ := B.ow (i + 1) (by simpa using hi)
            exact ⟨d', a, by simpa using e1, by simpa using e2, e3, e4, fun b hb => ⟨(e5 b hb).1, (e5 b hb).2.imp id back⟩⟩
          · cases i with
            | zero =>
              rw [show consFp y (argFp fpf as) 0 = [y] from rfl, List.mem_singleton] at hb
              rw [hb, hy] at e; cases e
            | succ i => exact nl ⟨i, by simpa using hi, hb⟩
        dsimp only at A
        revert A
        cases fn (.obj C [] :: ds) with
        | stuck => exact fun A => A.elim
        | err x ms =>
          cases ms with
          | nil => exact fun A => A.elim
          | cons d ms => exact fun A a fv H' G' fp' B e1 e2 e3 => A a fv H' G' _ (tb B).gg (S.called r nd gt (tb B)).1 e1 e2 e3
        | ok fr d0 ms =>
          cases fr with
          | true => exact fun A => A.elim
          | false =>
            cases d0 with
            | non =>
              cases ms with
              | nil => exact fun A => A.elim
              | cons d ms =>
                intro A v H' G' fp' B rv
                cases rv
                refine ⟨rfl, A _ H' G' _ nq (tb B).gg (S.called r nd gt (tb B)).1 ?_⟩
                obtain ⟨d', a, e1, e2, e3, e4, e5⟩ := B.ow 0 rfl
                simp at e1 e2
                subst e1 e2
                have nb : ∀ b ∈ fp' 0, H b = none := fun b hb => by
                  rcases (e5 b hb).2 with z | z
                  · rw [show consFp y (argFp fpf as) 0 = [y] from rfl, List.mem_singleton] at z
                    rw [z]; exact hy
                  · exact back z
                exact ⟨⟨y, fp' 0, rfl, e3, e4, fun b hb => ⟨(e5 b hb).1, ⟨S.fresh (nb b hb), S.freshP (nb b hb)⟩, (S.called r nd gt (tb B)).2 b (nb b hb) fun ⟨i, hi, hb'⟩ => B.sep 0 (i + 1) rfl (by simpa using hi) (by simp) b hb hb'⟩⟩⟩
            | _ => exact fun A => A.elim
  · rw [if_neg nd] at A; exact A.elim
theorem df_make (M : Mk X.K C f) (F0 : FnOk X.prog X.w X.K X.mg X.base (CX X.prog X.w) k f fd ps (spD X.K (true :: mu) fn)) (hr : Room (k + 1) X.A) (tk : Takes X W) (hg : Gl X x) (hm : X.mg x = some (.ref C)) (hb : Binds X.K fd ps ds) (hd : Vals dvs ds) (hD : ∀ G, RepA X.K G dD dvs)
    (ha : PA X (e :: es) (tAvs X.K F W q ma)) (hdb : (x == ("__debug__" : Str)) = false := by decide) (he : starEach (e :: es) X.env = (false, eval e X.env) :: starEach es X.env := by rfl) (hpl : (backTo pos (starEach es X.env)).any (·.1) = false := by rfl) :
    PE X (.Call (.Name x p) (e :: es) [] pos) (tM X.K F W false (RFr X.K F) (makeF C mu fn dD ma)) :=
  PE_mono (pm_make (E := WE W) M F0 hr hg hm hb hd (fun σ => passAt tk σ) ha hdb he hpl) fun σ H Q h => bind_of (q2 := false) (R1 := fun G _ _ _ a v => AvA X.K G σ a v) nq h fun as st1 G1 fpf1 vs H1 S1 r1 A1 y dx hy hdx ne =>
    mkQ_at S1 (AvA.append r1 (AvA.of_rep (hD G1))) A1 y dx hy hdx ne
theorem df_make0 (M : Mk X.K C f) (F0 : FnOk X.prog X.w X.K X.mg X.base (CX X.prog X.w) k f fd ps (spD X.K (true :: mu) fn)) (hr : Room (k + 1) X.A) (tk : Takes X W) (hg : Gl X x) (hm : X.mg x = some (.ref C)) (hb : Binds X.K fd ps ds) (hd : Vals dvs ds) (hD : ∀ G, RepA X.K G dD dvs)
    (hdb : (x == ("__debug__" : Str)) = false := by decide) : PE X (.Call (.Name x p) [] [] pos) (tM X.K F W false (RFr X.K F) (makeF C mu fn dD (ret []))) :=
  PE_mono (pm_make0 (E := WE W) M F0 hr hg hm hb hd (fun σ => passAt tk σ) hdb) fun σ H Q ⟨st, G, fpf, S, A⟩ y dx hy hdx ne => mkQ_at S (AvA.of_rep (hD G)) A y dx hy hdx ne
end
end DL

set_option maxHeartbeats 1000000
namespace PySem.W
open PySem PySem.Calls PyProof.Rows Builtin
section
variable {prog : Program} {w : World} {A : Around} {E : Value → Shared → Prop} {s : Shared} {K : Frag} {x C f : Addr} {ox : Obj} {od : Option Obj} {b tb : Value}
/-- object.__ne__ bound and called -/
theorem dl_ne_body {Q : Fin → Shared → Prop} (hu : A.units < cLine) (X : K.In s.heap) (I : InstAt s.heap x ox C od) (hs : findIn K (.ref C) "__eq__" = some (some (.ref f))) (hf : isFn K (.ref f) = true)
    (h : wpAny (model prog w) A (call (.ref f) [.ref x, b]) (fun v s' => ∃ k, v = .bool k ∧ Q (.done (.ret (.bool (!k)))) s') E s) :
    wpAny (model prog w) A (Builtin.«object.__ne__» ⟨[.ref x, b], []⟩) Q E s := by
  unfold Builtin.«object.__ne__»
  repeat (first
    | with_reducible refine wpAny_cRoomFor hu ?_
    | (refine wpAny_bind (m := callSpecialIfBound? (.ref x) (Str.ofString "__eq__") [b]) (ifBound_K X I hs hf (wpAny_mono h (fun v s' hv => ?_) fun _ _ e => e)))
    | wp_step)
  obtain ⟨k, rfl, hq⟩ := hv
  first
    | exact hq
    | exact wpAny_pure hq
    | exact wpAny_bind (wpAny_truthy_bool (wpAny_pure hq))
    | exact wpAny_bind (wpAny_truthy_bool (by wp_walk; exact hq))
theorem dl_ne {Q : Value → Shared → Prop} (hu : A.units + 1 < cLine) (X : K.In s.heap) (I : InstAt s.heap x ox C od) (hb : Looks (model prog w) s.heap (typeOf b) tb) (hn : notFirst K C tb = true)
    (hne : findIn K (.ref C) "__ne__" = some (some (.builtin "object.__ne__"))) (hs : findIn K (.ref C) "__eq__" = some (some (.ref f))) (hf : isFn K (.ref f) = true) (hm : mroIn K C (.type "object") = some true)
    (h : wpAny (model prog w) A.in1 (call (.ref f) [.ref x, b]) (fun v s' => ∃ k, v = .bool k ∧ Q (.bool (!k)) s') E s) :
    wpAny (model prog w) A (richCompare .NotEq (.ref x) b) Q E s := by
  have one : wpAny (model prog w) A (tryCompare (.ref x) "__ne__" b) (fun r s' => ∃ v, r = some v ∧ Q v s') E s := by
    unfold tryCompare
    refine wpAny_bind ?_
    simp only [callSpecialIfBound?, bindSpecialIfBound?]
    refine wpAny_holding (wpAny_bind (wpAny_bind (wpAny_bind (I.type.here ((looks_findIn X hne).here ?_)))))
    have sl : Slot "object" "__ne__" "object.__ne__" := F.cmp_object.ne
    have body : wpAny (model prog w) A (call (.builtin "object.__ne__") ([.ref x] ++ [b]) >>= fun v => pure (some v)) (fun a s => wpAny (model prog w) A (match a with
        | some .notImplemented | none => pure none
        | some v => pure (some v)) (fun r s' => ∃ v, r = some v ∧ Q v s') E s) E s := by
      refine wpAny_bind (wpAny_call (codeAny_call_builtin sl.plain F.cmpEntry_ne (check_slot F.cmpKind_ne F.cmpSplit_ne (I.type.andThen (looks_mroIn X hm)) (F.cmpArgs_ne _ _) (dl_ne_body (A := A.in1) hu X I hs hf (wpAny_mono h (fun v s' hv => ?_) fun _ _ e => e)))))
      obtain ⟨k, rfl, hq⟩ := hv
      exact ⟨k, rfl, wpAny_pure (wpAny_pure ⟨_, rfl, hq⟩)⟩
    refine wpAny_bind (wpAny_askSetting (wpAny_ite ?_))
    rw [sl.bind]
    split
    · exact wpAny_pure body
    · exact wpAny_tryCatch (wpAny_pure body)
  unfold richCompare
  simp only [oneThing_ref]
  refine wpAny_holding (wpAny_bind (wpAny_cRoomFor (Nat.lt_of_succ_lt hu) ?_))
  refine wpAny_bind (I.type.here (wpAny_bind (hb.here ?_)))
  have fin : ∀ {r : Option Value} {s' : Shared} {t : Sem Value}, (∃ v, r = some v ∧ Q v s') → wpAny (model prog w) A (match r with
      | some v => pure v
      | none => t) Q E s' := fun {r s' t} z => by
    obtain ⟨v, rfl, hq⟩ := z
    exact wpAny_pure hq
  split
  · rename_i q
    have e : subIn K tb (.ref C) = some false := (Bool.or_eq_true_iff.mp hn).elim (fun e => by rw [beq_iff_eq.mp e] at q; simp at q) fun e => beq_iff_eq.mp e
    refine wpAny_bind ((looks_subIn X e).here ?_)
    simp only [Bool.false_eq_true, if_false]
    exact wpAny_bind (wpAny_mono one (fun r s' z => by obtain ⟨v, rfl, hq⟩ := z; exact wpAny_pure hq) fun _ _ e => e)
  · refine wpAny_bind (wpAny_pure ?_)
    simp only [Bool.false_eq_true, if_false]
    exact wpAny_bind (wpAny_mono one (fun r s' z => by obtain ⟨v, rfl, hq⟩ := z; exact wpAny_pure hq) fun _ _ e => e)
/-- repr(x), x with a __repr__ of its class -/
theorem dl_repr {Q : Value → Shared → Prop} (hu : A.in1.units < cLine) (X : K.In s.heap) (I : InstAt s.heap x ox C od) (hs : findIn K (.ref C) "__repr__" = some (some (.ref f))) (hf : isFn K (.ref f) = true)
    (h : wpAny (model prog w) A.in1 (call (.ref f) [.ref x]) (fun v s' => ∃ m tk, v = .str m tk ∧ Q (.str m tk) s') E s) :
    wpAny (model prog w) A (call (.builtin "repr") [.ref x]) Q E s := by
  refine Calls.call_function_entry F.kind_repr F.plain_repr F.entry_repr (F.args_repr1 _) ?_
  unfold Builtin.«repr»
  refine wpAny_bind (m := oneArg "repr" _) (wpAny_pure (wpAny_bind (wpAny_cRoomFor hu ?_)))
  refine wpAny_bind (m := specialOf (.ref x) "__repr__") (wpAny_bind (I.type.here ((looks_findIn X hs).here ?_)))
  show wpAny _ _ (if (some (Value.ref f)).isNone = true then _ else _) _ _ _
  rw [if_neg (by simp)]
  refine wpAny_bind (m := callSpecialIfBound? (.ref x) (Str.ofString "__repr__") _) (ifBound_K X I hs hf (wpAny_mono h (fun v s' hv => ?_) fun _ _ y => y))
  obtain ⟨m, tk, rfl, hq⟩ := hv
  refine wpAny_bind (wpAny_isInstance (typeIs_str _ _ _) isSubtype_str_str ?_)
  first
    | exact wpAny_pure ⟨_, rfl, hq⟩
    | (rw [if_pos rfl]; exact wpAny_pure ⟨_, rfl, hq⟩)
    | (simp only [if_true]; exact wpAny_pure ⟨_, rfl, hq⟩)
end
end PySem.W

namespace DL
open PySem L2

/-! ### kinds, isinstance -/
inductive Kd where
  | non | bl | int | str | lst | tup | dct | obj (C : Addr)
inductive Bt where
  | int | str | list | tuple | dict | bool
def Bt.name : Bt → String
  | .int => "int" | .str => "str" | .list => "list" | .tuple => "tuple" | .dict => "dict" | .bool => "bool"
def Kd.ty : Kd → Value
  | .non => .type "NoneType" | .bl => .type "bool" | .int => .type "int" | .str => .type "str" | .lst => .type "list" | .tup => .type "tuple" | .dct => .type "dict" | .obj C => .ref C
def kindD : D → Option Kd
  | .non => some .non | .bl _ => some .bl | .int _ => some .int | .str _ => some .str | .lst _ => some .lst | .kl _ => some .lst | .tup _ => some .tup | .dK _ => some .dct | .obj C _ => some (.obj C) | _ => none
def isK : Bt → Kd → Bool
  | .int, .int => true | .int, .bl => true | .bool, .bl => true | .str, .str => true | .list, .lst => true | .tuple, .tup => true | .dict, .dct => true | _, _ => false
structure InsT (K : PySem.W.Frag) (C : Addr) : Prop where
  cl : Cls K C
  ha : PySem.W.findIn K (.ref C) "__class__" = some (some (.builtin "object.__class__"))
  hn : PySem.W.specialIn K (.builtin "object.__class__") "__get__" = some (some (.builtin "getset_descriptor.__get__"))
  htk : PySem.W.takesIn K (.builtin "object.__class__") = some true
  hm : PySem.W.mroIn K C (.type "object") = some true
  kit : ∀ b : Bt, PySem.W.kitOne K (.ref C) (.type b.name) = some false
def kindIn (Cs : List Addr) (d : D) : Option Kd := match kindD d with
  | some (.obj C) => if C ∈ Cs then some (.obj C) else none
  | k => k
def isB (Cs : List Addr) (b : Bt) (d : D) : Option D := (kindIn Cs d).map fun k => .bl (isK b k)
def isOb (C : Addr) : Kd → Bool
  | .obj C' => C' == C
  | _ => false
def isO (Cs : List Addr) (C : Addr) (d : D) : Option D := (kindIn Cs d).map fun k => .bl (isOb C k)
section
variable {K : PySem.W.Frag} {G H : Hp} {v : V} {d : D} {k : Kd} {Cs : List Addr}
theorem kind_ty (g : Same G H) (hC : ∀ C ∈ Cs, InsT K C) (e : kindIn Cs d = some k) (r : Rp K G H d v) : TyX K H v k.ty := by
  unfold kindIn kindD at e
  cases d with
  | non => cases e; rw [r.non]; exact .base .non
  | bl b => cases e; rw [r.bl]; exact .base (.bl _)
  | int i => cases e; rw [r.int]; exact .base (.int _)
  | str x => cases e; rw [r.str]; exact .base (.str _)
  | lst xs =>
    cases e
    obtain ⟨a, vs, rfl, ha, _⟩ := r.lst g
    exact .base (.lst ha)
  | kl xs =>
    cases e
    obtain ⟨a, vs, rfl, ha, _⟩ := r.kl g
    rcases ha with (ha | ⟨o, ha⟩) | ⟨o, its, n, e, hc, _⟩
    · exact .base (.lst ha)
    · exact .base (.frz ha)
    · exact .kList e hc
  | tup xs =>
    cases e
    obtain ⟨a, vs, rfl, ha, _⟩ := r.tup g
    rcases ha with (ha | ⟨o, ha⟩) | ⟨o, its, n, e, hc, _⟩
    · exact .base (.tup ha)
    · exact .fTuple ha
    · exact .kTuple e hc
  | dK kv =>
    cases e
    obtain ⟨a, vs, rfl, ha, _⟩ := r.dK g
    rcases ha with ha | ⟨o, ha⟩
    · exact .base (.dK ha)
    · exact .fDict ha
  | obj C fs =>
    dsimp only at e
    by_cases c : C ∈ Cs
    · rw [if_pos c] at e
      cases e
      obtain ⟨a, dx, fv, rfl, ha, _⟩ := r.obj g
      have t := hC C c
      exact .base (.ins ha t.cl t.ha t.hn t.htk t.hm)
    · rw [if_neg c] at e; cases e
  | _ => cases e
theorem kind_mem {C : Addr} (e : kindIn Cs d = some (.obj C)) : C ∈ Cs := by
  unfold kindIn at e
  split at e
  · rename_i C' h
    by_cases c : C' ∈ Cs
    · rw [if_pos c] at e; cases e; exact c
    · rw [if_neg c] at e; cases e
  · rename_i h
    exact absurd e (h C)
theorem kitB_int {a : String} {r : Bool} (h : kitB a "int" = some r) : PySem.W.kitOne K (.type a) (.type (Bt.name .int)) = some r := kit_ty h
theorem kit_k (hC : ∀ C ∈ Cs, InsT K C) (e : kindIn Cs d = some k) (b : Bt) : PySem.W.kitOne K k.ty (.type b.name) = some (isK b k) := by
  cases k with
  | obj C =>
    rw [show Kd.ty (.obj C) = .ref C from rfl, (hC C (kind_mem e)).kit b]
    cases b <;> rfl
  | _ => cases b <;> exact kit_ty (by decide +kernel)
def rIsi1 (K : PySem.W.Frag) (c : V) : V → Hp → VK → Prop := fun x H Q => ∃ (t u : Value) (b : Bool), ClsV c u ∧ TyX K H x t ∧ PySem.W.kitOne K t u = some b ∧ Q (.bl b) H
/-- a class of one's own, asked for -/
structure AskT (K : PySem.W.Frag) (Cs : List Addr) (C : Addr) : Prop where
  isC : ((PySem.W.clsIn K C).isSome && PySem.W.typeIn K (.ref C) == some (.type "type")) = true
  no : ∀ C' ∈ Cs, C' ≠ C → PySem.W.kitOne K (.ref C') (.ref C) = some false
theorem mro_ref (k : Kd) (C : Addr) : (∃ C', k = .obj C') ∨ ∃ T, k.ty = .type T ∧ (PySem.fastBuiltinMro T).map (·.contains (Value.ref C)) = some false := by
  cases k with
  | obj C' => exact .inl ⟨C', rfl⟩
  | non => exact .inr ⟨_, rfl, by rw [show PySem.fastBuiltinMro "NoneType" = some [.type "NoneType", .type "object"] by kernel_rfl]; rfl⟩
  | bl => exact .inr ⟨_, rfl, by rw [show PySem.fastBuiltinMro "bool" = some [.type "bool", .type "int", .type "object"] by kernel_rfl]; rfl⟩
  | int => exact .inr ⟨_, rfl, by rw [show PySem.fastBuiltinMro "int" = some [.type "int", .type "object"] by kernel_rfl]; rfl⟩
  | str => exact .inr ⟨_, rfl, by rw [show PySem.fastBuiltinMro "str" = some [.type "str", .type "object"] by kernel_rfl]; rfl⟩
  | lst => exact .inr ⟨_, rfl, by rw [show PySem.fastBuiltinMro "list" = some [.type "list", .type "object"] by kernel_rfl]; rfl⟩
  | tup => exact .inr ⟨_, rfl, by rw [show PySem.fastBuiltinMro "tuple" = some [.type "tuple", .type "object"] by kernel_rfl]; rfl⟩
  | dct => exact .inr ⟨_, rfl, by rw [show PySem.fastBuiltinMro "dict" = some [.type "dict", .type "object"] by kernel_rfl]; rfl⟩
theorem kit_ref {T : String} {C : Addr} (h : (PySem.fastBuiltinMro T).map (·.contains (Value.ref C)) = some false) {K : PySem.W.Frag} (isC : ((PySem.W.clsIn K C).isSome && PySem.W.typeIn K (.ref C) == some (.type "type")) = true) : PySem.W.kitOne K (.type T) (.ref C) = some false := by
  unfold PySem.W.kitOne
  rw [if_neg (by simp)]
  unfold PySem.W.kitCls
  dsimp only
  rw [if_pos isC]
  exact h
theorem kit_o {C : Addr} (hA : AskT K Cs C) (e : kindIn Cs d = some k) : PySem.W.kitOne K k.ty (.ref C) = some (isOb C k) := by
  rcases mro_ref k C with ⟨C', rfl⟩ | ⟨T, h1, h2⟩
  · by_cases c : C' = C
    · subst c
      show PySem.W.kitOne K (.ref C') (.ref C') = some (C' == C')
      unfold PySem.W.kitOne
      rw [if_pos (by simp)]
      simp
    · show PySem.W.kitOne K (.ref C') (.ref C) = some (C' == C)
      rw [hA.no C' (kind_mem e) c]
      simpa using c
  · rw [h1, kit_ref h2 hA.isC]
    cases k <;> first | rfl | cases h1
end
section
variable {X : Cx} {F : Fr} {W : WX} {q : Bool} {Cs : List Addr} {C : Addr} {e : Expr} {x y : Str} {pos p p2 : Pos} {m : M D}
theorem de_isB (b : Bt) (hC : ∀ C ∈ Cs, InsT X.K C) (he : PE X e (tM X.K F W q (RPk X.K) m)) (hg : Gl X "isinstance") (hm : X.mg "isinstance" = none) (hg2 : Gl X y) (hm2 : X.mg y = none) (hv2 : bootBuiltins y = some (.type b.name) := by decide +kernel) (hn2 : y ≠ "__name__" := by decide) (hd2 : (y == ("__debug__" : Str)) = false := by decide)
    (hb1 : starEach [.Name y p2] X.env = (false, eval (.Name y p2) X.env) :: starEach [] X.env := by rfl) (hs : starEach [e, .Name y p2] X.env = (false, eval e X.env) :: starEach [.Name y p2] X.env := by rfl) (hpl : (backTo pos (starEach [.Name y p2] X.env)).any (·.1) = false := by rfl) :
    PE X (.Call (.Name "isinstance" p) [e, .Name y p2] [] pos) (tM X.K F W q (RSh X.K) (unM (isB Cs b) m)) :=
  PE_mono (pe_callB call_isi hg hm (by decide +kernel) (pa_cons he (pa_cons (pe_bltn (v := .ty b.name) hg2 hm2 hv2 rfl hn2 hd2) pa_nil hb1) hs) (by decide) (by decide) hs hpl) fun σ H Q h => bind_of (q2 := true) (R1 := RPk X.K) (fun z => ⟨z, rfl⟩) h fun d st1 G1 fpf1 v H1 S1 r1 A1 => by
    unfold lift isB at A1
    cases w : kindIn Cs d with
    | none => rw [w] at A1; exact A1.elim
    | some k =>
      rw [w] at A1
      exact ⟨v, .ty b.name, k.ty, .type b.name, isK b k, rfl, .ty _, kind_ty S1.gh hC w r1, kit_k hC w b, A1.done S1 (Rep.bl _)⟩
theorem de_isO (hC : ∀ C ∈ Cs, InsT X.K C) (hA : AskT X.K Cs C) (he : PE X e (tM X.K F W q (RPk X.K) m)) (hg : Gl X "isinstance") (hm : X.mg "isinstance" = none) (hg2 : Gl X y) (hm2 : X.mg y = some (.ref C)) (hd2 : (y == ("__debug__" : Str)) = false := by decide)
    (hb1 : starEach [.Name y p2] X.env = (false, eval (.Name y p2) X.env) :: starEach [] X.env := by rfl) (hs : starEach [e, .Name y p2] X.env = (false, eval e X.env) :: starEach [.Name y p2] X.env := by rfl) (hpl : (backTo pos (starEach [.Name y p2] X.env)).any (·.1) = false := by rfl) :
    PE X (.Call (.Name "isinstance" p) [e, .Name y p2] [] pos) (tM X.K F W q (RSh X.K) (unM (isO Cs C) m)) :=
  PE_mono (pe_callB call_isi hg hm (by decide +kernel) (pa_cons he (pa_cons (pe_glob (v := .ref C) hg2 hm2 rfl hd2) pa_nil hb1) hs) (by decide) (by decide) hs hpl) fun σ H Q h => bind_of (q2 := true) (R1 := RPk X.K) (fun z => ⟨z, rfl⟩) h fun d st1 G1 fpf1 v H1 S1 r1 A1 => by
    unfold lift isO at A1
    cases w : kindIn Cs d with
    | none => rw [w] at A1; exact A1.elim
    | some k =>
      rw [w] at A1
      exact ⟨v, .ref C, k.ty, .ref C, isOb C k, rfl, .own _, kind_ty S1.gh hC w r1, kit_o hA w, A1.done S1 (Rep.bl _)⟩
end

/-! ### == and != by an own __eq__, repr by an own __repr__ -/
structure EqT (K : PySem.W.Frag) (Cs : List Addr) (C f : Addr) : Prop where
  eq : PySem.W.findIn K (.ref C) "__eq__" = some (some (.ref f))
  fn : PySem.W.isFn K (.ref f) = true
  nf : ∀ C' ∈ C :: Cs, PySem.W.notFirst K C (.ref C') = true
theorem nf_kind {K : PySem.W.Frag} {Cs : List Addr} {C f : Addr} {d : D} {k : Kd} (t : EqT K Cs C f) (e : kindIn Cs d = some k) : PySem.W.notFirst K C k.ty = true := by
  rcases mro_ref k C with ⟨C', rfl⟩ | ⟨T, h1, h2⟩
  · exact t.nf C' (List.mem_cons_of_mem _ (kind_mem e))
  · rw [h1]
    unfold PySem.W.notFirst
    rw [show PySem.W.subIn K (.type T) (.ref C) = some false from h2]
    simp
def rOwn2 (K : PySem.W.Frag) (C : Addr) (sp : Sp) (g : Bool → Bool) : R2 := fun x y H Q => ∃ a dx fs t, x = .ref a ∧ H a = some (.ins C dx fs) ∧ TyX K H y t ∧ PySem.W.notFirst K C t = true ∧ sp [x, y] H (fun v H' => ∃ k, v = .bl k ∧ Q (.bl (g k)) H') E0
section
variable {X : Cx} {Cs : List Addr} {C f : Addr} {k : Nat} {fd : FuncData} {ps : List Str} {sp : Sp}
/-- a def without exceptions, in a room further in -/
theorem run0 {pins : List (Addr × Obj)} {σ : St} {H : Hp} {s : Shared} {Q : VK} {us : List Value} {vs : List V} {A : Around} (F0 : FnOk X.prog X.w X.K X.mg X.base (CX X.prog X.w) k f fd ps sp) (hr : Room k A) (hA : A.frames = X.A.frames) (hb : Binds X.K fd ps []) (I : Inv X pins σ H s) (r : Vals vs us) (h : sp vs H Q E0) :
    wpAny (model X.prog X.w) A (call (.ref f) us) (EP X pins σ Q) X.xe s := by
  have e := I.env0
  have F := F0.raw hb (dvs := []) .nil
  refine wpAny_call (codeAny_mono (F A X.stack s H us vs Q E0 hr ⟨hA.trans e.frames, e.mod, e.bs, e.bsz, e.funs, e.frf, e.hok, e.bare⟩ r (by show sp (vs ++ []) H Q E0; rw [List.append_nil]; exact h)) fun r s' z => ?_)
  match r, z with
  | .error e, z => exact False.elim (passL (X := X.nox) pins σ H s e s' (I.wish _) z)
  | .ok (.ret u), z => exact I.after z
  | .ok .next, z => exact z.elim
  | .ok .brk, z => exact z.elim
  | .ok .cont, z => exact z.elim
theorem op_eqO (t : EqT X.K Cs C f) (F0 : FnOk X.prog X.w X.K X.mg X.base (CX X.prog X.w) k f fd ps sp) (hr : Room (k + 1) X.A) (hb : Binds X.K fd ps []) : OpR X (compareOp .Eq) (rOwn2 X.K C sp id) := by
  intro pins s σ H x y u v Q I rx ry h
  obtain ⟨a, dx, fs, ty, rfl, ha, hy, hn, h⟩ := h
  cases (show u = Value.ref a from rx)
  obtain ⟨P, Z, p, _⟩ := kit_of I ry hy
  obtain ⟨mA, O, _⟩ := ins_get I.hok ha
  obtain ⟨od, J, _⟩ := O.look
  obtain ⟨m, hF⟩ := I.fr
  show wpAny _ _ (richCompare .Eq (.ref a) v) _ _ s
  refine PySem.W.cmp_K (op := .Eq) hr.units0 hF I.ok.mod.kin J (Z.ty _ _ I.kIn p) hn t.eq t.fn ?_
  refine wpAny_mono (run0 F0 (hr.mono (Nat.le_succ k)) rfl hb I (us := [.ref a, v]) (vs := [.ref a, y]) (.cons rfl (.cons ry .nil)) h) (fun w s' z => ?_) fun _ _ z => z
  obtain ⟨v', H', I', rv, k', ev, q⟩ := z
  cases ev
  cases (show w = Value.bool k' from rv)
  exact ⟨.bl k', H', I', rfl, q⟩
theorem op_neO (t : EqT X.K Cs C f) (hne : PySem.W.findIn X.K (.ref C) "__ne__" = some (some (.builtin "object.__ne__"))) (hm : PySem.W.mroIn X.K C (.type "object") = some true) (F0 : FnOk X.prog X.w X.K X.mg X.base (CX X.prog X.w) k f fd ps sp) (hr : Room (k + 1) X.A) (hb : Binds X.K fd ps []) :
    OpR X (compareOp .NotEq) (rOwn2 X.K C sp not) := by
  intro pins s σ H x y u v Q I rx ry h
  obtain ⟨a, dx, fs, ty, rfl, ha, hy, hn, h⟩ := h
  cases (show u = Value.ref a from rx)
  obtain ⟨P, Z, p, _⟩ := kit_of I ry hy
  obtain ⟨mA, O, _⟩ := ins_get I.hok ha
  obtain ⟨od, J, _⟩ := O.look
  show wpAny _ _ (richCompare .NotEq (.ref a) v) _ _ s
  refine PySem.W.dl_ne (by have := hr.units; omega) I.kIn J (Z.ty _ _ I.kIn p) hn hne t.eq t.fn hm ?_
  refine wpAny_mono (run0 F0 hr.in1 rfl hb I (us := [.ref a, v]) (vs := [.ref a, y]) (.cons rfl (.cons ry .nil)) h) (fun w s' z => ?_) fun _ _ z => z
  obtain ⟨v', H', I', rv, k', ev, q⟩ := z
  cases ev
  cases (show w = Value.bool k' from rv)
  exact ⟨k', rfl, .bl (!k'), H', I', rfl, q⟩
def rReprO (C : Addr) (sp : Sp) : List V → Hp → VK → Prop := fun xs H Q => ∃ a dx fs, xs = [.ref a] ∧ H a = some (.ins C dx fs) ∧ sp [.ref a] H (fun v H' => ∃ m, v = .str m ∧ Q (.str m) H') E0
theorem call_reprO (hs : PySem.W.findIn X.K (.ref C) "__repr__" = some (some (.ref f))) (hf : PySem.W.isFn X.K (.ref f) = true) (F0 : FnOk X.prog X.w X.K X.mg X.base (CX X.prog X.w) k f fd ps sp) (hr : Room (k + 1) X.A) (hb : Binds X.K fd ps []) : CallR X (.builtin "repr") (rReprO C sp) := by
  intro pins s σ H xs us Q I r h
  obtain ⟨a, dx, fs, rfl, ha, h⟩ := h
  cases r with
  | cons r1 r2 =>
    cases r2
    cases r1
    obtain ⟨mA, O, _⟩ := ins_get I.hok ha
    obtain ⟨od, J, _⟩ := O.look
    refine PySem.W.dl_repr (by have := hr.in1.units0; exact this) I.kIn J hs hf ?_
    refine wpAny_mono (run0 F0 hr.in1 rfl hb I (us := [.ref a]) (vs := [.ref a]) (.cons rfl .nil) h) (fun w s' z => ?_) fun _ _ z => z
    obtain ⟨v', H', I', rv, m, ev, q⟩ := z
    cases ev
    obtain ⟨tk, rfl⟩ := (show ∃ tk, w = Value.str m tk from rv)
    exact ⟨m, tk, rfl, .str m, H', I', ⟨_, rfl⟩, q⟩
end
/-- x == y, x != y: the left one of the class C -/
def kindAt (Cs : List Addr) (a : AV) : M Unit := fun st => match a with
  | .d d => match kindIn Cs d with
    | some _ => .ok () st
    | none => .stuck
  | .m i => match st[i]? with
    | some (some (Slot.ow _ d)) => match kindIn Cs d with
      | some _ => .ok () st
      | none => .stuck
    | _ => .stuck
def cmpO (neg : Bool) (Cs : List Addr) (C : Addr) (mu : List Bool) (fn : FD) (ma mb : M AV) : M D :=
  bnd ma fun a => bnd mb fun b => bnd (chkO C Str.empty a) fun _ => bnd (kindAt Cs b) fun _ => bnd (noErr (callQ mu fn [a, b])) fun r => match r with
    | .bl k => ret (.bl (neg != k))
    | _ => stuckM
def reprO (C : Addr) (mu : List Bool) (fn : FD) (ma : M AV) : M D :=
  bnd ma fun a => bnd (chkO C Str.empty a) fun _ => bnd (noErr (callQ mu fn [a])) fun r => match r with
    | .str k => ret (.str k)
    | _ => stuckM
section
variable {X : Cx} {F : Fr} {W : WX} {q1 q2 : Bool} {Cs : List Addr} {C f : Addr} {k : Nat} {fd : FuncData} {ps : List Str} {mu : List Bool} {fn : FD} {a b e : Expr} {ma mb : M AV} {pos p : Pos}
theorem kindAt_of {K : PySem.W.Frag} {α ρ : Type} {q : Bool} {R : Rl α ρ} {a : AV} {v : V} {m : M α} {st : DSt} {G H : Hp} {fpf : Nat → List Addr} {σ : St} {Q : ρ → Hp → Prop} (hC : ∀ C ∈ Cs, InsT K C)
    (S : Sync K F G fpf σ H st) (r : AvR K G σ a v) (A : At K F W q R (bnd (kindAt Cs a) (fun _ => m) st) st G fpf σ H Q) :
    (∃ d k, kindIn Cs d = some k ∧ TyX K H v k.ty) ∧ At K F W q R (m st) st G fpf σ H Q := by
  unfold bnd kindAt at A
  cases a with
  | d d =>
    dsimp only at A
    cases e : kindIn Cs d with
    | none => rw [e] at A; exact A.elim
    | some k => rw [e] at A; exact ⟨⟨d, k, e, kind_ty S.gh hC e (.rep r)⟩, A⟩
  | m i =>
    dsimp only at A
    cases h : st[i]? with
    | none => rw [h] at A; exact A.elim
    | some s =>
      cases s with
      | none => rw [h] at A; exact A.elim
      | some s =>
        cases s with
        | sh d => rw [h] at A; exact A.elim
        | ow mu d =>
          rw [h] at A
          dsimp only at A
          obtain ⟨c, e1, ow, _⟩ := S.ow i mu d h
          have r' : σ[i]? = some (some v) := r
          rw [e1] at r'
          cases r'
          cases e : kindIn Cs d with
          | none => rw [e] at A; exact A.elim
          | some k => rw [e] at A; exact ⟨⟨d, k, e, kind_ty S.gh hC e (.own ow)⟩, A⟩
theorem cmp_at {K : PySem.W.Frag} {neg : Bool} {σ : St} {H : Hp} {Q : VK} (hC : ∀ C ∈ Cs, InsT K C) (t : EqT K Cs C f) (h : tM K F W false (RSh K) (cmpO neg Cs C mu fn ma mb) σ H Q) :
    tOp (rOwn2 K C (spD K mu fn) fun k => neg != k) (tAv K F W q1 ma) (tAv K F W q2 mb) σ H Q := by
  refine bind_of (q2 := false) (R1 := fun G _ _ _ a v => AvR K G σ a v) nq h fun a st1 G1 fpf1 v H1 S1 r1 A1 => ?_
  refine ⟨st1, G1, fpf1, S1, A1.bndK (q1 := q2) (q2 := false) (R1 := fun G _ _ _ a v => AvR K G σ a v) nq fun b st2 G2 fpf2 u H2 g2 S2 z2 e2 r2 A2 => ?_⟩
  obtain ⟨⟨p, dx, fv, rfl, h1, _⟩, A3⟩ := chk_of S2 (r1.mono g2) A2
  obtain ⟨⟨d, k, hk, ty⟩, A4⟩ := kindAt_of hC S2 r2 A3
  refine ⟨p, dx, fv, k.ty, rfl, h1, ty, nf_kind t hk, ?_⟩
  refine callQ_at (F := F) (W := fun _ _ _ _ => False) (σ := σ) S2 (AvA.cons (r1.mono g2) (AvA.cons r2 .nil)) ?_
  refine noErr_at (W := W) (A4.bndK (q1 := false) (q2 := false) (R1 := RSh K) nq fun r st3 G3 fpf3 w H3 g3 S3 z3 e3 r3 A5 => ?_)
  cases r with
  | bl k => exact ⟨k, (Rp.rep (H := H3) r3).bl, A5.done S3 (Rep.bl _)⟩
  | _ => exact A5.elim
theorem de_eqO (hC : ∀ C ∈ Cs, InsT X.K C) (t : EqT X.K Cs C f) (F0 : FnOk X.prog X.w X.K X.mg X.base (CX X.prog X.w) k f fd ps (spD X.K mu fn)) (hr : Room (k + 1) X.A) (hb : Binds X.K fd ps []) (ha : PE X a (tAv X.K F W q1 ma)) (hb' : PE X b (tAv X.K F W q2 mb)) (hm : behindInMarks .Eq b = false := by rfl) :
    PE X (.Compare a [.Eq] [b] pos) (tM X.K F W false (RSh X.K) (cmpO false Cs C mu fn ma mb)) :=
  PE_mono (pe_cmpR (op_eqO t F0 hr hb) ha hb' hm) fun σ H Q h => by rw [show (id : Bool → Bool) = fun k => false != k by funext k; cases k <;> rfl]; exact cmp_at (neg := false) hC t h
theorem de_neO (hC : ∀ C ∈ Cs, InsT X.K C) (t : EqT X.K Cs C f) (hne : PySem.W.findIn X.K (.ref C) "__ne__" = some (some (.builtin "object.__ne__"))) (hmo : PySem.W.mroIn X.K C (.type "object") = some true) (F0 : FnOk X.prog X.w X.K X.mg X.base (CX X.prog X.w) k f fd ps (spD X.K mu fn)) (hr : Room (k + 1) X.A) (hb : Binds X.K fd ps []) (ha : PE X a (tAv X.K F W q1 ma)) (hb' : PE X b (tAv X.K F W q2 mb)) (hm : behindInMarks .NotEq b = false := by rfl) :
    PE X (.Compare a [.NotEq] [b] pos) (tM X.K F W false (RSh X.K) (cmpO true Cs C mu fn ma mb)) :=
  PE_mono (pe_cmpR (op_neO t hne hmo F0 hr hb) ha hb' hm) fun σ H Q h => by rw [show not = fun k => true != k by funext k; cases k <;> rfl]; exact cmp_at (neg := true) hC t h
theorem dt_eqO (hC : ∀ C ∈ Cs, InsT X.K C) (t : EqT X.K Cs C f) (F0 : FnOk X.prog X.w X.K X.mg X.base (CX X.prog X.w) k f fd ps (spD X.K mu fn)) (hr : Room (k + 1) X.A) (hb : Binds X.K fd ps []) (ha : PE X a (tAv X.K F W q1 ma)) (hb' : PE X b (tAv X.K F W q2 mb)) (hm : behindInMarks .Eq b = false := by rfl) :
    PT X (.Compare a [.Eq] [b] pos) (tM X.K F W false REq (testM (cmpO false Cs C mu fn ma mb))) :=
  PT_mono (pt_cmpR (op_eqO t F0 hr hb) ha hb' hm) fun σ H Q h => by rw [show (id : Bool → Bool) = fun k => false != k by funext k; cases k <;> rfl]; exact cmp_at (neg := false) hC t (test_of h)
theorem dt_neO (hC : ∀ C ∈ Cs, InsT X.K C) (t : EqT X.K Cs C f) (hne : PySem.W.findIn X.K (.ref C) "__ne__" = some (some (.builtin "object.__ne__"))) (hmo : PySem.W.mroIn X.K C (.type "object") = some true) (F0 : FnOk X.prog X.w X.K X.mg X.base (CX X.prog X.w) k f fd ps (spD X.K mu fn)) (hr : Room (k + 1) X.A) (hb : Binds X.K fd ps []) (ha : PE X a (tAv X.K F W q1 ma)) (hb' : PE X b (tAv X.K F W q2 mb)) (hm : behindInMarks .NotEq b = false := by rfl) :
    PT X (.Compare a [.NotEq] [b] pos) (tM X.K F W false REq (testM (cmpO true Cs C mu fn ma mb))) :=
  PT_mono (pt_cmpR (op_neO t hne hmo F0 hr hb) ha hb' hm) fun σ H Q h => by rw [show not = fun k => true != k by funext k; cases k <;> rfl]; exact cmp_at (neg := true) hC t (test_of h)
theorem de_reprO (hs : PySem.W.findIn X.K (.ref C) "__repr__" = some (some (.ref f))) (hf : PySem.W.isFn X.K (.ref f) = true) (F0 : FnOk X.prog X.w X.K X.mg X.base (CX X.prog X.w) k f fd ps (spD X.K mu fn)) (hr : Room (k + 1) X.A) (hb : Binds X.K fd ps []) (ha : PE X e (tAv X.K F W q1 ma)) (hg : Gl X "repr") (hm : X.mg "repr" = none)
    (he : starEach [e] X.env = (false, eval e X.env) :: starEach [] X.env := by rfl) (hpl : (backTo pos (starEach [] X.env)).any (·.1) = false := by rfl) : PE X (.Call (.Name "repr" p) [e] [] pos) (tM X.K F W false (RSh X.K) (reprO C mu fn ma)) :=
  PE_mono (pe_callB (call_reprO hs hf F0 hr hb) hg hm (by decide +kernel) (pa_cons ha pa_nil he) (by decide) (by decide) he hpl) fun σ H Q h => bind_of (q2 := false) (R1 := fun G _ _ _ a v => AvR X.K G σ a v) nq h fun a st1 G1 fpf1 v H1 S1 r1 A1 => by
    obtain ⟨⟨p, dx, fv, rfl, h1, _⟩, A3⟩ := chk_of S1 r1 A1
    refine ⟨p, dx, fv, rfl, h1, callQ_at (F := F) (W := fun _ _ _ _ => False) (σ := σ) S1 (AvA.cons r1 .nil) ?_⟩
    refine noErr_at (W := W) (A3.bndK (q1 := false) (q2 := false) (R1 := RSh X.K) nq fun r st3 G3 fpf3 w H3 g3 S3 z3 e3 r3 A5 => ?_)
    cases r with
    | str k => exact ⟨k, (Rp.rep (H := H3) r3).str, A5.done S3 (Rep.str _)⟩
    | _ => exact A5.elim
end
end DL

namespace DL
open PySem L2

/-! ### a text walked; chained comparisons; join; f-strings -/
theorem itr_str {K : PySem.W.Frag} {G : Hp} {x : Str} : ItR K (Its x) G (strD x) := fun G2 H2 g1 g2 i => by
  refine ⟨fun d hd => ?_, fun hn => ?_⟩
  · unfold strD at hd
    rw [List.getElem?_map, Option.map_eq_some_iff] at hd
    obtain ⟨c, hc, rfl⟩ := hd
    have hc' : x.cps[i]? = some c := by rw [← Array.getElem?_toList]; exact hc
    refine ⟨(Array.getElem?_eq_some_iff.mp hc').1, fun v H3 y => ?_⟩
    obtain ⟨rfl, c', e, rfl⟩ := y
    rw [hc'] at e
    cases e
    exact .inl ⟨rfl, .str _⟩
  · have := List.getElem?_eq_none_iff.mp hn
    unfold strD at this
    rw [List.length_map, Array.length_toList] at this
    exact this
def strM' (m : M D) : M (List D) := bnd m fun d => match d with
  | .str x => ret (strD x)
  | _ => stuckM
theorem di_str {X : Cx} {F : Fr} {W : WX} {q : Bool} {tg e : Expr} {m : M D} (h : PE X e (tM X.K F W q (RSh X.K) m)) : PI X tg e (tI X.K F W (strM' m)) :=
  PI_mono (pi_str h) fun σ H R z => di_of (RR := RSh X.K) z fun d st1 G1 fpf1 v H1 S1 r1 A1 => by
    cases d with
    | str x => exact ⟨x, (Rp.rep (H := H1) r1).str, A1 _ H1 G1 fpf1 (Same.refl G1) S1 itr_str⟩
    | _ => exact A1.elim
def chainM (g g' : D → D → Option D) (ma mb mc : M D) : M D := bnd ma fun x => bnd mb fun y => bnd (lift (g x y)) fun z => match z with
  | .bl true => bnd mc fun w => lift (g' y w)
  | .bl false => ret (.bl false)
  | _ => stuckM
theorem chain_of {K : PySem.W.Frag} {F : Fr} {W : WX} {r r' : R2} {g g' : D → D → Option D} {ma mb mc : M D} {q1 q2 q3 : Bool} {σ : St} {H : Hp} {Q : VK} (hs : OpS0 K r g) (hs' : OpS0 K r' g') (h : tM K F W (q1 && (q2 && q3)) (RSh K) (chainM g g' ma mb mc) σ H Q) :
    tChain r r' (tM K F W q1 (RSh K) ma) (tM K F W q2 (RSh K) mb) (tM K F W q3 (RPk K) mc) σ H Q := by
  refine bind_of (q2 := q2 && q3) (R1 := RSh K) (fun z => Bool.and_eq_true_iff.mp z) h fun x st1 G1 fpf1 v H1 S1 r1 A1 => ?_
  refine ⟨st1, G1, fpf1, S1, A1.bndK (q1 := q2) (q2 := q3) (R1 := RSh K) (fun z => Bool.and_eq_true_iff.mp z) fun y st2 G2 fpf2 u H2 g2 S2 z2 e2 r2 A2 => ?_⟩
  unfold bnd lift at A2
  cases w : g x y with
  | none => rw [w] at A2; exact A2.elim
  | some z =>
    rw [w] at A2
    refine hs S2.gh (.rep (Rep.mono g2 r1)) (.rep r2) w fun zv rz => ?_
    cases z with
    | bl k =>
      refine ⟨k, (Rp.rep (H := H2) rz).bl, ?_⟩
      cases k with
      | false => rw [if_neg Bool.false_ne_true]; exact A2.done S2 (Rep.bl false)
      | true =>
        rw [if_pos rfl]
        refine ⟨st2, G2, fpf2, S2, At.bndK (q1 := q3) (q2 := true) (R1 := RPk K) (fun z => ⟨z, rfl⟩) A2 fun d st3 G3 fpf3 t H3 g3 S3 z3 e3 r3 A3 => ?_⟩
        unfold lift at A3
        cases w' : g' y d with
        | none => rw [w'] at A3; exact A3.elim
        | some z' => rw [w'] at A3; exact hs' S3.gh (.rep (Rep.mono g3 r2)) r3 w' fun v' k => A3.end0 S3 k
    | _ => exact A2.elim
section
variable {X : Cx} {F : Fr} {W : WX} {q q1 q2 q3 : Bool} {a b c e o : Expr} {op op' : CmpOp} {r r' : R2} {g g' : D → D → Option D} {ma mb mc m : M D} {pos p apos : Pos}
theorem dt_chain (ho : OpR X (compareOp op) r) (hs : OpS0 X.K r g) (ho' : OpR X (compareOp op') r') (hs' : OpS0 X.K r' g') (ha : PE X a (tM X.K F W q1 (RSh X.K) ma)) (hb : PE X b (tM X.K F W q2 (RSh X.K) mb)) (hc : PE X c (tM X.K F W q3 (RPk X.K) mc)) (hm : lastMarks [op, op'] [b, c] = false := by with_unfolding_all rfl) :
    PT X (.Compare a [op, op'] [b, c] pos) (tM X.K F W (q1 && (q2 && q3)) REq (testM (chainM g g' ma mb mc))) :=
  PT_mono (pt_chain ho ho' ha hb hc hm) fun _ _ _ h => chain_of hs hs' (test_of h)
theorem de_chain (ho : OpR X (compareOp op) r) (hs : OpS0 X.K r g) (ho' : OpR X (compareOp op') r') (hs' : OpS0 X.K r' g') (ha : PE X a (tM X.K F W q1 (RSh X.K) ma)) (hb : PE X b (tM X.K F W q2 (RSh X.K) mb)) (hc : PE X c (tM X.K F W q3 (RPk X.K) mc)) (hm : lastMarks [op, op'] [b, c] = false := by with_unfolding_all rfl) :
    PE X (.Compare a [op, op'] [b, c] pos) (tM X.K F W (q1 && (q2 && q3)) (RSh X.K) (chainM g g' ma mb mc)) :=
  PE_mono (pe_chain ho ho' ha hb hc hm) fun _ _ _ h => chain_of hs hs' h
end
def asStrs : List D → Option (List Str)
  | [] => some []
  | .str i :: ds => (asStrs ds).map (i :: ·)
  | _ => none
theorem asStrs_map : ∀ ns : List Str, asStrs (ns.map .str) = some ns
  | [] => rfl
  | n :: ns => by show (asStrs (ns.map .str)).map (n :: ·) = _; rw [asStrs_map ns]; rfl
theorem asStrs_inv : ∀ {ds : List D} {ns : List Str}, asStrs ds = some ns → ds = ns.map .str
  | [], ns, h => by cases h; rfl
  | d :: ds, ns, h => by
    cases d <;> simp only [asStrs, reduceCtorEq] at h
    obtain ⟨ms, e, rfl⟩ := Option.map_eq_some_iff.mp h
    rw [asStrs_inv e]; rfl
def joinD (a : Str) : D → Option D
  | .lst ds => (asStrs ds).bind fun ys => if (ys.map (·.length)).sum + ys.length * a.length ≤ 16777216 then some (.str (Txt.join a ys)) else none
  | .tup ds => (asStrs ds).bind fun ys => if (ys.map (·.length)).sum + ys.length * a.length ≤ 16777216 then some (.str (Txt.join a ys)) else none
  | _ => none
/-- a text -/
def RStr : Rl Str V := fun _ _ _ _ a v => v = .str a
def asStrM (m : M D) : M Str := bnd m fun d => match d with
  | .str a => ret a
  | _ => stuckM
/-- a text or an int, as a text -/
def fmtM (m : M D) : M Str := bnd m fun d => match d with
  | .str a => if a.length ≤ 16777216 then ret a else stuckM
  | .int i => if i.natAbs.log2 < 1920 then ret (toString i : Str) else stuckM
  | _ => stuckM
def joinM (ma : M Str) (mb : M D) : M D := bnd ma fun a => bnd mb fun d => lift (joinD a d)
def fstrL : List (M Str) → Str → M D
  | [], acc => ret (.str acc)
  | m :: ms, acc => bnd m fun y => if (acc ++ y).length ≤ 16777216 then fstrL ms (acc ++ y) else stuckM
def fstrM (ms : List (M Str)) : M D := fstrL ms Str.empty
section
variable {X : Cx} {F : Fr} {W : WX} {q q1 q2 q3 : Bool} {a b c e o : Expr} {ma : M Str} {mb mc m : M D} {pos p apos cpos : Pos}
theorem dz_str (h : PE X e (tM X.K F W q (RSh X.K) m)) : PE X e (tM X.K F W q RStr (asStrM m)) := PE_mono h fun σ H Q z => bind_of (q2 := true) (R1 := RSh X.K) (fun y => ⟨y, rfl⟩) z fun d st1 G1 fpf1 v H1 S1 r1 A1 => by
  cases d with
  | str x => exact A1.done S1 (Rp.rep (H := H1) r1).str
  | _ => exact A1.elim
theorem dz_fmt (h : PE X e (tM X.K F W q (RSh X.K) m)) : PE X (.FormattedValue e (-1) none pos) (tM X.K F W q RStr (fmtM m)) := PE_mono (pe_fmt h) fun σ H Q z => bind_of (q2 := true) (R1 := RSh X.K) (fun y => ⟨y, rfl⟩) z fun d st1 G1 fpf1 v H1 S1 r1 A1 => by
  cases d with
  | str x =>
    dsimp only at A1
    by_cases c : x.length ≤ 16777216
    · rw [if_pos c] at A1
      exact .inl ⟨x, (Rp.rep (H := H1) r1).str, leLine c, A1.done S1 rfl⟩
    · rw [if_neg c] at A1; exact A1.elim
  | int i =>
    dsimp only at A1
    by_cases c : i.natAbs.log2 < 1920
    · rw [if_pos c] at A1
      exact .inr ⟨i, (Rp.rep (H := H1) r1).int, c, A1.done S1 rfl⟩
    · rw [if_neg c] at A1; exact A1.elim
  | _ => exact A1.elim
theorem de_join (ho : PE X o (tM X.K F W q1 RStr ma)) (he : PE X e (tM X.K F W q2 (RPk X.K) mb)) (hs : starEach [e] X.env = [(false, eval e X.env)] := by rfl) (hbase : attributeBase o "join" X.env (eval o X.env) = eval o X.env := by rfl) (hline : (apos.endLine == pos.line) = true := by rfl) :
    PE X (.Call (.Attribute o "join" apos) [e] [] pos) (tM X.K F W (q1 && q2) (RSh X.K) (joinM ma mb)) :=
  PE_mono (pe_join ho he hs hbase hline) fun σ H Q h => bind_of (q2 := q2) (R1 := RStr) (fun z => Bool.and_eq_true_iff.mp z) h fun a st1 G1 fpf1 v H1 S1 r1 A1 => by
    refine ⟨⟨a, r1⟩, st1, G1, fpf1, S1, A1.bndK (q1 := q2) (q2 := true) (R1 := RPk X.K) (fun z => ⟨z, rfl⟩) fun d st2 G2 fpf2 u H2 g2 S2 z2 e2 r2 A2 => ?_⟩
    unfold lift at A2
    cases w : joinD a d with
    | none => rw [w] at A2; exact A2.elim
    | some z =>
      rw [w] at A2
      unfold joinD at w
      split at w
      · obtain ⟨ys, e1, e2⟩ := Option.bind_eq_some_iff.mp w
        obtain ⟨cc, rfl⟩ := if_some e2
        obtain ⟨p, vs, rfl, hp, rp⟩ := r2.seqL S2.gh (.inl rfl)
        rw [asStrs_inv e1] at rp
        rw [rp.strs] at hp
        exact ⟨a, p, ys, r1, rfl, .inl hp, cc, A2.done S2 (Rep.str _)⟩
      · obtain ⟨ys, e1, e2⟩ := Option.bind_eq_some_iff.mp w
        obtain ⟨cc, rfl⟩ := if_some e2
        obtain ⟨p, vs, rfl, hp, rp⟩ := r2.tup S2.gh
        rw [asStrs_inv e1] at rp
        rw [rp.strs] at hp
        exact ⟨a, p, ys, r1, rfl, .inr hp, cc, A2.done S2 (Rep.str _)⟩
      · cases w
inductive DJ (X : Cx) (F : Fr) (W : WX) : List Expr → List (M Str) → Prop
  | nil : DJ X F W [] []
  | cons {e : Expr} {m : M Str} {es : List Expr} {ms : List (M Str)} (q : Bool) : PE X e (tM X.K F W q RStr m) → DJ X F W es ms → DJ X F W (e :: es) (m :: ms)
theorem dj_pj : ∀ {es : List Expr} {ms : List (M Str)}, DJ X F W es ms → ∃ ts, PJ X es ts ∧ ∀ (acc : Str) (σ : St) (H : Hp) (Q : VK) , tM X.K F W false (RSh X.K) (fstrL ms acc) σ H Q → tJs ts acc σ H fun out H1 => Q (.str out) H1
  | _, _, .nil => ⟨[], .nil, fun acc σ H Q ⟨st, G, fpf, S, A⟩ => A.done S (Rep.str _)⟩
  | _, _, .cons q h r => by
    obtain ⟨ts, p, k⟩ := dj_pj r
    refine ⟨_ :: ts, .cons h p, fun acc σ H Q z => bind_of (q2 := false) (R1 := RStr) nq z fun y st1 G1 fpf1 v H1 S1 r1 A1 => ?_⟩
    by_cases c : (acc ++ y).length ≤ 16777216
    · rw [if_pos c] at A1
      exact ⟨y, r1, leLine c, k (acc ++ y) σ H1 Q ⟨st1, G1, fpf1, S1, A1⟩⟩
    · rw [if_neg c] at A1; exact A1.elim
theorem de_fstr {v1 v2 : Expr} {rest : List Expr} {ms : List (M Str)} (h : DJ X F W (v1 :: v2 :: rest) ms) : PE X (.JoinedStr (v1 :: v2 :: rest) pos) (tM X.K F W false (RSh X.K) (fstrM ms)) := by
  obtain ⟨ts, p, k⟩ := dj_pj h
  exact PE_mono (pe_joined p) fun σ H Q z => k Str.empty σ H Q z
theorem de_fstr1 {m : M Str} (h : PE X e (tM X.K F W q RStr m)) : PE X (.JoinedStr [e] pos) (tM X.K F W q (RSh X.K) (bnd m fun y => ret (.str y))) := PE_mono (pe_joined1 h) fun σ H Q z => bind_of (q2 := true) (R1 := RStr) (fun y => ⟨y, rfl⟩) z fun y st1 G1 fpf1 v H1 S1 r1 A1 => by
  have r1' : v = .str y := r1
  subst r1'
  exact A1.done S1 (Rep.str _)
/-- {} -/
theorem df_dK : PE X (.Dict [] [] pos) (tM X.K F W false (RFr X.K F) (ret (.dK []))) := PE_mono pe_dnewK fun σ H Q ⟨st, G, fpf, S, A⟩ p hp => A.endF S ⟨p, _, hp, rfl, rfl, .dK rfl .nil⟩
theorem df_dT : PE X (.Dict [] [] pos) (tM X.K F W false (RFr X.K F) (ret (.dT []))) := PE_mono pe_dnewT fun σ H Q ⟨st, G, fpf, S, A⟩ p hp => A.endF S ⟨p, _, hp, rfl, rfl, .dT rfl .nil⟩
end

/-! ### writing to a list of one's own -/
/-- slot i holds a flat thing of one's own of which p is true -/
def flM (p : D → Bool) (i : Nat) : M Unit := fun st => match st[i]? with
  | some (some (Slot.ow _ d)) => if flatD d = true ∧ p d = true then .ok () st else .stuck
  | _ => .stuck
def wrM (p : D → Bool) (i : Nat) (g : D → List D → Option (D × D)) (ms : List (M D)) : M D := bnd (flM p i) fun _ => bnd (argsM ms) fun args st => match st[i]? with
  | some (some (Slot.ow mu d)) => if flatD d = true then (match g d args with
    | some (z, d') => .ok z (st.set i (some (Slot.ow mu d')))
    | none => .stuck) else .stuck
  | _ => .stuck
/-- r does g: an item, the thing as it is then -/
def WrS (K : PySem.W.Frag) (r : V → List V → Hp → VK → Prop) (g : D → List D → Option (D × D)) : Prop := ∀ {G H : Hp} {a : Addr} {o : HO} {d d' z : D} {ds : List D} {vs : List V} {Q : VK}, Same G H → H a = some o → OR K G o d → RepA K G ds vs → g d ds = some (z, d') →
  (∀ v o', Rep K G z v → OR K G o' d' → Q v (upd H a o')) → r (.ref a) vs H Q
def isLst : D → Bool
  | .lst _ => true
  | _ => false
def appD : D → List D → Option (D × D)
  | .lst xs, [y] => if xs.length < 16777216 then some (.non, .lst (xs ++ [y])) else none
  | _, _ => none
def extD : D → List D → Option (D × D)
  | .lst xs, [.lst ys] => if xs.length + ys.length ≤ 16777216 then some (.non, .lst (xs ++ ys)) else none
  | _, _ => none
def popD : D → List D → Option (D × D)
  | .lst xs, [] => (xs[xs.length - 1]?).map fun y => (y, .lst xs.dropLast)
  | _, _ => none
def popAtD : D → List D → Option (D × D)
  | .lst xs, [.int i] => if -9223372036854775808 ≤ i ∧ i < 9223372036854775808 then (seqIndex? i xs.length).bind fun k => (xs[k]?).map fun y => (y, .lst (xs.eraseIdx k)) else none
  | _, _ => none
def clrD : D → List D → Option (D × D)
  | .lst xs, [] => some (.non, .lst [])
  | _, _ => none
def rvsD : D → List D → Option (D × D)
  | .lst xs, [] => some (.non, .lst xs.reverse)
  | _, _ => none
section
variable {K : PySem.W.Frag}
theorem s_app : WrS K rAppend appD := fun {G H a o d d' z ds vs Q} g ha r ra e q => by
  unfold appD at e
  split at e
  · rename_i xs y
    by_cases c : xs.length < 16777216
    · rw [if_pos c] at e
      cases e
      cases r with
      | lst rl =>
        cases ra with
        | cons ry rn =>
          cases rn
          exact ⟨a, _, _, rfl, rfl, ha, by rw [← rl.length, sizeLine_eq]; exact c, q _ _ .non (.lst (rl.append (.cons ry .nil)))⟩
    · rw [if_neg c] at e; cases e
  · cases e
theorem s_pop : WrS K rPop popD := fun {G H a o d d' z ds vs Q} g ha r ra e q => by
  unfold popD at e
  split at e
  · rename_i xs
    obtain ⟨y, hy, e⟩ := Option.map_eq_some_iff.mp e
    cases e
    cases r with
    | lst rl =>
      cases ra
      obtain ⟨v, hv, rv⟩ := rl.get hy
      exact ⟨a, _, v, rfl, rfl, ha, by rw [← rl.length]; exact hv, q _ _ rv (.lst rl.dropLast)⟩
  · cases e
theorem s_popAt : WrS K rPopAt popAtD := fun {G H a o d d' z ds vs Q} g ha r ra e q => by
  unfold popAtD at e
  split at e
  · rename_i xs i
    by_cases c : -9223372036854775808 ≤ i ∧ i < 9223372036854775808
    · rw [if_pos c] at e
      obtain ⟨k, hk, e⟩ := Option.bind_eq_some_iff.mp e
      obtain ⟨y, hy, e⟩ := Option.map_eq_some_iff.mp e
      cases e
      cases r with
      | lst rl =>
        cases ra with
        | cons ri rn =>
          cases rn
          cases ri
          obtain ⟨v, hv, rv⟩ := rl.get hy
          exact ⟨a, _, i, k, v, rfl, rfl, ha, c.1, c.2, by rw [← rl.length]; exact hk, hv, q _ _ rv (.lst (rl.eraseIdx k))⟩
    · rw [if_neg c] at e; cases e
  · cases e
theorem s_clr : WrS K rClear clrD := fun {G H a o d d' z ds vs Q} g ha r ra e q => by
  unfold clrD at e
  split at e
  · cases e
    cases r with
    | lst rl => cases ra; exact ⟨a, _, rfl, rfl, ha, q _ _ .non (.lst .nil)⟩
  · cases e
theorem s_rvs : WrS K rReverse rvsD := fun {G H a o d d' z ds vs Q} g ha r ra e q => by
  unfold rvsD at e
  split at e
  · cases e
    cases r with
    | lst rl => cases ra; exact ⟨a, _, rfl, rfl, ha, q _ _ .non (.lst rl.reverse)⟩
  · cases e
theorem s_ext : WrS K rExtend extD := fun {G H a o d d' z ds vs Q} g ha r ra e q => by
  unfold extD at e
  split at e
  · rename_i xs ys
    by_cases c : xs.length + ys.length ≤ 16777216
    · rw [if_pos c] at e
      cases e
      cases r with
      | lst rl =>
        cases ra with
        | cons ry rn =>
          cases rn
          cases ry with
          | lst hb rb => exact ⟨a, _, _, _, rfl, rfl, ha, g _ _ hb, by rw [← rl.length, ← rb.length]; exact leLine c, q _ _ .non (.lst (rl.append rb))⟩
    · rw [if_neg c] at e; cases e
  · cases e
end
section
variable {X : Cx} {F : Fr} {W : WX} {q q1 q2 q3 : Bool} {e : Expr} {es : List Expr} {x : Str} {pos p apos cpos : Pos} {id T : String} {name : Str} {r : V → List V → Hp → VK → Prop} {g : D → List D → Option (D × D)} {ms : List (M D)} {P : D → Bool}
theorem fl_of {K : PySem.W.Frag} {α ρ : Type} {R : Rl α ρ} {i : Nat} {m : M α} {st : DSt} {G H : Hp} {fpf : Nat → List Addr} {σ : St} {Q : ρ → Hp → Prop} (S : Sync K F G fpf σ H st) (A : At K F W q R (bnd (flM P i) (fun _ => m) st) st G fpf σ H Q) :
    (∃ a o mu d, σ[i]? = some (some (.ref a)) ∧ H a = some o ∧ OR K G o d ∧ P d = true ∧ st[i]? = some (some (Slot.ow mu d))) ∧ At K F W q R (m st) st G fpf σ H Q := by
  unfold bnd flM at A
  cases h : st[i]? with
  | none => rw [h] at A; exact A.elim
  | some s =>
    cases s with
    | none => rw [h] at A; exact A.elim
    | some s =>
      cases s with
      | sh d => rw [h] at A; exact A.elim
      | ow mu d =>
        rw [h] at A
        dsimp only at A
        by_cases c : flatD d = true ∧ P d = true
        · rw [if_pos c] at A
          obtain ⟨a, e1, ow, _⟩ := S.ow i mu d h
          obtain ⟨o, ho, ro, _⟩ := ow.isFlat c.1
          exact ⟨⟨a, o, mu, d, e1, ho, ro, c.2, rfl⟩, A⟩
        · rw [if_neg c] at A; exact A.elim
theorem wr_at {K : PySem.W.Frag} {i : Nat} {σ : St} {H : Hp} {Q : VK} (hw : WrS K r g) (hT : ∀ (G H : Hp) (a : Addr) (o : HO) (d : D), H a = some o → OR K G o d → P d = true → tyV K T (.ref a) H) (h : tM K F W false (RSh K) (wrM P i g ms) σ H Q) :
    ∃ a, σ[i]? = some (some (.ref a)) ∧ tyV K T (.ref a) H ∧ tM K F W false (RLs K) (argsM ms) σ H fun vs H2 => r (.ref a) vs H2 Q := by
  obtain ⟨st, G, fpf, S, A⟩ := h
  obtain ⟨⟨a, o, mu, d, e1, ho, ro, hp, _⟩, A1⟩ := fl_of S A
  refine ⟨a, e1, hT G H a o d ho ro hp, st, G, fpf, S, A1.bndK (q1 := false) (q2 := false) (R1 := RLs K) nq fun ds st1 G1 fpf1 vs H1 g1 S1 z1 e2 r1 A2 => ?_⟩
  split at A2
  · rename_i mu d es
    by_cases c : flatD d = true
    · rw [if_pos c] at A2
      split at A2
      · rename_i z d' eg
        obtain ⟨b, eb, ow, _⟩ := S1.ow i mu d es
        rw [e1] at eb
        cases eb
        obtain ⟨o, ho, ro, _⟩ := ow.isFlat c
        exact hw S1.gh ho ro r1 eg fun v o' rv ro' => A2 v _ G1 fpf1 nq (Same.refl G1) (S1.write1 es e1 c ro') rv
      · exact A2.elim
    · rw [if_neg c] at A2; exact A2.elim
  · exact A2.elim
theorem lst_ty {K : PySem.W.Frag} (G H : Hp) (a : Addr) (o : HO) (d : D) (h : H a = some o) (r : OR K G o d) (e : isLst d = true) : tyV K "list" (.ref a) H := by
  cases r with
  | lst r => exact .inl ⟨rfl, _, .inl (.inl h)⟩
  | _ => cases e
/-- x.m(e, ..), x a list of one's own -/
theorem de_wr (i : Nat) (slot : PySem.Slot "list" name id) (hty : typeOf (.builtin id) = pure (.type "method_descriptor")) (hm : MtR X id r) (hw : WrS X.K r g) (ha : PA X (e :: es) (tM X.K F W q (RLs X.K) (argsM ms))) (hN : X.N[i]? = some x := by rfl) (hv : Vis X.env.scope x := by first | exact Or.inl rfl | exact Or.inr (Or.inl rfl) | exact Or.inr (Or.inr rfl)) (hd : (x == ("__debug__" : Str)) = false := by decide) (hcd : (x == ("__classdict__" : Str)) = false := by decide)
    (hbase : attributeBase (.Name x p) name X.env (eval (.Name x p) X.env) = eval (.Name x p) X.env := by rfl)
    (hfew : ((backTo cpos (starEach (e :: es) X.env)).all (fun x => !x.1) && (backToKw cpos (keywordEach [] X.env)).all (fun x => x.1.isSome) && decide ((e :: es).length + ([] : List Keyword).length + (if ([] : List Keyword).isEmpty then 0 else 1) < 30)) = true := by rfl)
    (hline : (apos.endLine == cpos.line) = true := by rfl) (hs : starEach (e :: es) X.env = (false, eval e X.env) :: starEach es X.env := by rfl) (hplain : (backTo cpos (starEach es X.env)).any (·.1) = false := by rfl) :
    PE X (.Call (.Attribute (.Name x p) name apos) (e :: es) [] cpos) (tM X.K F W false (RSh X.K) (wrM isLst i g ms)) :=
  PE_mono (pe_bm PySem.F.plainAttrs_list slot hty hm (pv i hN hv hd hcd) ha hbase hfew hline hs hplain) fun σ H Q h => by
    obtain ⟨a, e1, ty, z⟩ := wr_at hw lst_ty h
    refine ⟨.ref a, e1, ty, ?_⟩
    obtain ⟨st, G, fpf, S, A⟩ := z
    exact ⟨st, G, fpf, S, A.quiet⟩
theorem de_wr0 (i : Nat) (slot : PySem.Slot "list" name id) (hty : typeOf (.builtin id) = pure (.type "method_descriptor")) (hm : MtR X id r) (hw : WrS X.K r g) (hN : X.N[i]? = some x := by rfl) (hv : Vis X.env.scope x := by first | exact Or.inl rfl | exact Or.inr (Or.inl rfl) | exact Or.inr (Or.inr rfl)) (hd : (x == ("__debug__" : Str)) = false := by decide) (hcd : (x == ("__classdict__" : Str)) = false := by decide)
    (hbase : attributeBase (.Name x p) name X.env (eval (.Name x p) X.env) = eval (.Name x p) X.env := by rfl) (hline : (apos.endLine == cpos.line) = true := by rfl) :
    PE X (.Call (.Attribute (.Name x p) name apos) [] [] cpos) (tM X.K F W false (RSh X.K) (wrM isLst i g [])) :=
  PE_mono (pe_bm0 PySem.F.plainAttrs_list slot hty hm (pv i hN hv hd hcd) hbase hline) fun σ H Q h => by
    obtain ⟨a, e1, ty, z⟩ := wr_at hw lst_ty h
    refine ⟨.ref a, e1, ty, ?_⟩
    obtain ⟨st, G, fpf, S, A⟩ := z
    exact A.done S RepA.nil
/-- x[k] = v -/
def setIx (i : Nat) (me mi : M D) : MS := doM me fun d => doM (bnd (flM isLst i) fun _ => mi) fun k st => match st[i]?, k with
  | some (some (Slot.ow mu (.lst xs))), .int j => match ixN xs.length j with
    | some n => .nx (st.set i (some (Slot.ow mu (.lst (xs.set n d)))))
    | none => .stuck
  | _, _ => .stuck
theorem ds_setIx (i : Nat) {px : Pos} {k : Expr} {pos' : Pos} {me mi : M D} (he : PE X e (tM X.K F W q1 (RSh X.K) me)) (hk : PE X k (tM X.K F W q2 (RPk X.K) mi)) (hN : X.N[i]? = some x := by rfl) (hv : Vis X.env.scope x := by first | exact Or.inl rfl | exact Or.inr (Or.inl rfl) | exact Or.inr (Or.inr rfl)) (hd : (x == ("__debug__" : Str)) = false := by decide) (hcd : (x == ("__classdict__" : Str)) = false := by decide)
    (hs : swapsWithSole [.Subscript (.Name x px) k pos'] e pos.line X.env = pure false := by rfl) (hw : swappedStores [.Subscript (.Name x px) k pos'] e X.env = pure none := by rfl) (h1 : (assignEach [.Subscript (.Name x px) k pos'] X.env).map (·.2) = [assign (.Subscript (.Name x px) k pos') X.env] := by rfl)
    (hsub : ∀ v, assign (.Subscript (.Name x px) k pos') X.env v = (do let ob ← holding [v] (eval (.Name x px) X.env); let ix ← holding [v, ob] (eval k X.env); standAt pos'; holding [v, ob, ix] (setItem ob ix v); release [v, ob, ix] []) := by intro _; rfl) :
    PS X (.Assign [.Subscript (.Name x px) k pos'] e pos) (tS X.K F W (setIx i me mi)) :=
  PS_mono (ps_asg he (pg_sub (pv i hN hv hd hcd) hk set_list hsub) hs hw h1) fun D σ H h => do_of (R := RSh X.K) h fun d st1 G1 fpf1 v H1 S1 r1 A1 => by
    have A0 : AtS X.K F W (doM (bnd (flM isLst i) fun _ => mi) (fun k st => match st[i]?, k with
      | some (some (Slot.ow mu (.lst xs))), .int j => match ixN xs.length j with
        | some n => .nx (st.set i (some (Slot.ow mu (.lst (xs.set n d)))))
        | none => .stuck
      | _, _ => .stuck) st1) G1 D := A1
    obtain ⟨a, ea⟩ : ∃ a, σ[i]? = some (some (.ref a)) := by
      unfold doM bnd flM at A0
      cases h : st1[i]? with
      | none => rw [h] at A0; exact A0.elim
      | some s =>
        cases s with
        | none => rw [h] at A0; exact A0.elim
        | some s =>
          cases s with
          | sh d => rw [h] at A0; exact A0.elim
          | ow mu d =>
            obtain ⟨a, e1, _⟩ := S1.ow i mu d h
            exact ⟨a, e1⟩
    refine ⟨.ref a, ea, ?_⟩
    unfold doM bnd at A0
    cases hf : flM isLst i st1 with
    | stuck => rw [hf] at A0; exact A0.elim
    | err x s => unfold flM at hf; split at hf <;> first | cases hf | (split at hf <;> cases hf)
    | ok u s =>
      have es : s = st1 := by
        unfold flM at hf
        split at hf
        · split at hf <;> cases hf
          rfl
        · cases hf
      subst es
      rw [hf] at A0
      dsimp only at A0
      refine ⟨s, G1, fpf1, S1, ?_⟩
      cases em : mi s with
      | stuck => rw [em] at A0; exact A0.elim
      | err x s' => rw [em] at A0; exact fun b fv H' G' fpf' g S' => A0 b fv σ H' G' fpf' g S'
      | ok kk s' =>
        rw [em] at A0
        intro w H2 G2 fpf2 _ g2 S2 r2
        dsimp only at A0
        split at A0
        · rename_i mu xs j es
          split at A0
          · rename_i n hn
            obtain ⟨b, eb, ow, _⟩ := S2.ow i mu _ es
            rw [ea] at eb
            cases eb
            obtain ⟨o, ho, ro, _⟩ := ow.isFlat rfl
            cases ro with
            | lst rl => exact ⟨a, _, j, n, rfl, r2.int, ho, by rw [← rl.length]; exact hn, A0 σ _ G2 fpf2 g2 (S2.write1 es ea rfl (.lst (rl.set (Rep.mono g2 r1) n)))⟩
          · exact A0.elim
        · exact A0.elim
end
end DL

namespace DL
open PySem L2
section
variable {X : Cx} {F : Fr} {W : WX} {q q1 q2 : Bool} {x : Str} {d : D} {v : V} {pos spos : Pos} {elt tg iter : Expr} {ifs : List Expr} {scope : Scope} {own : List (Str × Nat)} {mi : M (List D)} {t : Tg} {mt : M Bool} {me : M D}
theorem de_globE (hg : Gl X x) (hm : ∃ u, X.mg x = some u ∧ RelV v u) (rd : ∀ G, Rep X.K G d v) (hd : (x == ("__debug__" : Str)) = false := by decide) : PE X (.Name x pos) (tM X.K F W q (RSh X.K) (ret d)) := by
  obtain ⟨u, h, r⟩ := hm
  exact de_glob hg h r rd hd
theorem ds_setLcS (i : Nat) {y : Str} {py : Pos} (hc : X.calm = true) (hN : X.N.Nodup) (hi : PI X tg iter (tI X.K F W mi)) (ok : BlkOk X.N X.env.scope scope own)
    (hg : ∀ (s : Shared) (H : Hp) (C : Addr) (cl : List (Str × Addr)) (fp : List Addr) (F' : Fr), PG (X.blk s H scope (compEnvC scope cl C X.env) fp) tg (tG X.K F' t))
    (ht : ∀ (s : Shared) (H : Hp) (C : Addr) (cl : List (Str × Addr)) (fp : List Addr) (F' : Fr), PTs (X.blk s H scope (compEnvC scope cl C X.env) fp) ifs (tM X.K F' WF q1 REq mt))
    (he : ∀ (s : Shared) (H : Hp) (C : Addr) (cl : List (Str × Addr)) (fp : List Addr) (F' : Fr), PE (X.blk s H scope (compEnvC scope cl C X.env) fp) elt (tM X.K F' WF q2 (RSh X.K) me))
    (hy : X.N[i]? = some y := by rfl) (hyl : X.env.scope.names.lookup y = some .local := by rfl)
    (hsw : swapsWith (.ListComp elt [⟨tg, iter, ifs, 0⟩] scope pos) (some (.Name y py)) spos.line X.env = pure true := by exact sw_true rfl rfl rfl (by decide +kernel))
    (hv : ∀ i ∈ t.sl, i ∈ own.map (·.2) := by decide) (hs : ∀ x, foldedSetIterable iter X.env x = pure x := by intro _; rfl) :
    PS X (.Assign [.Name y py] (.ListComp elt [⟨tg, iter, ifs, 0⟩] scope pos) spos) (tS X.K F W (asgM (shareM (compM (own.map (·.2)) mi t mt me)) (nameT i))) :=
  PS_mono (ps_setLc hc hN hy hyl hsw hi ok (fun s H C cl fp => ⟨fun pins s' σ H' v u Q I r ⟨F', z⟩ => (hg s H C cl fp F').run pins s' σ H' v u Q I r z⟩) (fun s H C cl fp => ⟨fun pins s' σ H' Q I ⟨F', z⟩ => (ht s H C cl fp F').run pins s' σ H' Q I z⟩)
    (fun s H C cl fp => ⟨fun pins s' σ H' Q I ⟨F', z⟩ => (he s H C cl fp F').run pins s' σ H' Q I z⟩) hs) fun D σ H h =>
    lc_of (W := W) hv (share_of (q := false) (do_of (q := false) (R := RSh X.K) h fun d st1 G1 fpf1 v H1 S1 r1 A1 => A1 _ H1 G1 fpf1 (Same.refl G1) (S1.assign i r1)))
end
theorem fun_D {K : PySem.W.Frag} {x qual : Str} {st : Stmt} {f : Addr} {fd : FuncData} (F : Fun K x qual st f fd) : FunD K x qual (defArgs st) (defBody st) (defScope st) [] [] f fd := by
  obtain ⟨⟨oc, od, kV, doc, pm, an, cdv, ct, osl, e, l, c⟩, k⟩ := F
  exact ⟨⟨oc, od, .none, kV, doc, pm, an, cdv, ct, osl, e, l, c, .inl ⟨rfl, rfl⟩, .inl rfl⟩, k⟩
end DL

namespace DL
open PySem L2

/-! ### evaluation, applied -/
section
variable {α β : Type} {st : DSt}
theorem a_ret (x : α) : DL.ret x st = .ok x st := rfl
theorem a_bnd (m : M α) (f : α → M β) : bnd m f st = (match m st with | .ok x s => f x s | .err x s => .err x s | .stuck => .stuck) := rfl
theorem a_lift (o : Option α) : lift o st = (match o with | some x => .ok x st | none => .stuck) := rfl
theorem a_opM (g : D → D → Option D) (ma mb : M D) : opM g ma mb st = (match ma st with | .ok x s => (match mb s with | .ok y s => (match g x y with | some z => .ok z s | none => .stuck) | .err x s => .err x s | .stuck => .stuck) | .err x s => .err x s | .stuck => .stuck) := by
  unfold opM bnd
  cases ma st with
  | ok x s => dsimp only; cases mb s with
    | ok y s => dsimp only [lift]; cases g x y <;> rfl
    | err x s => rfl
    | stuck => rfl
  | err x s => rfl
  | stuck => rfl
theorem a_unM (g : D → Option D) (ma : M D) : unM g ma st = (match ma st with | .ok x s => (match g x with | some z => .ok z s | none => .stuck) | .err x s => .err x s | .stuck => .stuck) := by
  unfold unM bnd
  cases ma st with
  | ok x s => dsimp only [lift]; cases g x <;> rfl
  | err x s => rfl
  | stuck => rfl
theorem a_testM (m : M D) : testM m st = (match m st with | .ok (.bl b) s => .ok b s | .ok _ _ => .stuck | .err x s => .err x s | .stuck => .stuck) := by
  unfold testM bnd
  cases m st with
  | ok d s => cases d <;> rfl
  | err x s => rfl
  | stuck => rfl
theorem a_andM (ma mb : M Bool) : andM ma mb st = (match ma st with | .ok true s => mb s | .ok false s => .ok false s | .err x s => .err x s | .stuck => .stuck) := by
  unfold andM bnd
  cases ma st with
  | ok d s => cases d <;> rfl
  | err x s => rfl
  | stuck => rfl
theorem a_orM (ma mb : M Bool) : orM ma mb st = (match ma st with | .ok true s => .ok true s | .ok false s => mb s | .err x s => .err x s | .stuck => .stuck) := by
  unfold orM bnd
  cases ma st with
  | ok d s => cases d <;> rfl
  | err x s => rfl
  | stuck => rfl
theorem a_notM (ma : M Bool) : notM ma st = (match ma st with | .ok b s => .ok (!b) s | .err x s => .err x s | .stuck => .stuck) := by
  unfold notM bnd
  cases ma st <;> rfl
theorem a_iteM (mc : M Bool) (ma mb : M α) : iteM mc ma mb st = (match mc st with | .ok true s => ma s | .ok false s => mb s | .err x s => .err x s | .stuck => .stuck) := by
  unfold iteM bnd
  cases mc st with
  | ok d s => cases d <;> rfl
  | err x s => rfl
  | stuck => rfl
theorem a_andV (ma mb : M D) : andV ma mb st = (match ma st with | .ok (.bl true) s => mb s | .ok (.bl false) s => .ok (.bl false) s | .ok _ _ => .stuck | .err x s => .err x s | .stuck => .stuck) := by
  unfold andV bnd
  cases ma st with
  | ok d s => cases d with
    | bl b => cases b <;> rfl
    | _ => rfl
  | err x s => rfl
  | stuck => rfl
theorem a_orV (ma mb : M D) : orV ma mb st = (match ma st with | .ok (.bl true) s => .ok (.bl true) s | .ok (.bl false) s => mb s | .ok _ _ => .stuck | .err x s => .err x s | .stuck => .stuck) := by
  unfold orV bnd
  cases ma st with
  | ok d s => cases d with
    | bl b => cases b <;> rfl
    | _ => rfl
  | err x s => rfl
  | stuck => rfl
theorem a_notV (ma : M D) : notV ma st = (match ma st with | .ok (.bl b) s => .ok (.bl (!b)) s | .ok _ _ => .stuck | .err x s => .err x s | .stuck => .stuck) := by
  unfold notV bnd
  cases ma st with
  | ok d s => cases d <;> rfl
  | err x s => rfl
  | stuck => rfl
theorem a_shareM (m : M D) : shareM m st = (match m st with | .ok d s => if flatD d = true then .ok d s else .stuck | .err x s => .err x s | .stuck => .stuck) := by
  unfold shareM bnd
  cases m st with
  | ok d s => by_cases c : flatD d = true <;> simp [c, DL.ret, stuckM]
  | err x s => rfl
  | stuck => rfl
theorem a_varM (i : Nat) : varM i st = (match st[i]? with | some (some (Slot.sh d)) => .ok d st | some (some (Slot.ow false d)) => if flatD d = true then .ok d (st.set i (some (Slot.sh d))) else .stuck | _ => .stuck) := rfl
theorem a_peekM (i : Nat) : peekM i st = (match st[i]? with | some (some (Slot.sh d)) => .ok d st | some (some (Slot.ow _ d)) => .ok d st | _ => .stuck) := rfl
theorem a_args0 : argsM [] st = .ok [] st := rfl
theorem a_args1 (m : M D) (ms : List (M D)) : argsM (m :: ms) st = (match m st with | .ok d s => (match argsM ms s with | .ok ds s => .ok (d :: ds) s | .err x s => .err x s | .stuck => .stuck) | .err x s => .err x s | .stuck => .stuck) := by
  rw [show argsM (m :: ms) st = bnd m (fun d => bnd (argsM ms) fun ds => DL.ret (d :: ds)) st from rfl]
  unfold bnd
  cases m st with
  | ok d s => dsimp only; cases argsM ms s <;> rfl
  | err x s => rfl
  | stuck => rfl
theorem a_lstM (ms : List (M D)) : lstM ms st = (match argsM ms st with | .ok ds s => .ok (.lst ds) s | .err x s => .err x s | .stuck => .stuck) := by
  unfold lstM bnd
  cases argsM ms st <;> rfl
theorem a_tupM (ms : List (M D)) : tupM ms st = (match argsM ms st with | .ok ds s => .ok (.tup ds) s | .err x s => .err x s | .stuck => .stuck) := by
  unfold tupM bnd
  cases argsM ms st <;> rfl
theorem a_chainM (g g' : D → D → Option D) (ma mb mc : M D) : chainM g g' ma mb mc st = (match ma st with | .ok x s => (match mb s with | .ok y s => (match g x y with | some (.bl true) => (match mc s with | .ok w s => (match g' y w with | some z => .ok z s | none => .stuck) | .err x s => .err x s | .stuck => .stuck) | some (.bl false) => .ok (.bl false) s | _ => .stuck) | .err x s => .err x s | .stuck => .stuck) | .err x s => .err x s | .stuck => .stuck) := by
  unfold chainM bnd
  cases ma st with
  | ok x s =>
    dsimp only
    cases mb s with
    | ok y s =>
      dsimp only [lift]
      cases g x y with
      | none => rfl
      | some z => cases z with
        | bl b =>
          cases b with
          | false => rfl
          | true =>
            dsimp only
            cases mc s with
            | ok w s => dsimp only; cases g' y w <;> rfl
            | err x s => rfl
            | stuck => rfl
        | _ => rfl
    | err x s => rfl
    | stuck => rfl
  | err x s => rfl
  | stuck => rfl
theorem a_partM0 : partM none st = .ok none st := rfl
theorem a_partM1 (m : M D) : partM (some m) st = (match m st with | .ok (.int i) s => .ok (some i) s | .ok _ _ => .stuck | .err x s => .err x s | .stuck => .stuck) := by
  rw [show partM (some m) st = bnd m (fun d => match d with | .int i => DL.ret (some i) | _ => stuckM) st from rfl]
  unfold bnd
  cases m st with
  | ok d s => cases d <;> rfl
  | err x s => rfl
  | stuck => rfl
theorem a_slM (g : D → Option Int → Option Int → Option D) (me : M D) (lo hi : Option (M D)) : slM g me lo hi st = (match me st with | .ok x s => (match partM lo s with | .ok l s => (match partM hi s with | .ok h s => (match g x l h with | some z => .ok z s | none => .stuck) | .err x s => .err x s | .stuck => .stuck) | .err x s => .err x s | .stuck => .stuck) | .err x s => .err x s | .stuck => .stuck) := by
  unfold slM bnd
  cases me st with
  | ok x s => dsimp only; cases partM lo s with
    | ok l s => dsimp only; cases partM hi s with
      | ok h s => dsimp only [lift]; cases g x l h <;> rfl
      | err x s => rfl
      | stuck => rfl
    | err x s => rfl
    | stuck => rfl
  | err x s => rfl
  | stuck => rfl
theorem a_asStrM (m : M D) : asStrM m st = (match m st with | .ok (.str a) s => .ok a s | .ok _ _ => .stuck | .err x s => .err x s | .stuck => .stuck) := by
  unfold asStrM bnd
  cases m st with
  | ok d s => cases d <;> rfl
  | err x s => rfl
  | stuck => rfl
theorem a_fmtM (m : M D) : fmtM m st = (match m st with | .ok (.str a) s => if a.length ≤ 16777216 then .ok a s else .stuck | .ok (.int i) s => if i.natAbs.log2 < 1920 then .ok (toString i : Str) s else .stuck | .ok _ _ => .stuck | .err x s => .err x s | .stuck => .stuck) := by
  unfold fmtM bnd
  cases m st with
  | ok d s =>
    cases d with
    | str a => dsimp only; by_cases c : a.length ≤ 16777216 <;> simp [c, DL.ret, stuckM]
    | int i => dsimp only; by_cases c : i.natAbs.log2 < 1920 <;> simp [c, DL.ret, stuckM]
    | _ => rfl
  | err x s => rfl
  | stuck => rfl
theorem a_joinM (ma : M Str) (mb : M D) : joinM ma mb st = (match ma st with | .ok x s => (match mb s with | .ok y s => (match joinD x y with | some z => .ok z s | none => .stuck) | .err x s => .err x s | .stuck => .stuck) | .err x s => .err x s | .stuck => .stuck) := by
  unfold joinM bnd
  cases ma st with
  | ok x s => dsimp only; cases mb s with
    | ok y s => dsimp only [lift]; cases joinD x y <;> rfl
    | err x s => rfl
    | stuck => rfl
  | err x s => rfl
  | stuck => rfl
theorem a_fstrM (ms : List (M Str)) : fstrM ms st = fstrL ms Str.empty st := rfl
theorem a_fstr0 (acc : Str) : fstrL [] acc st = .ok (.str acc) st := rfl
theorem a_fstr1 (m : M Str) (ms : List (M Str)) (acc : Str) : fstrL (m :: ms) acc st = (match m st with | .ok y s => if (acc ++ y).length ≤ 16777216 then fstrL ms (acc ++ y) s else .stuck | .err x s => .err x s | .stuck => .stuck) := by
  show bnd m _ st = _
  unfold bnd
  cases m st with
  | ok y s => dsimp only; by_cases c : (acc ++ y).length ≤ 16777216 <;> simp [c, stuckM]
  | err x s => rfl
  | stuck => rfl
theorem a_seqM (a b : MS) : seqM a b st = (match a st with | .nx s => b s | .rt f d s => .rt f d s | .bk s => .bk s | .ct s => .ct s | .err x s => .err x s | .stuck => .stuck) := by
  unfold seqM
  cases a st <;> rfl
theorem a_ifM (c : M Bool) (a b : MS) : ifM c a b st = (match c st with | .ok true s => a s | .ok false s => b s | .err x s => .err x s | .stuck => .stuck) := by
  unfold ifM doM
  cases c st with
  | ok d s => cases d <;> rfl
  | err x s => rfl
  | stuck => rfl
theorem a_skipM : skipM st = .nx st := rfl
theorem a_dropM (m : M α) : dropM m st = (match m st with | .ok _ s => .nx s | .err x s => .err x s | .stuck => .stuck) := by
  unfold dropM doM
  cases m st <;> rfl
theorem a_retM (m : M D) : retM m st = (match m st with | .ok d s => .rt false d s | .err x s => .err x s | .stuck => .stuck) := by
  unfold retM doM
  cases m st <;> rfl
theorem a_retF (m : M D) : retF m st = (match m st with | .ok d s => .rt true d s | .err x s => .err x s | .stuck => .stuck) := by
  unfold retF doM
  cases m st <;> rfl
theorem a_retN : retN st = .rt false .non st := rfl
theorem a_bkM : bkM st = .bk st := rfl
theorem a_ctM : ctM st = .ct st := rfl
theorem a_retOw (i : Nat) : retOw i st = (match st[i]? with | some (some (Slot.ow false d)) => .rt true d (st.set i none) | _ => .stuck) := rfl
theorem a_asgM (m : M D) (t : Tg) : asgM m t st = (match m st with | .ok d s => (match t.run d s with | some s => .nx s | none => .stuck) | .err x s => .err x s | .stuck => .stuck) := by
  unfold asgM doM
  cases m st <;> rfl
theorem a_asgF (m : M D) (i : Nat) : asgF m i st = (match m st with | .ok d s => .nx (s.set i (some (Slot.ow false d))) | .err x s => .err x s | .stuck => .stuck) := by
  unfold asgF doM
  cases m st <;> rfl
theorem a_parM (m : M (List D)) (i j : Nat) : parM m i j st = (match m st with | .ok [d, e] s => .nx ((s.set i (some (Slot.sh d))).set j (some (Slot.sh e))) | .ok _ _ => .stuck | .err x s => .err x s | .stuck => .stuck) := by
  unfold parM doM
  cases m st with
  | ok ds s =>
    match ds with
    | [] => rfl
    | [_] => rfl
    | [_, _] => rfl
    | _ :: _ :: _ :: _ => rfl
  | err x s => rfl
  | stuck => rfl
theorem a_nameT (i : Nat) (d : D) : (nameT i).run d st = some (st.set i (some (Slot.sh d))) := rfl
theorem a_tupT (ts : List Tg) (ds : List D) : (tupT ts).run (.tup ds) st = tgsT ts ds st := rfl
theorem a_tgs0 : tgsT [] [] st = some st := rfl
theorem a_tgs1 (t : Tg) (ts : List Tg) (d : D) (ds : List D) : tgsT (t :: ts) (d :: ds) st = (match t.run d st with | some s => tgsT ts ds s | none => none) := rfl
theorem a_forM (mi : M (List D)) (t : Tg) (b : MS) : forM mi t b st = (match mi st with | .ok ds s => loopM t b ds s | .err x s => .err x s | .stuck => .stuck) := by
  unfold forM doM
  cases mi st <;> rfl
theorem a_loop0 (t : Tg) (b : MS) : loopM t b [] st = .nx st := rfl
theorem a_loop1 (t : Tg) (b : MS) (d : D) (ds : List D) : loopM t b (d :: ds) st = (match t.run d st with | none => .stuck | some s => (match b s with | .nx s => loopM t b ds s | .ct s => loopM t b ds s | .bk s => .nx s | .rt f d s => .rt f d s | .err x s => .err x s | .stuck => .stuck)) := by
  show (match t.run d st with | none => _ | some s => _) = _
  cases t.run d st with
  | none => rfl
  | some s => dsimp only; cases b s <;> rfl
theorem a_strM (m : M D) : strM' m st = (match m st with | .ok (.str x) s => .ok (strD x) s | .ok _ _ => .stuck | .err x s => .err x s | .stuck => .stuck) := by
  unfold strM' bnd
  cases m st with
  | ok d s => cases d <;> rfl
  | err x s => rfl
  | stuck => rfl
theorem a_seqM' (m : M D) : seqM' m st = (match m st with | .ok (.lst x) s => .ok x s | .ok (.kl x) s => .ok x s | .ok _ _ => .stuck | .err x s => .err x s | .stuck => .stuck) := by
  unfold seqM' bnd
  cases m st with
  | ok d s => cases d <;> rfl
  | err x s => rfl
  | stuck => rfl
theorem a_tupM' (m : M D) : tupM' m st = (match m st with | .ok (.tup x) s => .ok x s | .ok _ _ => .stuck | .err x s => .err x s | .stuck => .stuck) := by
  unfold tupM' bnd
  cases m st with
  | ok d s => cases d <;> rfl
  | err x s => rfl
  | stuck => rfl
theorem a_rng1M (m : M D) : rng1M m st = (match m st with | .ok (.int j) s => if -4611686018427387904 ≤ j ∧ j < 4611686018427387904 then .ok (rangeD 0 j.toNat) s else .stuck | .ok _ _ => .stuck | .err x s => .err x s | .stuck => .stuck) := by
  unfold rng1M bnd
  cases m st with
  | ok d s =>
    cases d with
    | int j => dsimp only; by_cases c : -4611686018427387904 ≤ j ∧ j < 4611686018427387904 <;> simp [c, DL.ret, stuckM]
    | _ => rfl
  | err x s => rfl
  | stuck => rfl
theorem a_compM (vs : List Nat) (mi : M (List D)) (t : Tg) (mt : M Bool) (me : M D) : compM vs mi t mt me st = (match mi st with | .ok ds s => compL vs t mt me ds [] (wipeD s vs) | .err x s => .err x s | .stuck => .stuck) := by
  unfold compM bnd
  cases mi st <;> rfl
theorem a_comp0 (vs : List Nat) (t : Tg) (mt : M Bool) (me : M D) (acc : List D) : compL vs t mt me [] acc st = .ok (.lst acc) st := rfl
theorem a_comp1 (vs : List Nat) (t : Tg) (mt : M Bool) (me : M D) (d : D) (ds acc : List D) : compL vs t mt me (d :: ds) acc st = (match t.run d st with
    | none => .stuck
    | some st1 => match mt st1 with
      | .ok true st2 => (match me st2 with
        | .ok y st3 => if acc.length < 16777216 then compL vs t mt me ds (acc ++ [y]) (wipeD st3 vs) else .stuck
        | _ => .stuck)
      | .ok false st2 => compL vs t mt me ds acc (wipeD st2 vs)
      | _ => .stuck) := rfl
theorem a_wipe0 : wipeD st [] = st := rfl
theorem a_wipe1 (v : Nat) (vs : List Nat) : wipeD st (v :: vs) = (wipeD st vs).set v none := rfl
theorem a_avs0 : avsM [] st = .ok [] st := rfl
theorem a_avs1 (m : M AV) (ms : List (M AV)) : avsM (m :: ms) st = (match m st with | .ok d s => (match avsM ms s with | .ok ds s => .ok (d :: ds) s | .err x s => .err x s | .stuck => .stuck) | .err x s => .err x s | .stuck => .stuck) := by
  rw [show avsM (m :: ms) st = bnd m (fun d => bnd (avsM ms) fun ds => DL.ret (d :: ds)) st from rfl]
  unfold bnd
  cases m st with
  | ok d s => dsimp only; cases avsM ms s <;> rfl
  | err x s => rfl
  | stuck => rfl
theorem a_shA (m : M D) : shA m st = (match m st with | .ok d s => .ok (AV.d d) s | .err x s => .err x s | .stuck => .stuck) := by
  unfold shA bnd
  cases m st <;> rfl
theorem a_lnA (i : Nat) : lnA i st = (match st[i]? with | some (some (Slot.ow _ _)) => .ok (AV.m i) st | _ => .stuck) := rfl
theorem a_callM (mu : List Bool) (f : FD) (ma : M (List AV)) : callM mu f [] ma st = (match ma st with | .ok as s => callQ mu f as s | .err x s => .err x s | .stuck => .stuck) := by
  unfold callM bnd
  cases ma st with
  | ok as s => simp
  | err x s => rfl
  | stuck => rfl
theorem a_callF (mu : List Bool) (f : FD) (ma : M (List AV)) : callF mu f [] ma st = (match ma st with | .ok as s => callN mu f as s | .err x s => .err x s | .stuck => .stuck) := by
  unfold callF bnd
  cases ma st with
  | ok as s => simp
  | err x s => rfl
  | stuck => rfl
theorem a_callQ (mu : List Bool) (f : FD) (as : List AV) : callQ mu f as st = (if (as.filterMap avSl).Nodup then (match getA st mu as with
    | some ds => match f ds with
      | .ok false d ms => .ok d (setBack as ms st)
      | .ok true d ms => if flatD d = true then .ok d (setBack as ms st) else .stuck
      | .err x ms => .err x (setBack as ms st)
      | .stuck => .stuck
    | none => .stuck) else .stuck) := rfl
theorem a_callN (mu : List Bool) (f : FD) (as : List AV) : callN mu f as st = (if (as.filterMap avSl).Nodup then (match getA st mu as with
    | some ds => match f ds with
      | .ok true d ms => .ok d (setBack as ms st)
      | .err x ms => .err x (setBack as ms st)
      | _ => .stuck
    | none => .stuck) else .stuck) := rfl
theorem a_mkQ (C : Addr) (mu : List Bool) (f : FD) (as : List AV) : mkQ C mu f as st = (if (as.filterMap avSl).Nodup then (match getA st mu as with
    | some ds => match f (.obj C [] :: ds) with
      | .ok false .non (d :: ms) => .ok d (setBack as ms st)
      | .err x (_ :: ms) => .err x (setBack as ms st)
      | _ => .stuck
    | none => .stuck) else .stuck) := rfl
theorem a_makeF (C : Addr) (mu : List Bool) (f : FD) (ma : M (List AV)) : makeF C mu f [] ma st = (match ma st with | .ok as s => mkQ C mu f as s | .err x s => .err x s | .stuck => .stuck) := by
  unfold makeF bnd
  cases ma st with
  | ok as s => simp
  | err x s => rfl
  | stuck => rfl
theorem a_chkO (C : Addr) (nm : Str) (a : AV) : chkO C nm a st = (match objAt st a with | some (C', fs) => if C' = C ∧ fs.lookup nm = none then .ok () st else .stuck | none => .stuck) := rfl
theorem a_noErr (m : M D) : noErr m st = (match m st with | .ok d s => .ok d s | _ => .stuck) := by
  unfold noErr
  cases m st <;> rfl
theorem a_propM (C : Addr) (nm : Str) (mu : List Bool) (f : FD) (mo : M AV) : propM C nm mu f mo st = (match mo st with | .ok a s => (match chkO C nm a s with | .ok _ s => noErr (callQ mu f [a]) s | _ => .stuck) | .err x s => .err x s | .stuck => .stuck) := by
  unfold propM bnd
  cases mo st with
  | ok a s =>
    dsimp only
    cases h : chkO C nm a s with
    | ok u s => rfl
    | err x s' => unfold chkO at h; split at h <;> first | cases h | (split at h <;> cases h)
    | stuck => rfl
  | err x s => rfl
  | stuck => rfl
theorem chk_err {C : Addr} {nm : Str} {a : AV} {x : Exc} {s : DSt} (h : chkO C nm a st = .err x s) : False := by
  unfold chkO at h; split at h <;> first | cases h | (split at h <;> cases h)
theorem a_callOM (q : List Bool → FD → List AV → M D) (C : Addr) (mu : List Bool) (f : FD) (mo : M AV) (ma : M (List AV)) : callOM q C mu f [] mo ma st = (match mo st with | .ok a s => (match chkO C Str.empty a s with | .ok _ s => (match ma s with | .ok as s => (match chkO C Str.empty a s with | .ok _ s => q mu f (a :: as) s | _ => .stuck) | .err x s => .err x s | .stuck => .stuck) | _ => .stuck) | .err x s => .err x s | .stuck => .stuck) := by
  unfold callOM bnd
  cases mo st with
  | ok a s =>
    dsimp only
    cases h : chkO C Str.empty a s with
    | ok u s =>
      dsimp only
      cases ma s with
      | ok as s =>
        dsimp only
        cases h : chkO C Str.empty a s with
        | ok u s => simp
        | err x s' => exact (chk_err h).elim
        | stuck => rfl
      | err x s => rfl
      | stuck => rfl
    | err x s' => exact (chk_err h).elim
    | stuck => rfl
  | err x s => rfl
  | stuck => rfl
theorem a_methM (q : List Bool → FD → List AV → M D) (C : Addr) (nm : Str) (mu : List Bool) (f : FD) (mo : M AV) (ma : M (List AV)) : methM q C nm mu f [] mo ma st = (match mo st with | .ok a s => (match chkO C nm a s with | .ok _ s => (match ma s with | .ok as s => q mu f (a :: as) s | .err x s => .err x s | .stuck => .stuck) | _ => .stuck) | .err x s => .err x s | .stuck => .stuck) := by
  unfold methM bnd
  cases mo st with
  | ok a s =>
    dsimp only
    cases h : chkO C nm a s with
    | ok u s =>
      dsimp only
      cases ma s with
      | ok as s => simp
      | err x s => rfl
      | stuck => rfl
    | err x s' => exact (chk_err h).elim
    | stuck => rfl
  | err x s => rfl
  | stuck => rfl
theorem a_cmpO (neg : Bool) (Cs : List Addr) (C : Addr) (mu : List Bool) (fn : FD) (ma mb : M AV) : cmpO neg Cs C mu fn ma mb st = (match ma st with | .ok a s => (match mb s with | .ok b s => (match chkO C Str.empty a s with | .ok _ s => (match kindAt Cs b s with | .ok _ s => (match noErr (callQ mu fn [a, b]) s with | .ok (.bl k) s => .ok (.bl (neg != k)) s | _ => .stuck) | _ => .stuck) | _ => .stuck) | .err x s => .err x s | .stuck => .stuck) | .err x s => .err x s | .stuck => .stuck) := by
  unfold cmpO bnd
  cases ma st with
  | ok a s =>
    dsimp only
    cases mb s with
    | ok b s =>
      dsimp only
      cases h : chkO C Str.empty a s with
      | ok u s =>
        dsimp only
        cases h2 : kindAt Cs b s with
        | ok u s =>
          dsimp only
          cases h3 : noErr (callQ mu fn [a, b]) s with
          | ok d s => cases d <;> rfl
          | err x s' => unfold noErr at h3; split at h3 <;> first | cases h3 | skip; rename_i q; exact (q _ _ h3).elim
          | stuck => rfl
        | err x s' => unfold kindAt at h2; (repeat' split at h2) <;> cases h2
        | stuck => rfl
      | err x s' => exact (chk_err h).elim
      | stuck => rfl
    | err x s => rfl
    | stuck => rfl
  | err x s => rfl
  | stuck => rfl
theorem a_reprO (C : Addr) (mu : List Bool) (fn : FD) (ma : M AV) : reprO C mu fn ma st = (match ma st with | .ok a s => (match chkO C Str.empty a s with | .ok _ s => (match noErr (callQ mu fn [a]) s with | .ok (.str k) s => .ok (.str k) s | _ => .stuck) | _ => .stuck) | .err x s => .err x s | .stuck => .stuck) := by
  unfold reprO bnd
  cases ma st with
  | ok a s =>
    dsimp only
    cases h : chkO C Str.empty a s with
    | ok u s =>
      dsimp only
      cases h3 : noErr (callQ mu fn [a]) s with
      | ok d s => cases d <;> rfl
      | err x s' => unfold noErr at h3; split at h3 <;> first | cases h3 | skip; rename_i q; exact (q _ _ h3).elim
      | stuck => rfl
    | err x s' => exact (chk_err h).elim
    | stuck => rfl
  | err x s => rfl
  | stuck => rfl
theorem a_putM (C : Addr) (f : Str) (i : Nat) (m : M D) : putM C f i m st = (match m st with | .ok d s => (match s[i]? with   | some (some (Slot.ow mu (.obj C' fs))) => if C' = C ∧ fs.length < 1000 ∧ noBoxAt f fs = true then .nx (s.set i (some (Slot.ow mu (.obj C (putD f d fs))))) else .stuck   | _ => .stuck) | .err x s => .err x s | .stuck => .stuck) := by
  unfold putM doM
  cases m st <;> rfl
theorem a_flM (p : D → Bool) (i : Nat) : flM p i st = (match st[i]? with | some (some (Slot.ow _ d)) => if flatD d = true ∧ p d = true then .ok () st else .stuck | _ => .stuck) := rfl
theorem a_wrM (p : D → Bool) (i : Nat) (g : D → List D → Option (D × D)) (ms : List (M D)) : wrM p i g ms st = (match flM p i st with | .ok _ s => (match argsM ms s with | .ok args s => (match s[i]? with   | some (some (Slot.ow mu d)) => if flatD d = true then (match g d args with     | some (z, d') => .ok z (s.set i (some (Slot.ow mu d')))     | none => .stuck) else .stuck   | _ => .stuck) | .err x s => .err x s | .stuck => .stuck) | .err x s => .err x s | .stuck => .stuck) := by
  unfold wrM bnd
  cases flM p i st with
  | ok u s => dsimp only; cases argsM ms s <;> rfl
  | err x s => rfl
  | stuck => rfl
theorem a_setIx (i : Nat) (me mi : M D) : setIx i me mi st = (match me st with | .ok d s => (match flM isLst i s with | .ok _ s => (match mi s with | .ok k s => (match s[i]?, k with   | some (some (Slot.ow mu (.lst xs))), .int j => (match ixN xs.length j with     | some n => .nx (s.set i (some (Slot.ow mu (.lst (xs.set n d)))))     | none => .stuck)   | _, _ => .stuck) | .err x s => .err x s | .stuck => .stuck) | .err x s => .err x s | .stuck => .stuck) | .err x s => .err x s | .stuck => .stuck) := by
  unfold setIx doM bnd
  cases me st with
  | ok d s =>
    dsimp only
    cases flM isLst i s with
    | ok u s => dsimp only; cases mi s <;> rfl
    | err x s => rfl
    | stuck => rfl
  | err x s => rfl
  | stuck => rfl
theorem a_fm0 : List.filterMap avSl [] = [] := rfl
theorem a_fm1 (x : D) (as : List AV) : List.filterMap avSl (AV.d x :: as) = List.filterMap avSl as := rfl
theorem a_fm2 (i : Nat) (as : List AV) : List.filterMap avSl (AV.m i :: as) = i :: List.filterMap avSl as := rfl
end
end DL

namespace DL
open PySem L2
/-! ### steps, one by one -/
section
variable {st s s1 s2 s3 : DSt} {a b : MS} {c : M Bool} {m ma mb mc : M D} {x y z d : D} {g g' : D → D → Option D} {k k' : Bool} {t : Tg} {i : Nat}
theorem e_seq (h : a st = .nx s) : seqM a b st = b s := by rw [a_seqM, h]
theorem e_rt {f : Bool} (h : a st = .rt f d s) : seqM a b st = .rt f d s := by rw [a_seqM, h]
theorem e_if (h : c st = .ok k s) : ifM c a b st = (if k = true then a s else b s) := by
  rw [a_ifM, h]
  cases k <;> rfl
theorem e_ifF (h : c st = .ok false s) : ifM c a b st = b s := by rw [a_ifM, h]
theorem e_ifT (h : c st = .ok true s) : ifM c a b st = a s := by rw [a_ifM, h]
theorem e_skF (h : c st = .ok false s) : ifM c a skipM st = .nx s := by rw [a_ifM, h]; rfl
theorem e_test (h : m st = .ok (.bl k) s) : testM m st = .ok k s := by rw [a_testM, h]
theorem e_or {ta tb : M Bool} (h1 : ta st = .ok false s) (h2 : tb s = .ok k s2) : orM ta tb st = .ok k s2 := by rw [a_orM, h1]; exact h2
theorem e_orT {ta tb : M Bool} (h1 : ta st = .ok true s) : orM ta tb st = .ok true s := by rw [a_orM, h1]
theorem e_and {ta tb : M Bool} (h1 : ta st = .ok true s) (h2 : tb s = .ok k s2) : andM ta tb st = .ok k s2 := by rw [a_andM, h1]; exact h2
theorem e_andF {ta tb : M Bool} (h1 : ta st = .ok false s) : andM ta tb st = .ok false s := by rw [a_andM, h1]
theorem e_not {ta : M Bool} (h1 : ta st = .ok k s) : notM ta st = .ok (!k) s := by rw [a_notM, h1]
theorem e_op (h1 : ma st = .ok x s) (h2 : mb s = .ok y s2) (h3 : g x y = some z) : opM g ma mb st = .ok z s2 := by rw [a_opM, h1]; simp only [h2, h3]
theorem e_un {g : D → Option D} (h1 : ma st = .ok x s) (h3 : g x = some z) : unM g ma st = .ok z s := by rw [a_unM, h1]; simp only [h3]
theorem e_share (h : m st = .ok d s) (f : flatD d = true) : shareM m st = .ok d s := by rw [a_shareM, h]; simp only [f, if_true]
theorem e_asg (h : m st = .ok d s) : asgM m (nameT i) st = .nx (s.set i (some (.sh d))) := by rw [a_asgM, h]; rfl
theorem e_asgF (h : m st = .ok d s) : asgF m i st = .nx (s.set i (some (.ow false d))) := by rw [a_asgF, h]
theorem e_drop (h : m st = .ok d s) : dropM m st = .nx s := by rw [a_dropM, h]
theorem e_ret (h : m st = .ok d s) : retM m st = .rt false d s := by rw [a_retM, h]
theorem e_retF (h : m st = .ok d s) : retF m st = .rt true d s := by rw [a_retF, h]
theorem e_var (h : st[i]? = some (some (.sh d))) : varM i st = .ok d st := by rw [a_varM, h]
theorem e_pk (h : st[i]? = some (some (.sh d))) : peekM i st = .ok d st := by rw [a_peekM, h]
theorem e_pkO {mu : Bool} (h : st[i]? = some (some (.ow mu d))) : peekM i st = .ok d st := by rw [a_peekM, h]
theorem e_for {mi : M (List D)} {ds : List D} (h : mi st = .ok ds s) : forM mi t b st = loopM t b ds s := by rw [a_forM, h]
/-- an invariant of a for -/
theorem e_loop {I : DSt → Prop} {P : D → Prop} (h : ∀ d st, P d → I st → ∃ s1 s2, t.run d st = some s1 ∧ b s1 = .nx s2 ∧ I s2) : ∀ (ds : List D) (st : DSt), (∀ d ∈ ds, P d) → I st → ∃ s, loopM t b ds st = .nx s ∧ I s
  | [], st, _, hi => ⟨st, rfl, hi⟩
  | d :: ds, st, hp, hi => by
    obtain ⟨s1, s2, h1, h2, h3⟩ := h d st (hp d List.mem_cons_self) hi
    obtain ⟨s, h4, h5⟩ := e_loop h ds s2 (fun x hx => hp x (List.mem_cons_of_mem _ hx)) h3
    refine ⟨s, ?_, h5⟩
    rw [a_loop1, h1]
    simp only [h2]
    exact h4
end
/-! ### data that are alike -/
theorem toP_int (i : Int) : toP (.int i) = some (.int i) := rfl
theorem eqv_refl_int (i : Int) : PyData.eqv (.int i) (.int i) = true := by simp [PyData.eqv]
theorem eqv_refl_str (i : Str) : PyData.eqv (.str i) (.str i) = true := by simp [PyData.eqv]
theorem eq_of {d e : D} {p q : PyData} (h1 : toP d = some p) (h2 : toP e = some q) (h3 : min p.depth q.depth ≤ 64) : eqD d e = some (.bl (PyData.eqv p q)) := by
  unfold eqD eqvD
  rw [h1, h2]
  simp only [h3, if_true, Option.map_some]
theorem ne_of' {d e : D} {p q : PyData} (h1 : toP d = some p) (h2 : toP e = some q) (h3 : min p.depth q.depth ≤ 64) : neD d e = some (.bl (!PyData.eqv p q)) := by
  unfold neD eqvD
  rw [h1, h2]
  simp only [h3, if_true, Option.map_some]
theorem d_int (i : Int) : (PyData.int i).depth = 0 := rfl
theorem ne_int' (i j : Int) : neD (.int i) (.int j) = some (.bl (!(i == j))) := rfl
theorem ne_str' (i j : Str) : neD (.str i) (.str j) = some (.bl (!(i == j))) := rfl
theorem eq_int' (i j : Int) : eqD (.int i) (.int j) = some (.bl (i == j)) := rfl
theorem eq_str' (i j : Str) : eqD (.str i) (.str j) = some (.bl (i == j)) := rfl
end DL

namespace DL
open PySem L2
/-! ### the law's own promise -/
def spLaw (K : PySem.W.Frag) : Sp := fun vs H Q _ => ∃ (a : Addr) (ns : List Int), vs = [.ref a] ∧ SqL K H a (ns.map V.int) ∧ ns.length ≤ 63 ∧ ∀ H', Q (.bl true) H'
theorem law_sp {K : PySem.W.Frag} {f : FD} (h : ∀ ns : List Int, ns.length ≤ 63 → f [.kl (ns.map .int)] = .ok false (.bl true) [.non]) : ∀ vs H Q E, spLaw K vs H Q E → spD K [false] f vs H Q E := fun vs H Q E ⟨a, ns, e, hS, hl, k⟩ => by
  subst e
  refine ⟨[.kl (ns.map .int)], H, fun _ => [], Same.refl H, ⟨rfl, rfl, fun i d h1 h2 => ?_, fun i d h1 => ?_, fun i j h1 => ?_⟩, ?_⟩
  · cases i with
    | zero => cases h2; exact ⟨_, rfl, .kl hS (RepA.of_ints ns)⟩
    | succ i => simp at h2
  · cases i <;> simp at h1
  · cases i <;> simp at h1
  · rw [h ns hl]
    exact fun v H' G' fp' B r => by
      cases r
      exact k H'
theorem cx_out {P : Program} {w : World} {H : Hp} {s : Shared} {e : Value} {s' : Shared} (h : CX P w [] H s (fun _ _ _ => False) e s') : False := by
  obtain ⟨_, _, _, _, _, _, _, _, _, _, _, _, z⟩ := h
  exact z
theorem walk_law {l : PySem.W.OpenLaw} {k : Nat} {q : Program} {loose : List Str} {XP : (Str → Option Value) → Heap → Prop} {YP : World → Heap → Prop} {d : DefRec} {K : Params → PySem.W.Frag} (hn : l.most = some 63) (hdf : d.params.defaults = []) (hr : Room k callerA)
    (hY : ∀ (w : World) (h : Heap), YP w h → (K w.params).In h)
    (F : ∀ (w : World) (mg : Str → Option Value) (fa : Addr) (h : Heap), (K w.params).In h → h.Ns mainGlobals mg → mg d.name = some (.ref fa) →
      ∃ fd : FuncData, (∀ (s : Shared) (u : Value), BindsTo s fd ⟨[u], []⟩ [("script", u)]) ∧ ∀ base : Heap, (K w.params).In base → base.Ns mainGlobals mg → FnOk l.prog w (K w.params) mg base (CX l.prog w) k fa fd ["script"] (spLaw (K w.params))) :
    PySem.W.WalkO q loose XP YP l.row.toRowW d [] (fun f vs => PySem.call f vs) :=
  L2.walk_of (n := 63) (k := k) (x := "script") (CX := fun w => CX l.prog w) (sp := fun w => spLaw (K w.params)) hn (by decide) hdf hr hY F (fun _ _ a ns hl _ hS => ⟨a, ns, rfl, hS, hl, fun _ => rfl⟩) fun _ _ _ _ _ z => cx_out z
/-! ### facts of classes from what the head tells -/
section
variable {K : PySem.W.Frag} {C C' : Addr}
theorem kit_mro (b : Bt) (h : PySem.W.mroIn K C (.type b.name) = some false) : PySem.W.kitOne K (.ref C) (.type b.name) = some false := by
  unfold PySem.W.kitOne
  rw [if_neg (by simp)]
  unfold PySem.W.kitCls
  dsimp only
  have m : PySem.W.kitMeta b.name = true := by cases b <;> decide +kernel
  rw [if_pos m]
  exact h
theorem isC_of (hd : PySem.W.hasDictIn K C = true) (ty : PySem.W.typeIn K (.ref C) = some (.type "type")) : ((PySem.W.clsIn K C).isSome && PySem.W.typeIn K (.ref C) == some (.type "type")) = true := by
  obtain ⟨cd, hc, _⟩ := PySem.W.any_some hd
  rw [hc, ty]
  rfl
theorem kit_mroO (hC : ((PySem.W.clsIn K C).isSome && PySem.W.typeIn K (.ref C) == some (.type "type")) = true) (n : C' ≠ C) (h : PySem.W.mroIn K C' (.ref C) = some false) : PySem.W.kitOne K (.ref C') (.ref C) = some false := by
  unfold PySem.W.kitOne
  rw [if_neg (by simpa using n)]
  unfold PySem.W.kitCls
  dsimp only
  rw [if_pos hC]
  exact h
theorem nf_mro (h : PySem.W.mroIn K C' (.ref C) = some false) : PySem.W.notFirst K C (.ref C') = true := by
  unfold PySem.W.notFirst
  rw [show PySem.W.subIn K (.ref C') (.ref C) = some false from h]
  simp
end
end DL

namespace K01
open PySem L2 DL
def top (i : Nat) : Stmt := PySem.Challenge.pw_fullestfirst_k01_keys_and_mixings.main.body.getD i (.Pass ⟨0, 0, 0, 0⟩)
structure Ad where
  c_Mixing : Addr
  f_fis_integer : Addr
  d_fis_integer : FuncData
  f_fis_key : Addr
  d_fis_key : FuncData
  f_fmix_of : Addr
  d_fmix_of : FuncData
  f_fMixing_base : Addr
  d_fMixing_base : FuncData
  f_fMixing_bits : Addr
  d_fMixing_bits : FuncData
  f_fMixing___repr__ : Addr
  d_fMixing___repr__ : FuncData
  f_fcheck_mixing : Addr
  d_fcheck_mixing : FuncData
  f_f_law_hand : Addr
  d_f_law_hand : FuncData
  f_f_law_draw : Addr
  d_f_law_draw : FuncData
  f_f_law_mix : Addr
  d_f_law_mix : FuncData
  f_fin_range : Addr
  d_fin_range : FuncData
  f_fcheck_key : Addr
  d_fcheck_key : FuncData
  f_f_law_long_key : Addr
  d_f_law_long_key : FuncData
  f_fcheck_number : Addr
  d_fcheck_number : FuncData
  f_fMixing___call__ : Addr
  d_fMixing___call__ : FuncData
  f_fMixing___eq__ : Addr
  d_fMixing___eq__ : FuncData
  f_fplace_of : Addr
  d_fplace_of : FuncData
  f_fMixing___init__ : Addr
  d_fMixing___init__ : FuncData
  f_fplace : Addr
  d_fplace : FuncData
  f_flaw : Addr
  d_flaw : FuncData
  p_fMixing_base : Addr
  p_fMixing_bits : Addr
def cs (a : Ad) : List Addr := [a.c_Mixing]
abbrev s_fis_integer : Stmt := (top 10)
abbrev N_fis_integer : List Str := ["value"]
abbrev s_fis_key : Stmt := (top 13)
abbrev N_fis_key : List Str := ["value", "sign"]
abbrev s_fmix_of : Stmt := (top 15)
abbrev N_fmix_of : List Str := ["base", "bits", "key", "found", "sign"]
abbrev s_fMixing_base : Stmt := (inClass (top 16) 1)
abbrev N_fMixing_base : List Str := ["self"]
abbrev s_fMixing_bits : Stmt := (inClass (top 16) 2)
abbrev N_fMixing_bits : List Str := ["self"]
abbrev s_fMixing___repr__ : Stmt := (inClass (top 16) 5)
abbrev N_fMixing___repr__ : List Str := ["self"]
abbrev s_fcheck_mixing : Stmt := (top 17)
abbrev N_fcheck_mixing : List Str := ["value"]
abbrev s_f_law_hand : Stmt := (top 21)
abbrev N_f_law_hand : List Str := ["script", "k", "cell", "seed"]
abbrev s_f_law_draw : Stmt := (top 22)
abbrev N_f_law_draw : List Str := ["pool", "size", "found"]
abbrev s_f_law_mix : Stmt := (top 23)
abbrev N_f_law_mix : List Str := ["base", "bits", "key", "found", "sign"]
abbrev s_fin_range : Stmt := (top 11)
abbrev N_fin_range : List Str := ["value", "least", "most"]
abbrev s_fcheck_key : Stmt := (top 14)
abbrev N_fcheck_key : List Str := ["value"]
abbrev s_f_law_long_key : Stmt := (top 24)
abbrev N_f_law_long_key : List Str := ["pool", "signs", "turn"]
abbrev s_fcheck_number : Stmt := (top 12)
abbrev N_fcheck_number : List Str := ["value", "least", "most"]
abbrev s_fMixing___call__ : Stmt := (inClass (top 16) 3)
abbrev N_fMixing___call__ : List Str := ["self", "key"]
abbrev s_fMixing___eq__ : Stmt := (inClass (top 16) 4)
abbrev N_fMixing___eq__ : List Str := ["self", "other"]
abbrev s_fplace_of : Stmt := (top 18)
abbrev N_fplace_of : List Str := ["mixing", "key"]
abbrev s_fMixing___init__ : Stmt := (inClass (top 16) 0)
abbrev N_fMixing___init__ : List Str := ["self", "base", "bits"]
abbrev s_fplace : Stmt := (top 19)
abbrev N_fplace : List Str := ["mixing", "key"]
abbrev s_flaw : Stmt := (top 25)
abbrev N_flaw : List Str := ["script", "k", "pool", "base", "bits", "mixing", "turn", "key", "due", "some", "odd"]
structure Txt (K : PySem.W.Frag) (mg : Str → Option Value) (a : Ad) : Prop where
  F_fis_integer : FunD K "is_integer" "is_integer" (defArgs s_fis_integer) (defBody s_fis_integer) (defScope s_fis_integer) [] [] a.f_fis_integer a.d_fis_integer
  b_fis_integer : Binds K a.d_fis_integer ["value"] []
  g_fis_integer : mg "is_integer" = some (.ref a.f_fis_integer)
  F_fis_key : FunD K "is_key" "is_key" (defArgs s_fis_key) (defBody s_fis_key) (defScope s_fis_key) [] [] a.f_fis_key a.d_fis_key
  b_fis_key : Binds K a.d_fis_key ["value"] []
  g_fis_key : mg "is_key" = some (.ref a.f_fis_key)
  F_fmix_of : FunD K "mix_of" "mix_of" (defArgs s_fmix_of) (defBody s_fmix_of) (defScope s_fmix_of) [] [] a.f_fmix_of a.d_fmix_of
  b_fmix_of : Binds K a.d_fmix_of ["base", "bits", "key"] []
  g_fmix_of : mg "mix_of" = some (.ref a.f_fmix_of)
  F_fMixing_base : FunD K "base" "Mixing.base" (defArgs s_fMixing_base) (defBody s_fMixing_base) (defScope s_fMixing_base) [] [] a.f_fMixing_base a.d_fMixing_base
  b_fMixing_base : Binds K a.d_fMixing_base ["self"] []
  F_fMixing_bits : FunD K "bits" "Mixing.bits" (defArgs s_fMixing_bits) (defBody s_fMixing_bits) (defScope s_fMixing_bits) [] [] a.f_fMixing_bits a.d_fMixing_bits
  b_fMixing_bits : Binds K a.d_fMixing_bits ["self"] []
  F_fMixing___repr__ : FunD K "__repr__" "Mixing.__repr__" (defArgs s_fMixing___repr__) (defBody s_fMixing___repr__) (defScope s_fMixing___repr__) [] [] a.f_fMixing___repr__ a.d_fMixing___repr__
  b_fMixing___repr__ : Binds K a.d_fMixing___repr__ ["self"] []
  F_fcheck_mixing : FunD K "check_mixing" "check_mixing" (defArgs s_fcheck_mixing) (defBody s_fcheck_mixing) (defScope s_fcheck_mixing) [] [] a.f_fcheck_mixing a.d_fcheck_mixing
  b_fcheck_mixing : Binds K a.d_fcheck_mixing ["value"] []
  g_fcheck_mixing : mg "check_mixing" = some (.ref a.f_fcheck_mixing)
  F_f_law_hand : FunD K "_law_hand" "_law_hand" (defArgs s_f_law_hand) (defBody s_f_law_hand) (defScope s_f_law_hand) [] [] a.f_f_law_hand a.d_f_law_hand
  b_f_law_hand : Binds K a.d_f_law_hand ["script", "k"] []
  g_f_law_hand : mg "_law_hand" = some (.ref a.f_f_law_hand)
  F_f_law_draw : FunD K "_law_draw" "_law_draw" (defArgs s_f_law_draw) (defBody s_f_law_draw) (defScope s_f_law_draw) [] [] a.f_f_law_draw a.d_f_law_draw
  b_f_law_draw : Binds K a.d_f_law_draw ["pool", "size"] []
  g_f_law_draw : mg "_law_draw" = some (.ref a.f_f_law_draw)
  F_f_law_mix : FunD K "_law_mix" "_law_mix" (defArgs s_f_law_mix) (defBody s_f_law_mix) (defScope s_f_law_mix) [] [] a.f_f_law_mix a.d_f_law_mix
  b_f_law_mix : Binds K a.d_f_law_mix ["base", "bits", "key"] []
  g_f_law_mix : mg "_law_mix" = some (.ref a.f_f_law_mix)
  F_fin_range : FunD K "in_range" "in_range" (defArgs s_fin_range) (defBody s_fin_range) (defScope s_fin_range) [] [] a.f_fin_range a.d_fin_range
  b_fin_range : Binds K a.d_fin_range ["value", "least", "most"] []
  g_fin_range : mg "in_range" = some (.ref a.f_fin_range)
  F_fcheck_key : FunD K "check_key" "check_key" (defArgs s_fcheck_key) (defBody s_fcheck_key) (defScope s_fcheck_key) [] [] a.f_fcheck_key a.d_fcheck_key
  b_fcheck_key : Binds K a.d_fcheck_key ["value"] []
  g_fcheck_key : mg "check_key" = some (.ref a.f_fcheck_key)
  F_f_law_long_key : FunD K "_law_long_key" "_law_long_key" (defArgs s_f_law_long_key) (defBody s_f_law_long_key) (defScope s_f_law_long_key) [] [] a.f_f_law_long_key a.d_f_law_long_key
  b_f_law_long_key : Binds K a.d_f_law_long_key ["pool"] []
  g_f_law_long_key : mg "_law_long_key" = some (.ref a.f_f_law_long_key)
  F_fcheck_number : FunD K "check_number" "check_number" (defArgs s_fcheck_number) (defBody s_fcheck_number) (defScope s_fcheck_number) [] [] a.f_fcheck_number a.d_fcheck_number
  b_fcheck_number : Binds K a.d_fcheck_number ["value", "least", "most"] []
  g_fcheck_number : mg "check_number" = some (.ref a.f_fcheck_number)
  F_fMixing___call__ : FunD K "__call__" "Mixing.__call__" (defArgs s_fMixing___call__) (defBody s_fMixing___call__) (defScope s_fMixing___call__) [] [] a.f_fMixing___call__ a.d_fMixing___call__
  b_fMixing___call__ : Binds K a.d_fMixing___call__ ["self", "key"] []
  F_fMixing___eq__ : FunD K "__eq__" "Mixing.__eq__" (defArgs s_fMixing___eq__) (defBody s_fMixing___eq__) (defScope s_fMixing___eq__) [] [] a.f_fMixing___eq__ a.d_fMixing___eq__
  b_fMixing___eq__ : Binds K a.d_fMixing___eq__ ["self", "other"] []
  F_fplace_of : FunD K "place_of" "place_of" (defArgs s_fplace_of) (defBody s_fplace_of) (defScope s_fplace_of) [] [] a.f_fplace_of a.d_fplace_of
  b_fplace_of : Binds K a.d_fplace_of ["mixing", "key"] []
  g_fplace_of : mg "place_of" = some (.ref a.f_fplace_of)
  F_fMixing___init__ : FunD K "__init__" "Mixing.__init__" (defArgs s_fMixing___init__) (defBody s_fMixing___init__) (defScope s_fMixing___init__) [] [] a.f_fMixing___init__ a.d_fMixing___init__
  b_fMixing___init__ : Binds K a.d_fMixing___init__ ["self", "base", "bits"] []
  F_fplace : FunD K "place" "place" (defArgs s_fplace) (defBody s_fplace) (defScope s_fplace) [] [] a.f_fplace a.d_fplace
  b_fplace : Binds K a.d_fplace ["mixing", "key"] []
  g_fplace : mg "place" = some (.ref a.f_fplace)
  F_flaw : FunD K "law" "law" (defArgs s_flaw) (defBody s_flaw) (defScope s_flaw) [] [] a.f_flaw a.d_flaw
  b_flaw : Binds K a.d_flaw ["script"] []
  g_flaw : mg "law" = some (.ref a.f_flaw)
  cl_Mixing : Cls K a.c_Mixing
  it_Mixing : InsT K a.c_Mixing
  gc_Mixing : mg "Mixing" = some (.ref a.c_Mixing)
  mk_Mixing : Mk K a.c_Mixing a.f_fMixing___init__
  eq_Mixing : EqT K (cs a) a.c_Mixing a.f_fMixing___eq__
  ne_Mixing : PySem.W.findIn K (.ref a.c_Mixing) "__ne__" = some (some (.builtin "object.__ne__"))
  rp_Mixing : PySem.W.findIn K (.ref a.c_Mixing) "__repr__" = some (some (.ref a.f_fMixing___repr__))
  rf_Mixing : PySem.W.isFn K (.ref a.f_fMixing___repr__) = true
  co_Mixing : StX.CallO K a.c_Mixing a.f_fMixing___call__
  ask_Mixing : AskT K (cs a) a.c_Mixing
  na_Mixing_own_base : NoAttr K a.c_Mixing "own_base"
  na_Mixing_own_bits : NoAttr K a.c_Mixing "own_bits"
  p_fMixing_base : PropOf K a.c_Mixing "base" a.p_fMixing_base a.f_fMixing_base
  p_fMixing_bits : PropOf K a.c_Mixing "bits" a.p_fMixing_bits a.f_fMixing_bits
  n_all : mg "all" = none
  n_bool : mg "bool" = none
  n_int : mg "int" = none
  n_isinstance : mg "isinstance" = none
  n_len : mg "len" = none
  n_max : mg "max" = none
  n_min : mg "min" = none
  n_ord : mg "ord" = none
  n_range : mg "range" = none
  n_repr : mg "repr" = none
  n_str : mg "str" = none
  k_CHARACTERS : ∃ u, mg "CHARACTERS" = some u ∧ RelV (V.str "abcdefghijklmnopqrstuvwxyz0123456789") u
  k_MAX_BASE : ∃ u, mg "MAX_BASE" = some u ∧ RelV (V.int 1000) u
  k_MAX_BITS : ∃ u, mg "MAX_BITS" = some u ∧ RelV (V.int 32) u
  k_MAX_LENGTH : ∃ u, mg "MAX_LENGTH" = some u ∧ RelV (V.int 20) u
  k_MAX_NUMBER : ∃ u, mg "MAX_NUMBER" = some u ∧ RelV (V.int 4294967296) u
theorem Txt.insts {K : PySem.W.Frag} {mg : Str → Option Value} {a : Ad} (T : Txt K mg a) : ∀ C ∈ cs a, InsT K C := by
  intro C h
  simp only [cs, List.mem_cons, List.not_mem_nil, or_false] at h
  rcases h with rfl
  · exact T.it_Mixing
def m_fis_integer (a : Ad) : FD := runF [false] 1
   (retM (andV (unM (isB (cs a) .int) (peekM 0)) (notV (unM (isB (cs a) .bool) (peekM 0)))))
def bd0_fis_key (a : Ad) : M D := (opM inD (peekM 1) (ret (.str "abcdefghijklmnopqrstuvwxyz0123456789")))
def m_fis_key (a : Ad) : FD := runF [false] 2
   (seqM (ifM (orM (notM (testM (unM (isB (cs a) .str) (peekM 0)))) (notM (testM (chainM leD leD (ret (.int 1)) (unM lenD (peekM 0)) (ret (.int 20)))))) (retM (ret (.bl false))) skipM)
    (retM (unM allD (shareM (compM [1] (strM' (varM 0)) (nameT 1) (ret true) (bd0_fis_key a))))))
def bd0_fmix_of (a : Ad) : MS := (asgM (opM modI (opM addD (opM mulI (peekM 3) (peekM 0)) (unM ordD (peekM 4))) (opM shlI (ret (.int 1)) (peekM 1))) (nameT 3))
def m_fmix_of (a : Ad) : FD := runF [false, false, false] 5
   (seqM (asgM (ret (.int 0)) (nameT 3))
    (seqM (forM (strM' (varM 2)) (nameT 4) (bd0_fmix_of a))
    (retM (varM 3))))
def m_fMixing_base (a : Ad) : FD := runF [false] 1
   (retM (unM (attD a.c_Mixing "own_base") (peekM 0)))
def m_fMixing_bits (a : Ad) : FD := runF [false] 1
   (retM (unM (attD a.c_Mixing "own_bits") (peekM 0)))
def m_fMixing___repr__ (a : Ad) : FD := runF [false] 1
   (retM (fstrM [(asStrM (ret (.str "Mixing("))), (fmtM (unM (attD a.c_Mixing "own_base") (peekM 0))), (asStrM (ret (.str ", "))), (fmtM (unM (attD a.c_Mixing "own_bits") (peekM 0))), (asStrM (ret (.str ")")))]))
def m_fcheck_mixing (a : Ad) : FD := runF [false] 1
   (ifM (notM (testM (unM (isO (cs a) a.c_Mixing) (peekM 0)))) (fun _ => .stuck) skipM)
def m_f_law_hand (a : Ad) : FD := runF [false, false] 4
   (seqM (asgM (opM ixD (opM addD (slM slD (varM 0) (some (varM 1)) (some (opM addD (peekM 1) (ret (.int 1))))) (shareM (lstM [(ret (.int 0))]))) (ret (.int 0))) (nameT 2))
    (seqM (asgM (opM modI (opM mulI (opM addD (opM addD (opM modI (peekM 2) (ret (.int 2147483647))) (opM mulI (ret (.int 7919)) (peekM 1))) (ret (.int 1))) (ret (.int 48271))) (ret (.int 2147483629))) (nameT 3))
    (retF (lstM [(opM mulI (unM intD (opM geD (peekM 2) (opM powI (ret (.int 10)) (ret (.int 18))))) (peekM 2)), (varM 3)]))))
def m_f_law_draw (a : Ad) : FD := runF [true, false] 3
   (seqM (ifM (testM (opM gtD (opM ixD (peekM 0) (ret (.int 0))) (ret (.int 0)))) (seqM (asgM (opM modI (opM ixD (peekM 0) (ret (.int 0))) (peekM 1)) (nameT 2))
    (seqM (setIx 0 (opM divI (opM ixD (peekM 0) (ret (.int 0))) (peekM 1)) (ret (.int 0)))
    (retM (varM 2)))) skipM)
    (seqM (setIx 0 (opM modI (opM addD (opM mulI (opM ixD (peekM 0) (ret (.int 1))) (ret (.int 48271))) (ret (.int 11))) (ret (.int 2147483647))) (ret (.int 1)))
    (retM (opM modI (opM divI (opM modI (opM mulI (opM ixD (peekM 0) (ret (.int 1))) (opM ixD (peekM 0) (ret (.int 1)))) (ret (.int 2147483629))) (ret (.int 64))) (peekM 1)))))
def bd0_f_law_mix (a : Ad) : MS := (asgM (opM modI (opM addD (opM mulI (peekM 3) (peekM 0)) (unM ordD (peekM 4))) (opM shlI (ret (.int 1)) (peekM 1))) (nameT 3))
def m_f_law_mix (a : Ad) : FD := runF [false, false, false] 5
   (seqM (asgM (ret (.int 0)) (nameT 3))
    (seqM (forM (strM' (varM 2)) (nameT 4) (bd0_f_law_mix a))
    (retM (varM 3))))
def m_fin_range (a : Ad) : FD := runF [false, false, false] 3
   (retM (andV (callM [false] (m_fis_integer a) [] (avsM [(shA (varM 0))])) (chainM leD leD (varM 1) (varM 0) (peekM 2))))
def m_fcheck_key (a : Ad) : FD := runF [false] 1
   (ifM (notM (testM (callM [false] (m_fis_key a) [] (avsM [(shA (varM 0))])))) (fun _ => .stuck) skipM)
def bd0_f_law_long_key (a : Ad) : M D := (opM ixD (varM 1) (callM [true, false] (m_f_law_draw a) [] (avsM [(lnA 0), (shA (ret (.int 36)))])))
def m_f_law_long_key (a : Ad) : FD := runF [true] 3
   (seqM (asgM (ret (.str "0123456789abcdefghijklmnopqrstuvwxyz")) (nameT 1))
    (retM (joinM (asStrM (ret (.str ""))) (shareM (compM [2] (rng1M (opM addD (ret (.int 1)) (callM [true, false] (m_f_law_draw a) [] (avsM [(lnA 0), (shA (ret (.int 20)))])))) (nameT 2) (ret true) (bd0_f_law_long_key a))))))
def m_fcheck_number (a : Ad) : FD := runF [false, false, false] 3
   (ifM (notM (testM (callM [false, false, false] (m_fin_range a) [] (avsM [(shA (varM 0)), (shA (varM 1)), (shA (varM 2))])))) (fun _ => .stuck) skipM)
def m_fMixing___call__ (a : Ad) : FD := runF [false, false] 2
   (seqM (dropM (callM [false] (m_fcheck_key a) [] (avsM [(shA (varM 1))])))
    (retM (callM [false, false, false] (m_fmix_of a) [] (avsM [(shA (unM (attD a.c_Mixing "own_base") (peekM 0))), (shA (unM (attD a.c_Mixing "own_bits") (peekM 0))), (shA (varM 1))]))))
def m_fMixing___eq__ (a : Ad) : FD := runF [false, false] 2
   (retM (andV (unM (isO (cs a) a.c_Mixing) (peekM 1)) (andV (opM eqD (unM (attD a.c_Mixing "own_base") (peekM 0)) (propM a.c_Mixing "base" [false] (m_fMixing_base a) (shA (varM 1)))) (opM eqD (unM (attD a.c_Mixing "own_bits") (peekM 0)) (propM a.c_Mixing "bits" [false] (m_fMixing_bits a) (shA (varM 1)))))))
def m_fplace_of (a : Ad) : FD := runF [false, false] 2
   (retM (tupM [(callM [false, false, false] (m_fmix_of a) [] (avsM [(shA (propM a.c_Mixing "base" [false] (m_fMixing_base a) (shA (varM 0)))), (shA (propM a.c_Mixing "bits" [false] (m_fMixing_bits a) (shA (varM 0)))), (shA (varM 1))])), (varM 1)]))
def m_fMixing___init__ (a : Ad) : FD := runF [true, false, false] 3
   (seqM (dropM (callM [false, false, false] (m_fcheck_number a) [] (avsM [(shA (varM 1)), (shA (ret (.int 1))), (shA (ret (.int 1000)))])))
    (seqM (dropM (callM [false, false, false] (m_fcheck_number a) [] (avsM [(shA (varM 2)), (shA (ret (.int 1))), (shA (ret (.int 32)))])))
    (seqM (putM a.c_Mixing "own_base" 0 (varM 1))
    (putM a.c_Mixing "own_bits" 0 (varM 2)))))
def m_fplace (a : Ad) : FD := runF [false, false] 2
   (seqM (dropM (callM [false] (m_fcheck_mixing a) [] (avsM [(shA (varM 0))])))
    (seqM (dropM (callM [false] (m_fcheck_key a) [] (avsM [(shA (varM 1))])))
    (retM (callM [false, false] (m_fplace_of a) [] (avsM [(shA (varM 0)), (shA (varM 1))])))))
def bd0_flaw (a : Ad) : MS := (seqM (asgM (callM [true] (m_f_law_long_key a) [] (avsM [(lnA 2)])) (nameT 7))
    (seqM (asgM (callM [false, false, false] (m_f_law_mix a) [] (avsM [(shA (varM 3)), (shA (varM 4)), (shA (varM 7))])) (nameT 8))
    (ifM (orM (testM (opM neD (callOM callQ a.c_Mixing [false, false] (m_fMixing___call__ a) [] (shA (varM 5)) (avsM [(shA (varM 7))])) (peekM 8))) (orM (testM (opM neD (callM [false, false] (m_fplace a) [] (avsM [(shA (varM 5)), (shA (varM 7))])) (tupM [(varM 8), (varM 7)]))) (testM (opM isnD (callM [false] (m_fis_key a) [] (avsM [(shA (varM 7))])) (ret (.bl true)))))) (retM (ret (.bl false))) skipM)))
def bd1_flaw (a : Ad) : MS := (ifM (testM (opM isnD (callM [false] (m_fis_key a) [] (avsM [(shA (varM 10))])) (ret (.bl false)))) (retM (ret (.bl false))) skipM)
def bd2_flaw (a : Ad) : MS := (seqM (asgF (callF [false, false] (m_f_law_hand a) [] (avsM [(shA (varM 0)), (shA (varM 1))])) 2)
    (seqM (parM (argsM [(opM addD (ret (.int 1)) (callM [true, false] (m_f_law_draw a) [] (avsM [(lnA 2), (shA (ret (.int 1000)))]))), (opM addD (ret (.int 1)) (callM [true, false] (m_f_law_draw a) [] (avsM [(lnA 2), (shA (ret (.int 32)))])))]) 3 4)
    (seqM (asgM (shareM (makeF a.c_Mixing [false, false] (m_fMixing___init__ a) [] (avsM [(shA (varM 3)), (shA (varM 4))]))) (nameT 5))
    (seqM (ifM (orM (testM (opM neD (shareM (lstM [(propM a.c_Mixing "base" [false] (m_fMixing_base a) (shA (varM 5))), (propM a.c_Mixing "bits" [false] (m_fMixing_bits a) (shA (varM 5)))])) (shareM (lstM [(varM 3), (varM 4)])))) (testM (opM neD (reprO a.c_Mixing [false] (m_fMixing___repr__ a) (shA (varM 5))) (fstrM [(asStrM (ret (.str "Mixing("))), (fmtM (varM 3)), (asStrM (ret (.str ", "))), (fmtM (varM 4)), (asStrM (ret (.str ")")))])))) (retM (ret (.bl false))) skipM)
    (seqM (ifM (orM (testM (cmpO true (cs a) a.c_Mixing [false, false] (m_fMixing___eq__ a) (shA (varM 5)) (shA (shareM (makeF a.c_Mixing [false, false] (m_fMixing___init__ a) [] (avsM [(shA (varM 3)), (shA (varM 4))])))))) (testM (cmpO false (cs a) a.c_Mixing [false, false] (m_fMixing___eq__ a) (shA (varM 5)) (shA (shareM (makeF a.c_Mixing [false, false] (m_fMixing___init__ a) [] (avsM [(shA (varM 3)), (shA (opM addD (ret (.int 1)) (opM modI (peekM 4) (ret (.int 32)))))]))))))) (retM (ret (.bl false))) skipM)
    (seqM (ifM (testM (cmpO false (cs a) a.c_Mixing [false, false] (m_fMixing___eq__ a) (shA (varM 5)) (shA (shareM (makeF a.c_Mixing [false, false] (m_fMixing___init__ a) [] (avsM [(shA (opM addD (ret (.int 1)) (opM modI (peekM 3) (ret (.int 1000))))), (shA (varM 4))])))))) (retM (ret (.bl false))) skipM)
    (seqM (ifM (orM (testM (cmpO false (cs a) a.c_Mixing [false, false] (m_fMixing___eq__ a) (shA (varM 5)) (shA (tupM [(varM 3), (varM 4)])))) (testM (cmpO false (cs a) a.c_Mixing [false, false] (m_fMixing___eq__ a) (shA (varM 5)) (shA (reprO a.c_Mixing [false] (m_fMixing___repr__ a) (shA (varM 5))))))) (retM (ret (.bl false))) skipM)
    (seqM (forM (rng1M (ret (.int 6))) (nameT 6) (bd0_flaw a))
    (seqM (asgM (callM [true] (m_f_law_long_key a) [] (avsM [(lnA 2)])) (nameT 7))
    (seqM (asgM (shareM (lstM [(ret .non), (ret (.int 5)), (ret (.str "")), (opM addD (peekM 7) (opM repS (ret (.str "a")) (ret (.int 20)))), (opM addD (peekM 7) (ret (.str "A"))), (opM addD (slM slD (peekM 7) none (some (ret (.int 19)))) (ret (.str "!"))), (opM addD (slM slD (peekM 7) none (some (ret (.int 19)))) (ret (.str " "))), (shareM (lstM [(ret (.str "a"))])), (tupM [(ret (.str "a"))]), (shareM (ret (.dK [])))])) (nameT 9))
    (forM (seqM' (varM 9)) (nameT 10) (bd1_flaw a))))))))))))
def m_flaw (a : Ad) : FD := runF [false] 11
   (seqM (ifM (testM (opM neD (shareM (lstM [(ret (.int 1000)), (ret (.int 32)), (ret (.int 20)), (ret (.int 4294967296))])) (shareM (lstM [(ret (.int 1000)), (ret (.int 32)), (ret (.int 20)), (opM powI (ret (.int 2)) (ret (.int 32)))])))) (retM (ret (.bl false))) skipM)
    (seqM (forM (rng1M (opM max2D (ret (.int 2)) (opM min2D (unM lenD (peekM 0)) (ret (.int 16))))) (nameT 1) (bd2_flaw a))
    (retM (ret (.bl true)))))
section
variable {P : Program} {w : World} {K : PySem.W.Frag} {mg : Str → Option Value} {base : Heap} {a : Ad}
theorem sc_fis_integer : FnScope N_fis_integer ["value"] (defScope s_fis_integer) := ⟨rfl, rfl, rfl, by decide +kernel, rfl, by decide +kernel, by decide +kernel⟩
theorem ok_fis_integer (T : Txt K mg a) : FnOk P w K mg base (CX P w) 1 a.f_fis_integer a.d_fis_integer ["value"] (spD K [false] (m_fis_integer a)) :=
  fnD T.F_fis_integer sc_fis_integer rfl fun cdv A outer s H E hr F W tk hp =>
    (dss_one (ds_ret (de_and (de_isB .int T.insts (dp_var (q := true) 0) rfl T.n_isinstance rfl T.n_int) (de_one (de_not (de_isB .bool T.insts (dp_var (q := true) 0) rfl T.n_isinstance rfl T.n_bool))))))
theorem sc_fis_key : FnScope N_fis_key ["value"] (defScope s_fis_key) := ⟨rfl, rfl, rfl, by decide +kernel, rfl, by decide +kernel, by decide +kernel⟩
theorem ok_fis_key (T : Txt K mg a) : FnOk P w K mg base (CX P w) 1 a.f_fis_key a.d_fis_key ["value"] (spD K [false] (m_fis_key a)) :=
  fnD T.F_fis_key sc_fis_key rfl fun cdv A outer s H E hr F W tk hp =>
    (dss_cons (ds_if (PW.pt (dt_or (dt_not (dt_val (de_isB .str T.insts (dp_var (q := true) 0) rfl T.n_isinstance rfl T.n_str))) (dt_or1 (dt_not (dt_chain (o_le hr.units) s_le (o_le hr.units) s_le (de_int (q := true)) (de_call0 k_len s_len rfl T.n_len (dp_var (q := true) 0)) (de_pk (de_globE (q := true) rfl T.k_MAX_LENGTH (fun _ => Rep.int _)))))))) (dss_one (ds_ret (de_bl (q := true)))) dss_nil)
    (dss_one (ds_ret (de_call0 (cr_all rfl) s_all rfl T.n_all (de_pk (de_fr (df_lc (own := [("sign", 1)]) rfl sc_fis_key.nd (di_str (de_var 0)) (blkOk_by (N := N_fis_key) (sc := defScope s_fis_key) (by decide +kernel)) (fun _ _ _ _ _ _ => (dg_name 1 sc_fis_key.nd)) (fun _ _ _ _ _ _ => dt_yes) (fun _ _ _ _ _ _ => (de_cmpQ (o_in hr.units) s_in (dp_var (q := true) 1) (de_pk (de_globE (q := true) rfl T.k_CHARACTERS (fun _ => Rep.str _))) rfl)))))))))
theorem sc_fmix_of : FnScope N_fmix_of ["base", "bits", "key"] (defScope s_fmix_of) := ⟨rfl, rfl, rfl, by decide +kernel, rfl, by decide +kernel, by decide +kernel⟩
theorem ok_fmix_of (T : Txt K mg a) : FnOk P w K mg base (CX P w) 1 a.f_fmix_of a.d_fmix_of ["base", "bits", "key"] (spD K [false, false, false] (m_fmix_of a)) :=
  fnD T.F_fmix_of sc_fmix_of rfl fun cdv A outer s H E hr F W tk hp =>
    (dss_cons (ds_set 3 sc_fmix_of.nd (de_int (q := true)))
    (dss_cons (ds_for hp rfl (di_str (de_var 2)) (dg_name 4 sc_fmix_of.nd) (dss_one (ds_set 3 sc_fmix_of.nd (de_op0 op_mod s_mod (de_op o_addD s_addD (de_op0Q op_mul s_mul (dp_var (q := true) 3) (dp_var (q := true) 0)) (de_pk (de_call0 call_ord s_ord rfl T.n_ord (dp_var (q := true) 4)))) (de_pk (de_op0 op_shl s_shl (de_int (q := true)) (dp_var (q := true) 1)))))))
    (dss_one (ds_ret (de_var 3)))))
theorem sc_fMixing_base : FnScope N_fMixing_base ["self"] (defScope s_fMixing_base) := ⟨rfl, rfl, rfl, by decide +kernel, rfl, by decide +kernel, by decide +kernel⟩
theorem ok_fMixing_base (T : Txt K mg a) : FnOk P w K mg base (CX P w) 1 a.f_fMixing_base a.d_fMixing_base ["self"] (spD K [false] (m_fMixing_base a)) :=
  fnD T.F_fMixing_base sc_fMixing_base rfl fun cdv A outer s H E hr F W tk hp =>
    (dss_one (ds_ret (de_fld T.cl_Mixing T.na_Mixing_own_base (dp_var (q := true) 0))))
theorem sc_fMixing_bits : FnScope N_fMixing_bits ["self"] (defScope s_fMixing_bits) := ⟨rfl, rfl, rfl, by decide +kernel, rfl, by decide +kernel, by decide +kernel⟩
theorem ok_fMixing_bits (T : Txt K mg a) : FnOk P w K mg base (CX P w) 1 a.f_fMixing_bits a.d_fMixing_bits ["self"] (spD K [false] (m_fMixing_bits a)) :=
  fnD T.F_fMixing_bits sc_fMixing_bits rfl fun cdv A outer s H E hr F W tk hp =>
    (dss_one (ds_ret (de_fld T.cl_Mixing T.na_Mixing_own_bits (dp_var (q := true) 0))))
theorem sc_fMixing___repr__ : FnScope N_fMixing___repr__ ["self"] (defScope s_fMixing___repr__) := ⟨rfl, rfl, rfl, by decide +kernel, rfl, by decide +kernel, by decide +kernel⟩
theorem ok_fMixing___repr__ (T : Txt K mg a) : FnOk P w K mg base (CX P w) 1 a.f_fMixing___repr__ a.d_fMixing___repr__ ["self"] (spD K [false] (m_fMixing___repr__ a)) :=
  fnD T.F_fMixing___repr__ sc_fMixing___repr__ rfl fun cdv A outer s H E hr F W tk hp =>
    (dss_one (ds_ret (de_fstr (.cons _ (dz_str (de_str (q := true))) (.cons _ (dz_fmt (de_fld T.cl_Mixing T.na_Mixing_own_base (dp_var (q := true) 0))) (.cons _ (dz_str (de_str (q := true))) (.cons _ (dz_fmt (de_fld T.cl_Mixing T.na_Mixing_own_bits (dp_var (q := true) 0))) (.cons _ (dz_str (de_str (q := true))) .nil))))))))
theorem sc_fcheck_mixing : FnScope N_fcheck_mixing ["value"] (defScope s_fcheck_mixing) := ⟨rfl, rfl, rfl, by decide +kernel, rfl, by decide +kernel, by decide +kernel⟩
theorem ok_fcheck_mixing (T : Txt K mg a) : FnOk P w K mg base (CX P w) 1 a.f_fcheck_mixing a.d_fcheck_mixing ["value"] (spD K [false] (m_fcheck_mixing a)) :=
  fnD T.F_fcheck_mixing sc_fcheck_mixing rfl fun cdv A outer s H E hr F W tk hp =>
    (dss_one (ds_if (dt_not (dt_val (de_isO T.insts T.ask_Mixing (dp_var (q := true) 0) rfl T.n_isinstance rfl T.gc_Mixing))) (dss_one ds_never) dss_nil))
theorem sc_f_law_hand : FnScope N_f_law_hand ["script", "k"] (defScope s_f_law_hand) := ⟨rfl, rfl, rfl, by decide +kernel, rfl, by decide +kernel, by decide +kernel⟩
theorem ok_f_law_hand (T : Txt K mg a) : FnOk P w K mg base (CX P w) 1 a.f_f_law_hand a.d_f_law_hand ["script", "k"] (spD K [false, false] (m_f_law_hand a)) :=
  fnD T.F_f_law_hand sc_f_law_hand rfl fun cdv A outer s H E hr F W tk hp =>
    (dss_cons (ds_set 2 sc_f_law_hand.nd (de_ix (de_op o_addD s_addD (de_sl (de_var 0) (dx_some (de_var 1)) (dx_some (de_opQ o_addD s_addD (dp_var (q := true) 1) (de_pk (de_int (q := true)))))) (de_pk (de_fr (df_lst (da_cons (de_int (q := true)) (da_nil (q := true))))))) (de_pk (de_int (q := true))) (fun _ _ => rfl)))
    (dss_cons (ds_set 3 sc_f_law_hand.nd (de_op0 op_mod s_mod (de_op0 op_mul s_mul (de_op o_addD s_addD (de_op o_addD s_addD (de_op0Q op_mod s_mod (dp_var (q := true) 2) (de_pk (de_int (q := true)))) (de_pk (de_op0 op_mul s_mul (de_int (q := true)) (dp_var (q := true) 1)))) (de_pk (de_int (q := true)))) (de_pk (de_int (q := true)))) (de_pk (de_int (q := true)))))
    (dss_one (ds_retF (df_lst (da_cons (de_op0 op_mul s_mul (de_callT0 call_int1 s_int rfl T.n_int (de_pk (de_cmpQ (o_ge hr.units) s_ge (dp_var (q := true) 2) (de_pk (de_op0 op_pow s_pow (de_int (q := true)) (de_pk (de_int (q := true))))) rfl))) (dp_var (q := true) 2)) (da_cons (de_var 3) (da_nil (q := true)))))))))
theorem sc_f_law_draw : FnScope N_f_law_draw ["pool", "size"] (defScope s_f_law_draw) := ⟨rfl, rfl, rfl, by decide +kernel, rfl, by decide +kernel, by decide +kernel⟩
theorem ok_f_law_draw (T : Txt K mg a) : FnOk P w K mg base (CX P w) 1 a.f_f_law_draw a.d_f_law_draw ["pool", "size"] (spD K [true, false] (m_f_law_draw a)) :=
  fnD T.F_f_law_draw sc_f_law_draw rfl fun cdv A outer s H E hr F W tk hp =>
    (dss_cons (ds_if (dt_cmp (o_gt hr.units) s_gt (de_ixQ (dp_var (q := true) 0) (de_pk (de_int (q := true))) (fun _ _ => rfl)) (de_pk (de_int (q := true))) rfl) (dss_cons (ds_set 2 sc_f_law_draw.nd (de_op0 op_mod s_mod (de_ixQ (dp_var (q := true) 0) (de_pk (de_int (q := true))) (fun _ _ => rfl)) (dp_var (q := true) 1)))
    (dss_cons (ds_setIx 0 (de_op0 op_fdiv s_div (de_ixQ (dp_var (q := true) 0) (de_pk (de_int (q := true))) (fun _ _ => rfl)) (dp_var (q := true) 1)) (de_pk (de_int (q := true))))
    (dss_one (ds_ret (de_var 2))))) dss_nil)
    (dss_cons (ds_setIx 0 (de_op0 op_mod s_mod (de_op o_addD s_addD (de_op0 op_mul s_mul (de_ixQ (dp_var (q := true) 0) (de_pk (de_int (q := true))) (fun _ _ => rfl)) (de_pk (de_int (q := true)))) (de_pk (de_int (q := true)))) (de_pk (de_int (q := true)))) (de_pk (de_int (q := true))))
    (dss_one (ds_ret (de_op0 op_mod s_mod (de_op0 op_fdiv s_div (de_op0 op_mod s_mod (de_op0 op_mul s_mul (de_ixQ (dp_var (q := true) 0) (de_pk (de_int (q := true))) (fun _ _ => rfl)) (de_pk (de_ixQ (dp_var (q := true) 0) (de_pk (de_int (q := true))) (fun _ _ => rfl)))) (de_pk (de_int (q := true)))) (de_pk (de_int (q := true)))) (dp_var (q := true) 1))))))
theorem sc_f_law_mix : FnScope N_f_law_mix ["base", "bits", "key"] (defScope s_f_law_mix) := ⟨rfl, rfl, rfl, by decide +kernel, rfl, by decide +kernel, by decide +kernel⟩
theorem ok_f_law_mix (T : Txt K mg a) : FnOk P w K mg base (CX P w) 1 a.f_f_law_mix a.d_f_law_mix ["base", "bits", "key"] (spD K [false, false, false] (m_f_law_mix a)) :=
  fnD T.F_f_law_mix sc_f_law_mix rfl fun cdv A outer s H E hr F W tk hp =>
    (dss_cons (ds_set 3 sc_f_law_mix.nd (de_int (q := true)))
    (dss_cons (ds_for hp rfl (di_str (de_var 2)) (dg_name 4 sc_f_law_mix.nd) (dss_one (ds_set 3 sc_f_law_mix.nd (de_op0 op_mod s_mod (de_op o_addD s_addD (de_op0Q op_mul s_mul (dp_var (q := true) 3) (dp_var (q := true) 0)) (de_pk (de_call0 call_ord s_ord rfl T.n_ord (dp_var (q := true) 4)))) (de_pk (de_op0 op_shl s_shl (de_int (q := true)) (dp_var (q := true) 1)))))))
    (dss_one (ds_ret (de_var 3)))))
theorem sc_fin_range : FnScope N_fin_range ["value", "least", "most"] (defScope s_fin_range) := ⟨rfl, rfl, rfl, by decide +kernel, rfl, by decide +kernel, by decide +kernel⟩
theorem ok_fin_range (T : Txt K mg a) : FnOk P w K mg base (CX P w) 2 a.f_fin_range a.d_fin_range ["value", "least", "most"] (spD K [false, false, false] (m_fin_range a)) :=
  fnD T.F_fin_range sc_fin_range rfl fun cdv A outer s H E hr F W tk hp =>
    (dss_one (ds_ret (de_and (de_own (ok_fis_integer T) (hr.mono (by decide)) tk rfl T.g_fis_integer T.F_fis_integer.kp T.b_fis_integer .nil (fun _ => .nil) (dvs_cons (dv_sh (de_var 0)) (dvs_nil (q := true)))) (de_one (de_chain (o_le hr.units) s_le (o_le hr.units) s_le (de_var 1) (de_var 0) (dp_var (q := true) 2))))))
theorem sc_fcheck_key : FnScope N_fcheck_key ["value"] (defScope s_fcheck_key) := ⟨rfl, rfl, rfl, by decide +kernel, rfl, by decide +kernel, by decide +kernel⟩
theorem ok_fcheck_key (T : Txt K mg a) : FnOk P w K mg base (CX P w) 2 a.f_fcheck_key a.d_fcheck_key ["value"] (spD K [false] (m_fcheck_key a)) :=
  fnD T.F_fcheck_key sc_fcheck_key rfl fun cdv A outer s H E hr F W tk hp =>
    (dss_one (ds_if (dt_not (dt_val (de_own (ok_fis_key T) (hr.mono (by decide)) tk rfl T.g_fis_key T.F_fis_key.kp T.b_fis_key .nil (fun _ => .nil) (dvs_cons (dv_sh (de_var 0)) (dvs_nil (q := true)))))) (dss_one ds_never) dss_nil))
theorem sc_f_law_long_key : FnScope N_f_law_long_key ["pool"] (defScope s_f_law_long_key) := ⟨rfl, rfl, rfl, by decide +kernel, rfl, by decide +kernel, by decide +kernel⟩
theorem ok_f_law_long_key (T : Txt K mg a) : FnOk P w K mg base (CX P w) 2 a.f_f_law_long_key a.d_f_law_long_key ["pool"] (spD K [true] (m_f_law_long_key a)) :=
  fnD T.F_f_law_long_key sc_f_law_long_key rfl fun cdv A outer s H E hr F W tk hp =>
    (dss_cons (ds_set 1 sc_f_law_long_key.nd (de_str (q := true)))
    (dss_one (ds_ret (de_join (dz_str (de_str (q := true))) (de_pk (de_fr (df_lc (own := [("turn", 2)]) rfl sc_f_law_long_key.nd (di_rng1 rfl T.n_range (de_op o_addD s_addD (de_int (q := true)) (de_pk (de_own (ok_f_law_draw T) (hr.mono (by decide)) tk rfl T.g_f_law_draw T.F_f_law_draw.kp T.b_f_law_draw .nil (fun _ => .nil) (dvs_cons (dv_ln (q := true) 0) (dvs_cons (dv_sh (de_int (q := true))) (dvs_nil (q := true)))))))) (blkOk_by (N := N_f_law_long_key) (sc := defScope s_f_law_long_key) (by decide +kernel)) (fun _ _ _ _ _ _ => (dg_name 2 sc_f_law_long_key.nd)) (fun _ _ _ _ _ _ => dt_yes) (fun _ _ _ _ _ _ => (de_ix (de_var 1) (de_pk (de_own (ok_f_law_draw T) (hr.mono (by decide)) takes0 rfl T.g_f_law_draw T.F_f_law_draw.kp T.b_f_law_draw .nil (fun _ => .nil) (dvs_cons (dv_ln (q := true) 0) (dvs_cons (dv_sh (de_int (q := true))) (dvs_nil (q := true)))))) (fun _ _ => rfl))))))))))
theorem sc_fcheck_number : FnScope N_fcheck_number ["value", "least", "most"] (defScope s_fcheck_number) := ⟨rfl, rfl, rfl, by decide +kernel, rfl, by decide +kernel, by decide +kernel⟩
theorem ok_fcheck_number (T : Txt K mg a) : FnOk P w K mg base (CX P w) 3 a.f_fcheck_number a.d_fcheck_number ["value", "least", "most"] (spD K [false, false, false] (m_fcheck_number a)) :=
  fnD T.F_fcheck_number sc_fcheck_number rfl fun cdv A outer s H E hr F W tk hp =>
    (dss_one (ds_if (dt_not (dt_val (de_own (ok_fin_range T) (hr.mono (by decide)) tk rfl T.g_fin_range T.F_fin_range.kp T.b_fin_range .nil (fun _ => .nil) (dvs_cons (dv_sh (de_var 0)) (dvs_cons (dv_sh (de_var 1)) (dvs_cons (dv_sh (de_var 2)) (dvs_nil (q := true)))))))) (dss_one ds_never) dss_nil))
theorem sc_fMixing___call__ : FnScope N_fMixing___call__ ["self", "key"] (defScope s_fMixing___call__) := ⟨rfl, rfl, rfl, by decide +kernel, rfl, by decide +kernel, by decide +kernel⟩
theorem ok_fMixing___call__ (T : Txt K mg a) : FnOk P w K mg base (CX P w) 3 a.f_fMixing___call__ a.d_fMixing___call__ ["self", "key"] (spD K [false, false] (m_fMixing___call__ a)) :=
  fnD T.F_fMixing___call__ sc_fMixing___call__ rfl fun cdv A outer s H E hr F W tk hp =>
    (dss_cons (ds_expr (de_own (ok_fcheck_key T) (hr.mono (by decide)) tk rfl T.g_fcheck_key T.F_fcheck_key.kp T.b_fcheck_key .nil (fun _ => .nil) (dvs_cons (dv_sh (de_var 1)) (dvs_nil (q := true)))))
    (dss_one (ds_ret (de_own (ok_fmix_of T) (hr.mono (by decide)) tk rfl T.g_fmix_of T.F_fmix_of.kp T.b_fmix_of .nil (fun _ => .nil) (dvs_cons (dv_sh (de_fld T.cl_Mixing T.na_Mixing_own_base (dp_var (q := true) 0))) (dvs_cons (dv_sh (de_fld T.cl_Mixing T.na_Mixing_own_bits (dp_var (q := true) 0))) (dvs_cons (dv_sh (de_var 1)) (dvs_nil (q := true)))))))))
theorem sc_fMixing___eq__ : FnScope N_fMixing___eq__ ["self", "other"] (defScope s_fMixing___eq__) := ⟨rfl, rfl, rfl, by decide +kernel, rfl, by decide +kernel, by decide +kernel⟩
theorem ok_fMixing___eq__ (T : Txt K mg a) : FnOk P w K mg base (CX P w) 3 a.f_fMixing___eq__ a.d_fMixing___eq__ ["self", "other"] (spD K [false, false] (m_fMixing___eq__ a)) :=
  fnD T.F_fMixing___eq__ sc_fMixing___eq__ rfl fun cdv A outer s H E hr F W tk hp =>
    (dss_one (ds_ret (de_and (de_isO T.insts T.ask_Mixing (dp_var (q := true) 1) rfl T.n_isinstance rfl T.gc_Mixing) (de_and (de_cmp (op_eqP hr.units) s_eq (de_fld T.cl_Mixing T.na_Mixing_own_base (dp_var (q := true) 0)) (de_pk (de_prop (dv_sh (de_var 1)) T.cl_Mixing T.p_fMixing_base (ok_fMixing_base T) (hr.mono (by decide)) T.b_fMixing_base)) rfl) (de_one (de_cmp (op_eqP hr.units) s_eq (de_fld T.cl_Mixing T.na_Mixing_own_bits (dp_var (q := true) 0)) (de_pk (de_prop (dv_sh (de_var 1)) T.cl_Mixing T.p_fMixing_bits (ok_fMixing_bits T) (hr.mono (by decide)) T.b_fMixing_bits)) rfl))))))
theorem sc_fplace_of : FnScope N_fplace_of ["mixing", "key"] (defScope s_fplace_of) := ⟨rfl, rfl, rfl, by decide +kernel, rfl, by decide +kernel, by decide +kernel⟩
theorem ok_fplace_of (T : Txt K mg a) : FnOk P w K mg base (CX P w) 3 a.f_fplace_of a.d_fplace_of ["mixing", "key"] (spD K [false, false] (m_fplace_of a)) :=
  fnD T.F_fplace_of sc_fplace_of rfl fun cdv A outer s H E hr F W tk hp =>
    (dss_one (ds_ret (de_tup (da_cons (de_own (ok_fmix_of T) (hr.mono (by decide)) tk rfl T.g_fmix_of T.F_fmix_of.kp T.b_fmix_of .nil (fun _ => .nil) (dvs_cons (dv_sh (de_prop (dv_sh (de_var 0)) T.cl_Mixing T.p_fMixing_base (ok_fMixing_base T) (hr.mono (by decide)) T.b_fMixing_base)) (dvs_cons (dv_sh (de_prop (dv_sh (de_var 0)) T.cl_Mixing T.p_fMixing_bits (ok_fMixing_bits T) (hr.mono (by decide)) T.b_fMixing_bits)) (dvs_cons (dv_sh (de_var 1)) (dvs_nil (q := true)))))) (da_cons (de_var 1) (da_nil (q := true)))))))
theorem sc_fMixing___init__ : FnScope N_fMixing___init__ ["self", "base", "bits"] (defScope s_fMixing___init__) := ⟨rfl, rfl, rfl, by decide +kernel, rfl, by decide +kernel, by decide +kernel⟩
theorem ok_fMixing___init__ (T : Txt K mg a) : FnOk P w K mg base (CX P w) 4 a.f_fMixing___init__ a.d_fMixing___init__ ["self", "base", "bits"] (spD K [true, false, false] (m_fMixing___init__ a)) :=
  fnD T.F_fMixing___init__ sc_fMixing___init__ rfl fun cdv A outer s H E hr F W tk hp =>
    (dss_cons (ds_expr (de_own (ok_fcheck_number T) (hr.mono (by decide)) tk rfl T.g_fcheck_number T.F_fcheck_number.kp T.b_fcheck_number .nil (fun _ => .nil) (dvs_cons (dv_sh (de_var 1)) (dvs_cons (dv_sh (de_int (q := true))) (dvs_cons (dv_sh (de_globE (q := true) rfl T.k_MAX_BASE (fun _ => Rep.int _))) (dvs_nil (q := true)))))))
    (dss_cons (ds_expr (de_own (ok_fcheck_number T) (hr.mono (by decide)) tk rfl T.g_fcheck_number T.F_fcheck_number.kp T.b_fcheck_number .nil (fun _ => .nil) (dvs_cons (dv_sh (de_var 2)) (dvs_cons (dv_sh (de_int (q := true))) (dvs_cons (dv_sh (de_globE (q := true) rfl T.k_MAX_BITS (fun _ => Rep.int _))) (dvs_nil (q := true)))))))
    (dss_cons (ds_put 0 T.cl_Mixing T.na_Mixing_own_base (de_var 1))
    (dss_one (ds_put 0 T.cl_Mixing T.na_Mixing_own_bits (de_var 2))))))
theorem sc_fplace : FnScope N_fplace ["mixing", "key"] (defScope s_fplace) := ⟨rfl, rfl, rfl, by decide +kernel, rfl, by decide +kernel, by decide +kernel⟩
theorem ok_fplace (T : Txt K mg a) : FnOk P w K mg base (CX P w) 4 a.f_fplace a.d_fplace ["mixing", "key"] (spD K [false, false] (m_fplace a)) :=
  fnD T.F_fplace sc_fplace rfl fun cdv A outer s H E hr F W tk hp =>
    (dss_cons (ds_expr (de_own (ok_fcheck_mixing T) (hr.mono (by decide)) tk rfl T.g_fcheck_mixing T.F_fcheck_mixing.kp T.b_fcheck_mixing .nil (fun _ => .nil) (dvs_cons (dv_sh (de_var 0)) (dvs_nil (q := true)))))
    (dss_cons (ds_expr (de_own (ok_fcheck_key T) (hr.mono (by decide)) tk rfl T.g_fcheck_key T.F_fcheck_key.kp T.b_fcheck_key .nil (fun _ => .nil) (dvs_cons (dv_sh (de_var 1)) (dvs_nil (q := true)))))
    (dss_one (ds_ret (de_own (ok_fplace_of T) (hr.mono (by decide)) tk rfl T.g_fplace_of T.F_fplace_of.kp T.b_fplace_of .nil (fun _ => .nil) (dvs_cons (dv_sh (de_var 0)) (dvs_cons (dv_sh (de_var 1)) (dvs_nil (q := true)))))))))
theorem sc_flaw : FnScope N_flaw ["script"] (defScope s_flaw) := ⟨rfl, rfl, rfl, by decide +kernel, rfl, by decide +kernel, by decide +kernel⟩
theorem ok_flaw (T : Txt K mg a) : FnOk P w K mg base (CX P w) 6 a.f_flaw a.d_flaw ["script"] (spD K [false] (m_flaw a)) :=
  fnD T.F_flaw sc_flaw rfl fun cdv A outer s H E hr F W tk hp =>
    (dss_cons (ds_if (dt_cmp (op_neP hr.units) s_ne (de_fr (df_lst (da_cons (de_globE (q := true) rfl T.k_MAX_BASE (fun _ => Rep.int _)) (da_cons (de_globE (q := true) rfl T.k_MAX_BITS (fun _ => Rep.int _)) (da_cons (de_globE (q := true) rfl T.k_MAX_LENGTH (fun _ => Rep.int _)) (da_cons (de_globE (q := true) rfl T.k_MAX_NUMBER (fun _ => Rep.int _)) (da_nil (q := true)))))))) (de_pk (de_fr (df_lst (da_cons (de_int (q := true)) (da_cons (de_int (q := true)) (da_cons (de_int (q := true)) (da_cons (de_op0 op_pow s_pow (de_int (q := true)) (de_pk (de_int (q := true)))) (da_nil (q := true))))))))) rfl) (dss_one (ds_ret (de_bl (q := true)))) dss_nil)
    (dss_cons (ds_for hp rfl (di_rng1 rfl T.n_range (de_call2 (call_max2 rfl) s_max2 rfl T.n_max (de_int (q := true)) (de_pk (de_call2 (call_min2 rfl) s_min2 rfl T.n_min (de_call0 k_len s_len rfl T.n_len (dp_var (q := true) 0)) (de_pk (de_int (q := true))))))) (dg_name 1 sc_flaw.nd) (dss_cons (ds_setF 2 sc_flaw.nd (df_own (ok_f_law_hand T) (hr.mono (by decide)) tk rfl T.g_f_law_hand T.F_f_law_hand.kp T.b_f_law_hand .nil (fun _ => .nil) (dvs_cons (dv_sh (de_var 0)) (dvs_cons (dv_sh (de_var 1)) (dvs_nil (q := true))))))
    (dss_cons (ds_par (i := 3) (j := 4) rfl sc_flaw.nd (da_cons (de_op o_addD s_addD (de_int (q := true)) (de_pk (de_own (ok_f_law_draw T) (hr.mono (by decide)) tk rfl T.g_f_law_draw T.F_f_law_draw.kp T.b_f_law_draw .nil (fun _ => .nil) (dvs_cons (dv_ln (q := true) 2) (dvs_cons (dv_sh (de_int (q := true))) (dvs_nil (q := true))))))) (da_cons (de_op o_addD s_addD (de_int (q := true)) (de_pk (de_own (ok_f_law_draw T) (hr.mono (by decide)) tk rfl T.g_f_law_draw T.F_f_law_draw.kp T.b_f_law_draw .nil (fun _ => .nil) (dvs_cons (dv_ln (q := true) 2) (dvs_cons (dv_sh (de_int (q := true))) (dvs_nil (q := true))))))) (da_nil (q := true)))))
    (dss_cons (ds_set 5 sc_flaw.nd (de_fr (df_make T.mk_Mixing (ok_fMixing___init__ T) (hr.mono (by decide)) tk rfl T.gc_Mixing T.b_fMixing___init__ .nil (fun _ => .nil) (dvs_cons (dv_sh (de_var 3)) (dvs_cons (dv_sh (de_var 4)) (dvs_nil (q := true)))))))
    (dss_cons (ds_if (PW.pt (dt_or (dt_cmp (op_neP hr.units) s_ne (de_fr (df_lst (da_cons (de_prop (dv_sh (de_var 5)) T.cl_Mixing T.p_fMixing_base (ok_fMixing_base T) (hr.mono (by decide)) T.b_fMixing_base) (da_cons (de_prop (dv_sh (de_var 5)) T.cl_Mixing T.p_fMixing_bits (ok_fMixing_bits T) (hr.mono (by decide)) T.b_fMixing_bits) (da_nil (q := true)))))) (de_pk (de_fr (df_lst (da_cons (de_var 3) (da_cons (de_var 4) (da_nil (q := true))))))) rfl) (dt_or1 (dt_cmp (op_neP hr.units) s_ne (de_reprO T.rp_Mixing T.rf_Mixing (ok_fMixing___repr__ T) (hr.mono (by decide)) T.b_fMixing___repr__ (dv_sh (de_var 5)) rfl T.n_repr) (de_pk (de_fstr (.cons _ (dz_str (de_str (q := true))) (.cons _ (dz_fmt (de_var 3)) (.cons _ (dz_str (de_str (q := true))) (.cons _ (dz_fmt (de_var 4)) (.cons _ (dz_str (de_str (q := true))) .nil))))))) rfl)))) (dss_one (ds_ret (de_bl (q := true)))) dss_nil)
    (dss_cons (ds_if (PW.pt (dt_or (dt_neO T.insts T.eq_Mixing T.ne_Mixing T.it_Mixing.hm (ok_fMixing___eq__ T) (hr.mono (by decide)) T.b_fMixing___eq__ (dv_sh (de_var 5)) (dv_sh (de_fr (df_make T.mk_Mixing (ok_fMixing___init__ T) (hr.mono (by decide)) tk rfl T.gc_Mixing T.b_fMixing___init__ .nil (fun _ => .nil) (dvs_cons (dv_sh (de_var 3)) (dvs_cons (dv_sh (de_var 4)) (dvs_nil (q := true)))))))) (dt_or1 (dt_eqO T.insts T.eq_Mixing (ok_fMixing___eq__ T) (hr.mono (by decide)) T.b_fMixing___eq__ (dv_sh (de_var 5)) (dv_sh (de_fr (df_make T.mk_Mixing (ok_fMixing___init__ T) (hr.mono (by decide)) tk rfl T.gc_Mixing T.b_fMixing___init__ .nil (fun _ => .nil) (dvs_cons (dv_sh (de_var 3)) (dvs_cons (dv_sh (de_op o_addD s_addD (de_int (q := true)) (de_pk (de_op0Q op_mod s_mod (dp_var (q := true) 4) (de_pk (de_int (q := true))))))) (dvs_nil (q := true))))))))))) (dss_one (ds_ret (de_bl (q := true)))) dss_nil)
    (dss_cons (ds_if (dt_eqO T.insts T.eq_Mixing (ok_fMixing___eq__ T) (hr.mono (by decide)) T.b_fMixing___eq__ (dv_sh (de_var 5)) (dv_sh (de_fr (df_make T.mk_Mixing (ok_fMixing___init__ T) (hr.mono (by decide)) tk rfl T.gc_Mixing T.b_fMixing___init__ .nil (fun _ => .nil) (dvs_cons (dv_sh (de_op o_addD s_addD (de_int (q := true)) (de_pk (de_op0Q op_mod s_mod (dp_var (q := true) 3) (de_pk (de_int (q := true))))))) (dvs_cons (dv_sh (de_var 4)) (dvs_nil (q := true)))))))) (dss_one (ds_ret (de_bl (q := true)))) dss_nil)
    (dss_cons (ds_if (PW.pt (dt_or (dt_eqO T.insts T.eq_Mixing (ok_fMixing___eq__ T) (hr.mono (by decide)) T.b_fMixing___eq__ (dv_sh (de_var 5)) (dv_sh (de_tup (da_cons (de_var 3) (da_cons (de_var 4) (da_nil (q := true))))))) (dt_or1 (dt_eqO T.insts T.eq_Mixing (ok_fMixing___eq__ T) (hr.mono (by decide)) T.b_fMixing___eq__ (dv_sh (de_var 5)) (dv_sh (de_reprO T.rp_Mixing T.rf_Mixing (ok_fMixing___repr__ T) (hr.mono (by decide)) T.b_fMixing___repr__ (dv_sh (de_var 5)) rfl T.n_repr)))))) (dss_one (ds_ret (de_bl (q := true)))) dss_nil)
    (dss_cons (ds_for hp rfl (di_rng1 rfl T.n_range (de_int (q := true))) (dg_name 6 sc_flaw.nd) (dss_cons (ds_set 7 sc_flaw.nd (de_own (ok_f_law_long_key T) (hr.mono (by decide)) tk rfl T.g_f_law_long_key T.F_f_law_long_key.kp T.b_f_law_long_key .nil (fun _ => .nil) (dvs_cons (dv_ln (q := true) 2) (dvs_nil (q := true)))))
    (dss_cons (ds_set 8 sc_flaw.nd (de_own (ok_f_law_mix T) (hr.mono (by decide)) tk rfl T.g_f_law_mix T.F_f_law_mix.kp T.b_f_law_mix .nil (fun _ => .nil) (dvs_cons (dv_sh (de_var 3)) (dvs_cons (dv_sh (de_var 4)) (dvs_cons (dv_sh (de_var 7)) (dvs_nil (q := true)))))))
    (dss_one (ds_if (PW.pt (dt_or (dt_cmp (op_neP hr.units) s_ne (de_callO (dv_sh (de_var 5)) T.co_Mixing (ok_fMixing___call__ T) (hr.mono (by decide)) tk T.b_fMixing___call__ .nil (fun _ => .nil) (dvs_cons (dv_sh (de_var 7)) (dvs_nil (q := true)))) (dp_var (q := true) 8) rfl) (dt_or (dt_cmp (op_neP hr.units) s_ne (de_own (ok_fplace T) (hr.mono (by decide)) tk rfl T.g_fplace T.F_fplace.kp T.b_fplace .nil (fun _ => .nil) (dvs_cons (dv_sh (de_var 5)) (dvs_cons (dv_sh (de_var 7)) (dvs_nil (q := true))))) (de_pk (de_tup (da_cons (de_var 8) (da_cons (de_var 7) (da_nil (q := true)))))) rfl) (dt_or1 (dt_cmp o_isn s_isn (de_own (ok_fis_key T) (hr.mono (by decide)) tk rfl T.g_fis_key T.F_fis_key.kp T.b_fis_key .nil (fun _ => .nil) (dvs_cons (dv_sh (de_var 7)) (dvs_nil (q := true)))) (de_pk (de_bl (q := true))) rfl))))) (dss_one (ds_ret (de_bl (q := true)))) dss_nil)))))
    (dss_cons (ds_set 7 sc_flaw.nd (de_own (ok_f_law_long_key T) (hr.mono (by decide)) tk rfl T.g_f_law_long_key T.F_f_law_long_key.kp T.b_f_law_long_key .nil (fun _ => .nil) (dvs_cons (dv_ln (q := true) 2) (dvs_nil (q := true)))))
    (dss_cons (ds_set 9 sc_flaw.nd (de_fr (df_lst (da_cons (de_non (q := true)) (da_cons (de_int (q := true)) (da_cons (de_str (q := true)) (da_cons (de_opQ o_addD s_addD (dp_var (q := true) 7) (de_pk (de_op0 o_repS s_repS (de_str (q := true)) (de_pk (de_int (q := true)))))) (da_cons (de_opQ o_addD s_addD (dp_var (q := true) 7) (de_pk (de_str (q := true)))) (da_cons (de_op o_addD s_addD (de_slQ (dp_var (q := true) 7) (dx_none) (dx_some (de_int (q := true)))) (de_pk (de_str (q := true)))) (da_cons (de_op o_addD s_addD (de_slQ (dp_var (q := true) 7) (dx_none) (dx_some (de_int (q := true)))) (de_pk (de_str (q := true)))) (da_cons (de_fr (df_lst (da_cons (de_str (q := true)) (da_nil (q := true))))) (da_cons (de_tup (da_cons (de_str (q := true)) (da_nil (q := true)))) (da_cons (de_fr df_dK) (da_nil (q := true)))))))))))))))
    (dss_one (ds_for hp rfl (di_list (de_var 9)) (dg_name 10 sc_flaw.nd) (dss_one (ds_if (dt_cmp o_isn s_isn (de_own (ok_fis_key T) (hr.mono (by decide)) tk rfl T.g_fis_key T.F_fis_key.kp T.b_fis_key .nil (fun _ => .nil) (dvs_cons (dv_sh (de_var 10)) (dvs_nil (q := true)))) (de_pk (de_bl (q := true))) rfl) (dss_one (ds_ret (de_bl (q := true)))) dss_nil)))))))))))))))
    (dss_one (ds_ret (de_bl (q := true))))))
end
end K01

namespace K01
open PySem L2 DL

/-! ### the draws -/
def pl (p : Int × Int) : D := .lst [.int p.1, .int p.2]
def drawP (p : Int × Int) (n : Int) : Int × Int := if 0 < p.1 then (p.1 / n, p.2) else (p.1, (p.2 * 48271 + 11) % 2147483647)
def drawV (p : Int × Int) (n : Int) : Int := if 0 < p.1 then p.1 % n else (((p.2 * 48271 + 11) % 2147483647) * ((p.2 * 48271 + 11) % 2147483647)) % 2147483629 / 64 % n
theorem draw_eq (a : Ad) (p : Int × Int) (n : Int) (h0 : 0 < n) (h1 : n < 1073741824) : m_f_law_draw a [pl p, .int n] = .ok false (.int (drawV p n)) [pl (drawP p n), .non] := by
  obtain ⟨p0, p1⟩ := p
  unfold m_f_law_draw runF pl drawV drawP
  by_cases c : 0 < p0
  · simp [a_ret,a_bnd,a_lift,a_opM,a_unM,a_testM,a_andM,a_orM,a_notM,a_iteM,a_andV,a_orV,a_notV,a_shareM,a_varM,a_peekM,a_args0,a_args1,a_lstM,a_tupM,a_chainM,a_partM0,a_partM1,a_slM,a_asStrM,a_fmtM,a_joinM,a_fstrM,a_fstr0,a_fstr1,a_seqM,a_ifM,a_skipM,a_dropM,a_retM,a_retF,a_retN,a_bkM,a_ctM,a_retOw,a_asgM,a_asgF,a_parM,a_nameT,a_tupT,a_tgs0,a_tgs1,a_forM,a_loop0,a_loop1,a_strM,a_seqM',a_tupM',a_rng1M,a_compM,a_comp0,a_comp1,a_wipe0,a_wipe1,a_avs0,a_avs1,a_shA,a_lnA,a_callM,a_callF,a_callQ,a_callN,a_mkQ,a_makeF,a_chkO,a_noErr,a_propM,a_callOM,a_methM,a_cmpO,a_reprO,a_putM,a_flM,a_wrM,a_setIx,a_fm0,a_fm1,a_fm2, initS, ixD, atI, ixN, gtD, gtvD, c, modI, h0, h1, divI, isLst, flatD, endF, outS]
  · have hx : -18446744073709551616 < (p1 * 48271 + 11) % 2147483647 ∧ (p1 * 48271 + 11) % 2147483647 < 18446744073709551616 := by omega
    simp [a_ret,a_bnd,a_lift,a_opM,a_unM,a_testM,a_andM,a_orM,a_notM,a_iteM,a_andV,a_orV,a_notV,a_shareM,a_varM,a_peekM,a_args0,a_args1,a_lstM,a_tupM,a_chainM,a_partM0,a_partM1,a_slM,a_asStrM,a_fmtM,a_joinM,a_fstrM,a_fstr0,a_fstr1,a_seqM,a_ifM,a_skipM,a_dropM,a_retM,a_retF,a_retN,a_bkM,a_ctM,a_retOw,a_asgM,a_asgF,a_parM,a_nameT,a_tupT,a_tgs0,a_tgs1,a_forM,a_loop0,a_loop1,a_strM,a_seqM',a_tupM',a_rng1M,a_compM,a_comp0,a_comp1,a_wipe0,a_wipe1,a_avs0,a_avs1,a_shA,a_lnA,a_callM,a_callF,a_callQ,a_callN,a_mkQ,a_makeF,a_chkO,a_noErr,a_propM,a_callOM,a_methM,a_cmpO,a_reprO,a_putM,a_flM,a_wrM,a_setIx,a_fm0,a_fm1,a_fm2, initS, ixD, atI, ixN, gtD, gtvD, c, modI, h0, h1, hx, divI, isLst, flatD, endF, outS, mulI, addD]
theorem drawV_rng (p : Int × Int) (n : Int) (h : 0 < n) : 0 ≤ drawV p n ∧ drawV p n < n := by
  unfold drawV
  split
  · exact ⟨Int.emod_nonneg _ (by omega), Int.emod_lt_of_pos _ h⟩
  · exact ⟨Int.emod_nonneg _ (by omega), Int.emod_lt_of_pos _ h⟩
theorem atI_zero {α : Type} (x : α) (xs : List α) : atI (x :: xs) 0 = some x := by
  unfold atI ixN
  rw [if_pos (Int.le_refl 0), if_pos (by rw [List.length_cons]; omega)]
  rfl
theorem cut1 (ds : List D) (k : Nat) : (cutD ds (some (k : Int)) (some ((k : Int) + 1))).length ≤ 1 := by
  unfold cutD
  have e1 := HT.sIx_nat ds.length ds.length (k + 1)
  rw [Int.natCast_add, Int.natCast_one] at e1
  rw [e1, HT.sIx_nat]
  refine Nat.le_trans (List.length_take_le _ _) ?_
  omega
def handP (c : Int) (k : Nat) : Int × Int := ((if 1000000000000000000 ≤ c then (1 : Int) else 0) * c, (c % 2147483647 + 7919 * (k : Int) + 1) * 48271 % 2147483629)
theorem hand_eq (a : Ad) (ns : List Int) (k : Nat) (h : k < 1000000) : ∃ p, m_f_law_hand a [.kl (ns.map .int), .int k] = .ok true (pl p) [.non, .non] := by
  have cell : ∃ c : Int, atI ((cutD (ns.map D.int) (some (k : Int)) (some ((k : Int) + 1))) ++ [D.int 0]) 0 = some (.int c) := by
    have : ∃ ms : List Int, cutD (ns.map D.int) (some (k : Int)) (some ((k : Int) + 1)) = ms.map .int := by
      unfold cutD
      rw [← List.map_drop, ← List.map_take]
      exact ⟨_, rfl⟩
    obtain ⟨ms, e⟩ := this
    rw [e]
    cases ms with
    | nil => exact ⟨0, atI_zero _ _⟩
    | cons m ms => exact ⟨m, atI_zero _ _⟩
  obtain ⟨c, hc⟩ := cell
  have lc : (cutD (ns.map D.int) (some (k : Int)) (some ((k : Int) + 1))).length + 1 ≤ 16777216 := by
    have := cut1 (ns.map D.int) k
    omega
  refine ⟨handP c k, ?_⟩
  have hk : -18446744073709551616 < 7919 ∧ (7919 : Int) < 18446744073709551616 := by omega
  have h01 : (-18446744073709551616 < (if 1000000000000000000 ≤ c then (1 : Int) else 0) ∧ (if 1000000000000000000 ≤ c then (1 : Int) else 0) < 18446744073709551616) := by split <;> omega
  unfold m_f_law_hand runF
  simp [a_ret,a_bnd,a_lift,a_opM,a_unM,a_testM,a_andM,a_orM,a_notM,a_iteM,a_andV,a_orV,a_notV,a_shareM,a_varM,a_peekM,a_args0,a_args1,a_lstM,a_tupM,a_chainM,a_partM0,a_partM1,a_slM,a_asStrM,a_fmtM,a_joinM,a_fstrM,a_fstr0,a_fstr1,a_seqM,a_ifM,a_skipM,a_dropM,a_retM,a_retF,a_retN,a_bkM,a_ctM,a_retOw,a_asgM,a_asgF,a_parM,a_nameT,a_tupT,a_tgs0,a_tgs1,a_forM,a_loop0,a_loop1,a_strM,a_seqM',a_tupM',a_rng1M,a_compM,a_comp0,a_comp1,a_wipe0,a_wipe1,a_avs0,a_avs1,a_shA,a_lnA,a_callM,a_callF,a_callQ,a_callN,a_mkQ,a_makeF,a_chkO,a_noErr,a_propM,a_callOM,a_methM,a_cmpO,a_reprO,a_putM,a_flM,a_wrM,a_setIx,a_fm0,a_fm1,a_fm2, initS, slD, addD, addL, ixD, hc, lc, modI, flatD, mulI, powI, geD, gevD, intD, endF, outS, pl, handP]
  rw [if_pos (.inl h01)]
  rfl
/-! ### the mix -/
def mixF (base bits : Int) : List Nat → Int → Int
  | [], f => f
  | c :: cs, f => mixF base bits cs ((f * base + (c : Int)) % 2 ^ bits.toNat)
theorem mix_loop (a : Ad) (base bits : Int) (key : Str) (hb : 0 ≤ base ∧ base ≤ 1000) (hc : 0 ≤ bits ∧ bits ≤ 32) : ∀ (cs : List Nat) (f : Int) (x : Option Slot), ∃ y,
    loopM (nameT 4) (bd0_fmix_of a) (cs.map fun c => D.str ⟨#[c]⟩) [some (.sh (.int base)), some (.sh (.int bits)), some (.sh (.str key)), some (.sh (.int f)), x] = .nx [some (.sh (.int base)), some (.sh (.int bits)), some (.sh (.str key)), some (.sh (.int (mixF base bits cs f))), y]
  | [], f, x => ⟨x, rfl⟩
  | c :: cs, f, x => by
    obtain ⟨y, h⟩ := mix_loop a base bits key hb hc cs ((f * base + (c : Int)) % 2 ^ bits.toNat) (some (.sh (.str ⟨#[c]⟩)))
    refine ⟨y, ?_⟩
    have h1 : -18446744073709551616 < base ∧ base < 18446744073709551616 := by omega
    have h2 : bits ≤ 1000000 := by omega
    have h3 : (0 : Int) < 2 ^ bits.toNat := Int.pow_pos (by omega)
    have h4 : (⟨#[c]⟩ : Str).length = 1 := rfl
    rw [List.map_cons, a_loop1]
    unfold bd0_fmix_of
    simp [a_ret,a_bnd,a_lift,a_opM,a_unM,a_testM,a_andM,a_orM,a_notM,a_iteM,a_andV,a_orV,a_notV,a_shareM,a_varM,a_peekM,a_args0,a_args1,a_lstM,a_tupM,a_chainM,a_partM0,a_partM1,a_slM,a_asStrM,a_fmtM,a_joinM,a_fstrM,a_fstr0,a_fstr1,a_seqM,a_ifM,a_skipM,a_dropM,a_retM,a_retF,a_retN,a_bkM,a_ctM,a_retOw,a_asgM,a_asgF,a_parM,a_nameT,a_tupT,a_tgs0,a_tgs1,a_forM,a_loop0,a_loop1,a_strM,a_seqM',a_tupM',a_rng1M,a_compM,a_comp0,a_comp1,a_wipe0,a_wipe1,a_avs0,a_avs1,a_shA,a_lnA,a_callM,a_callF,a_callQ,a_callN,a_mkQ,a_makeF,a_chkO,a_noErr,a_propM,a_callOM,a_methM,a_cmpO,a_reprO,a_putM,a_flM,a_wrM,a_setIx,a_fm0,a_fm1,a_fm2, mulI, h1, ordD, addD, modI, shlI, hc.1, h2, h3, h4]
    exact h
theorem mix_eq (a : Ad) (base bits : Int) (key : Str) (hb : 0 ≤ base ∧ base ≤ 1000) (hc : 0 ≤ bits ∧ bits ≤ 32) : m_fmix_of a [.int base, .int bits, .str key] = .ok false (.int (mixF base bits key.cps.toList 0)) [.non, .non, .non] := by
  obtain ⟨y, h⟩ := mix_loop a base bits key hb hc key.cps.toList 0 none
  unfold m_fmix_of runF
  simp [a_ret,a_bnd,a_lift,a_opM,a_unM,a_testM,a_andM,a_orM,a_notM,a_iteM,a_andV,a_orV,a_notV,a_shareM,a_varM,a_peekM,a_args0,a_args1,a_lstM,a_tupM,a_chainM,a_partM0,a_partM1,a_slM,a_asStrM,a_fmtM,a_joinM,a_fstrM,a_fstr0,a_fstr1,a_seqM,a_ifM,a_skipM,a_dropM,a_retM,a_retF,a_retN,a_bkM,a_ctM,a_retOw,a_asgM,a_asgF,a_parM,a_nameT,a_tupT,a_tgs0,a_tgs1,a_forM,a_loop0,a_loop1,a_strM,a_seqM',a_tupM',a_rng1M,a_compM,a_comp0,a_comp1,a_wipe0,a_wipe1,a_avs0,a_avs1,a_shA,a_lnA,a_callM,a_callF,a_callQ,a_callN,a_mkQ,a_makeF,a_chkO,a_noErr,a_propM,a_callOM,a_methM,a_cmpO,a_reprO,a_putM,a_flM,a_wrM,a_setIx,a_fm0,a_fm1,a_fm2, initS, strD, flatD, endF, outS, h]
theorem mix_same (a : Ad) : m_f_law_mix a = m_fmix_of a := rfl
/-! ### keys -/
abbrev CH : Str := "abcdefghijklmnopqrstuvwxyz0123456789"
def inC (c : Nat) : Bool := decide (c ∈ CH.cps.toList)
def okS (s : Str) : Bool := s.cps.toList.all inC
theorem asBls_f (f : Nat → Bool) : ∀ cs : List Nat, asBls (cs.map fun c => D.bl (f c)) = some (cs.map f)
  | [] => rfl
  | c :: cs => by
    rw [List.map_cons, List.map_cons, asBls, asBls_f f cs]
    rfl
theorem key_loop (a : Ad) (k : Str) : ∀ (cs : List Nat) (acc : List D) (x : Option Slot), acc.length + cs.length < 16777216 → ∃ y,
    compL [1] (nameT 1) (DL.ret true) (bd0_fis_key a) (cs.map fun c => D.str ⟨#[c]⟩) acc [some (.sh (.str k)), x] = .ok (.lst (acc ++ cs.map fun c => .bl (inC c))) [some (.sh (.str k)), y]
  | [], acc, x, _ => ⟨x, by rw [List.map_nil, a_comp0]; simp⟩
  | c :: cs, acc, x, hl => by
    rw [List.length_cons] at hl
    obtain ⟨y, h⟩ := key_loop a k cs (acc ++ [.bl (inC c)]) none (by rw [List.length_append, List.length_singleton]; omega)
    refine ⟨y, ?_⟩
    have h1 : acc.length < 16777216 := by omega
    have h2 : bd0_fis_key a [some (.sh (.str k)), some (.sh (.str ⟨#[c]⟩))] = .ok (.bl (inC c)) [some (.sh (.str k)), some (.sh (.str ⟨#[c]⟩))] := rfl
    rw [List.map_cons, a_comp1]
    simp only [a_ret,a_bnd,a_lift,a_opM,a_unM,a_testM,a_andM,a_orM,a_notM,a_iteM,a_andV,a_orV,a_notV,a_shareM,a_varM,a_peekM,a_args0,a_args1,a_lstM,a_tupM,a_chainM,a_partM0,a_partM1,a_slM,a_asStrM,a_fmtM,a_joinM,a_fstrM,a_fstr0,a_fstr1,a_seqM,a_ifM,a_skipM,a_dropM,a_retM,a_retF,a_retN,a_bkM,a_ctM,a_retOw,a_asgM,a_asgF,a_parM,a_nameT,a_tupT,a_tgs0,a_tgs1,a_forM,a_loop0,a_loop1,a_strM,a_seqM',a_tupM',a_rng1M,a_compM,a_comp0,a_comp1,a_wipe0,a_wipe1,a_avs0,a_avs1,a_shA,a_lnA,a_callM,a_callF,a_callQ,a_callN,a_mkQ,a_makeF,a_chkO,a_noErr,a_propM,a_callOM,a_methM,a_cmpO,a_reprO,a_putM,a_flM,a_wrM,a_setIx,a_fm0,a_fm1,a_fm2, List.getElem?_cons_succ, List.getElem?_cons_zero, List.set_cons_succ, List.set_cons_zero, h2, h1, if_true]
    rw [h, List.map_cons, List.append_assoc]
    rfl
theorem is_key_str (a : Ad) (s : Str) (h : s.length ≤ 1000000) : m_fis_key a [.str s] = .ok false (.bl (decide (1 ≤ s.length ∧ s.length ≤ 20) && okS s)) [.non] := by
  have hl : s.cps.toList.length = s.length := Array.length_toList
  obtain ⟨y, e⟩ := key_loop a s s.cps.toList [] none (by rw [hl, List.length_nil]; omega)
  have h3 : s.length ≤ 16777216 := by omega
  unfold m_fis_key runF
  by_cases c1 : 1 ≤ s.length
  · by_cases c2 : s.length ≤ 20
    · have c1' : (1 : Int) ≤ (s.length : Int) := by omega
      have c2' : (s.length : Int) ≤ 20 := by omega
      have e2 : blsOf (.lst ([] ++ s.cps.toList.map fun c => .bl (inC c))) = some (s.cps.toList.map inC) := asBls_f inC _
      simp only [List.nil_append] at e e2
      simp [a_ret,a_bnd,a_lift,a_opM,a_unM,a_testM,a_andM,a_orM,a_notM,a_iteM,a_andV,a_orV,a_notV,a_shareM,a_varM,a_peekM,a_args0,a_args1,a_lstM,a_tupM,a_chainM,a_partM0,a_partM1,a_slM,a_asStrM,a_fmtM,a_joinM,a_fstrM,a_fstr0,a_fstr1,a_seqM,a_ifM,a_skipM,a_dropM,a_retM,a_retF,a_retN,a_bkM,a_ctM,a_retOw,a_asgM,a_asgF,a_parM,a_nameT,a_tupT,a_tgs0,a_tgs1,a_forM,a_loop0,a_loop1,a_strM,a_seqM',a_tupM',a_rng1M,a_compM,a_comp0,a_comp1,a_wipe0,a_wipe1,a_avs0,a_avs1,a_shA,a_lnA,a_callM,a_callF,a_callQ,a_callN,a_mkQ,a_makeF,a_chkO,a_noErr,a_propM,a_callOM,a_methM,a_cmpO,a_reprO,a_putM,a_flM,a_wrM,a_setIx,a_fm0,a_fm1,a_fm2, initS, isB, kindIn, kindD, isK, leD, levD, lenD, h3, c1', c2', strD, flatD, e, allD, e2, endF, outS, c1, c2, okS, List.all_map]
    · have c1' : (1 : Int) ≤ (s.length : Int) := by omega
      have c2' : ¬ (s.length : Int) ≤ 20 := by omega
      simp [a_ret,a_bnd,a_lift,a_opM,a_unM,a_testM,a_andM,a_orM,a_notM,a_iteM,a_andV,a_orV,a_notV,a_shareM,a_varM,a_peekM,a_args0,a_args1,a_lstM,a_tupM,a_chainM,a_partM0,a_partM1,a_slM,a_asStrM,a_fmtM,a_joinM,a_fstrM,a_fstr0,a_fstr1,a_seqM,a_ifM,a_skipM,a_dropM,a_retM,a_retF,a_retN,a_bkM,a_ctM,a_retOw,a_asgM,a_asgF,a_parM,a_nameT,a_tupT,a_tgs0,a_tgs1,a_forM,a_loop0,a_loop1,a_strM,a_seqM',a_tupM',a_rng1M,a_compM,a_comp0,a_comp1,a_wipe0,a_wipe1,a_avs0,a_avs1,a_shA,a_lnA,a_callM,a_callF,a_callQ,a_callN,a_mkQ,a_makeF,a_chkO,a_noErr,a_propM,a_callOM,a_methM,a_cmpO,a_reprO,a_putM,a_flM,a_wrM,a_setIx,a_fm0,a_fm1,a_fm2, initS, isB, kindIn, kindD, isK, leD, levD, lenD, h3, c1', c2', endF, outS, c2]
  · have c1' : ¬ (1 : Int) ≤ (s.length : Int) := by omega
    simp [a_ret,a_bnd,a_lift,a_opM,a_unM,a_testM,a_andM,a_orM,a_notM,a_iteM,a_andV,a_orV,a_notV,a_shareM,a_varM,a_peekM,a_args0,a_args1,a_lstM,a_tupM,a_chainM,a_partM0,a_partM1,a_slM,a_asStrM,a_fmtM,a_joinM,a_fstrM,a_fstr0,a_fstr1,a_seqM,a_ifM,a_skipM,a_dropM,a_retM,a_retF,a_retN,a_bkM,a_ctM,a_retOw,a_asgM,a_asgF,a_parM,a_nameT,a_tupT,a_tgs0,a_tgs1,a_forM,a_loop0,a_loop1,a_strM,a_seqM',a_tupM',a_rng1M,a_compM,a_comp0,a_comp1,a_wipe0,a_wipe1,a_avs0,a_avs1,a_shA,a_lnA,a_callM,a_callF,a_callQ,a_callN,a_mkQ,a_makeF,a_chkO,a_noErr,a_propM,a_callOM,a_methM,a_cmpO,a_reprO,a_putM,a_flM,a_wrM,a_setIx,a_fm0,a_fm1,a_fm2, initS, isB, kindIn, kindD, isK, leD, levD, lenD, h3, c1', endF, outS, c1]
theorem is_key_no (a : Ad) : m_fis_key a [.non] = .ok false (.bl false) [.non] ∧ m_fis_key a [.int 5] = .ok false (.bl false) [.non] ∧ (∀ ds, m_fis_key a [.lst ds] = .ok false (.bl false) [.non]) ∧ (∀ ds, m_fis_key a [.tup ds] = .ok false (.bl false) [.non]) ∧ m_fis_key a [.dK []] = .ok false (.bl false) [.non] := by
  refine ⟨rfl, rfl, fun _ => rfl, fun _ => rfl, rfl⟩
structure Good (k : Str) : Prop where
  h1 : 1 ≤ k.length
  h2 : k.length ≤ 20
  h3 : okS k = true
theorem is_key_good (a : Ad) {k : Str} (g : Good k) : m_fis_key a [.str k] = .ok false (.bl true) [.non] := by
  have := g.h2
  rw [is_key_str a k (by omega), g.h3]
  have : decide (1 ≤ k.length ∧ k.length ≤ 20) = true := decide_eq_true ⟨g.h1, g.h2⟩
  rw [this]
  rfl
theorem check_key_good (a : Ad) {k : Str} (g : Good k) : m_fcheck_key a [.str k] = .ok false .non [.non] := by
  unfold m_fcheck_key runF
  simp [a_ret,a_bnd,a_lift,a_opM,a_unM,a_testM,a_andM,a_orM,a_notM,a_iteM,a_andV,a_orV,a_notV,a_shareM,a_varM,a_peekM,a_args0,a_args1,a_lstM,a_tupM,a_chainM,a_partM0,a_partM1,a_slM,a_asStrM,a_fmtM,a_joinM,a_fstrM,a_fstr0,a_fstr1,a_seqM,a_ifM,a_skipM,a_dropM,a_retM,a_retF,a_retN,a_bkM,a_ctM,a_retOw,a_asgM,a_asgF,a_parM,a_nameT,a_tupT,a_tgs0,a_tgs1,a_forM,a_loop0,a_loop1,a_strM,a_seqM',a_tupM',a_rng1M,a_compM,a_comp0,a_comp1,a_wipe0,a_wipe1,a_avs0,a_avs1,a_shA,a_lnA,a_callM,a_callF,a_callQ,a_callN,a_mkQ,a_makeF,a_chkO,a_noErr,a_propM,a_callOM,a_methM,a_cmpO,a_reprO,a_putM,a_flM,a_wrM,a_setIx,a_fm0,a_fm1,a_fm2, initS, flatD, avSl, getA, is_key_good a g, setBack, endF, outS]
theorem mixing_ok (a : Ad) (fs : List (Str × D)) : m_fcheck_mixing a [.obj a.c_Mixing fs] = .ok false .non [.non] := by
  unfold m_fcheck_mixing runF
  simp [a_ret,a_bnd,a_lift,a_opM,a_unM,a_testM,a_andM,a_orM,a_notM,a_iteM,a_andV,a_orV,a_notV,a_shareM,a_varM,a_peekM,a_args0,a_args1,a_lstM,a_tupM,a_chainM,a_partM0,a_partM1,a_slM,a_asStrM,a_fmtM,a_joinM,a_fstrM,a_fstr0,a_fstr1,a_seqM,a_ifM,a_skipM,a_dropM,a_retM,a_retF,a_retN,a_bkM,a_ctM,a_retOw,a_asgM,a_asgF,a_parM,a_nameT,a_tupT,a_tgs0,a_tgs1,a_forM,a_loop0,a_loop1,a_strM,a_seqM',a_tupM',a_rng1M,a_compM,a_comp0,a_comp1,a_wipe0,a_wipe1,a_avs0,a_avs1,a_shA,a_lnA,a_callM,a_callF,a_callQ,a_callN,a_mkQ,a_makeF,a_chkO,a_noErr,a_propM,a_callOM,a_methM,a_cmpO,a_reprO,a_putM,a_flM,a_wrM,a_setIx,a_fm0,a_fm1,a_fm2, initS, isO, kindIn, kindD, cs, isOb, endF, outS]
theorem is_int (a : Ad) (i : Int) : m_fis_integer a [.int i] = .ok false (.bl true) [.non] := rfl
theorem in_range_int (a : Ad) (v lo hi : Int) : m_fin_range a [.int v, .int lo, .int hi] = .ok false (.bl (decide (lo ≤ v) && decide (v ≤ hi))) [.non, .non, .non] := by
  unfold m_fin_range runF
  by_cases c : lo ≤ v
  · simp [a_ret,a_bnd,a_lift,a_opM,a_unM,a_testM,a_andM,a_orM,a_notM,a_iteM,a_andV,a_orV,a_notV,a_shareM,a_varM,a_peekM,a_args0,a_args1,a_lstM,a_tupM,a_chainM,a_partM0,a_partM1,a_slM,a_asStrM,a_fmtM,a_joinM,a_fstrM,a_fstr0,a_fstr1,a_seqM,a_ifM,a_skipM,a_dropM,a_retM,a_retF,a_retN,a_bkM,a_ctM,a_retOw,a_asgM,a_asgF,a_parM,a_nameT,a_tupT,a_tgs0,a_tgs1,a_forM,a_loop0,a_loop1,a_strM,a_seqM',a_tupM',a_rng1M,a_compM,a_comp0,a_comp1,a_wipe0,a_wipe1,a_avs0,a_avs1,a_shA,a_lnA,a_callM,a_callF,a_callQ,a_callN,a_mkQ,a_makeF,a_chkO,a_noErr,a_propM,a_callOM,a_methM,a_cmpO,a_reprO,a_putM,a_flM,a_wrM,a_setIx,a_fm0,a_fm1,a_fm2, initS, flatD, avSl, getA, is_int, setBack, endF, outS, leD, levD, c]
  · simp [a_ret,a_bnd,a_lift,a_opM,a_unM,a_testM,a_andM,a_orM,a_notM,a_iteM,a_andV,a_orV,a_notV,a_shareM,a_varM,a_peekM,a_args0,a_args1,a_lstM,a_tupM,a_chainM,a_partM0,a_partM1,a_slM,a_asStrM,a_fmtM,a_joinM,a_fstrM,a_fstr0,a_fstr1,a_seqM,a_ifM,a_skipM,a_dropM,a_retM,a_retF,a_retN,a_bkM,a_ctM,a_retOw,a_asgM,a_asgF,a_parM,a_nameT,a_tupT,a_tgs0,a_tgs1,a_forM,a_loop0,a_loop1,a_strM,a_seqM',a_tupM',a_rng1M,a_compM,a_comp0,a_comp1,a_wipe0,a_wipe1,a_avs0,a_avs1,a_shA,a_lnA,a_callM,a_callF,a_callQ,a_callN,a_mkQ,a_makeF,a_chkO,a_noErr,a_propM,a_callOM,a_methM,a_cmpO,a_reprO,a_putM,a_flM,a_wrM,a_setIx,a_fm0,a_fm1,a_fm2, initS, flatD, avSl, getA, is_int, setBack, endF, outS, leD, levD, c]
theorem check_num (a : Ad) {v lo hi : Int} (h1 : lo ≤ v) (h2 : v ≤ hi) : m_fcheck_number a [.int v, .int lo, .int hi] = .ok false .non [.non, .non, .non] := by
  unfold m_fcheck_number runF
  simp [a_ret,a_bnd,a_lift,a_opM,a_unM,a_testM,a_andM,a_orM,a_notM,a_iteM,a_andV,a_orV,a_notV,a_shareM,a_varM,a_peekM,a_args0,a_args1,a_lstM,a_tupM,a_chainM,a_partM0,a_partM1,a_slM,a_asStrM,a_fmtM,a_joinM,a_fstrM,a_fstr0,a_fstr1,a_seqM,a_ifM,a_skipM,a_dropM,a_retM,a_retF,a_retN,a_bkM,a_ctM,a_retOw,a_asgM,a_asgF,a_parM,a_nameT,a_tupT,a_tgs0,a_tgs1,a_forM,a_loop0,a_loop1,a_strM,a_seqM',a_tupM',a_rng1M,a_compM,a_comp0,a_comp1,a_wipe0,a_wipe1,a_avs0,a_avs1,a_shA,a_lnA,a_callM,a_callF,a_callQ,a_callN,a_mkQ,a_makeF,a_chkO,a_noErr,a_propM,a_callOM,a_methM,a_cmpO,a_reprO,a_putM,a_flM,a_wrM,a_setIx,a_fm0,a_fm1,a_fm2, initS, flatD, avSl, getA, in_range_int, setBack, endF, outS, h1, h2]
/-! ### mixings -/
def mx (a : Ad) (b c : Int) : D := .obj a.c_Mixing [("own_base", .int b), ("own_bits", .int c)]
theorem nm1 : (("own_base" : Str) == ("own_bits" : Str)) = false := by decide
theorem nm2 : (("own_bits" : Str) == ("own_base" : Str)) = false := by decide
theorem nm3 : ¬ (("own_base" : Str) = ("own_bits" : Str)) := by decide
theorem nm4 : ¬ (("own_bits" : Str) = ("own_base" : Str)) := by decide
theorem init_eq (a : Ad) {b c : Int} (hb : 1 ≤ b ∧ b ≤ 1000) (hc : 1 ≤ c ∧ c ≤ 32) : m_fMixing___init__ a [.obj a.c_Mixing [], .int b, .int c] = .ok false .non [mx a b c, .non, .non] := by
  unfold m_fMixing___init__ runF
  simp [a_ret,a_bnd,a_lift,a_opM,a_unM,a_testM,a_andM,a_orM,a_notM,a_iteM,a_andV,a_orV,a_notV,a_shareM,a_varM,a_peekM,a_args0,a_args1,a_lstM,a_tupM,a_chainM,a_partM0,a_partM1,a_slM,a_asStrM,a_fmtM,a_joinM,a_fstrM,a_fstr0,a_fstr1,a_seqM,a_ifM,a_skipM,a_dropM,a_retM,a_retF,a_retN,a_bkM,a_ctM,a_retOw,a_asgM,a_asgF,a_parM,a_nameT,a_tupT,a_tgs0,a_tgs1,a_forM,a_loop0,a_loop1,a_strM,a_seqM',a_tupM',a_rng1M,a_compM,a_comp0,a_comp1,a_wipe0,a_wipe1,a_avs0,a_avs1,a_shA,a_lnA,a_callM,a_callF,a_callQ,a_callN,a_mkQ,a_makeF,a_chkO,a_noErr,a_propM,a_callOM,a_methM,a_cmpO,a_reprO,a_putM,a_flM,a_wrM,a_setIx,a_fm0,a_fm1,a_fm2, initS, flatD, avSl, getA, check_num a hb.1 hb.2, check_num a hc.1 hc.2, setBack, endF, outS, noBoxAt, putD, mx, nm3, nm4, nm1, nm2, List.lookup]
theorem base_eq (a : Ad) (b c : Int) : m_fMixing_base a [mx a b c] = .ok false (.int b) [.non] := by
  unfold m_fMixing_base runF
  simp [a_ret,a_bnd,a_lift,a_opM,a_unM,a_testM,a_andM,a_orM,a_notM,a_iteM,a_andV,a_orV,a_notV,a_shareM,a_varM,a_peekM,a_args0,a_args1,a_lstM,a_tupM,a_chainM,a_partM0,a_partM1,a_slM,a_asStrM,a_fmtM,a_joinM,a_fstrM,a_fstr0,a_fstr1,a_seqM,a_ifM,a_skipM,a_dropM,a_retM,a_retF,a_retN,a_bkM,a_ctM,a_retOw,a_asgM,a_asgF,a_parM,a_nameT,a_tupT,a_tgs0,a_tgs1,a_forM,a_loop0,a_loop1,a_strM,a_seqM',a_tupM',a_rng1M,a_compM,a_comp0,a_comp1,a_wipe0,a_wipe1,a_avs0,a_avs1,a_shA,a_lnA,a_callM,a_callF,a_callQ,a_callN,a_mkQ,a_makeF,a_chkO,a_noErr,a_propM,a_callOM,a_methM,a_cmpO,a_reprO,a_putM,a_flM,a_wrM,a_setIx,a_fm0,a_fm1,a_fm2, initS, mx, attD, isBox, endF, outS, List.lookup]
theorem bits_eq (a : Ad) (b c : Int) : m_fMixing_bits a [mx a b c] = .ok false (.int c) [.non] := by
  unfold m_fMixing_bits runF
  simp [a_ret,a_bnd,a_lift,a_opM,a_unM,a_testM,a_andM,a_orM,a_notM,a_iteM,a_andV,a_orV,a_notV,a_shareM,a_varM,a_peekM,a_args0,a_args1,a_lstM,a_tupM,a_chainM,a_partM0,a_partM1,a_slM,a_asStrM,a_fmtM,a_joinM,a_fstrM,a_fstr0,a_fstr1,a_seqM,a_ifM,a_skipM,a_dropM,a_retM,a_retF,a_retN,a_bkM,a_ctM,a_retOw,a_asgM,a_asgF,a_parM,a_nameT,a_tupT,a_tgs0,a_tgs1,a_forM,a_loop0,a_loop1,a_strM,a_seqM',a_tupM',a_rng1M,a_compM,a_comp0,a_comp1,a_wipe0,a_wipe1,a_avs0,a_avs1,a_shA,a_lnA,a_callM,a_callF,a_callQ,a_callN,a_mkQ,a_makeF,a_chkO,a_noErr,a_propM,a_callOM,a_methM,a_cmpO,a_reprO,a_putM,a_flM,a_wrM,a_setIx,a_fm0,a_fm1,a_fm2, initS, mx, attD, isBox, endF, outS, List.lookup, nm2]
theorem eqI (i j : Int) : eqD (.int i) (.int j) = some (.bl (i == j)) := rfl
theorem at_base (a : Ad) (b c : Int) : attD a.c_Mixing "own_base" (mx a b c) = some (.int b) := by simp [mx, attD, isBox, List.lookup]
theorem at_bits (a : Ad) (b c : Int) : attD a.c_Mixing "own_bits" (mx a b c) = some (.int c) := by simp [mx, attD, isBox, List.lookup, nm2]
theorem flat_mx (a : Ad) (b c : Int) : flatD (mx a b c) = true := rfl
theorem obj_mx (a : Ad) (b c : Int) (st : DSt) : objAt st (AV.d (mx a b c)) = some (a.c_Mixing, [(("own_base" : Str), D.int b), (("own_bits" : Str), D.int c)]) := rfl
theorem kind_mx (a : Ad) (b c : Int) : kindIn (cs a) (mx a b c) = some (.obj a.c_Mixing) := by simp [mx, kindIn, kindD, cs]
theorem nb1 : (("base" : Str) == ("own_base" : Str)) = false := by decide
theorem nb2 : (("base" : Str) == ("own_bits" : Str)) = false := by decide
theorem nb3 : (("bits" : Str) == ("own_base" : Str)) = false := by decide
theorem nb4 : (("bits" : Str) == ("own_bits" : Str)) = false := by decide
theorem nb5 : (Str.empty == ("own_base" : Str)) = false := by decide
theorem nb6 : (Str.empty == ("own_bits" : Str)) = false := by decide
theorem pbase (a : Ad) (b c : Int) {st : DSt} {i : Nat} (h : st[i]? = some (some (.sh (mx a b c)))) : propM a.c_Mixing "base" [false] (m_fMixing_base a) (shA (varM i)) st = .ok (.int b) st := by
  simp [a_ret,a_bnd,a_lift,a_opM,a_unM,a_testM,a_andM,a_orM,a_notM,a_iteM,a_andV,a_orV,a_notV,a_shareM,a_varM,a_peekM,a_args0,a_args1,a_lstM,a_tupM,a_chainM,a_partM0,a_partM1,a_slM,a_asStrM,a_fmtM,a_joinM,a_fstrM,a_fstr0,a_fstr1,a_seqM,a_ifM,a_skipM,a_dropM,a_retM,a_retF,a_retN,a_bkM,a_ctM,a_retOw,a_asgM,a_asgF,a_parM,a_nameT,a_tupT,a_tgs0,a_tgs1,a_forM,a_loop0,a_loop1,a_strM,a_seqM',a_tupM',a_rng1M,a_compM,a_comp0,a_comp1,a_wipe0,a_wipe1,a_avs0,a_avs1,a_shA,a_lnA,a_callM,a_callF,a_callQ,a_callN,a_mkQ,a_makeF,a_chkO,a_noErr,a_propM,a_callOM,a_methM,a_cmpO,a_reprO,a_putM,a_flM,a_wrM,a_setIx,a_fm0,a_fm1,a_fm2, h, obj_mx, List.lookup, nb1, nb2, getA, base_eq, setBack]
theorem pbits (a : Ad) (b c : Int) {st : DSt} {i : Nat} (h : st[i]? = some (some (.sh (mx a b c)))) : propM a.c_Mixing "bits" [false] (m_fMixing_bits a) (shA (varM i)) st = .ok (.int c) st := by
  simp [a_ret,a_bnd,a_lift,a_opM,a_unM,a_testM,a_andM,a_orM,a_notM,a_iteM,a_andV,a_orV,a_notV,a_shareM,a_varM,a_peekM,a_args0,a_args1,a_lstM,a_tupM,a_chainM,a_partM0,a_partM1,a_slM,a_asStrM,a_fmtM,a_joinM,a_fstrM,a_fstr0,a_fstr1,a_seqM,a_ifM,a_skipM,a_dropM,a_retM,a_retF,a_retN,a_bkM,a_ctM,a_retOw,a_asgM,a_asgF,a_parM,a_nameT,a_tupT,a_tgs0,a_tgs1,a_forM,a_loop0,a_loop1,a_strM,a_seqM',a_tupM',a_rng1M,a_compM,a_comp0,a_comp1,a_wipe0,a_wipe1,a_avs0,a_avs1,a_shA,a_lnA,a_callM,a_callF,a_callQ,a_callN,a_mkQ,a_makeF,a_chkO,a_noErr,a_propM,a_callOM,a_methM,a_cmpO,a_reprO,a_putM,a_flM,a_wrM,a_setIx,a_fm0,a_fm1,a_fm2, h, obj_mx, List.lookup, nb3, nb4, getA, bits_eq, setBack]
theorem eq_mx (a : Ad) (b c b' c' : Int) : m_fMixing___eq__ a [mx a b c, mx a b' c'] = .ok false (.bl ((b == b') && (c == c'))) [.non, .non] := by
  have hk : isO (cs a) a.c_Mixing (mx a b' c') = some (.bl true) := by simp [isO, mx, kindIn, kindD, cs, isOb]
  unfold m_fMixing___eq__ runF
  have p1 := pbase a b' c' (st := [some (.sh (mx a b c)), some (.sh (mx a b' c'))]) (i := 1) rfl
  have p2 := pbits a b' c' (st := [some (.sh (mx a b c)), some (.sh (mx a b' c'))]) (i := 1) rfl
  by_cases h : b = b'
  · subst h
    simp [a_retM, a_andV, a_unM, a_opM, a_peekM, initS, hk, at_base, at_bits, p1, p2, eqI, endF, outS]
  · have h' : (b == b') = false := by simpa using h
    simp [a_retM, a_andV, a_unM, a_opM, a_peekM, initS, hk, at_base, at_bits, p1, p2, eqI, endF, outS, h', h]
theorem eq_no (a : Ad) (b c : Int) {d : D} (h : isO (cs a) a.c_Mixing d = some (.bl false)) : m_fMixing___eq__ a [mx a b c, d] = .ok false (.bl false) [.non, .non] := by
  unfold m_fMixing___eq__ runF
  simp [a_retM, a_andV, a_unM, a_opM, a_peekM, initS, h, endF, outS]
def rS (b c : Int) : Str := Str.empty ++ ("Mixing(" : Str) ++ (toString b : Str) ++ (", " : Str) ++ (toString c : Str) ++ (")" : Str)
theorem len_i {i : Int} (h : 0 ≤ i ∧ i ≤ 1000) : ((toString i : Str)).length ≤ 5 := by
  rw [ofString_length]
  exact int_text_length_le10 (k := 4) (by decide) (by omega)
theorem log_i {i : Int} (h : 0 ≤ i ∧ i ≤ 1000) : i.natAbs.log2 < 1920 := by
  have h1 : i.natAbs < 2 ^ 1920 := Nat.lt_of_lt_of_le (show i.natAbs < 2 ^ 10 by omega) (Nat.pow_le_pow_right (by decide) (by decide))
  by_cases h0 : i.natAbs = 0
  · rw [h0]; decide
  · exact (Nat.log2_lt h0).mpr h1
theorem fstr_eq {b c : Int} (hb : 0 ≤ b ∧ b ≤ 1000) (hc : 0 ≤ c ∧ c ≤ 1000) {mb mc : M D} {st s1 s2 : DSt} (h1 : mb st = .ok (.int b) s1) (h2 : mc s1 = .ok (.int c) s2) :
    fstrM [asStrM (DL.ret (.str "Mixing(")), fmtM mb, asStrM (DL.ret (.str ", ")), fmtM mc, asStrM (DL.ret (.str ")"))] st = .ok (.str (rS b c)) s2 := by
  have l1 := len_i hb
  have l2 := len_i hc
  have z0 : (Str.empty).length = 0 := rfl
  have z1 : (("Mixing(" : Str)).length = 7 := by decide
  have z2 : ((", " : Str)).length = 2 := by decide
  have z3 : ((")" : Str)).length = 1 := by decide
  have e1 : (Str.empty ++ ("Mixing(" : Str)).length ≤ 16777216 := by simp only [Str.length_append, z0, z1]; omega
  have e2 : (Str.empty ++ ("Mixing(" : Str) ++ (toString b : Str)).length ≤ 16777216 := by simp only [Str.length_append, z0, z1]; omega
  have e3 : (Str.empty ++ ("Mixing(" : Str) ++ (toString b : Str) ++ (", " : Str)).length ≤ 16777216 := by simp only [Str.length_append, z0, z1, z2]; omega
  have e4 : (Str.empty ++ ("Mixing(" : Str) ++ (toString b : Str) ++ (", " : Str) ++ (toString c : Str)).length ≤ 16777216 := by simp only [Str.length_append, z0, z1, z2]; omega
  have e5 : (Str.empty ++ ("Mixing(" : Str) ++ (toString b : Str) ++ (", " : Str) ++ (toString c : Str) ++ (")" : Str)).length ≤ 16777216 := by simp only [Str.length_append, z0, z1, z2, z3]; omega
  simp only [a_fstrM, a_fstr1, a_fstr0, a_asStrM, a_ret, a_fmtM, h1, h2, log_i hb, log_i hc, e1, e2, e3, e4, e5, if_true]
  rfl
theorem repr_mx (a : Ad) {b c : Int} (hb : 0 ≤ b ∧ b ≤ 1000) (hc : 0 ≤ c ∧ c ≤ 1000) : m_fMixing___repr__ a [mx a b c] = .ok false (.str (rS b c)) [.non] := by
  unfold m_fMixing___repr__ runF
  have h1 : unM (attD a.c_Mixing "own_base") (peekM 0) [some (.sh (mx a b c))] = .ok (.int b) [some (.sh (mx a b c))] := by simp [a_unM, a_peekM, at_base]
  have h2 : unM (attD a.c_Mixing "own_bits") (peekM 0) [some (.sh (mx a b c))] = .ok (.int c) [some (.sh (mx a b c))] := by simp [a_unM, a_peekM, at_bits]
  simp [a_retM, initS, fstr_eq hb hc h1 h2, endF, outS]
theorem call_mx (a : Ad) {b c : Int} {k : Str} (hb : 1 ≤ b ∧ b ≤ 1000) (hc : 1 ≤ c ∧ c ≤ 32) (g : Good k) : m_fMixing___call__ a [mx a b c, .str k] = .ok false (.int (mixF b c k.cps.toList 0)) [.non, .non] := by
  unfold m_fMixing___call__ runF
  have h1 := mix_eq a b c k (by omega) (by omega)
  simp [a_ret,a_bnd,a_lift,a_opM,a_unM,a_testM,a_andM,a_orM,a_notM,a_iteM,a_andV,a_orV,a_notV,a_shareM,a_varM,a_peekM,a_args0,a_args1,a_lstM,a_tupM,a_chainM,a_partM0,a_partM1,a_slM,a_asStrM,a_fmtM,a_joinM,a_fstrM,a_fstr0,a_fstr1,a_seqM,a_ifM,a_skipM,a_dropM,a_retM,a_retF,a_retN,a_bkM,a_ctM,a_retOw,a_asgM,a_asgF,a_parM,a_nameT,a_tupT,a_tgs0,a_tgs1,a_forM,a_loop0,a_loop1,a_strM,a_seqM',a_tupM',a_rng1M,a_compM,a_comp0,a_comp1,a_wipe0,a_wipe1,a_avs0,a_avs1,a_shA,a_lnA,a_callM,a_callF,a_callQ,a_callN,a_mkQ,a_makeF,a_chkO,a_noErr,a_propM,a_callOM,a_methM,a_cmpO,a_reprO,a_putM,a_flM,a_wrM,a_setIx,a_fm0,a_fm1,a_fm2, initS, at_base, at_bits, getA, check_key_good a g, h1, setBack, endF, outS]
theorem place_of_mx (a : Ad) {b c : Int} {k : Str} (hb : 1 ≤ b ∧ b ≤ 1000) (hc : 1 ≤ c ∧ c ≤ 32) : m_fplace_of a [mx a b c, .str k] = .ok false (.tup [.int (mixF b c k.cps.toList 0), .str k]) [.non, .non] := by
  unfold m_fplace_of runF
  have h1 := mix_eq a b c k (by omega) (by omega)
  have p1 := pbase a b c (st := [some (.sh (mx a b c)), some (.sh (.str k))]) (i := 0) rfl
  have p2 := pbits a b c (st := [some (.sh (mx a b c)), some (.sh (.str k))]) (i := 0) rfl
  simp [a_retM, a_tupM, a_args1, a_args0, a_callM, a_avs1, a_avs0, a_shA, p1, p2, a_varM, a_callQ, a_fm1, a_fm0, initS, getA, h1, setBack, endF, outS]
theorem place_mx (a : Ad) {b c : Int} {k : Str} (hb : 1 ≤ b ∧ b ≤ 1000) (hc : 1 ≤ c ∧ c ≤ 32) (g : Good k) : m_fplace a [mx a b c, .str k] = .ok false (.tup [.int (mixF b c k.cps.toList 0), .str k]) [.non, .non] := by
  unfold m_fplace runF
  have h0 : m_fcheck_mixing a [mx a b c] = .ok false .non [.non] := mixing_ok a _
  simp [a_ret,a_bnd,a_lift,a_opM,a_unM,a_testM,a_andM,a_orM,a_notM,a_iteM,a_andV,a_orV,a_notV,a_shareM,a_varM,a_peekM,a_args0,a_args1,a_lstM,a_tupM,a_chainM,a_partM0,a_partM1,a_slM,a_asStrM,a_fmtM,a_joinM,a_fstrM,a_fstr0,a_fstr1,a_seqM,a_ifM,a_skipM,a_dropM,a_retM,a_retF,a_retN,a_bkM,a_ctM,a_retOw,a_asgM,a_asgF,a_parM,a_nameT,a_tupT,a_tgs0,a_tgs1,a_forM,a_loop0,a_loop1,a_strM,a_seqM',a_tupM',a_rng1M,a_compM,a_comp0,a_comp1,a_wipe0,a_wipe1,a_avs0,a_avs1,a_shA,a_lnA,a_callM,a_callF,a_callQ,a_callN,a_mkQ,a_makeF,a_chkO,a_noErr,a_propM,a_callOM,a_methM,a_cmpO,a_reprO,a_putM,a_flM,a_wrM,a_setIx,a_fm0,a_fm1,a_fm2, initS, getA, h0, check_key_good a g, place_of_mx a hb hc, setBack, endF, outS]
/-! ### drawn keys -/
abbrev SG : Str := "0123456789abcdefghijklmnopqrstuvwxyz"
theorem sg_all : ∀ c ∈ SG.cps.toList, inC c = true := by decide
theorem sg_ix (v : Int) (h0 : 0 ≤ v) (h1 : v < 36) : ∃ c, inC c = true ∧ ixD (.str SG) (.int v) = some (.str ⟨#[c]⟩) := by
  have hl : SG.cps.toList.length = 36 := by decide
  have hv : v.toNat < SG.cps.toList.length := by rw [hl]; omega
  refine ⟨SG.cps.toList[v.toNat], sg_all _ (List.getElem_mem hv), ?_⟩
  have e : atI SG.cps.toList v = some SG.cps.toList[v.toNat] := by
    unfold atI ixN
    rw [if_pos h0, if_pos (by rw [hl]; omega)]
    exact List.getElem?_eq_getElem hv
  show (if SG.length ≤ 16777216 then (atI SG.cps.toList v).map fun c => D.str ⟨#[c]⟩ else none) = _
  rw [if_pos (by decide), e]
  rfl
theorem draw_call (a : Ad) {st : DSt} {i : Nat} {p : Int × Int} {n : Int} {mu : Bool} (hi : st[i]? = some (some (.ow mu (pl p)))) (h0 : 0 < n) (h1 : n < 1073741824) :
    callM [true, false] (m_f_law_draw a) [] (avsM [lnA i, shA (DL.ret (.int n))]) st = .ok (.int (drawV p n)) (st.set i (some (.ow mu (pl (drawP p n))))) := by
  simp [a_ret,a_bnd,a_lift,a_opM,a_unM,a_testM,a_andM,a_orM,a_notM,a_iteM,a_andV,a_orV,a_notV,a_shareM,a_varM,a_peekM,a_args0,a_args1,a_lstM,a_tupM,a_chainM,a_partM0,a_partM1,a_slM,a_asStrM,a_fmtM,a_joinM,a_fstrM,a_fstr0,a_fstr1,a_seqM,a_ifM,a_skipM,a_dropM,a_retM,a_retF,a_retN,a_bkM,a_ctM,a_retOw,a_asgM,a_asgF,a_parM,a_nameT,a_tupT,a_tgs0,a_tgs1,a_forM,a_loop0,a_loop1,a_strM,a_seqM',a_tupM',a_rng1M,a_compM,a_comp0,a_comp1,a_wipe0,a_wipe1,a_avs0,a_avs1,a_shA,a_lnA,a_callM,a_callF,a_callQ,a_callN,a_mkQ,a_makeF,a_chkO,a_noErr,a_propM,a_callOM,a_methM,a_cmpO,a_reprO,a_putM,a_flM,a_wrM,a_setIx,a_fm0,a_fm1,a_fm2, hi, getA, draw_eq a p n h0 h1, setBack, setOw]
theorem lk_loop (a : Ad) : ∀ (ds acc : List D) (p : Int × Int) (x : Option Slot), acc.length + ds.length < 16777216 → ∃ (cs : List Nat) (p' : Int × Int) (y : Option Slot), cs.length = ds.length ∧ (∀ c ∈ cs, inC c = true) ∧
    compL [2] (nameT 2) (DL.ret true) (bd0_f_law_long_key a) ds acc [some (.ow true (pl p)), some (.sh (.str SG)), x] = .ok (.lst (acc ++ cs.map fun c => .str ⟨#[c]⟩)) [some (.ow true (pl p')), some (.sh (.str SG)), y]
  | [], acc, p, x, _ => ⟨[], p, x, rfl, (fun _ h => by cases h), by rw [a_comp0]; simp⟩
  | d :: ds, acc, p, x, hl => by
    rw [List.length_cons] at hl
    obtain ⟨v0, v1⟩ := drawV_rng p 36 (by omega)
    obtain ⟨c, hc, e⟩ := sg_ix (drawV p 36) v0 v1
    obtain ⟨cs, p', y, h1, h2, h3⟩ := lk_loop a ds (acc ++ [.str ⟨#[c]⟩]) (drawP p 36) none (by rw [List.length_append, List.length_singleton]; omega)
    refine ⟨c :: cs, p', y, by rw [List.length_cons, List.length_cons, h1], fun b hb => ?_, ?_⟩
    · rcases List.mem_cons.mp hb with rfl | hb
      · exact hc
      · exact h2 b hb
    · have hacc : acc.length < 16777216 := by omega
      have el : bd0_f_law_long_key a [some (.ow true (pl p)), some (.sh (.str SG)), some (.sh d)] = .ok (.str ⟨#[c]⟩) [some (.ow true (pl (drawP p 36))), some (.sh (.str SG)), some (.sh d)] := by
        unfold bd0_f_law_long_key
        exact e_op (e_var rfl) (draw_call a (i := 0) rfl (by omega) (by omega)) e
      rw [a_comp1]
      simp only [a_nameT, List.set_cons_succ, List.set_cons_zero, a_ret, el, hacc, if_true, a_wipe1, a_wipe0]
      rw [h3, List.map_cons, List.append_assoc]
      rfl
theorem asStrs_f (f : Nat → Str) : ∀ cs : List Nat, asStrs (cs.map fun c => D.str (f c)) = some (cs.map f)
  | [] => rfl
  | c :: cs => by
    rw [List.map_cons, List.map_cons, asStrs, asStrs_f f cs]
    rfl
theorem glue_l : ∀ (cs : List Nat) (acc : Array Nat), (cs.map fun c => (⟨#[c]⟩ : Str)).foldl (fun acc p => acc ++ (Str.ofString "").cps ++ p.cps) acc = acc ++ cs.toArray
  | [], acc => by simp
  | c :: cs, acc => by
    rw [List.map_cons, List.foldl_cons, glue_l cs]
    have : (Str.ofString "").cps = #[] := by decide
    rw [this]
    simp
theorem join_cs (cs : List Nat) : Txt.join (Str.ofString "") (cs.map fun c => ⟨#[c]⟩) = ⟨cs.toArray⟩ := by
  show Builtin.Str.glued _ _ = _
  unfold Builtin.Str.glued
  cases cs with
  | nil => rfl
  | cons c cs =>
    rw [List.map_cons, List.drop_succ_cons, List.drop_zero, glue_l]
    simp
theorem sum_ones : ∀ cs : List Nat, ((cs.map fun c => (⟨#[c]⟩ : Str)).map (·.length)).sum = cs.length
  | [] => rfl
  | c :: cs => by
    rw [List.map_cons, List.map_cons, List.sum_cons, sum_ones cs, List.length_cons]
    show 1 + cs.length = cs.length + 1
    omega
theorem long_key (a : Ad) (p : Int × Int) : ∃ (k : Str) (p' : Int × Int), Good k ∧ m_f_law_long_key a [pl p] = .ok false (.str k) [pl p'] := by
  obtain ⟨v0, v1⟩ := drawV_rng p 20 (by omega)
  have hlen : (rangeD 0 (1 + drawV p 20).toNat).length = (1 + drawV p 20).toNat := by unfold rangeD; rw [List.length_map, List.length_range]
  obtain ⟨cs, p', y, h1, h2, h3⟩ := lk_loop a (rangeD 0 (1 + drawV p 20).toNat) [] (drawP p 20) none (by rw [hlen, List.length_nil]; omega)
  rw [hlen] at h1
  have kl : (⟨cs.toArray⟩ : Str).length = cs.length := by show cs.toArray.size = _; simp
  refine ⟨⟨cs.toArray⟩, p', ⟨by rw [kl]; omega, by rw [kl]; omega, ?_⟩, ?_⟩
  · unfold okS
    exact List.all_eq_true.mpr h2
  · have hd := draw_call a (st := [some (.ow true (pl p)), some (.sh (.str SG)), none]) (i := 0) (n := 20) rfl (by omega) (by omega)
    have r1 : -4611686018427387904 ≤ 1 + drawV p 20 ∧ 1 + drawV p 20 < 4611686018427387904 := by omega
    have hr : rng1M (opM addD (DL.ret (.int 1)) (callM [true, false] (m_f_law_draw a) [] (avsM [lnA 0, shA (DL.ret (.int 20))]))) [some (.ow true (pl p)), some (.sh (.str SG)), none] = .ok (rangeD 0 (1 + drawV p 20).toNat) [some (.ow true (pl (drawP p 20))), some (.sh (.str SG)), none] := by
      rw [a_rng1M, e_op (z := .int (1 + drawV p 20)) (a_ret _) hd rfl]
      simp only [r1, and_self, if_true]
      rfl
    have hj : joinD (Str.ofString "") (.lst (cs.map fun c => D.str ⟨#[c]⟩)) = some (.str ⟨cs.toArray⟩) := by
      show (asStrs _).bind _ = _
      rw [asStrs_f fun c => ⟨#[c]⟩]
      show (if _ then _ else _) = _
      rw [sum_ones, List.length_map, if_pos (by have : (Str.ofString "").length = 0 := by decide
                                                rw [this]; omega), join_cs]
    rw [List.nil_append] at h3
    have hc : shareM (compM [2] (rng1M (opM addD (DL.ret (.int 1)) (callM [true, false] (m_f_law_draw a) [] (avsM [lnA 0, shA (DL.ret (.int 20))])))) (nameT 2) (DL.ret true) (bd0_f_law_long_key a)) [some (.ow true (pl p)), some (.sh (.str SG)), none] = .ok (.lst (cs.map fun c => D.str ⟨#[c]⟩)) [some (.ow true (pl p')), some (.sh (.str SG)), y] := by
      refine e_share ?_ rfl
      rw [a_compM, hr]
      exact h3
    unfold m_f_law_long_key runF
    have hs : seqM (asgM (DL.ret (.str SG)) (nameT 1)) (retM (joinM (asStrM (DL.ret (.str ""))) (shareM (compM [2] (rng1M (opM addD (DL.ret (.int 1)) (callM [true, false] (m_f_law_draw a) [] (avsM [lnA 0, shA (DL.ret (.int 20))])))) (nameT 2) (DL.ret true) (bd0_f_law_long_key a))))) [some (.ow true (pl p)), none, none] = .rt false (.str ⟨cs.toArray⟩) [some (.ow true (pl p')), some (.sh (.str SG)), y] := by
      rw [e_seq (e_asg (a_ret _))]
      refine e_ret ?_
      rw [a_joinM, a_asStrM, a_ret]
      simp only [List.set_cons_succ, List.set_cons_zero, hc, hj]
    show (match seqM (asgM (DL.ret (.str SG)) (nameT 1)) _ [some (.ow true (pl p)), none, none] with | .nx st => _ | .rt fr d st => _ | .err x st => _ | _ => _) = _
    rw [hs]
    rfl
end K01

namespace K01
open PySem L2 DL
section
variable (a : Ad) {st s s1 s2 : DSt} {b c : Int} {d : D} {k : Kd} {r : Bool} {i : Nat} {m mb mc : M D}
theorem make_mx (hb : 1 ≤ b ∧ b ≤ 1000) (hc : 1 ≤ c ∧ c ≤ 32) (h1 : mb st = .ok (.int b) s) (h2 : mc s = .ok (.int c) s2) :
    shareM (makeF a.c_Mixing [false, false] (m_fMixing___init__ a) [] (avsM [shA mb, shA mc])) st = .ok (mx a b c) s2 := by
  refine e_share ?_ rfl
  simp [a_ret,a_bnd,a_lift,a_opM,a_unM,a_testM,a_andM,a_orM,a_notM,a_iteM,a_andV,a_orV,a_notV,a_shareM,a_varM,a_peekM,a_args0,a_args1,a_lstM,a_tupM,a_chainM,a_partM0,a_partM1,a_slM,a_asStrM,a_fmtM,a_joinM,a_fstrM,a_fstr0,a_fstr1,a_seqM,a_ifM,a_skipM,a_dropM,a_retM,a_retF,a_retN,a_bkM,a_ctM,a_retOw,a_asgM,a_asgF,a_parM,a_nameT,a_tupT,a_tgs0,a_tgs1,a_forM,a_loop0,a_loop1,a_strM,a_seqM',a_tupM',a_rng1M,a_compM,a_comp0,a_comp1,a_wipe0,a_wipe1,a_avs0,a_avs1,a_shA,a_lnA,a_callM,a_callF,a_callQ,a_callN,a_mkQ,a_makeF,a_chkO,a_noErr,a_propM,a_callOM,a_methM,a_cmpO,a_reprO,a_putM,a_flM,a_wrM,a_setIx,a_fm0,a_fm1,a_fm2, h1, h2, getA, init_eq a hb hc, setBack]
theorem cmp_any (neg : Bool) (h5 : st[i]? = some (some (.sh (mx a b c)))) (hm : m st = .ok d s) (hk : kindIn (cs a) d = some k) (he : m_fMixing___eq__ a [mx a b c, d] = .ok false (.bl r) [.non, .non]) :
    cmpO neg (cs a) a.c_Mixing [false, false] (m_fMixing___eq__ a) (shA (varM i)) (shA m) st = .ok (.bl (neg != r)) s := by
  simp [a_ret,a_bnd,a_lift,a_opM,a_unM,a_testM,a_andM,a_orM,a_notM,a_iteM,a_andV,a_orV,a_notV,a_shareM,a_varM,a_peekM,a_args0,a_args1,a_lstM,a_tupM,a_chainM,a_partM0,a_partM1,a_slM,a_asStrM,a_fmtM,a_joinM,a_fstrM,a_fstr0,a_fstr1,a_seqM,a_ifM,a_skipM,a_dropM,a_retM,a_retF,a_retN,a_bkM,a_ctM,a_retOw,a_asgM,a_asgF,a_parM,a_nameT,a_tupT,a_tgs0,a_tgs1,a_forM,a_loop0,a_loop1,a_strM,a_seqM',a_tupM',a_rng1M,a_compM,a_comp0,a_comp1,a_wipe0,a_wipe1,a_avs0,a_avs1,a_shA,a_lnA,a_callM,a_callF,a_callQ,a_callN,a_mkQ,a_makeF,a_chkO,a_noErr,a_propM,a_callOM,a_methM,a_cmpO,a_reprO,a_putM,a_flM,a_wrM,a_setIx,a_fm0,a_fm1,a_fm2, h5, hm, obj_mx, List.lookup, nb5, nb6, kindAt, hk, getA, he, setBack]
theorem repr_any (hb : 0 ≤ b ∧ b ≤ 1000) (hc : 0 ≤ c ∧ c ≤ 1000) (h5 : st[i]? = some (some (.sh (mx a b c)))) : reprO a.c_Mixing [false] (m_fMixing___repr__ a) (shA (varM i)) st = .ok (.str (rS b c)) st := by
  simp [a_ret,a_bnd,a_lift,a_opM,a_unM,a_testM,a_andM,a_orM,a_notM,a_iteM,a_andV,a_orV,a_notV,a_shareM,a_varM,a_peekM,a_args0,a_args1,a_lstM,a_tupM,a_chainM,a_partM0,a_partM1,a_slM,a_asStrM,a_fmtM,a_joinM,a_fstrM,a_fstr0,a_fstr1,a_seqM,a_ifM,a_skipM,a_dropM,a_retM,a_retF,a_retN,a_bkM,a_ctM,a_retOw,a_asgM,a_asgF,a_parM,a_nameT,a_tupT,a_tgs0,a_tgs1,a_forM,a_loop0,a_loop1,a_strM,a_seqM',a_tupM',a_rng1M,a_compM,a_comp0,a_comp1,a_wipe0,a_wipe1,a_avs0,a_avs1,a_shA,a_lnA,a_callM,a_callF,a_callQ,a_callN,a_mkQ,a_makeF,a_chkO,a_noErr,a_propM,a_callOM,a_methM,a_cmpO,a_reprO,a_putM,a_flM,a_wrM,a_setIx,a_fm0,a_fm1,a_fm2, h5, obj_mx, List.lookup, nb5, nb6, getA, repr_mx a hb hc, setBack]
theorem key_call {p : Int × Int} {mu : Bool} (h2 : st[i]? = some (some (.ow mu (pl p)))) : ∃ (key : Str) (p' : Int × Int), Good key ∧ callM [true] (m_f_law_long_key a) [] (avsM [lnA i]) st = .ok (.str key) (st.set i (some (.ow mu (pl p')))) := by
  obtain ⟨key, p', g, e⟩ := long_key a p
  refine ⟨key, p', g, ?_⟩
  simp [a_ret,a_bnd,a_lift,a_opM,a_unM,a_testM,a_andM,a_orM,a_notM,a_iteM,a_andV,a_orV,a_notV,a_shareM,a_varM,a_peekM,a_args0,a_args1,a_lstM,a_tupM,a_chainM,a_partM0,a_partM1,a_slM,a_asStrM,a_fmtM,a_joinM,a_fstrM,a_fstr0,a_fstr1,a_seqM,a_ifM,a_skipM,a_dropM,a_retM,a_retF,a_retN,a_bkM,a_ctM,a_retOw,a_asgM,a_asgF,a_parM,a_nameT,a_tupT,a_tgs0,a_tgs1,a_forM,a_loop0,a_loop1,a_strM,a_seqM',a_tupM',a_rng1M,a_compM,a_comp0,a_comp1,a_wipe0,a_wipe1,a_avs0,a_avs1,a_shA,a_lnA,a_callM,a_callF,a_callQ,a_callN,a_mkQ,a_makeF,a_chkO,a_noErr,a_propM,a_callOM,a_methM,a_cmpO,a_reprO,a_putM,a_flM,a_wrM,a_setIx,a_fm0,a_fm1,a_fm2, h2, getA, e, setBack, setOw]
end
/-- the slots within a turn -/
structure Sh (a : Ad) (sc : D) (x1 : Option Slot) (b c : Int) (st : DSt) : Prop where
  ex : ∃ (p : Int × Int) (x6 x7 x8 x9 x10 : Option Slot), st = [some (.sh sc), x1, some (.ow false (pl p)), some (.sh (.int b)), some (.sh (.int c)), some (.sh (mx a b c)), x6, x7, x8, x9, x10]
theorem ne_self_int (i : Int) : neD (.int i) (.int i) = some (.bl false) := by rw [ne_int']; simp
theorem ne_self_str (i : Str) : neD (.str i) (.str i) = some (.bl false) := by rw [ne_str']; simp
theorem ne_self_is (i : Int) (k : Str) : neD (.tup [.int i, .str k]) (.tup [.int i, .str k]) = some (.bl false) := by
  rw [ne_of' (p := .tuple [.int i, .str k]) (q := .tuple [.int i, .str k]) rfl rfl (Nat.le_of_ble_eq_true rfl)]
  simp [PyData.eqv, PyData.eqvAll]
theorem ne_self_ii (i k : Int) : neD (.lst [.int i, .int k]) (.lst [.int i, .int k]) = some (.bl false) := by
  rw [ne_of' (p := .list [.int i, .int k]) (q := .list [.int i, .int k]) rfl rfl (Nat.le_of_ble_eq_true rfl)]
  simp [PyData.eqv, PyData.eqvAll]
theorem turn_ok (a : Ad) {sc : D} {x1 : Option Slot} {b c : Int} (hb : 1 ≤ b ∧ b ≤ 1000) (hc : 1 ≤ c ∧ c ≤ 32) (d : D) (st : DSt) (h : Sh a sc x1 b c st) : ∃ s1 s2, (nameT 6).run d st = some s1 ∧ bd0_flaw a s1 = .nx s2 ∧ Sh a sc x1 b c s2 := by
  obtain ⟨p, x6, x7, x8, x9, x10, rfl⟩ := h.ex
  obtain ⟨key, p', g, e⟩ := key_call a (st := [some (.sh sc), x1, some (.ow false (pl p)), some (.sh (.int b)), some (.sh (.int c)), some (.sh (mx a b c)), some (.sh d), x7, x8, x9, x10]) (i := 2) (p := p) rfl
  have hm := mix_eq a b c key (by omega) (by omega)
  refine ⟨[some (.sh sc), x1, some (.ow false (pl p)), some (.sh (.int b)), some (.sh (.int c)), some (.sh (mx a b c)), some (.sh d), x7, x8, x9, x10], [some (.sh sc), x1, some (.ow false (pl p')), some (.sh (.int b)), some (.sh (.int c)), some (.sh (mx a b c)), some (.sh d), some (.sh (.str key)), some (.sh (.int (mixF b c key.cps.toList 0))), x9, x10], rfl, ?_, ⟨p', _, _, _, _, _, rfl⟩⟩
  unfold bd0_flaw
  rw [e_seq (e_asg e)]
  have h1 : callM [false, false, false] (m_f_law_mix a) [] (avsM [shA (varM 3), shA (varM 4), shA (varM 7)]) [some (.sh sc), x1, some (.ow false (pl p')), some (.sh (.int b)), some (.sh (.int c)), some (.sh (mx a b c)), some (.sh d), some (.sh (.str key)), x8, x9, x10] = .ok (.int (mixF b c key.cps.toList 0)) [some (.sh sc), x1, some (.ow false (pl p')), some (.sh (.int b)), some (.sh (.int c)), some (.sh (mx a b c)), some (.sh d), some (.sh (.str key)), x8, x9, x10] := by
    rw [mix_same]
    simp [a_ret,a_bnd,a_lift,a_opM,a_unM,a_testM,a_andM,a_orM,a_notM,a_iteM,a_andV,a_orV,a_notV,a_shareM,a_varM,a_peekM,a_args0,a_args1,a_lstM,a_tupM,a_chainM,a_partM0,a_partM1,a_slM,a_asStrM,a_fmtM,a_joinM,a_fstrM,a_fstr0,a_fstr1,a_seqM,a_ifM,a_skipM,a_dropM,a_retM,a_retF,a_retN,a_bkM,a_ctM,a_retOw,a_asgM,a_asgF,a_parM,a_nameT,a_tupT,a_tgs0,a_tgs1,a_forM,a_loop0,a_loop1,a_strM,a_seqM',a_tupM',a_rng1M,a_compM,a_comp0,a_comp1,a_wipe0,a_wipe1,a_avs0,a_avs1,a_shA,a_lnA,a_callM,a_callF,a_callQ,a_callN,a_mkQ,a_makeF,a_chkO,a_noErr,a_propM,a_callOM,a_methM,a_cmpO,a_reprO,a_putM,a_flM,a_wrM,a_setIx,a_fm0,a_fm1,a_fm2, getA, hm, setBack]
  simp only [List.set_cons_succ, List.set_cons_zero]
  rw [e_seq (e_asg h1)]
  simp only [List.set_cons_succ, List.set_cons_zero]
  generalize hT : [some (DL.Slot.sh sc), x1, some (.ow false (pl p')), some (.sh (.int b)), some (.sh (.int c)), some (.sh (mx a b c)), some (.sh d), some (.sh (.str key)), some (.sh (.int (mixF b c key.cps.toList 0))), x9, x10] = T
  refine e_skF (e_or (s := T) (e_test (e_op (s := T) (x := .int (mixF b c key.cps.toList 0)) (y := .int (mixF b c key.cps.toList 0)) ?_ (by subst hT; exact e_pk rfl) (ne_self_int _))) (e_or (s := T) (e_test (e_op (s := T) (x := .tup [.int (mixF b c key.cps.toList 0), .str key]) (y := .tup [.int (mixF b c key.cps.toList 0), .str key]) ?_ ?_ (ne_self_is _ _))) (e_test (e_op (s := T) (x := .bl true) ?_ (a_ret _) rfl))))
  all_goals subst hT
  · simp [a_ret,a_bnd,a_lift,a_opM,a_unM,a_testM,a_andM,a_orM,a_notM,a_iteM,a_andV,a_orV,a_notV,a_shareM,a_varM,a_peekM,a_args0,a_args1,a_lstM,a_tupM,a_chainM,a_partM0,a_partM1,a_slM,a_asStrM,a_fmtM,a_joinM,a_fstrM,a_fstr0,a_fstr1,a_seqM,a_ifM,a_skipM,a_dropM,a_retM,a_retF,a_retN,a_bkM,a_ctM,a_retOw,a_asgM,a_asgF,a_parM,a_nameT,a_tupT,a_tgs0,a_tgs1,a_forM,a_loop0,a_loop1,a_strM,a_seqM',a_tupM',a_rng1M,a_compM,a_comp0,a_comp1,a_wipe0,a_wipe1,a_avs0,a_avs1,a_shA,a_lnA,a_callM,a_callF,a_callQ,a_callN,a_mkQ,a_makeF,a_chkO,a_noErr,a_propM,a_callOM,a_methM,a_cmpO,a_reprO,a_putM,a_flM,a_wrM,a_setIx,a_fm0,a_fm1,a_fm2, obj_mx, List.lookup, nb5, nb6, getA, call_mx a hb hc g, setBack]
  · simp [a_ret,a_bnd,a_lift,a_opM,a_unM,a_testM,a_andM,a_orM,a_notM,a_iteM,a_andV,a_orV,a_notV,a_shareM,a_varM,a_peekM,a_args0,a_args1,a_lstM,a_tupM,a_chainM,a_partM0,a_partM1,a_slM,a_asStrM,a_fmtM,a_joinM,a_fstrM,a_fstr0,a_fstr1,a_seqM,a_ifM,a_skipM,a_dropM,a_retM,a_retF,a_retN,a_bkM,a_ctM,a_retOw,a_asgM,a_asgF,a_parM,a_nameT,a_tupT,a_tgs0,a_tgs1,a_forM,a_loop0,a_loop1,a_strM,a_seqM',a_tupM',a_rng1M,a_compM,a_comp0,a_comp1,a_wipe0,a_wipe1,a_avs0,a_avs1,a_shA,a_lnA,a_callM,a_callF,a_callQ,a_callN,a_mkQ,a_makeF,a_chkO,a_noErr,a_propM,a_callOM,a_methM,a_cmpO,a_reprO,a_putM,a_flM,a_wrM,a_setIx,a_fm0,a_fm1,a_fm2, getA, place_mx a hb hc g, setBack]
  · simp [a_ret,a_bnd,a_lift,a_opM,a_unM,a_testM,a_andM,a_orM,a_notM,a_iteM,a_andV,a_orV,a_notV,a_shareM,a_varM,a_peekM,a_args0,a_args1,a_lstM,a_tupM,a_chainM,a_partM0,a_partM1,a_slM,a_asStrM,a_fmtM,a_joinM,a_fstrM,a_fstr0,a_fstr1,a_seqM,a_ifM,a_skipM,a_dropM,a_retM,a_retF,a_retN,a_bkM,a_ctM,a_retOw,a_asgM,a_asgF,a_parM,a_nameT,a_tupT,a_tgs0,a_tgs1,a_forM,a_loop0,a_loop1,a_strM,a_seqM',a_tupM',a_rng1M,a_compM,a_comp0,a_comp1,a_wipe0,a_wipe1,a_avs0,a_avs1,a_shA,a_lnA,a_callM,a_callF,a_callQ,a_callN,a_mkQ,a_makeF,a_chkO,a_noErr,a_propM,a_callOM,a_methM,a_cmpO,a_reprO,a_putM,a_flM,a_wrM,a_setIx,a_fm0,a_fm1,a_fm2]
  · simp [a_ret,a_bnd,a_lift,a_opM,a_unM,a_testM,a_andM,a_orM,a_notM,a_iteM,a_andV,a_orV,a_notV,a_shareM,a_varM,a_peekM,a_args0,a_args1,a_lstM,a_tupM,a_chainM,a_partM0,a_partM1,a_slM,a_asStrM,a_fmtM,a_joinM,a_fstrM,a_fstr0,a_fstr1,a_seqM,a_ifM,a_skipM,a_dropM,a_retM,a_retF,a_retN,a_bkM,a_ctM,a_retOw,a_asgM,a_asgF,a_parM,a_nameT,a_tupT,a_tgs0,a_tgs1,a_forM,a_loop0,a_loop1,a_strM,a_seqM',a_tupM',a_rng1M,a_compM,a_comp0,a_comp1,a_wipe0,a_wipe1,a_avs0,a_avs1,a_shA,a_lnA,a_callM,a_callF,a_callQ,a_callN,a_mkQ,a_makeF,a_chkO,a_noErr,a_propM,a_callOM,a_methM,a_cmpO,a_reprO,a_putM,a_flM,a_wrM,a_setIx,a_fm0,a_fm1,a_fm2, getA, is_key_good a g, setBack]
/-! ### what is no key -/
def Odd (a : Ad) (d : D) : Prop := m_fis_key a [d] = .ok false (.bl false) [.non]
theorem okS_app (x y : Str) : okS (x ++ y) = (okS x && okS y) := by
  unfold okS
  show (x.cps ++ y.cps).toList.all inC = _
  rw [Array.toList_append, List.all_append]
theorem odd_len (a : Ad) {s : Str} (h : 20 < s.length) (h2 : s.length ≤ 1000000) : Odd a (.str s) := by
  unfold Odd
  rw [is_key_str a s h2, decide_eq_false (by omega)]
  rfl
theorem odd_sign (a : Ad) {x y : Str} (h : okS y = false) (h2 : (x ++ y).length ≤ 1000000) : Odd a (.str (x ++ y)) := by
  unfold Odd
  rw [is_key_str a _ h2, okS_app, h]
  simp
theorem cutS_len (z : Str) (lo hi : Option Int) : (cutS z lo hi).length ≤ z.length := by
  unfold cutS
  show (List.toArray _).size ≤ _
  rw [List.size_toArray]
  refine Nat.le_trans (List.length_take_le' _ _) (Nat.le_trans (by rw [List.length_drop]; exact Nat.sub_le _ _) (Nat.le_of_eq Array.length_toList))
theorem odd_list (a : Ad) {st : DSt} {key : Str} (g : Good key) (h7 : st[7]? = some (some (.sh (.str key)))) : ∃ ds, (∀ d ∈ ds, Odd a d) ∧ shareM (lstM [(DL.ret .non), (DL.ret (.int 5)), (DL.ret (.str "")), (opM addD (peekM 7) (opM repS (DL.ret (.str "a")) (DL.ret (.int 20)))), (opM addD (peekM 7) (DL.ret (.str "A"))), (opM addD (slM slD (peekM 7) none (some (DL.ret (.int 19)))) (DL.ret (.str "!"))), (opM addD (slM slD (peekM 7) none (some (DL.ret (.int 19)))) (DL.ret (.str " "))), (shareM (lstM [(DL.ret (.str "a"))])), (tupM [(DL.ret (.str "a"))]), (shareM (DL.ret (.dK [])))]) st = .ok (.lst ds) st := by
  have g2 := g.h2
  have c2 := cutS_len key none (some 19)
  obtain ⟨n1, n2, n3, n4, n5⟩ := is_key_no a
  have lm : (Txt.mul (Str.ofString "a") 20).length = 20 := by decide
  have l1 : (Str.ofString "A").length = 1 := by decide
  have l2 : (Str.ofString "!").length = 1 := by decide
  have l3 : (Str.ofString " ").length = 1 := by decide
  have l4 : (Str.ofString "a").length = 1 := by decide
  refine ⟨[.non, .int 5, .str "", .str (key ++ Txt.mul "a" 20), .str (key ++ "A"), .str (cutS key none (some 19) ++ "!"), .str (cutS key none (some 19) ++ " "), .lst [.str "a"], .tup [.str "a"], .dK []], fun d hd => ?_, ?_⟩
  · simp only [List.mem_cons, List.not_mem_nil, or_false] at hd
    rcases hd with rfl | rfl | rfl | rfl | rfl | rfl | rfl | rfl | rfl | rfl
    · exact n1
    · exact n2
    · unfold Odd
      rw [is_key_str a _ (by decide)]
      rfl
    · exact odd_len a (by rw [Str.length_append, lm]; have := g.h1; omega) (by rw [Str.length_append, lm]; omega)
    · exact odd_sign a (by decide) (by rw [Str.length_append, l1]; omega)
    · exact odd_sign a (by decide) (by rw [Str.length_append, l2]; omega)
    · exact odd_sign a (by decide) (by rw [Str.length_append, l3]; omega)
    · exact n3 _
    · exact n4 _
    · exact n5
  · have q1 : key.length + 20 ≤ 16777216 := by omega
    have q2 : key.length + 1 ≤ 16777216 := by omega
    have q3 : (cutS key none (some 19)).length + 1 ≤ 16777216 := by omega
    have q4 : key.length ≤ 16777216 := by omega
    simp [a_ret,a_bnd,a_lift,a_opM,a_unM,a_testM,a_andM,a_orM,a_notM,a_iteM,a_andV,a_orV,a_notV,a_shareM,a_varM,a_peekM,a_args0,a_args1,a_lstM,a_tupM,a_chainM,a_partM0,a_partM1,a_slM,a_asStrM,a_fmtM,a_joinM,a_fstrM,a_fstr0,a_fstr1,a_seqM,a_ifM,a_skipM,a_dropM,a_retM,a_retF,a_retN,a_bkM,a_ctM,a_retOw,a_asgM,a_asgF,a_parM,a_nameT,a_tupT,a_tgs0,a_tgs1,a_forM,a_loop0,a_loop1,a_strM,a_seqM',a_tupM',a_rng1M,a_compM,a_comp0,a_comp1,a_wipe0,a_wipe1,a_avs0,a_avs1,a_shA,a_lnA,a_callM,a_callF,a_callQ,a_callN,a_mkQ,a_makeF,a_chkO,a_noErr,a_propM,a_callOM,a_methM,a_cmpO,a_reprO,a_putM,a_flM,a_wrM,a_setIx,a_fm0,a_fm1,a_fm2, h7, addD, addS, repS, lm, l1, l2, l3, l4, q1, q2, q3, q4, slD, slS, flatD]
theorem odd_turn (a : Ad) (d : D) (st : DSt) (ho : Odd a d) (h : ∃ x0 x1 x2 x3 x4 x5 x6 x7 x8 x9 x10, st = [x0, x1, x2, x3, x4, x5, x6, x7, x8, x9, x10] ∧ x0 = some (.sh sc)) : ∃ s1 s2, (nameT 10).run d st = some s1 ∧ bd1_flaw a s1 = .nx s2 ∧ ∃ x0 x1 x2 x3 x4 x5 x6 x7 x8 x9 x10, s2 = [x0, x1, x2, x3, x4, x5, x6, x7, x8, x9, x10] ∧ x0 = some (.sh sc) := by
  obtain ⟨x0, x1, x2, x3, x4, x5, x6, x7, x8, x9, x10, rfl, e⟩ := h
  refine ⟨[x0, x1, x2, x3, x4, x5, x6, x7, x8, x9, some (.sh d)], [x0, x1, x2, x3, x4, x5, x6, x7, x8, x9, some (.sh d)], rfl, ?_, _, _, _, _, _, _, _, _, _, _, _, rfl, e⟩
  unfold Odd at ho
  unfold bd1_flaw
  refine e_skF (e_test (e_op (x := .bl false) ?_ (a_ret _) rfl))
  simp [a_ret,a_bnd,a_lift,a_opM,a_unM,a_testM,a_andM,a_orM,a_notM,a_iteM,a_andV,a_orV,a_notV,a_shareM,a_varM,a_peekM,a_args0,a_args1,a_lstM,a_tupM,a_chainM,a_partM0,a_partM1,a_slM,a_asStrM,a_fmtM,a_joinM,a_fstrM,a_fstr0,a_fstr1,a_seqM,a_ifM,a_skipM,a_dropM,a_retM,a_retF,a_retN,a_bkM,a_ctM,a_retOw,a_asgM,a_asgF,a_parM,a_nameT,a_tupT,a_tgs0,a_tgs1,a_forM,a_loop0,a_loop1,a_strM,a_seqM',a_tupM',a_rng1M,a_compM,a_comp0,a_comp1,a_wipe0,a_wipe1,a_avs0,a_avs1,a_shA,a_lnA,a_callM,a_callF,a_callQ,a_callN,a_mkQ,a_makeF,a_chkO,a_noErr,a_propM,a_callOM,a_methM,a_cmpO,a_reprO,a_putM,a_flM,a_wrM,a_setIx,a_fm0,a_fm1,a_fm2, getA, ho, setBack]
theorem e_par {m : M (List D)} {st s : DSt} {d e : D} {i j : Nat} (h : m st = .ok [d, e] s) : parM m i j st = .nx ((s.set i (some (.sh d))).set j (some (.sh e))) := by rw [a_parM, h]
theorem rng_6 (st : DSt) : rng1M (DL.ret (.int 6)) st = .ok (rangeD 0 6) st := rfl
/-! ### a cell -/
theorem cell_ok (a : Ad) (ns : List Int) (k : Nat) (hk : k < 1000000) (st : DSt) (h : ∃ x0 x1 x2 x3 x4 x5 x6 x7 x8 x9 x10, st = [x0, x1, x2, x3, x4, x5, x6, x7, x8, x9, x10] ∧ x0 = some (.sh (.kl (ns.map .int)))) : ∃ s1 s2, (nameT 1).run (.int (0 + (k : Int))) st = some s1 ∧ bd2_flaw a s1 = .nx s2 ∧ ∃ x0 x1 x2 x3 x4 x5 x6 x7 x8 x9 x10, s2 = [x0, x1, x2, x3, x4, x5, x6, x7, x8, x9, x10] ∧ x0 = some (.sh (.kl (ns.map .int))) := by
  obtain ⟨x0, x1, x2, x3, x4, x5, x6, x7, x8, x9, x10, rfl, rfl⟩ := h
  obtain ⟨p, hp⟩ := hand_eq a ns k hk
  rw [Int.zero_add]
  obtain ⟨b0, b1⟩ := drawV_rng p 1000 (by omega)
  obtain ⟨c0, c1⟩ := drawV_rng (drawP p 1000) 32 (by omega)
  generalize hb : 1 + drawV p 1000 = b at *
  generalize hc : 1 + drawV (drawP p 1000) 32 = c at *
  have hb' : 1 ≤ b ∧ b ≤ 1000 := by omega
  have hc' : 1 ≤ c ∧ c ≤ 32 := by omega
  generalize hq : drawP (drawP p 1000) 32 = q at *
  -- pool, base and bits
  have t1 : callF [false, false] (m_f_law_hand a) [] (avsM [shA (varM 0), shA (varM 1)]) [some (.sh (.kl (ns.map .int))), some (.sh (.int k)), x2, x3, x4, x5, x6, x7, x8, x9, x10] = .ok (pl p) [some (.sh (.kl (ns.map .int))), some (.sh (.int k)), x2, x3, x4, x5, x6, x7, x8, x9, x10] := by
    simp [a_ret,a_bnd,a_lift,a_opM,a_unM,a_testM,a_andM,a_orM,a_notM,a_iteM,a_andV,a_orV,a_notV,a_shareM,a_varM,a_peekM,a_args0,a_args1,a_lstM,a_tupM,a_chainM,a_partM0,a_partM1,a_slM,a_asStrM,a_fmtM,a_joinM,a_fstrM,a_fstr0,a_fstr1,a_seqM,a_ifM,a_skipM,a_dropM,a_retM,a_retF,a_retN,a_bkM,a_ctM,a_retOw,a_asgM,a_asgF,a_parM,a_nameT,a_tupT,a_tgs0,a_tgs1,a_forM,a_loop0,a_loop1,a_strM,a_seqM',a_tupM',a_rng1M,a_compM,a_comp0,a_comp1,a_wipe0,a_wipe1,a_avs0,a_avs1,a_shA,a_lnA,a_callM,a_callF,a_callQ,a_callN,a_mkQ,a_makeF,a_chkO,a_noErr,a_propM,a_callOM,a_methM,a_cmpO,a_reprO,a_putM,a_flM,a_wrM,a_setIx,a_fm0,a_fm1,a_fm2, getA, hp, setBack]
  have t2 : argsM [(opM addD (DL.ret (.int 1)) (callM [true, false] (m_f_law_draw a) [] (avsM [(lnA 2), (shA (DL.ret (.int 1000)))]))), (opM addD (DL.ret (.int 1)) (callM [true, false] (m_f_law_draw a) [] (avsM [(lnA 2), (shA (DL.ret (.int 32)))])))] [some (.sh (.kl (ns.map .int))), some (.sh (.int k)), some (.ow false (pl p)), x3, x4, x5, x6, x7, x8, x9, x10] = .ok [.int b, .int c] [some (.sh (.kl (ns.map .int))), some (.sh (.int k)), some (.ow false (pl q)), x3, x4, x5, x6, x7, x8, x9, x10] := by
    have d1 := draw_call a (st := [some (.sh (.kl (ns.map .int))), some (.sh (.int k)), some (.ow false (pl p)), x3, x4, x5, x6, x7, x8, x9, x10]) (i := 2) (n := 1000) rfl (by omega) (by omega)
    have d2 := draw_call a (st := [some (.sh (.kl (ns.map .int))), some (.sh (.int k)), some (.ow false (pl (drawP p 1000))), x3, x4, x5, x6, x7, x8, x9, x10]) (i := 2) (n := 32) rfl (by omega) (by omega)
    simp only [List.set_cons_succ, List.set_cons_zero] at d1 d2
    rw [a_args1, e_op (z := .int b) (a_ret _) d1 (by rw [← hb]; rfl)]
    simp only []
    rw [a_args1, e_op (z := .int c) (a_ret _) d2 (by rw [← hc]; rfl)]
    simp only [a_args0, hq]
  refine ⟨[some (.sh (.kl (ns.map .int))), some (.sh (.int k)), x2, x3, x4, x5, x6, x7, x8, x9, x10], ?_⟩
  unfold bd2_flaw
  rw [e_seq (e_asgF t1)]
  simp only [List.set_cons_succ, List.set_cons_zero]
  rw [e_seq (e_par t2)]
  simp only [List.set_cons_succ, List.set_cons_zero]
  have t3 : shareM (makeF a.c_Mixing [false, false] (m_fMixing___init__ a) [] (avsM [shA (varM 3), shA (varM 4)])) [some (.sh (.kl (ns.map .int))), some (.sh (.int k)), some (.ow false (pl q)), some (.sh (.int b)), some (.sh (.int c)), x5, x6, x7, x8, x9, x10] = .ok (mx a b c) [some (.sh (.kl (ns.map .int))), some (.sh (.int k)), some (.ow false (pl q)), some (.sh (.int b)), some (.sh (.int c)), x5, x6, x7, x8, x9, x10] :=
    make_mx a hb' hc' (e_var rfl) (e_var rfl)
  rw [e_seq (e_asg t3)]
  simp only [List.set_cons_succ, List.set_cons_zero]
  obtain ⟨T, hT⟩ : ∃ T, T = [some (DL.Slot.sh (.kl (ns.map .int))), some (.sh (.int k)), some (.ow false (pl q)), some (.sh (.int b)), some (.sh (.int c)), some (.sh (mx a b c)), x6, x7, x8, x9, x10] := ⟨_, rfl⟩
  rw [← hT]
  have T3 : T[3]? = some (some (.sh (.int b))) := by rw [hT]; rfl
  have T4 : T[4]? = some (some (.sh (.int c))) := by rw [hT]; rfl
  have T5 : T[5]? = some (some (.sh (mx a b c))) := by rw [hT]; rfl
  have eb : unM (fun d => some d) (varM 3) T = .ok (.int b) T := by rw [a_unM, e_var T3]
  have l1 : shareM (lstM [propM a.c_Mixing "base" [false] (m_fMixing_base a) (shA (varM 5)), propM a.c_Mixing "bits" [false] (m_fMixing_bits a) (shA (varM 5))]) T = .ok (.lst [.int b, .int c]) T := by
    refine e_share ?_ rfl
    rw [a_lstM, a_args1, pbase a b c T5]
    simp only [a_args1, pbits a b c T5, a_args0]
  have l2 : shareM (lstM [varM 3, varM 4]) T = .ok (.lst [.int b, .int c]) T := by
    refine e_share ?_ rfl
    rw [a_lstM, a_args1, e_var T3]
    simp only [a_args1, e_var T4, a_args0]
  have l3 : opM neD (reprO a.c_Mixing [false] (m_fMixing___repr__ a) (shA (varM 5))) (fstrM [asStrM (DL.ret (.str "Mixing(")), fmtM (varM 3), asStrM (DL.ret (.str ", ")), fmtM (varM 4), asStrM (DL.ret (.str ")"))]) T = .ok (.bl false) T :=
    e_op (repr_any a (by omega) (by omega) T5) (fstr_eq (by omega) (by omega) (e_var T3) (e_var T4)) (ne_self_str _)
  rw [e_seq (e_skF (e_or (e_test (e_op l1 l2 (ne_self_ii b c))) (e_test l3)))]
  have f1 : cmpO true (cs a) a.c_Mixing [false, false] (m_fMixing___eq__ a) (shA (varM 5)) (shA (shareM (makeF a.c_Mixing [false, false] (m_fMixing___init__ a) [] (avsM [shA (varM 3), shA (varM 4)])))) T = .ok (.bl false) T := by
    rw [cmp_any a true T5 (make_mx a hb' hc' (e_var T3) (e_var T4)) (kind_mx a b c) (eq_mx a b c b c)]
    simp
  have f2 : cmpO false (cs a) a.c_Mixing [false, false] (m_fMixing___eq__ a) (shA (varM 5)) (shA (shareM (makeF a.c_Mixing [false, false] (m_fMixing___init__ a) [] (avsM [shA (varM 3), shA (opM addD (DL.ret (.int 1)) (opM modI (peekM 4) (DL.ret (.int 32))))])))) T = .ok (.bl false) T := by
    have e4 : opM addD (DL.ret (.int 1)) (opM modI (peekM 4) (DL.ret (.int 32))) T = .ok (.int (1 + c % 32)) T := e_op (a_ret _) (e_op (e_pk T4) (a_ret _) rfl) rfl
    rw [cmp_any a false T5 (make_mx a (c := 1 + c % 32) hb' (by omega) (e_var T3) e4) (kind_mx a b _) (eq_mx a b c b _)]
    have : (c == 1 + c % 32) = false := by simp; omega
    rw [this]
    simp
  have f3 : cmpO false (cs a) a.c_Mixing [false, false] (m_fMixing___eq__ a) (shA (varM 5)) (shA (shareM (makeF a.c_Mixing [false, false] (m_fMixing___init__ a) [] (avsM [shA (opM addD (DL.ret (.int 1)) (opM modI (peekM 3) (DL.ret (.int 1000)))), shA (varM 4)])))) T = .ok (.bl false) T := by
    have e4 : opM addD (DL.ret (.int 1)) (opM modI (peekM 3) (DL.ret (.int 1000))) T = .ok (.int (1 + b % 1000)) T := e_op (a_ret _) (e_op (e_pk T3) (a_ret _) rfl) rfl
    rw [cmp_any a false T5 (make_mx a (b := 1 + b % 1000) (by omega) hc' e4 (e_var T4)) (kind_mx a _ c) (eq_mx a b c _ c)]
    have : (b == 1 + b % 1000) = false := by simp; omega
    rw [this]
    simp
  have f4 : cmpO false (cs a) a.c_Mixing [false, false] (m_fMixing___eq__ a) (shA (varM 5)) (shA (tupM [varM 3, varM 4])) T = .ok (.bl false) T := by
    have e4 : tupM [varM 3, varM 4] T = .ok (.tup [.int b, .int c]) T := by
      rw [a_tupM, a_args1, e_var T3]
      simp only [a_args1, e_var T4, a_args0]
    rw [cmp_any a false T5 e4 (k := .tup) rfl (eq_no a b c rfl)]
    rfl
  have f5 : cmpO false (cs a) a.c_Mixing [false, false] (m_fMixing___eq__ a) (shA (varM 5)) (shA (reprO a.c_Mixing [false] (m_fMixing___repr__ a) (shA (varM 5)))) T = .ok (.bl false) T := by
    rw [cmp_any a false T5 (repr_any a (by omega) (by omega) T5) (k := .str) rfl (eq_no a b c rfl)]
    rfl
  rw [e_seq (e_skF (e_or (e_test f1) (e_test f2)))]
  rw [e_seq (e_skF (e_test f3))]
  rw [e_seq (e_skF (e_or (e_test f4) (e_test f5)))]
  obtain ⟨T2, g1, g2⟩ := e_loop (t := nameT 6) (b := bd0_flaw a) (I := Sh a (.kl (ns.map .int)) (some (.sh (.int k))) b c) (P := fun _ => True) (fun d st _ h => turn_ok a hb' hc' d st h) (rangeD 0 6) T (fun _ _ => trivial) ⟨q, x6, x7, x8, x9, x10, hT⟩
  rw [e_seq (by rw [e_for (rng_6 T)]; exact g1)]
  obtain ⟨p2, y6, y7, y8, y9, y10, hT2⟩ := g2.ex
  have T22 : T2[2]? = some (some (.ow false (pl p2))) := by rw [hT2]; rfl
  obtain ⟨key, p3, gk, ek⟩ := key_call a T22
  rw [e_seq (e_asg ek)]
  have hT3 : (T2.set 2 (some (.ow false (pl p3)))).set 7 (some (.sh (.str key))) = [some (DL.Slot.sh (.kl (ns.map .int))), some (.sh (.int k)), some (.ow false (pl p3)), some (.sh (.int b)), some (.sh (.int c)), some (.sh (mx a b c)), y6, some (.sh (.str key)), y8, y9, y10] := by rw [hT2]; rfl
  rw [hT3]
  obtain ⟨ds, od, eo⟩ := odd_list a (st := [some (DL.Slot.sh (.kl (ns.map .int))), some (.sh (.int k)), some (.ow false (pl p3)), some (.sh (.int b)), some (.sh (.int c)), some (.sh (mx a b c)), y6, some (.sh (.str key)), y8, y9, y10]) gk rfl
  rw [e_seq (e_asg eo)]
  simp only [List.set_cons_succ, List.set_cons_zero]
  obtain ⟨T4', g3, g4⟩ := e_loop (t := nameT 10) (b := bd1_flaw a) (P := Odd a) (fun d st ho h => odd_turn (sc := .kl (ns.map .int)) a d st ho h) ds [some (DL.Slot.sh (.kl (ns.map .int))), some (.sh (.int k)), some (.ow false (pl p3)), some (.sh (.int b)), some (.sh (.int c)), some (.sh (mx a b c)), y6, some (.sh (.str key)), y8, some (.sh (.lst ds)), y10] od ⟨_, _, _, _, _, _, _, _, _, _, _, rfl, rfl⟩
  refine ⟨T4', rfl, ?_, g4⟩
  rw [e_for (ds := ds) (s := [some (DL.Slot.sh (.kl (ns.map .int))), some (.sh (.int k)), some (.ow false (pl p3)), some (.sh (.int b)), some (.sh (.int c)), some (.sh (mx a b c)), y6, some (.sh (.str key)), y8, some (.sh (.lst ds)), y10]) (by rw [a_seqM', e_var rfl])]
  exact g3
theorem law_true (a : Ad) (ns : List Int) (hl : ns.length ≤ 1000) : m_flaw a [.kl (ns.map .int)] = .ok false (.bl true) [.non] := by
  have hl' : (ns.length : Int) ≤ 1000 := by omega
  unfold m_flaw runF
  have c1 : opM neD (shareM (lstM [(DL.ret (.int 1000)), (DL.ret (.int 32)), (DL.ret (.int 20)), (DL.ret (.int 4294967296))])) (shareM (lstM [(DL.ret (.int 1000)), (DL.ret (.int 32)), (DL.ret (.int 20)), (opM powI (DL.ret (.int 2)) (DL.ret (.int 32)))])) [some (.sh (.kl (ns.map .int))), none, none, none, none, none, none, none, none, none, none] = .ok (.bl false) [some (.sh (.kl (ns.map .int))), none, none, none, none, none, none, none, none, none, none] := rfl
  have c2 : ∃ n : Nat, n ≤ 1000 ∧ rng1M (opM max2D (DL.ret (.int 2)) (opM min2D (unM lenD (peekM 0)) (DL.ret (.int 16)))) [some (.sh (.kl (ns.map .int))), none, none, none, none, none, none, none, none, none, none] = .ok (rangeD 0 n) [some (.sh (.kl (ns.map .int))), none, none, none, none, none, none, none, none, none, none] := by
    have e : opM max2D (DL.ret (.int 2)) (opM min2D (unM lenD (peekM 0)) (DL.ret (.int 16))) [some (.sh (.kl (ns.map .int))), none, none, none, none, none, none, none, none, none, none] = .ok (.int (if (if (16 : Int) < ((ns.map D.int).length : Int) then 16 else ((ns.map D.int).length : Int)) > 2 then (if (16 : Int) < ((ns.map D.int).length : Int) then 16 else ((ns.map D.int).length : Int)) else 2)) [some (.sh (.kl (ns.map .int))), none, none, none, none, none, none, none, none, none, none] := rfl
    rw [List.length_map] at e
    have hr : 0 ≤ (if (if (16 : Int) < (ns.length : Int) then 16 else (ns.length : Int)) > 2 then (if (16 : Int) < (ns.length : Int) then 16 else (ns.length : Int)) else 2) ∧ (if (if (16 : Int) < (ns.length : Int) then 16 else (ns.length : Int)) > 2 then (if (16 : Int) < (ns.length : Int) then 16 else (ns.length : Int)) else 2) ≤ 1000 := by split <;> (try split) <;> omega
    generalize (if (if (16 : Int) < (ns.length : Int) then 16 else (ns.length : Int)) > 2 then (if (16 : Int) < (ns.length : Int) then 16 else (ns.length : Int)) else 2) = z at e hr
    refine ⟨z.toNat, by omega, ?_⟩
    rw [a_rng1M, e]
    simp only []
    rw [if_pos (by omega)]
  obtain ⟨n, hn, c2⟩ := c2
  obtain ⟨s, g1, g2⟩ := e_loop (t := nameT 1) (b := bd2_flaw a) (I := fun st => ∃ x0 x1 x2 x3 x4 x5 x6 x7 x8 x9 x10, st = [x0, x1, x2, x3, x4, x5, x6, x7, x8, x9, x10] ∧ x0 = some (.sh (.kl (ns.map .int)))) (P := fun d => ∃ k : Nat, k < 1000000 ∧ d = .int (0 + (k : Int)))
    (fun d st hd h => by
      obtain ⟨k, hk, rfl⟩ := hd
      exact cell_ok a ns k hk st h) (rangeD 0 n) [some (.sh (.kl (ns.map .int))), none, none, none, none, none, none, none, none, none, none] (fun d hd => by
      obtain ⟨i, hi, rfl⟩ := List.mem_map.mp hd
      have := List.mem_range.mp hi
      exact ⟨i, by omega, rfl⟩) ⟨_, _, _, _, _, _, _, _, _, _, _, rfl, rfl⟩
  obtain ⟨x0, x1, x2, x3, x4, x5, x6, x7, x8, x9, x10, rfl, rfl⟩ := g2
  have fin : (seqM (ifM (testM (opM neD (shareM (lstM [(DL.ret (.int 1000)), (DL.ret (.int 32)), (DL.ret (.int 20)), (DL.ret (.int 4294967296))])) (shareM (lstM [(DL.ret (.int 1000)), (DL.ret (.int 32)), (DL.ret (.int 20)), (opM powI (DL.ret (.int 2)) (DL.ret (.int 32)))])))) (retM (DL.ret (.bl false))) skipM)
    (seqM (forM (rng1M (opM max2D (DL.ret (.int 2)) (opM min2D (unM lenD (peekM 0)) (DL.ret (.int 16))))) (nameT 1) (bd2_flaw a))
    (retM (DL.ret (.bl true))))) [some (.sh (.kl (ns.map .int))), none, none, none, none, none, none, none, none, none, none] = .rt false (.bl true) [some (.sh (.kl (ns.map .int))), x1, x2, x3, x4, x5, x6, x7, x8, x9, x10] := by
    rw [e_seq (e_skF (e_test c1)), e_seq (by rw [e_for c2]; exact g1)]
    rfl
  show (match seqM _ _ [some (.sh (.kl (ns.map .int))), none, none, none, none, none, none, none, none, none, none] with | .nx st => _ | .rt fr d st => _ | .err x st => _ | _ => _) = _
  rw [fin]
  rfl
end K01

namespace K01
open PySem L2 DL
theorem all_mk {l : PySem.W.OpenLaw} {w : World} {K : PySem.W.Frag} {h : Heap} {mg : Str → Option Value} {c_Mixing f_fis_integer f_fis_key f_fmix_of f_fMixing_base f_fMixing_bits f_fMixing___repr__ f_fcheck_mixing f_f_law_hand f_f_law_draw f_f_law_mix f_fin_range f_fcheck_key f_f_law_long_key f_fcheck_number f_fMixing___call__ f_fMixing___eq__ f_fplace_of f_fMixing___init__ f_fplace f_flaw p_fMixing_base p_fMixing_bits fa : Addr}
    {od_fis_integer an_fis_integer od_fis_key an_fis_key od_fmix_of an_fmix_of od_fMixing_base an_fMixing_base od_fMixing_bits an_fMixing_bits od_fMixing___repr__ an_fMixing___repr__ od_fcheck_mixing an_fcheck_mixing od_f_law_hand an_f_law_hand od_f_law_draw an_f_law_draw od_f_law_mix an_f_law_mix od_fin_range an_fin_range od_fcheck_key an_fcheck_key od_f_law_long_key an_f_law_long_key od_fcheck_number an_fcheck_number od_fMixing___call__ an_fMixing___call__ od_fMixing___eq__ an_fMixing___eq__ od_fplace_of an_fplace_of od_fMixing___init__ an_fMixing___init__ od_fplace an_fplace od_flaw an_flaw : Option Addr}
    {sl_fis_integer sl_fis_key sl_fmix_of sl_fMixing_base sl_fMixing_bits sl_fMixing___repr__ sl_fcheck_mixing sl_f_law_hand sl_f_law_draw sl_f_law_mix sl_fin_range sl_fcheck_key sl_f_law_long_key sl_fcheck_number sl_fMixing___call__ sl_fMixing___eq__ sl_fplace_of sl_fMixing___init__ sl_fplace sl_flaw : Array (Option Value)}
    {oc_fis_integer kV_fis_integer dc_fis_integer pm_fis_integer cd_fis_integer ct_fis_integer oc_fis_key kV_fis_key dc_fis_key pm_fis_key cd_fis_key ct_fis_key oc_fmix_of kV_fmix_of dc_fmix_of pm_fmix_of cd_fmix_of ct_fmix_of oc_fMixing_base kV_fMixing_base dc_fMixing_base pm_fMixing_base cd_fMixing_base ct_fMixing_base oc_fMixing_bits kV_fMixing_bits dc_fMixing_bits pm_fMixing_bits cd_fMixing_bits ct_fMixing_bits oc_fMixing___repr__ kV_fMixing___repr__ dc_fMixing___repr__ pm_fMixing___repr__ cd_fMixing___repr__ ct_fMixing___repr__ oc_fcheck_mixing kV_fcheck_mixing dc_fcheck_mixing pm_fcheck_mixing cd_fcheck_mixing ct_fcheck_mixing oc_f_law_hand kV_f_law_hand dc_f_law_hand pm_f_law_hand cd_f_law_hand ct_f_law_hand oc_f_law_draw kV_f_law_draw dc_f_law_draw pm_f_law_draw cd_f_law_draw ct_f_law_draw oc_f_law_mix kV_f_law_mix dc_f_law_mix pm_f_law_mix cd_f_law_mix ct_f_law_mix oc_fin_range kV_fin_range dc_fin_range pm_fin_range cd_fin_range ct_fin_range oc_fcheck_key kV_fcheck_key dc_fcheck_key pm_fcheck_key cd_fcheck_key ct_fcheck_key oc_f_law_long_key kV_f_law_long_key dc_f_law_long_key pm_f_law_long_key cd_f_law_long_key ct_f_law_long_key oc_fcheck_number kV_fcheck_number dc_fcheck_number pm_fcheck_number cd_fcheck_number ct_fcheck_number oc_fMixing___call__ kV_fMixing___call__ dc_fMixing___call__ pm_fMixing___call__ cd_fMixing___call__ ct_fMixing___call__ oc_fMixing___eq__ kV_fMixing___eq__ dc_fMixing___eq__ pm_fMixing___eq__ cd_fMixing___eq__ ct_fMixing___eq__ oc_fplace_of kV_fplace_of dc_fplace_of pm_fplace_of cd_fplace_of ct_fplace_of oc_fMixing___init__ kV_fMixing___init__ dc_fMixing___init__ pm_fMixing___init__ cd_fMixing___init__ ct_fMixing___init__ oc_fplace kV_fplace dc_fplace pm_fplace cd_fplace ct_fplace oc_flaw kV_flaw dc_flaw pm_flaw cd_flaw ct_flaw : Value}
    {rest_fMixing_base rest_fMixing_bits : List Value}
    {tk_CHARACTERS tk_MAX_BASE tk_MAX_BITS tk_MAX_LENGTH tk_MAX_NUMBER : Tok}
    (X : K.In h) (G : h.Ns mainGlobals mg) (hfa : mg "law" = some (.ref fa))
    (aC_Mixing : PySem.W.nsIn K mainGlobals "Mixing" = some (some (.ref c_Mixing)))
    (a_fis_integer : PySem.W.nsIn K mainGlobals "is_integer" = some (some (.ref f_fis_integer)))
    (l_fis_integer : K.lookup f_fis_integer = some ⟨oc_fis_integer, od_fis_integer, .func (PySem.W.fnOf "is_integer" "is_integer" (defArgs s_fis_integer) (defBody s_fis_integer) (defScope s_fis_integer) .none kV_fis_integer dc_fis_integer pm_fis_integer an_fis_integer cd_fis_integer ct_fis_integer), sl_fis_integer⟩)
    (c_fis_integer : PySem.W.codeIn K cd_fis_integer "is_integer" = true)
    (k_fis_integer : PySem.W.keepIn K (.ref f_fis_integer) = true)
    (a_fis_key : PySem.W.nsIn K mainGlobals "is_key" = some (some (.ref f_fis_key)))
    (l_fis_key : K.lookup f_fis_key = some ⟨oc_fis_key, od_fis_key, .func (PySem.W.fnOf "is_key" "is_key" (defArgs s_fis_key) (defBody s_fis_key) (defScope s_fis_key) .none kV_fis_key dc_fis_key pm_fis_key an_fis_key cd_fis_key ct_fis_key), sl_fis_key⟩)
    (c_fis_key : PySem.W.codeIn K cd_fis_key "is_key" = true)
    (k_fis_key : PySem.W.keepIn K (.ref f_fis_key) = true)
    (a_fmix_of : PySem.W.nsIn K mainGlobals "mix_of" = some (some (.ref f_fmix_of)))
    (l_fmix_of : K.lookup f_fmix_of = some ⟨oc_fmix_of, od_fmix_of, .func (PySem.W.fnOf "mix_of" "mix_of" (defArgs s_fmix_of) (defBody s_fmix_of) (defScope s_fmix_of) .none kV_fmix_of dc_fmix_of pm_fmix_of an_fmix_of cd_fmix_of ct_fmix_of), sl_fmix_of⟩)
    (c_fmix_of : PySem.W.codeIn K cd_fmix_of "mix_of" = true)
    (k_fmix_of : PySem.W.keepIn K (.ref f_fmix_of) = true)
    (ap_fMixing_base : PySem.W.findIn K (.ref c_Mixing) "base" = some (some (.ref p_fMixing_base)))
    (rp_fMixing_base : PySem.W.recIn K p_fMixing_base "property" = some (.ref f_fMixing_base :: rest_fMixing_base))
    (gp_fMixing_base : PySem.W.specialIn K (.ref p_fMixing_base) "__get__" = some (some (.builtin "property.__get__")))
    (tp_fMixing_base : PySem.W.takesIn K (.ref p_fMixing_base) = some true)
    (l_fMixing_base : K.lookup f_fMixing_base = some ⟨oc_fMixing_base, od_fMixing_base, .func (PySem.W.fnOf "base" "Mixing.base" (defArgs s_fMixing_base) (defBody s_fMixing_base) (defScope s_fMixing_base) .none kV_fMixing_base dc_fMixing_base pm_fMixing_base an_fMixing_base cd_fMixing_base ct_fMixing_base), sl_fMixing_base⟩)
    (c_fMixing_base : PySem.W.codeIn K cd_fMixing_base "Mixing.base" = true)
    (k_fMixing_base : PySem.W.keepIn K (.ref f_fMixing_base) = true)
    (ap_fMixing_bits : PySem.W.findIn K (.ref c_Mixing) "bits" = some (some (.ref p_fMixing_bits)))
    (rp_fMixing_bits : PySem.W.recIn K p_fMixing_bits "property" = some (.ref f_fMixing_bits :: rest_fMixing_bits))
    (gp_fMixing_bits : PySem.W.specialIn K (.ref p_fMixing_bits) "__get__" = some (some (.builtin "property.__get__")))
    (tp_fMixing_bits : PySem.W.takesIn K (.ref p_fMixing_bits) = some true)
    (l_fMixing_bits : K.lookup f_fMixing_bits = some ⟨oc_fMixing_bits, od_fMixing_bits, .func (PySem.W.fnOf "bits" "Mixing.bits" (defArgs s_fMixing_bits) (defBody s_fMixing_bits) (defScope s_fMixing_bits) .none kV_fMixing_bits dc_fMixing_bits pm_fMixing_bits an_fMixing_bits cd_fMixing_bits ct_fMixing_bits), sl_fMixing_bits⟩)
    (c_fMixing_bits : PySem.W.codeIn K cd_fMixing_bits "Mixing.bits" = true)
    (k_fMixing_bits : PySem.W.keepIn K (.ref f_fMixing_bits) = true)
    (a_fMixing___repr__ : PySem.W.findIn K (.ref c_Mixing) "__repr__" = some (some (.ref f_fMixing___repr__)))
    (l_fMixing___repr__ : K.lookup f_fMixing___repr__ = some ⟨oc_fMixing___repr__, od_fMixing___repr__, .func (PySem.W.fnOf "__repr__" "Mixing.__repr__" (defArgs s_fMixing___repr__) (defBody s_fMixing___repr__) (defScope s_fMixing___repr__) .none kV_fMixing___repr__ dc_fMixing___repr__ pm_fMixing___repr__ an_fMixing___repr__ cd_fMixing___repr__ ct_fMixing___repr__), sl_fMixing___repr__⟩)
    (c_fMixing___repr__ : PySem.W.codeIn K cd_fMixing___repr__ "Mixing.__repr__" = true)
    (k_fMixing___repr__ : PySem.W.keepIn K (.ref f_fMixing___repr__) = true)
    (i_fMixing___repr__ : PySem.W.isFn K (.ref f_fMixing___repr__) = true)
    (a_fcheck_mixing : PySem.W.nsIn K mainGlobals "check_mixing" = some (some (.ref f_fcheck_mixing)))
    (l_fcheck_mixing : K.lookup f_fcheck_mixing = some ⟨oc_fcheck_mixing, od_fcheck_mixing, .func (PySem.W.fnOf "check_mixing" "check_mixing" (defArgs s_fcheck_mixing) (defBody s_fcheck_mixing) (defScope s_fcheck_mixing) .none kV_fcheck_mixing dc_fcheck_mixing pm_fcheck_mixing an_fcheck_mixing cd_fcheck_mixing ct_fcheck_mixing), sl_fcheck_mixing⟩)
    (c_fcheck_mixing : PySem.W.codeIn K cd_fcheck_mixing "check_mixing" = true)
    (k_fcheck_mixing : PySem.W.keepIn K (.ref f_fcheck_mixing) = true)
    (a_f_law_hand : PySem.W.nsIn K mainGlobals "_law_hand" = some (some (.ref f_f_law_hand)))
    (l_f_law_hand : K.lookup f_f_law_hand = some ⟨oc_f_law_hand, od_f_law_hand, .func (PySem.W.fnOf "_law_hand" "_law_hand" (defArgs s_f_law_hand) (defBody s_f_law_hand) (defScope s_f_law_hand) .none kV_f_law_hand dc_f_law_hand pm_f_law_hand an_f_law_hand cd_f_law_hand ct_f_law_hand), sl_f_law_hand⟩)
    (c_f_law_hand : PySem.W.codeIn K cd_f_law_hand "_law_hand" = true)
    (k_f_law_hand : PySem.W.keepIn K (.ref f_f_law_hand) = true)
    (a_f_law_draw : PySem.W.nsIn K mainGlobals "_law_draw" = some (some (.ref f_f_law_draw)))
    (l_f_law_draw : K.lookup f_f_law_draw = some ⟨oc_f_law_draw, od_f_law_draw, .func (PySem.W.fnOf "_law_draw" "_law_draw" (defArgs s_f_law_draw) (defBody s_f_law_draw) (defScope s_f_law_draw) .none kV_f_law_draw dc_f_law_draw pm_f_law_draw an_f_law_draw cd_f_law_draw ct_f_law_draw), sl_f_law_draw⟩)
    (c_f_law_draw : PySem.W.codeIn K cd_f_law_draw "_law_draw" = true)
    (k_f_law_draw : PySem.W.keepIn K (.ref f_f_law_draw) = true)
    (a_f_law_mix : PySem.W.nsIn K mainGlobals "_law_mix" = some (some (.ref f_f_law_mix)))
    (l_f_law_mix : K.lookup f_f_law_mix = some ⟨oc_f_law_mix, od_f_law_mix, .func (PySem.W.fnOf "_law_mix" "_law_mix" (defArgs s_f_law_mix) (defBody s_f_law_mix) (defScope s_f_law_mix) .none kV_f_law_mix dc_f_law_mix pm_f_law_mix an_f_law_mix cd_f_law_mix ct_f_law_mix), sl_f_law_mix⟩)
    (c_f_law_mix : PySem.W.codeIn K cd_f_law_mix "_law_mix" = true)
    (k_f_law_mix : PySem.W.keepIn K (.ref f_f_law_mix) = true)
    (a_fin_range : PySem.W.nsIn K mainGlobals "in_range" = some (some (.ref f_fin_range)))
    (l_fin_range : K.lookup f_fin_range = some ⟨oc_fin_range, od_fin_range, .func (PySem.W.fnOf "in_range" "in_range" (defArgs s_fin_range) (defBody s_fin_range) (defScope s_fin_range) .none kV_fin_range dc_fin_range pm_fin_range an_fin_range cd_fin_range ct_fin_range), sl_fin_range⟩)
    (c_fin_range : PySem.W.codeIn K cd_fin_range "in_range" = true)
    (k_fin_range : PySem.W.keepIn K (.ref f_fin_range) = true)
    (a_fcheck_key : PySem.W.nsIn K mainGlobals "check_key" = some (some (.ref f_fcheck_key)))
    (l_fcheck_key : K.lookup f_fcheck_key = some ⟨oc_fcheck_key, od_fcheck_key, .func (PySem.W.fnOf "check_key" "check_key" (defArgs s_fcheck_key) (defBody s_fcheck_key) (defScope s_fcheck_key) .none kV_fcheck_key dc_fcheck_key pm_fcheck_key an_fcheck_key cd_fcheck_key ct_fcheck_key), sl_fcheck_key⟩)
    (c_fcheck_key : PySem.W.codeIn K cd_fcheck_key "check_key" = true)
    (k_fcheck_key : PySem.W.keepIn K (.ref f_fcheck_key) = true)
    (a_f_law_long_key : PySem.W.nsIn K mainGlobals "_law_long_key" = some (some (.ref f_f_law_long_key)))
    (l_f_law_long_key : K.lookup f_f_law_long_key = some ⟨oc_f_law_long_key, od_f_law_long_key, .func (PySem.W.fnOf "_law_long_key" "_law_long_key" (defArgs s_f_law_long_key) (defBody s_f_law_long_key) (defScope s_f_law_long_key) .none kV_f_law_long_key dc_f_law_long_key pm_f_law_long_key an_f_law_long_key cd_f_law_long_key ct_f_law_long_key), sl_f_law_long_key⟩)
    (c_f_law_long_key : PySem.W.codeIn K cd_f_law_long_key "_law_long_key" = true)
    (k_f_law_long_key : PySem.W.keepIn K (.ref f_f_law_long_key) = true)
    (a_fcheck_number : PySem.W.nsIn K mainGlobals "check_number" = some (some (.ref f_fcheck_number)))
    (l_fcheck_number : K.lookup f_fcheck_number = some ⟨oc_fcheck_number, od_fcheck_number, .func (PySem.W.fnOf "check_number" "check_number" (defArgs s_fcheck_number) (defBody s_fcheck_number) (defScope s_fcheck_number) .none kV_fcheck_number dc_fcheck_number pm_fcheck_number an_fcheck_number cd_fcheck_number ct_fcheck_number), sl_fcheck_number⟩)
    (c_fcheck_number : PySem.W.codeIn K cd_fcheck_number "check_number" = true)
    (k_fcheck_number : PySem.W.keepIn K (.ref f_fcheck_number) = true)
    (a_fMixing___call__ : PySem.W.findIn K (.ref c_Mixing) "__call__" = some (some (.ref f_fMixing___call__)))
    (l_fMixing___call__ : K.lookup f_fMixing___call__ = some ⟨oc_fMixing___call__, od_fMixing___call__, .func (PySem.W.fnOf "__call__" "Mixing.__call__" (defArgs s_fMixing___call__) (defBody s_fMixing___call__) (defScope s_fMixing___call__) .none kV_fMixing___call__ dc_fMixing___call__ pm_fMixing___call__ an_fMixing___call__ cd_fMixing___call__ ct_fMixing___call__), sl_fMixing___call__⟩)
    (c_fMixing___call__ : PySem.W.codeIn K cd_fMixing___call__ "Mixing.__call__" = true)
    (k_fMixing___call__ : PySem.W.keepIn K (.ref f_fMixing___call__) = true)
    (i_fMixing___call__ : PySem.W.isFn K (.ref f_fMixing___call__) = true)
    (a_fMixing___eq__ : PySem.W.findIn K (.ref c_Mixing) "__eq__" = some (some (.ref f_fMixing___eq__)))
    (l_fMixing___eq__ : K.lookup f_fMixing___eq__ = some ⟨oc_fMixing___eq__, od_fMixing___eq__, .func (PySem.W.fnOf "__eq__" "Mixing.__eq__" (defArgs s_fMixing___eq__) (defBody s_fMixing___eq__) (defScope s_fMixing___eq__) .none kV_fMixing___eq__ dc_fMixing___eq__ pm_fMixing___eq__ an_fMixing___eq__ cd_fMixing___eq__ ct_fMixing___eq__), sl_fMixing___eq__⟩)
    (c_fMixing___eq__ : PySem.W.codeIn K cd_fMixing___eq__ "Mixing.__eq__" = true)
    (k_fMixing___eq__ : PySem.W.keepIn K (.ref f_fMixing___eq__) = true)
    (i_fMixing___eq__ : PySem.W.isFn K (.ref f_fMixing___eq__) = true)
    (a_fplace_of : PySem.W.nsIn K mainGlobals "place_of" = some (some (.ref f_fplace_of)))
    (l_fplace_of : K.lookup f_fplace_of = some ⟨oc_fplace_of, od_fplace_of, .func (PySem.W.fnOf "place_of" "place_of" (defArgs s_fplace_of) (defBody s_fplace_of) (defScope s_fplace_of) .none kV_fplace_of dc_fplace_of pm_fplace_of an_fplace_of cd_fplace_of ct_fplace_of), sl_fplace_of⟩)
    (c_fplace_of : PySem.W.codeIn K cd_fplace_of "place_of" = true)
    (k_fplace_of : PySem.W.keepIn K (.ref f_fplace_of) = true)
    (a_fMixing___init__ : PySem.W.findIn K (.ref c_Mixing) "__init__" = some (some (.ref f_fMixing___init__)))
    (l_fMixing___init__ : K.lookup f_fMixing___init__ = some ⟨oc_fMixing___init__, od_fMixing___init__, .func (PySem.W.fnOf "__init__" "Mixing.__init__" (defArgs s_fMixing___init__) (defBody s_fMixing___init__) (defScope s_fMixing___init__) .none kV_fMixing___init__ dc_fMixing___init__ pm_fMixing___init__ an_fMixing___init__ cd_fMixing___init__ ct_fMixing___init__), sl_fMixing___init__⟩)
    (c_fMixing___init__ : PySem.W.codeIn K cd_fMixing___init__ "Mixing.__init__" = true)
    (k_fMixing___init__ : PySem.W.keepIn K (.ref f_fMixing___init__) = true)
    (i_fMixing___init__ : PySem.W.isFn K (.ref f_fMixing___init__) = true)
    (a_fplace : PySem.W.nsIn K mainGlobals "place" = some (some (.ref f_fplace)))
    (l_fplace : K.lookup f_fplace = some ⟨oc_fplace, od_fplace, .func (PySem.W.fnOf "place" "place" (defArgs s_fplace) (defBody s_fplace) (defScope s_fplace) .none kV_fplace dc_fplace pm_fplace an_fplace cd_fplace ct_fplace), sl_fplace⟩)
    (c_fplace : PySem.W.codeIn K cd_fplace "place" = true)
    (k_fplace : PySem.W.keepIn K (.ref f_fplace) = true)
    (a_flaw : PySem.W.nsIn K mainGlobals "law" = some (some (.ref f_flaw)))
    (l_flaw : K.lookup f_flaw = some ⟨oc_flaw, od_flaw, .func (PySem.W.fnOf "law" "law" (defArgs s_flaw) (defBody s_flaw) (defScope s_flaw) .none kV_flaw dc_flaw pm_flaw an_flaw cd_flaw ct_flaw), sl_flaw⟩)
    (c_flaw : PySem.W.codeIn K cd_flaw "law" = true)
    (k_flaw : PySem.W.keepIn K (.ref f_flaw) = true)
    (pg_Mixing : PySem.W.plainGet K c_Mixing Str.empty = true)
    (hd_Mixing : PySem.W.hasDictIn K c_Mixing = true)
    (po_Mixing : PySem.W.plainOver K c_Mixing = true)
    (sa_Mixing : PySem.W.findIn K (.ref c_Mixing) "__setattr__" = some (some (.builtin "object.__setattr__")))
    (ha_Mixing : PySem.W.findIn K (.ref c_Mixing) "__class__" = some (some (.builtin "object.__class__")))
    (hm_Mixing : PySem.W.mroIn K c_Mixing (.type "object") = some true)
    (kt_Mixing_int : PySem.W.mroIn K c_Mixing (.type "int") = some false)
    (kt_Mixing_str : PySem.W.mroIn K c_Mixing (.type "str") = some false)
    (kt_Mixing_list : PySem.W.mroIn K c_Mixing (.type "list") = some false)
    (kt_Mixing_tuple : PySem.W.mroIn K c_Mixing (.type "tuple") = some false)
    (kt_Mixing_dict : PySem.W.mroIn K c_Mixing (.type "dict") = some false)
    (kt_Mixing_bool : PySem.W.mroIn K c_Mixing (.type "bool") = some false)
    (mk_Mixing : PySem.W.makesIn K c_Mixing = true)
    (kc_Mixing : PySem.W.keepIn K (.ref c_Mixing) = true)
    (ne_Mixing : PySem.W.findIn K (.ref c_Mixing) "__ne__" = some (some (.builtin "object.__ne__")))
    (fi_Mixing : PySem.W.fnIn K f_fMixing___call__ = true)
    (ty_Mixing : PySem.W.typeIn K (.ref c_Mixing) = some (.type "type"))
    (hn_ : PySem.W.specialIn K (.builtin "object.__class__") "__get__" = some (some (.builtin "getset_descriptor.__get__")))
    (htk_ : PySem.W.takesIn K (.builtin "object.__class__") = some true)
    (na_Mixing_own_base : PySem.W.findIn K (.ref c_Mixing) "own_base" = some none)
    (na_Mixing_own_bits : PySem.W.findIn K (.ref c_Mixing) "own_bits" = some none)
    (n_all : PySem.W.nsIn K mainGlobals "all" = some none)
    (n_bool : PySem.W.nsIn K mainGlobals "bool" = some none)
    (n_int : PySem.W.nsIn K mainGlobals "int" = some none)
    (n_isinstance : PySem.W.nsIn K mainGlobals "isinstance" = some none)
    (n_len : PySem.W.nsIn K mainGlobals "len" = some none)
    (n_max : PySem.W.nsIn K mainGlobals "max" = some none)
    (n_min : PySem.W.nsIn K mainGlobals "min" = some none)
    (n_ord : PySem.W.nsIn K mainGlobals "ord" = some none)
    (n_range : PySem.W.nsIn K mainGlobals "range" = some none)
    (n_repr : PySem.W.nsIn K mainGlobals "repr" = some none)
    (n_str : PySem.W.nsIn K mainGlobals "str" = some none)
    (v_CHARACTERS : PySem.W.nsIn K mainGlobals "CHARACTERS" = some (some (.str "abcdefghijklmnopqrstuvwxyz0123456789" tk_CHARACTERS)))
    (v_MAX_BASE : PySem.W.nsIn K mainGlobals "MAX_BASE" = some (some (.int 1000 tk_MAX_BASE)))
    (v_MAX_BITS : PySem.W.nsIn K mainGlobals "MAX_BITS" = some (some (.int 32 tk_MAX_BITS)))
    (v_MAX_LENGTH : PySem.W.nsIn K mainGlobals "MAX_LENGTH" = some (some (.int 20 tk_MAX_LENGTH)))
    (v_MAX_NUMBER : PySem.W.nsIn K mainGlobals "MAX_NUMBER" = some (some (.int 4294967296 tk_MAX_NUMBER)))
    : ∃ fd : FuncData, (∀ (s : Shared) (v : Value), BindsTo s fd ⟨[v], []⟩ [("script", v)]) ∧ ∀ base : Heap, K.In base → base.Ns mainGlobals mg → FnOk l.prog w K mg base (CX l.prog w) 6 fa fd ["script"] (spLaw K) := by
  have e := hfa.symm.trans (PySem.W.mg_of X G a_flaw)
  cases e
  have F_fis_integer := fun_mk (st := s_fis_integer) l_fis_integer c_fis_integer k_fis_integer
  have b_fis_integer := F_fis_integer.binds (ps := ["value"]) fun _ _ _ _ _ _ us hl => match us, hl with | [_], _ => rfl
  have F_fis_key := fun_mk (st := s_fis_key) l_fis_key c_fis_key k_fis_key
  have b_fis_key := F_fis_key.binds (ps := ["value"]) fun _ _ _ _ _ _ us hl => match us, hl with | [_], _ => rfl
  have F_fmix_of := fun_mk (st := s_fmix_of) l_fmix_of c_fmix_of k_fmix_of
  have b_fmix_of := F_fmix_of.binds (ps := ["base", "bits", "key"]) fun _ _ _ _ _ _ us hl => match us, hl with | [_, _, _], _ => rfl
  have F_fMixing_base := fun_mk (st := s_fMixing_base) l_fMixing_base c_fMixing_base k_fMixing_base
  have b_fMixing_base := F_fMixing_base.binds (ps := ["self"]) fun _ _ _ _ _ _ us hl => match us, hl with | [_], _ => rfl
  have F_fMixing_bits := fun_mk (st := s_fMixing_bits) l_fMixing_bits c_fMixing_bits k_fMixing_bits
  have b_fMixing_bits := F_fMixing_bits.binds (ps := ["self"]) fun _ _ _ _ _ _ us hl => match us, hl with | [_], _ => rfl
  have F_fMixing___repr__ := fun_mk (st := s_fMixing___repr__) l_fMixing___repr__ c_fMixing___repr__ k_fMixing___repr__
  have b_fMixing___repr__ := F_fMixing___repr__.binds (ps := ["self"]) fun _ _ _ _ _ _ us hl => match us, hl with | [_], _ => rfl
  have F_fcheck_mixing := fun_mk (st := s_fcheck_mixing) l_fcheck_mixing c_fcheck_mixing k_fcheck_mixing
  have b_fcheck_mixing := F_fcheck_mixing.binds (ps := ["value"]) fun _ _ _ _ _ _ us hl => match us, hl with | [_], _ => rfl
  have F_f_law_hand := fun_mk (st := s_f_law_hand) l_f_law_hand c_f_law_hand k_f_law_hand
  have b_f_law_hand := F_f_law_hand.binds (ps := ["script", "k"]) fun _ _ _ _ _ _ us hl => match us, hl with | [_, _], _ => rfl
  have F_f_law_draw := fun_mk (st := s_f_law_draw) l_f_law_draw c_f_law_draw k_f_law_draw
  have b_f_law_draw := F_f_law_draw.binds (ps := ["pool", "size"]) fun _ _ _ _ _ _ us hl => match us, hl with | [_, _], _ => rfl
  have F_f_law_mix := fun_mk (st := s_f_law_mix) l_f_law_mix c_f_law_mix k_f_law_mix
  have b_f_law_mix := F_f_law_mix.binds (ps := ["base", "bits", "key"]) fun _ _ _ _ _ _ us hl => match us, hl with | [_, _, _], _ => rfl
  have F_fin_range := fun_mk (st := s_fin_range) l_fin_range c_fin_range k_fin_range
  have b_fin_range := F_fin_range.binds (ps := ["value", "least", "most"]) fun _ _ _ _ _ _ us hl => match us, hl with | [_, _, _], _ => rfl
  have F_fcheck_key := fun_mk (st := s_fcheck_key) l_fcheck_key c_fcheck_key k_fcheck_key
  have b_fcheck_key := F_fcheck_key.binds (ps := ["value"]) fun _ _ _ _ _ _ us hl => match us, hl with | [_], _ => rfl
  have F_f_law_long_key := fun_mk (st := s_f_law_long_key) l_f_law_long_key c_f_law_long_key k_f_law_long_key
  have b_f_law_long_key := F_f_law_long_key.binds (ps := ["pool"]) fun _ _ _ _ _ _ us hl => match us, hl with | [_], _ => rfl
  have F_fcheck_number := fun_mk (st := s_fcheck_number) l_fcheck_number c_fcheck_number k_fcheck_number
  have b_fcheck_number := F_fcheck_number.binds (ps := ["value", "least", "most"]) fun _ _ _ _ _ _ us hl => match us, hl with | [_, _, _], _ => rfl
  have F_fMixing___call__ := fun_mk (st := s_fMixing___call__) l_fMixing___call__ c_fMixing___call__ k_fMixing___call__
  have b_fMixing___call__ := F_fMixing___call__.binds (ps := ["self", "key"]) fun _ _ _ _ _ _ us hl => match us, hl with | [_, _], _ => rfl
  have F_fMixing___eq__ := fun_mk (st := s_fMixing___eq__) l_fMixing___eq__ c_fMixing___eq__ k_fMixing___eq__
  have b_fMixing___eq__ := F_fMixing___eq__.binds (ps := ["self", "other"]) fun _ _ _ _ _ _ us hl => match us, hl with | [_, _], _ => rfl
  have F_fplace_of := fun_mk (st := s_fplace_of) l_fplace_of c_fplace_of k_fplace_of
  have b_fplace_of := F_fplace_of.binds (ps := ["mixing", "key"]) fun _ _ _ _ _ _ us hl => match us, hl with | [_, _], _ => rfl
  have F_fMixing___init__ := fun_mk (st := s_fMixing___init__) l_fMixing___init__ c_fMixing___init__ k_fMixing___init__
  have b_fMixing___init__ := F_fMixing___init__.binds (ps := ["self", "base", "bits"]) fun _ _ _ _ _ _ us hl => match us, hl with | [_, _, _], _ => rfl
  have F_fplace := fun_mk (st := s_fplace) l_fplace c_fplace k_fplace
  have b_fplace := F_fplace.binds (ps := ["mixing", "key"]) fun _ _ _ _ _ _ us hl => match us, hl with | [_, _], _ => rfl
  have F_flaw := fun_mk (st := s_flaw) l_flaw c_flaw k_flaw
  have b_flaw := F_flaw.binds (ps := ["script"]) fun _ _ _ _ _ _ us hl => match us, hl with | [_], _ => rfl
  have T : Txt K mg { c_Mixing := c_Mixing, f_fis_integer := f_fis_integer, d_fis_integer := _, f_fis_key := f_fis_key, d_fis_key := _, f_fmix_of := f_fmix_of, d_fmix_of := _, f_fMixing_base := f_fMixing_base, d_fMixing_base := _, f_fMixing_bits := f_fMixing_bits, d_fMixing_bits := _, f_fMixing___repr__ := f_fMixing___repr__, d_fMixing___repr__ := _, f_fcheck_mixing := f_fcheck_mixing, d_fcheck_mixing := _, f_f_law_hand := f_f_law_hand, d_f_law_hand := _, f_f_law_draw := f_f_law_draw, d_f_law_draw := _, f_f_law_mix := f_f_law_mix, d_f_law_mix := _, f_fin_range := f_fin_range, d_fin_range := _, f_fcheck_key := f_fcheck_key, d_fcheck_key := _, f_f_law_long_key := f_f_law_long_key, d_f_law_long_key := _, f_fcheck_number := f_fcheck_number, d_fcheck_number := _, f_fMixing___call__ := f_fMixing___call__, d_fMixing___call__ := _, f_fMixing___eq__ := f_fMixing___eq__, d_fMixing___eq__ := _, f_fplace_of := f_fplace_of, d_fplace_of := _, f_fMixing___init__ := f_fMixing___init__, d_fMixing___init__ := _, f_fplace := f_fplace, d_fplace := _, f_flaw := f_flaw, d_flaw := _, p_fMixing_base := p_fMixing_base, p_fMixing_bits := p_fMixing_bits } := {
    F_fis_integer := fun_D F_fis_integer
    b_fis_integer := b_fis_integer
    g_fis_integer := PySem.W.mg_of X G a_fis_integer
    F_fis_key := fun_D F_fis_key
    b_fis_key := b_fis_key
    g_fis_key := PySem.W.mg_of X G a_fis_key
    F_fmix_of := fun_D F_fmix_of
    b_fmix_of := b_fmix_of
    g_fmix_of := PySem.W.mg_of X G a_fmix_of
    F_fMixing_base := fun_D F_fMixing_base
    b_fMixing_base := b_fMixing_base
    F_fMixing_bits := fun_D F_fMixing_bits
    b_fMixing_bits := b_fMixing_bits
    F_fMixing___repr__ := fun_D F_fMixing___repr__
    b_fMixing___repr__ := b_fMixing___repr__
    F_fcheck_mixing := fun_D F_fcheck_mixing
    b_fcheck_mixing := b_fcheck_mixing
    g_fcheck_mixing := PySem.W.mg_of X G a_fcheck_mixing
    F_f_law_hand := fun_D F_f_law_hand
    b_f_law_hand := b_f_law_hand
    g_f_law_hand := PySem.W.mg_of X G a_f_law_hand
    F_f_law_draw := fun_D F_f_law_draw
    b_f_law_draw := b_f_law_draw
    g_f_law_draw := PySem.W.mg_of X G a_f_law_draw
    F_f_law_mix := fun_D F_f_law_mix
    b_f_law_mix := b_f_law_mix
    g_f_law_mix := PySem.W.mg_of X G a_f_law_mix
    F_fin_range := fun_D F_fin_range
    b_fin_range := b_fin_range
    g_fin_range := PySem.W.mg_of X G a_fin_range
    F_fcheck_key := fun_D F_fcheck_key
    b_fcheck_key := b_fcheck_key
    g_fcheck_key := PySem.W.mg_of X G a_fcheck_key
    F_f_law_long_key := fun_D F_f_law_long_key
    b_f_law_long_key := b_f_law_long_key
    g_f_law_long_key := PySem.W.mg_of X G a_f_law_long_key
    F_fcheck_number := fun_D F_fcheck_number
    b_fcheck_number := b_fcheck_number
    g_fcheck_number := PySem.W.mg_of X G a_fcheck_number
    F_fMixing___call__ := fun_D F_fMixing___call__
    b_fMixing___call__ := b_fMixing___call__
    F_fMixing___eq__ := fun_D F_fMixing___eq__
    b_fMixing___eq__ := b_fMixing___eq__
    F_fplace_of := fun_D F_fplace_of
    b_fplace_of := b_fplace_of
    g_fplace_of := PySem.W.mg_of X G a_fplace_of
    F_fMixing___init__ := fun_D F_fMixing___init__
    b_fMixing___init__ := b_fMixing___init__
    F_fplace := fun_D F_fplace
    b_fplace := b_fplace
    g_fplace := PySem.W.mg_of X G a_fplace
    F_flaw := fun_D F_flaw
    b_flaw := b_flaw
    g_flaw := PySem.W.mg_of X G a_flaw
    cl_Mixing := ⟨pg_Mixing, hd_Mixing, po_Mixing, sa_Mixing⟩
    it_Mixing := ⟨⟨pg_Mixing, hd_Mixing, po_Mixing, sa_Mixing⟩, ha_Mixing, hn_, htk_, hm_Mixing, fun b => kit_mro b (by cases b <;> assumption)⟩
    gc_Mixing := PySem.W.mg_of X G aC_Mixing
    mk_Mixing := ⟨mk_Mixing, a_fMixing___init__, i_fMixing___init__, kc_Mixing⟩
    eq_Mixing := ⟨a_fMixing___eq__, i_fMixing___eq__, by
      intro C' hC
      simp only [cs, List.mem_cons, List.not_mem_nil, or_false] at hC
      rcases hC with rfl | rfl
      all_goals first | exact nf_mro (by assumption) | (unfold PySem.W.notFirst; simp)⟩
    ne_Mixing := ne_Mixing
    rp_Mixing := a_fMixing___repr__
    rf_Mixing := i_fMixing___repr__
    co_Mixing := ⟨a_fMixing___call__, i_fMixing___call__, fi_Mixing⟩
    ask_Mixing := ⟨isC_of hd_Mixing ty_Mixing, by
      intro C' hC n
      simp only [cs, List.mem_cons, List.not_mem_nil, or_false] at hC
      rcases hC with rfl
      all_goals first | exact kit_mroO (isC_of hd_Mixing ty_Mixing) n (by assumption) | exact absurd rfl n⟩
    na_Mixing_own_base := na_Mixing_own_base
    na_Mixing_own_bits := na_Mixing_own_bits
    p_fMixing_base := ⟨ap_fMixing_base, gp_fMixing_base, tp_fMixing_base, ⟨_, rp_fMixing_base⟩⟩
    p_fMixing_bits := ⟨ap_fMixing_bits, gp_fMixing_bits, tp_fMixing_bits, ⟨_, rp_fMixing_bits⟩⟩
    n_all := PySem.W.mg_none_of X G n_all
    n_bool := PySem.W.mg_none_of X G n_bool
    n_int := PySem.W.mg_none_of X G n_int
    n_isinstance := PySem.W.mg_none_of X G n_isinstance
    n_len := PySem.W.mg_none_of X G n_len
    n_max := PySem.W.mg_none_of X G n_max
    n_min := PySem.W.mg_none_of X G n_min
    n_ord := PySem.W.mg_none_of X G n_ord
    n_range := PySem.W.mg_none_of X G n_range
    n_repr := PySem.W.mg_none_of X G n_repr
    n_str := PySem.W.mg_none_of X G n_str
    k_CHARACTERS := ⟨_, PySem.W.mg_of X G v_CHARACTERS, ⟨_, rfl⟩⟩
    k_MAX_BASE := ⟨_, PySem.W.mg_of X G v_MAX_BASE, ⟨_, rfl⟩⟩
    k_MAX_BITS := ⟨_, PySem.W.mg_of X G v_MAX_BITS, ⟨_, rfl⟩⟩
    k_MAX_LENGTH := ⟨_, PySem.W.mg_of X G v_MAX_LENGTH, ⟨_, rfl⟩⟩
    k_MAX_NUMBER := ⟨_, PySem.W.mg_of X G v_MAX_NUMBER, ⟨_, rfl⟩⟩
    }
  exact ⟨_, fun s v => .of_eq rfl, fun base _ _ => (ok_flaw T).imp (law_sp fun ns hl => law_true _ ns (by omega))⟩
end K01

open PySem PySem.W PyProof.Rows in
set_option maxRecDepth 100000 in
set_option maxHeartbeats 0 in
theorem PySem.Challenge.cw_fullestfirst_k01_keys_and_mixings_holds : PySem.Challenge.rw_fullestfirst_k01_keys_and_mixings.Holds := by
  w_on; o_law; k_head; (case hw => w_witness2)
  k_fill
  refine DL.walk_law (l := PySem.Challenge.rw_fullestfirst_k01_keys_and_mixings) (k := 6) rfl rfl ⟨rfl, by decide, by decide⟩ (fun w h Y => PySem.W.kIn_of Y) ?F
  case F =>
    intro w mg fa h KX G hmg
    refine' K01.all_mk KX G hmg ?aC_Mixing ?a_fis_integer ?l_fis_integer ?c_fis_integer ?k_fis_integer ?a_fis_key ?l_fis_key ?c_fis_key ?k_fis_key ?a_fmix_of ?l_fmix_of ?c_fmix_of ?k_fmix_of ?ap_fMixing_base ?rp_fMixing_base ?gp_fMixing_base ?tp_fMixing_base ?l_fMixing_base ?c_fMixing_base ?k_fMixing_base ?ap_fMixing_bits ?rp_fMixing_bits ?gp_fMixing_bits ?tp_fMixing_bits ?l_fMixing_bits ?c_fMixing_bits ?k_fMixing_bits ?a_fMixing___repr__ ?l_fMixing___repr__ ?c_fMixing___repr__ ?k_fMixing___repr__ ?i_fMixing___repr__ ?a_fcheck_mixing ?l_fcheck_mixing ?c_fcheck_mixing ?k_fcheck_mixing ?a_f_law_hand ?l_f_law_hand ?c_f_law_hand ?k_f_law_hand ?a_f_law_draw ?l_f_law_draw ?c_f_law_draw ?k_f_law_draw ?a_f_law_mix ?l_f_law_mix ?c_f_law_mix ?k_f_law_mix ?a_fin_range ?l_fin_range ?c_fin_range ?k_fin_range ?a_fcheck_key ?l_fcheck_key ?c_fcheck_key ?k_fcheck_key ?a_f_law_long_key ?l_f_law_long_key ?c_f_law_long_key ?k_f_law_long_key ?a_fcheck_number ?l_fcheck_number ?c_fcheck_number ?k_fcheck_number ?a_fMixing___call__ ?l_fMixing___call__ ?c_fMixing___call__ ?k_fMixing___call__ ?i_fMixing___call__ ?a_fMixing___eq__ ?l_fMixing___eq__ ?c_fMixing___eq__ ?k_fMixing___eq__ ?i_fMixing___eq__ ?a_fplace_of ?l_fplace_of ?c_fplace_of ?k_fplace_of ?a_fMixing___init__ ?l_fMixing___init__ ?c_fMixing___init__ ?k_fMixing___init__ ?i_fMixing___init__ ?a_fplace ?l_fplace ?c_fplace ?k_fplace ?a_flaw ?l_flaw ?c_flaw ?k_flaw ?pg_Mixing ?hd_Mixing ?po_Mixing ?sa_Mixing ?ha_Mixing ?hm_Mixing ?kt_Mixing_int ?kt_Mixing_str ?kt_Mixing_list ?kt_Mixing_tuple ?kt_Mixing_dict ?kt_Mixing_bool ?mk_Mixing ?kc_Mixing ?ne_Mixing ?fi_Mixing ?ty_Mixing ?hn_ ?htk_ ?na_Mixing_own_base ?na_Mixing_own_bits ?n_all ?n_bool ?n_int ?n_isinstance ?n_len ?n_max ?n_min ?n_ord ?n_range ?n_repr ?n_str ?v_CHARACTERS ?v_MAX_BASE ?v_MAX_BITS ?v_MAX_LENGTH ?v_MAX_NUMBER
    (case aC_Mixing => k_is)
    (case a_fis_integer => k_is)
    (case l_fis_integer => k_is)
    (case c_fis_integer => k_is)
    (case k_fis_integer => k_is)
    (case a_fis_key => k_is)
    (case l_fis_key => k_is)
    (case c_fis_key => k_is)
    (case k_fis_key => k_is)
    (case a_fmix_of => k_is)
    (case l_fmix_of => k_is)
    (case c_fmix_of => k_is)
    (case k_fmix_of => k_is)
    (case ap_fMixing_base => k_is)
    (case rp_fMixing_base => k_is)
    (case gp_fMixing_base => k_is)
    (case tp_fMixing_base => k_is)
    (case l_fMixing_base => k_is)
    (case c_fMixing_base => k_is)
    (case k_fMixing_base => k_is)
    (case ap_fMixing_bits => k_is)
    (case rp_fMixing_bits => k_is)
    (case gp_fMixing_bits => k_is)
    (case tp_fMixing_bits => k_is)
    (case l_fMixing_bits => k_is)
    (case c_fMixing_bits => k_is)
    (case k_fMixing_bits => k_is)
    (case a_fMixing___repr__ => k_is)
    (case l_fMixing___repr__ => k_is)
    (case c_fMixing___repr__ => k_is)
    (case k_fMixing___repr__ => k_is)
    (case i_fMixing___repr__ => k_is)
    (case a_fcheck_mixing => k_is)
    (case l_fcheck_mixing => k_is)
    (case c_fcheck_mixing => k_is)
    (case k_fcheck_mixing => k_is)
    (case a_f_law_hand => k_is)
    (case l_f_law_hand => k_is)
    (case c_f_law_hand => k_is)
    (case k_f_law_hand => k_is)
    (case a_f_law_draw => k_is)
    (case l_f_law_draw => k_is)
    (case c_f_law_draw => k_is)
    (case k_f_law_draw => k_is)
    (case a_f_law_mix => k_is)
    (case l_f_law_mix => k_is)
    (case c_f_law_mix => k_is)
    (case k_f_law_mix => k_is)
    (case a_fin_range => k_is)
    (case l_fin_range => k_is)
    (case c_fin_range => k_is)
    (case k_fin_range => k_is)
    (case a_fcheck_key => k_is)
    (case l_fcheck_key => k_is)
    (case c_fcheck_key => k_is)
    (case k_fcheck_key => k_is)
    (case a_f_law_long_key => k_is)
    (case l_f_law_long_key => k_is)
    (case c_f_law_long_key => k_is)
    (case k_f_law_long_key => k_is)
    (case a_fcheck_number => k_is)
    (case l_fcheck_number => k_is)
    (case c_fcheck_number => k_is)
    (case k_fcheck_number => k_is)
    (case a_fMixing___call__ => k_is)
    (case l_fMixing___call__ => k_is)
    (case c_fMixing___call__ => k_is)
    (case k_fMixing___call__ => k_is)
    (case i_fMixing___call__ => k_is)
    (case a_fMixing___eq__ => k_is)
    (case l_fMixing___eq__ => k_is)
    (case c_fMixing___eq__ => k_is)
    (case k_fMixing___eq__ => k_is)
    (case i_fMixing___eq__ => k_is)
    (case a_fplace_of => k_is)
    (case l_fplace_of => k_is)
    (case c_fplace_of => k_is)
    (case k_fplace_of => k_is)
    (case a_fMixing___init__ => k_is)
    (case l_fMixing___init__ => k_is)
    (case c_fMixing___init__ => k_is)
    (case k_fMixing___init__ => k_is)
    (case i_fMixing___init__ => k_is)
    (case a_fplace => k_is)
    (case l_fplace => k_is)
    (case c_fplace => k_is)
    (case k_fplace => k_is)
    (case a_flaw => k_is)
    (case l_flaw => k_is)
    (case c_flaw => k_is)
    (case k_flaw => k_is)
    (case pg_Mixing => k_is)
    (case hd_Mixing => k_is)
    (case po_Mixing => k_is)
    (case sa_Mixing => k_is)
    (case ha_Mixing => k_is)
    (case hm_Mixing => k_is)
    (case kt_Mixing_int => k_is)
    (case kt_Mixing_str => k_is)
    (case kt_Mixing_list => k_is)
    (case kt_Mixing_tuple => k_is)
    (case kt_Mixing_dict => k_is)
    (case kt_Mixing_bool => k_is)
    (case mk_Mixing => k_is)
    (case kc_Mixing => k_is)
    (case ne_Mixing => k_is)
    (case fi_Mixing => k_is)
    (case ty_Mixing => k_is)
    (case hn_ => k_is)
    (case htk_ => k_is)
    (case na_Mixing_own_base => k_is)
    (case na_Mixing_own_bits => k_is)
    (case n_all => k_is)
    (case n_bool => k_is)
    (case n_int => k_is)
    (case n_isinstance => k_is)
    (case n_len => k_is)
    (case n_max => k_is)
    (case n_min => k_is)
    (case n_ord => k_is)
    (case n_range => k_is)
    (case n_repr => k_is)
    (case n_str => k_is)
    (case v_CHARACTERS => k_is)
    (case v_MAX_BASE => k_is)
    (case v_MAX_BITS => k_is)
    (case v_MAX_LENGTH => k_is)
    (case v_MAX_NUMBER => k_is)

