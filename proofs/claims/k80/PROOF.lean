import PyProof.Rows.All
import Wide.All
import OpenK.AllK
import Wide.FinOn
import HandS.ForMost
import HandS.ForExc
import HandS.Wide
import HandS.WideBits
import HandS.IsInst
import HandS.Flow
import HandS.Style
import HandS.Sort
import HandS.SortInts
import HandS.Zip
import HandS.Conv
import HandS.TupAny
import HandS.Codes
import HandS.Star
import HandS.ExcInit
import HandS.TryMany
import HandS.TupLe
import KE.GoesMore
import HandS.SortKw
import PyProof.LongRange
import HandS.Defaults
import HandS.CallSlots
import HandS.TupMul
import HandS.DictComp
import HandS.More
import HandS.SortRule
import HandS.Deep
import KE.GoesZip
import HandS.ExcField
import HandS.ExcIs
import HandS.Lambda
import HandS.EndOwn
import PySem.Challenge.RW_pointorstrip_k80_whole_composing
set_option Elab.async false
set_option linter.all false
set_option maxRecDepth 100000
namespace QL
open PySem PySem.Spec PyProof.Rows L2

/-! ### pure data -/
inductive D where
  | non | bl (b : Bool) | int (i : Int) | str (x : Str) | raw (v : V) | scr (ns : List Int)
  | tup (xs : List D) | lst (xs : List D) | dic (ks : List Key) (xs : List D) | dct (ks : List (List Int)) (xs : List D) | obj (C : Addr) (ns : List Str) (xs : List D)

mutual
/-- the value v is the datum in the frozen heap F -/
def Rep (K : PySem.W.Frag) (F : Hp) : D → V → Prop
  | .non, v => v = .non
  | .bl b, v => v = .bl b
  | .int i, v => v = .int i
  | .str x, v => v = .str x
  | .raw u, v => v = u
  | .scr ns, v => ∃ a, v = .ref a ∧ SqL K F a (ns.map V.int)
  | .tup xs, v => ∃ a vs, v = .ref a ∧ F a = some (.tup vs) ∧ RepL K F xs vs
  | .lst xs, v => ∃ a vs, v = .ref a ∧ F a = some (.lst vs) ∧ RepL K F xs vs
  | .dic ks xs, v => ∃ a, v = .ref a ∧ ∃ kvs : List (Key × V), F a = some (.dK kvs) ∧ ks = kvs.map (·.1) ∧ RepL K F xs (kvs.map (·.2))
  | .dct ks xs, v => ∃ a, v = .ref a ∧ ∃ kvs : List (List Key × V), F a = some (.dT kvs) ∧ kvs.map (·.1) = ks.map (List.map Sum.inl) ∧ RepL K F xs (kvs.map (·.2))
  | .obj C ns xs, v => ∃ a dx fs, v = .ref a ∧ F a = some (.ins C dx fs) ∧ fs.map (·.1) = ns ∧ RepL K F xs (fs.map (·.2))
def RepL (K : PySem.W.Frag) (F : Hp) : List D → List V → Prop
  | [], vs => vs = []
  | x :: xs, vs => ∃ v r, vs = v :: r ∧ Rep K F x v ∧ RepL K F xs r
end

theorem sqt_of {K : PySem.W.Frag} {H H' : Hp} {a : Addr} {xs : List V} (e : Same H H') (h : H a = some (.tup xs)) : SqT K H' a xs := .inl (.inl (e _ _ h))
theorem sqt0 {K : PySem.W.Frag} {H : Hp} {a : Addr} {xs : List V} (h : H a = some (.tup xs)) : SqT K H a xs := .inl (.inl h)
theorem same_sqt {K : PySem.W.Frag} {H H' : Hp} {a : Addr} {xs : List V} (e : Same H H') (h : SqT K H a xs) : SqT K H' a xs := by
  rcases h with (h | ⟨o, h⟩) | h
  · exact .inl (.inl (e _ _ h))
  · exact .inl (.inr ⟨o, e _ _ h⟩)
  · exact .inr h
section
variable {K : PySem.W.Frag} {F F' : Hp}
mutual
theorem Rep.mono (e : Same F F') : ∀ (d : D) (v : V), Rep K F d v → Rep K F' d v
  | .non, _, h => h
  | .bl _, _, h => h
  | .int _, _, h => h
  | .str _, _, h => h
  | .raw _, _, h => h
  | .tup xs, _, ⟨a, vs, h1, h2, h3⟩ => ⟨a, vs, h1, e _ _ h2, RepL.mono e xs vs h3⟩
  | .scr xs, _, ⟨a, h1, h2⟩ => ⟨a, h1, e.seq h2⟩
  | .lst xs, _, ⟨a, vs, h1, h2, h3⟩ => ⟨a, vs, h1, e _ _ h2, RepL.mono e xs vs h3⟩
  | .dic ks xs, _, ⟨a, h1, kvs, h2, h3, h4⟩ => ⟨a, h1, kvs, e _ _ h2, h3, RepL.mono e xs _ h4⟩
  | .dct ks xs, _, ⟨a, h1, kvs, h2, h3, h4⟩ => ⟨a, h1, kvs, e _ _ h2, h3, RepL.mono e xs _ h4⟩
  | .obj C ns xs, _, ⟨a, dx, fs, h1, h2, h3, h4⟩ => ⟨a, dx, fs, h1, e _ _ h2, h3, RepL.mono e xs _ h4⟩
theorem RepL.mono (e : Same F F') : ∀ (xs : List D) (vs : List V), RepL K F xs vs → RepL K F' xs vs
  | [], _, h => h
  | x :: xs, _, ⟨v, r, h1, h2, h3⟩ => ⟨v, r, h1, Rep.mono e x v h2, RepL.mono e xs r h3⟩
end
theorem RepL.length : ∀ {xs : List D} {vs : List V}, RepL K F xs vs → xs.length = vs.length
  | [], _, h => by rw [show _ = [] from h]; rfl
  | x :: xs, _, ⟨v, r, h1, h2, h3⟩ => by rw [h1, List.length_cons, List.length_cons, RepL.length h3]
theorem RepL.get : ∀ {xs : List D} {vs : List V} {i : Nat} {d : D}, RepL K F xs vs → xs[i]? = some d → ∃ v, vs[i]? = some v ∧ Rep K F d v
  | [], _, _, _, _, e => by simp at e
  | x :: xs, _, 0, d, ⟨v, r, h1, h2, h3⟩, e => by
    have e' : x = d := by simpa using e
    subst e'; exact ⟨v, by rw [h1]; rfl, h2⟩
  | x :: xs, _, i + 1, d, ⟨v, r, h1, h2, h3⟩, e => by
    obtain ⟨u, hu, ru⟩ := RepL.get (i := i) (d := d) h3 (by simpa using e)
    exact ⟨u, by rw [h1]; simpa using hu, ru⟩
theorem RepL.getV : ∀ {xs : List D} {vs : List V} {i : Nat} {v : V}, RepL K F xs vs → vs[i]? = some v → ∃ d, xs[i]? = some d ∧ Rep K F d v
  | [], _, _, _, h, e => by rw [show _ = [] from h] at e; simp at e
  | x :: xs, _, 0, d, ⟨v, r, h1, h2, h3⟩, e => by
    rw [h1] at e
    have e' : v = d := by simpa using e
    subst e'; exact ⟨x, rfl, h2⟩
  | x :: xs, _, i + 1, d, ⟨v, r, h1, h2, h3⟩, e => by
    rw [h1] at e
    obtain ⟨u, hu, ru⟩ := RepL.getV (i := i) (v := d) h3 (by simpa using e)
    exact ⟨u, by simpa using hu, ru⟩
theorem RepL.append : ∀ {xs ys : List D} {vs us : List V}, RepL K F xs vs → RepL K F ys us → RepL K F (xs ++ ys) (vs ++ us)
  | [], _, _, _, h, g => by rw [show _ = [] from h]; exact g
  | x :: xs, _, _, _, ⟨v, r, h1, h2, h3⟩, g => by rw [h1]; exact ⟨v, r ++ _, rfl, h2, RepL.append h3 g⟩
theorem RepL.one {d : D} {v : V} (h : Rep K F d v) : RepL K F [d] [v] := ⟨v, [], rfl, h, rfl⟩
theorem RepL.take : ∀ {xs : List D} {vs : List V} (n : Nat), RepL K F xs vs → RepL K F (xs.take n) (vs.take n)
  | _, _, 0, _ => by simp only [List.take_zero]; rfl
  | [], _, n + 1, h => by rw [show _ = [] from h]; rfl
  | x :: xs, _, n + 1, ⟨v, r, h1, h2, h3⟩ => by rw [h1]; exact ⟨v, _, rfl, h2, RepL.take n h3⟩
theorem RepL.drop : ∀ {xs : List D} {vs : List V} (n : Nat), RepL K F xs vs → RepL K F (xs.drop n) (vs.drop n)
  | xs, vs, 0, h => h
  | [], _, n + 1, h => by rw [show _ = [] from h]; rfl
  | x :: xs, _, n + 1, ⟨v, r, h1, h2, h3⟩ => by rw [h1]; exact RepL.drop n h3
theorem RepL.set : ∀ {xs : List D} {vs : List V} {d : D} {v : V} (n : Nat), RepL K F xs vs → Rep K F d v → RepL K F (xs.set n d) (vs.set n v)
  | [], _, _, _, _, h, _ => by rw [show _ = [] from h]; rfl
  | x :: xs, _, _, w, 0, ⟨v, r, h1, h2, h3⟩, g => by rw [h1]; exact ⟨w, r, rfl, g, h3⟩
  | x :: xs, _, _, _, n + 1, ⟨v, r, h1, h2, h3⟩, g => by rw [h1]; exact ⟨v, _, rfl, h2, RepL.set n h3 g⟩
theorem RepL.reverse : ∀ {xs : List D} {vs : List V}, RepL K F xs vs → RepL K F xs.reverse vs.reverse
  | [], _, h => by rw [show _ = [] from h]; rfl
  | x :: xs, _, ⟨v, r, h1, h2, h3⟩ => by rw [h1, List.reverse_cons, List.reverse_cons]; exact RepL.append (RepL.reverse h3) (RepL.one h2)
theorem RepL.ints : ∀ {ns : List Int} {vs : List V}, RepL K F (ns.map D.int) vs → vs = ns.map V.int
  | [], _, h => h
  | n :: ns, _, ⟨v, r, h1, h2, h3⟩ => by rw [h1, show v = .int n from h2, RepL.ints h3]; rfl
theorem RepL.of_ints : ∀ {ns : List Int}, RepL K F (ns.map D.int) (ns.map V.int)
  | [] => rfl
  | n :: ns => ⟨_, _, rfl, rfl, RepL.of_ints⟩
end

/-! ### slots -/
inductive Slot where
  | un | val (d : D) | own (d : D)

/-- an owned object: its content -/
def OwnH (K : PySem.W.Frag) (F : Hp) : D → HO → Prop
  | .lst xs, ho => ∃ vs, ho = .lst vs ∧ RepL K F xs vs
  | .dic ks xs, ho => ∃ kvs : List (Key × V), ho = .dK kvs ∧ ks = kvs.map (·.1) ∧ RepL K F xs (kvs.map (·.2))
  | .dct ks xs, ho => ∃ kvs : List (List Key × V), ho = .dT kvs ∧ kvs.map (·.1) = ks.map (List.map Sum.inl) ∧ RepL K F xs (kvs.map (·.2))
  | .obj C ns xs, ho => ∃ dx fs, ho = .ins C dx fs ∧ fs.map (·.1) = ns ∧ RepL K F xs (fs.map (·.2))
  | _, _ => False
theorem OwnH.mono {K : PySem.W.Frag} {F F' : Hp} (e : Same F F') : ∀ {d : D} {ho : HO}, OwnH K F d ho → OwnH K F' d ho
  | .lst xs, _, ⟨vs, h1, h2⟩ => ⟨vs, h1, RepL.mono e _ _ h2⟩
  | .dic ks xs, _, ⟨kvs, h2, h3, h4⟩ => ⟨kvs, h2, h3, RepL.mono e xs _ h4⟩
  | .dct ks xs, _, ⟨kvs, h2, h3, h4⟩ => ⟨kvs, h2, h3, RepL.mono e xs _ h4⟩
  | .obj C ns xs, _, ⟨dx, fs, h1, h2, h3⟩ => ⟨dx, fs, h1, h2, RepL.mono e _ _ h3⟩
  | .non, _, h => h.elim
  | .bl _, _, h => h.elim
  | .int _, _, h => h.elim
  | .str _, _, h => h.elim
  | .raw _, _, h => h.elim
  | .scr _, _, h => h.elim
  | .tup _, _, h => h.elim
/-- there is an object, and no tuple -/
def Hard (H : Hp) (a : Addr) : Prop := ∃ o, H a = some o ∧ ∀ vs, o ≠ .tup vs
theorem Hard.ne {H : Hp} {a : Addr} (h : Hard H a) : H a ≠ none := by
  obtain ⟨o, h, _⟩ := h
  rw [h]; simp
theorem Hard.mono {H H' : Hp} {a : Addr} (e : Same H H') : Hard H a → Hard H' a := fun ⟨o, h1, h2⟩ => ⟨o, e _ _ h1, h2⟩
theorem OwnH.hard {K : PySem.W.Frag} {F H : Hp} {a : Addr} : ∀ {d : D} {ho : HO}, H a = some ho → OwnH K F d ho → Hard H a
  | .lst xs, _, e, ⟨vs, h1, h2⟩ => ⟨_, e, fun us z => by rw [h1] at z; cases z⟩
  | .dic ks xs, _, e, ⟨kvs, h2, h3, h4⟩ => ⟨_, e, fun us z => by rw [h2] at z; cases z⟩
  | .dct ks xs, _, e, ⟨kvs, h2, h3, h4⟩ => ⟨_, e, fun us z => by rw [h2] at z; cases z⟩
  | .obj C ns xs, _, e, ⟨dx, fs, h1, h2, h3⟩ => ⟨_, e, fun us z => by rw [h1] at z; cases z⟩
  | .non, _, _, h => h.elim
  | .bl _, _, _, h => h.elim
  | .int _, _, _, h => h.elim
  | .str _, _, _, h => h.elim
  | .raw _, _, _, h => h.elim
  | .scr _, _, _, h => h.elim
  | .tup _, _, _, h => h.elim
theorem OwnH.nt {K : PySem.W.Frag} {F : Hp} {d : D} {ho : HO} (h : OwnH K F d ho) (vs : List V) : ho ≠ .tup vs := by
  obtain ⟨o, e, n⟩ := OwnH.hard (H := upd (fun _ => none) (0 : Nat) ho) upd_same h
  rw [upd_same] at e
  cases e
  exact n vs
theorem same_upd {H : Hp} {p : Addr} {o : HO} (h : H p = none) : Same H (upd H p o) := fun b x e => by
  rw [upd_ne (ne_of_none e h)]
  exact e
theorem same_upd2 {F H : Hp} {p : Addr} {o : HO} (s : Same F H) (h : F p = none) : Same F (upd H p o) := fun b x e => by
  rw [upd_ne (ne_of_none e h)]
  exact s _ _ e
theorem same_upd3 {F H : Hp} {p : Addr} {o : HO} (s : Same F H) (h : H p = some o) : Same (upd F p o) H := fun b x e => by
  by_cases hb : b = p
  · subst hb; rw [upd_same] at e; cases e; exact h
  · rw [upd_ne hb] at e; exact s _ _ e
theorem same_updb {F H : Hp} {p : Addr} {o : HO} (s : Same F H) : Same (upd F p o) (upd H p o) := fun b x e => by
  by_cases hb : b = p
  · subst hb; rw [upd_same] at e ⊢; exact e
  · rw [upd_ne hb] at e ⊢; exact s _ _ e
/-- frozen: it is a datum -/
theorem OwnH.rep {K : PySem.W.Frag} {F : Hp} {a : Addr} (hn : F a = none) : ∀ {d : D} {ho : HO}, OwnH K F d ho → Rep K (upd F a ho) d (.ref a)
  | .lst xs, _, ⟨vs, h1, h2⟩ => ⟨a, vs, rfl, by rw [upd_same, h1], RepL.mono (same_upd hn) _ _ h2⟩
  | .dic ks xs, _, ⟨kvs, h2, h3, h4⟩ => ⟨a, rfl, kvs, by rw [upd_same, h2], h3, RepL.mono (same_upd hn) xs _ h4⟩
  | .dct ks xs, _, ⟨kvs, h2, h3, h4⟩ => ⟨a, rfl, kvs, by rw [upd_same, h2], h3, RepL.mono (same_upd hn) xs _ h4⟩
  | .obj C ns xs, _, ⟨dx, fs, h1, h2, h3⟩ => ⟨a, dx, fs, rfl, by rw [upd_same, h1], h2, RepL.mono (same_upd hn) _ _ h3⟩
  | .non, _, h => h.elim
  | .bl _, _, h => h.elim
  | .int _, _, h => h.elim
  | .str _, _, h => h.elim
  | .raw _, _, h => h.elim
  | .scr _, _, h => h.elim
  | .tup _, _, h => h.elim

def SlotR (K : PySem.W.Frag) (B F H : Hp) (o : Option V) : Slot → Prop
  | .un => True
  | .val d => ∃ v, o = some v ∧ Rep K F d v
  | .own d => ∃ a ho, o = some (.ref a) ∧ F a = none ∧ B a = none ∧ H a = some ho ∧ OwnH K F d ho

/-- what a body starts from: the heap that is to be kept, the address of the object in slot 0 that may be changed -/
structure Bx where
  B : Hp
  io : Option Addr
  F0 : Hp

structure ER (K : PySem.W.Frag) (bx : Bx) (F : Hp) (env : List Slot) (σ : L2.St) (H : Hp) : Prop where
  sb : Same bx.B H
  sf : Same F H
  len : env.length = σ.length
  slots : ∀ (i : Nat) (s : Slot), env[i]? = some s → ∃ o, σ[i]? = some o ∧ SlotR K bx.B F H o s
  sep : ∀ (i j : Nat) d e a, env[i]? = some (.own d) → env[j]? = some (.own e) → σ[i]? = some (some (.ref a)) → σ[j]? = some (some (.ref a)) → i = j
  io : ∀ a, bx.io = some a → σ[0]? = some (some (.ref a)) ∧ ∃ d, env[0]? = some (.own d)
  f0 : Same bx.F0 F
  fz : ∀ a, bx.F0 a = none → Hard bx.B a → F a = none

section
variable {K : PySem.W.Frag} {bx : Bx} {F F' H H' : Hp} {env : List Slot} {σ : L2.St}
theorem ER.bh (R : ER K bx F env σ H) {a : Addr} (h : Hard bx.B a) : Hard H a := h.mono R.sb
/-- the heap grows or a frozen part is added: nothing that is owned is touched -/
theorem ER.grow (R : ER K bx F env σ H) (e : Same F F') (sf : Same F' H') (sh : Same H H') (hn : ∀ a, F a = none → Hard H a → F' a = none) : ER K bx F' env σ H' where
  sb := fun b o z => sh _ _ (R.sb b o z)
  sf := sf
  len := R.len
  slots := fun i s z => by
    obtain ⟨o, h1, h2⟩ := R.slots i s z
    refine ⟨o, h1, ?_⟩
    cases s with
    | un => trivial
    | val d => obtain ⟨v, h3, h4⟩ := h2; exact ⟨v, h3, Rep.mono e _ _ h4⟩
    | own d => obtain ⟨a, ho, h3, h4, h5, h6, h7⟩ := h2; exact ⟨a, ho, h3, hn a h4 (OwnH.hard h6 h7), h5, sh _ _ h6, OwnH.mono e h7⟩
  sep := R.sep
  io := R.io
  f0 := R.f0.trans e
  fz := fun a h1 h2 => hn a (R.fz a h1 h2) (R.bh h2)
/-- a new object, frozen at once -/
theorem ER.laid {p : Addr} {o : HO} (R : ER K bx F env σ H) (hp : H p = none) : ER K bx (upd F p o) env σ (upd H p o) :=
  R.grow (same_upd (R.sf.free hp)) (same_updb R.sf) (same_upd hp) fun a h1 h2 => by
    rw [upd_ne (fun z => h2.ne (by rw [z]; exact hp))]; exact h1
/-- .. not frozen -/
theorem ER.laid0 {p : Addr} {o : HO} (R : ER K bx F env σ H) (hp : H p = none) : ER K bx F env σ (upd H p o) :=
  R.grow (Same.refl _) (same_upd2 R.sf (R.sf.free hp)) (same_upd hp) fun a h1 h2 => h1
end

/-! ### readings over pure data -/
abbrev XD := D → List Slot → Prop
abbrev RE := List Slot → (D → List Slot → Prop) → Prop
abbrev RB := List Slot → (Bool → List Slot → Prop) → Prop
abbrev RA := List Slot → (List D → List Slot → Prop) → Prop
structure PEnds where
  nx : List Slot → Prop
  rt : D → List Slot → Prop
  bk : List Slot → Prop := fun _ => False
  ct : List Slot → Prop := fun _ => False
abbrev RS := PEnds → List Slot → Prop
section
variable (K : PySem.W.Frag) (bx : Bx)
def up (t : RE) : TE := fun σ H Q' => ∃ env F Q, ER K bx F env σ H ∧ t env Q ∧
  ∀ d v env' F' H', Same F F' → ER K bx F' env' σ H' → Rep K F' d v → Q d env' → Q' v H'
/-- an object at a that is new and nobody's -/
structure Lone (bx : Bx) (F : Hp) (env : List Slot) (σ : L2.St) (H : Hp) (a : Addr) : Prop where
  f : F a = none
  b : bx.B a = none
  h : Hard H a
  o : ∀ (i : Nat) d, env[i]? = some (.own d) → σ[i]? ≠ some (some (.ref a))
def upN (t : RE) : TE := fun σ H Q' => ∃ env F Q, ER K bx F env σ H ∧ t env Q ∧
  ∀ d a ho env' F' H', Same F F' → ER K bx F' env' σ H' → Lone bx F' env' σ H' a → H' a = some ho → OwnH K F' d ho → Q d env' → Q' (.ref a) H'
def upT (t : RB) : TT := fun σ H Q' => ∃ env F Q, ER K bx F env σ H ∧ t env Q ∧
  ∀ b env' F' H', Same F F' → ER K bx F' env' σ H' → Q b env' → Q' b H'
def upA (t : RA) : TA := fun σ H Q' => ∃ env F Q, ER K bx F env σ H ∧ t env Q ∧
  ∀ ds vs env' F' H', Same F F' → ER K bx F' env' σ H' → RepL K F' ds vs → Q ds env' → Q' vs H'
def upS (t : RS) : TS := fun Dn σ H => ∃ env F en, ER K bx F env σ H ∧ t en env ∧
  (∀ env' F' σ' H', Same F F' → ER K bx F' env' σ' H' → en.nx env' → Dn.nx σ' H') ∧
  (∀ d v env' F' σ' H', Same F F' → ER K bx F' env' σ' H' → Rep K F' d v → en.rt d env' → Dn.rt v H') ∧
  (∀ env' F' σ' H', Same F F' → ER K bx F' env' σ' H' → en.bk env' → Dn.bk σ' H') ∧
  (∀ env' F' σ' H', Same F F' → ER K bx F' env' σ' H' → en.ct env' → Dn.ct σ' H')
end
abbrev QE (X : Cx) (bx : Bx) (e : Expr) (t : RE) : Prop := L2.PE X e (up X.K bx t)
abbrev QN (X : Cx) (bx : Bx) (e : Expr) (t : RE) : Prop := L2.PE X e (upN X.K bx t)
abbrev QT (X : Cx) (bx : Bx) (e : Expr) (t : RB) : Prop := L2.PT X e (upT X.K bx t)
abbrev QW (X : Cx) (bx : Bx) (e : Expr) (t : RB) : Prop := L2.PW X e (upT X.K bx t)
abbrev QA (X : Cx) (bx : Bx) (es : List Expr) (t : RA) : Prop := L2.PA X es (upA X.K bx t)
abbrev QS (X : Cx) (bx : Bx) (st : Stmt) (t : RS) : Prop := L2.PS X st (upS X.K bx t)
abbrev QSs (X : Cx) (bx : Bx) (st : List Stmt) (t : RS) : Prop := L2.PSs X st (upS X.K bx t)

section
variable {X : Cx} {bx : Bx} {e a b : Expr}
theorem pe_imp {t t' : TE} (h : L2.PE X e t) (i : ∀ σ H Q, t' σ H Q → t σ H Q) : L2.PE X e t' := ⟨fun pins s σ H Q I q => h.run pins s σ H Q I (i σ H Q q)⟩
theorem pt_imp {t t' : TT} (h : L2.PT X e t) (i : ∀ σ H Q, t' σ H Q → t σ H Q) : L2.PT X e t' := ⟨fun pins s σ H Q I q => h.run pins s σ H Q I (i σ H Q q)⟩
theorem pw_imp {t t' : TT} (h : L2.PW X e t) (i : ∀ σ H Q, t' σ H Q → t σ H Q) : L2.PW X e t' := ⟨fun wh pins s σ H Q I q => h.run wh pins s σ H Q I (i σ H Q q)⟩
theorem pa_imp {es : List Expr} {t t' : TA} (h : L2.PA X es t) (i : ∀ σ H Q, t' σ H Q → t σ H Q) : L2.PA X es t' := ⟨fun pos pins s σ H Q I q => h.run pos pins s σ H Q I (i σ H Q q)⟩
theorem ps_imp {st : Stmt} {t t' : TS} (h : L2.PS X st t) (i : ∀ D σ H, t' D σ H → t D σ H) : L2.PS X st t' := ⟨fun pins s σ H D I q => h.run pins s σ H D I (i D σ H q)⟩
theorem pss_imp {st : List Stmt} {t t' : TS} (h : L2.PSs X st t) (i : ∀ D σ H, t' D σ H → t D σ H) : L2.PSs X st t' := ⟨fun pins s σ H D I q => h.run pins s σ H D I (i D σ H q)⟩

/-! ### how the heap may grow -/
structure Grow (F H F' H' : Hp) : Prop where
  e : Same F F'
  sf : Same F' H'
  sh : Same H H'
  hn : ∀ a, F a = none → Hard H a → F' a = none
theorem Grow.refl {F H : Hp} (s : Same F H) : Grow F H F H := ⟨Same.refl _, s, Same.refl _, fun _ h _ => h⟩
theorem Grow.laid {F H : Hp} {p : Addr} {o : HO} (s : Same F H) (hp : H p = none) : Grow F H (upd F p o) (upd H p o) :=
  ⟨same_upd (s.free hp), same_updb s, same_upd hp, fun a h1 h2 => by rw [upd_ne (fun z => h2.ne (by rw [z]; exact hp))]; exact h1⟩
theorem Grow.laid0 {F H : Hp} {p : Addr} {o : HO} (s : Same F H) (hp : H p = none) : Grow F H F (upd H p o) :=
  ⟨Same.refl _, same_upd2 s (s.free hp), same_upd hp, fun a h1 h2 => h1⟩
theorem Grow.trans {F H F1 H1 F2 H2 : Hp} (a : Grow F H F1 H1) (b : Grow F1 H1 F2 H2) : Grow F H F2 H2 :=
  ⟨a.e.trans b.e, b.sf, a.sh.trans b.sh, fun x h1 h2 => b.hn x (a.hn x h1 h2) (h2.mono a.sh)⟩
theorem ER.to {K : PySem.W.Frag} {F H F' H' : Hp} {env : List Slot} {σ : L2.St} (R : ER K bx F env σ H) (g : Grow F H F' H') : ER K bx F' env σ H' := R.grow g.e g.sf g.sh g.hn
theorem ER.lone {K : PySem.W.Frag} {F H : Hp} {env : List Slot} {σ : L2.St} {p : Addr} {o : HO} (R : ER K bx F env σ H) (hp : H p = none) (ht : ∀ vs, o ≠ .tup vs := by intro us z; cases z) : Lone bx F env σ (upd H p o) p :=
  ⟨R.sf.free hp, R.sb.free hp, ⟨o, upd_same, ht⟩, fun i d h z => by
    obtain ⟨o, h1, a, ho, h2, h3, h4, h5, h6⟩ := R.slots i _ h
    rw [z] at h1; cases h1; cases h2
    rw [hp] at h5; cases h5⟩
/-- what is nobody's may be frozen -/
theorem ER.freeze {K : PySem.W.Frag} {F H : Hp} {env : List Slot} {σ : L2.St} {p : Addr} {o : HO} (R : ER K bx F env σ H) (l : Lone bx F env σ H p) (hp : H p = some o) : ER K bx (upd F p o) env σ H where
  sb := R.sb
  sf := same_upd3 R.sf hp
  len := R.len
  slots := fun i s z => by
    obtain ⟨q, h1, h2⟩ := R.slots i s z
    refine ⟨q, h1, ?_⟩
    cases s with
    | un => trivial
    | val d => obtain ⟨v, h3, h4⟩ := h2; exact ⟨v, h3, Rep.mono (same_upd l.f) _ _ h4⟩
    | own d =>
      obtain ⟨a, ho, h3, h4, h5, h6, h7⟩ := h2
      refine ⟨a, ho, h3, ?_, h5, h6, OwnH.mono (same_upd l.f) h7⟩
      rw [upd_ne (fun e => l.o i d z (by rw [h1, h3, e]))]
      exact h4
  sep := R.sep
  io := R.io
  f0 := R.f0.trans (same_upd l.f)
  fz := fun a h1 h2 => by
    rw [upd_ne (fun e => h2.ne (by rw [e]; exact l.b))]
    exact R.fz a h1 h2
/-- a new object as a datum -/
theorem QN.qe {t : RE} (h : QN X bx e t) : QE X bx e t := pe_imp h fun σ H Q' ⟨env, F, Q, R, ht, k⟩ => ⟨env, F, Q, R, ht, fun d a ho env' F' H' s R' l ha o q =>
  k d (.ref a) env' (upd F' a ho) H' (s.trans (same_upd l.f)) (R'.freeze l ha) (OwnH.rep l.f o) q⟩

/-! ### names and constants -/
def rVar (i : Nat) : RE := fun env Q => match env[i]? with
  | some (.val d) => Q d env
  | _ => False
theorem q_var {i : Nat} (h : L2.PE X e (tVar i)) : QE X bx e (rVar i) := pe_imp h fun σ H Q' ⟨env, F, Q, R, ht, k⟩ => by
  unfold rVar at ht
  split at ht
  · rename_i d hd
    obtain ⟨o, h1, v, h2, h3⟩ := R.slots i _ hd
    exact ⟨v, by rw [h1, h2], k d v env F H (Same.refl _) R h3 ht⟩
  · exact ht.elim
end
end QL
set_option Elab.async false
set_option linter.all false
set_option maxRecDepth 100000
namespace QL
open PySem PySem.Spec PyProof.Rows L2
/-! ### operators by values -/
def Gr (K : PySem.W.Frag) (F H : Hp) (Q : D → Prop) (Q' : VK) : Prop := ∀ z u F' H', Grow F H F' H' → Rep K F' z u → Q z → Q' u H'
def GrN (K : PySem.W.Frag) (F H : Hp) (Q : D → Prop) (Q' : VK) : Prop := ∀ d ho p, H p = none → OwnH K F d ho → Q d → Q' (.ref p) (upd H p ho)
theorem Gr.flat {K : PySem.W.Frag} {F H : Hp} {Q : D → Prop} {Q' : VK} (g : Gr K F H Q Q') (s : Same F H) {z : D} {u : V} (r : Rep K F z u) (q : Q z) : Q' u H := g z u F H (Grow.refl s) r q
theorem Gr.toN {K : PySem.W.Frag} {F H : Hp} {Q : D → Prop} {Q' : VK} (g : Gr K F H Q Q') (s : Same F H) : GrN K F H Q Q' := fun d ho p hp o q =>
  g d (.ref p) (upd F p ho) (upd H p ho) (Grow.laid s hp) (OwnH.rep (s.free hp) o) q
/-- a new tuple -/
theorem Gr.tup {K : PySem.W.Frag} {F H : Hp} {Q : D → Prop} {Q' : VK} (g : Gr K F H Q Q') (s : Same F H) {xs : List D} {vs : List V} (r : RepL K F xs vs) (q : Q (.tup xs)) {p : Addr} (hp : H p = none) : Q' (.ref p) (upd H p (.tup vs)) :=
  g (.tup xs) (.ref p) _ _ (Grow.laid s hp) ⟨p, vs, rfl, upd_same, RepL.mono (same_upd (s.free hp)) _ _ r⟩ q
theorem Gr.i {K : PySem.W.Frag} {F H : Hp} {Q : D → Prop} {Q' : VK} (g : Gr K F H Q Q') (s : Same F H) {i : Int} (q : Q (.int i)) : Q' (.int i) H := g.flat s (z := .int i) rfl q
theorem Gr.b {K : PySem.W.Frag} {F H : Hp} {Q : D → Prop} {Q' : VK} (g : Gr K F H Q Q') (s : Same F H) {i : Bool} (q : Q (.bl i)) : Q' (.bl i) H := g.flat s (z := .bl i) rfl q
theorem Gr.n {K : PySem.W.Frag} {F H : Hp} {Q : D → Prop} {Q' : VK} (g : Gr K F H Q Q') (s : Same F H) (q : Q .non) : Q' .non H := g.flat s (z := .non) rfl q
theorem Gr.s {K : PySem.W.Frag} {F H : Hp} {Q : D → Prop} {Q' : VK} (g : Gr K F H Q Q') (s : Same F H) {i : Str} (q : Q (.str i)) : Q' (.str i) H := g.flat s (z := .str i) rfl q
theorem GrN.lst {K : PySem.W.Frag} {F H : Hp} {Q : D → Prop} {Q' : VK} (g : GrN K F H Q Q') {xs : List D} {vs : List V} (r : RepL K F xs vs) (q : Q (.lst xs)) {p : Addr} (hp : H p = none) : Q' (.ref p) (upd H p (.lst vs)) :=
  g (.lst xs) (.lst vs) p hp ⟨vs, rfl, r⟩ q
theorem Gr.lst {K : PySem.W.Frag} {F H : Hp} {Q : D → Prop} {Q' : VK} (g : Gr K F H Q Q') (s : Same F H) {xs : List D} {vs : List V} (r : RepL K F xs vs) (q : Q (.lst xs)) {p : Addr} (hp : H p = none) : Q' (.ref p) (upd H p (.lst vs)) := (g.toN s).lst r q hp
abbrev V1 := D → (D → Prop) → Prop
abbrev V2 := D → D → (D → Prop) → Prop
abbrev VL := List D → (D → Prop) → Prop
def upV1 (K : PySem.W.Frag) (r : V1) : V → Hp → VK → Prop := fun v H Q' => ∃ F d Q, Same F H ∧ Rep K F d v ∧ r d Q ∧ Gr K F H Q Q'
def upV2 (K : PySem.W.Frag) (r : V2) : R2 := fun v w H Q' => ∃ F d e Q, Same F H ∧ Rep K F d v ∧ Rep K F e w ∧ r d e Q ∧ Gr K F H Q Q'
def upN2 (K : PySem.W.Frag) (r : V2) : R2 := fun v w H Q' => ∃ F d e Q, Same F H ∧ Rep K F d v ∧ Rep K F e w ∧ r d e Q ∧ GrN K F H Q Q'
def upVL (K : PySem.W.Frag) (r : VL) : List V → Hp → VK → Prop := fun vs H Q' => ∃ F ds Q, Same F H ∧ RepL K F ds vs ∧ r ds Q ∧ Gr K F H Q Q'
def upNL (K : PySem.W.Frag) (r : VL) : List V → Hp → VK → Prop := fun vs H Q' => ∃ F ds Q, Same F H ∧ RepL K F ds vs ∧ r ds Q ∧ GrN K F H Q Q'
section
variable {X : Cx} {bx : Bx} {e a b : Expr} {ta tb : RE} {pos : Pos}

theorem OpR.imp {f : Value → Value → Sem Value} {r r' : R2} (h : OpR X f r) (i : ∀ x y H Q, r' x y H Q → r x y H Q) : OpR X f r' := fun pins s σ H x y v u Q I rx ry q => h pins s σ H x y v u Q I rx ry (i _ _ _ _ q)
theorem CallR.imp {f : Value} {r r' : List V → Hp → VK → Prop} (h : CallR X f r) (i : ∀ x H Q, r' x H Q → r x H Q) : CallR X f r' := fun pins s σ H x us Q I r0 q => h pins s σ H x us Q I r0 (i _ _ _ q)
/-! readings -/
def rC (d : D) : RE := fun env Q => Q d env
def rOp (r : V2) (ta tb : RE) : RE := fun env Q => ta env fun d env1 => tb env1 fun e env2 => r d e fun z => Q z env2
def rUn (r : V1) (ta : RE) : RE := fun env Q => ta env fun d env1 => r d fun z => Q z env1
theorem q_con {d : D} {v : V} (h : L2.PE X e (tC v)) (r : ∀ K F, Rep K F d v) : QE X bx e (rC d) := pe_imp h fun σ H Q' ⟨env, F, Q, R, ht, k⟩ => k d v env F H (Same.refl _) R (r _ _) ht
theorem q_int {i j pos} : QE X bx (.Constant (.int i) j pos) (rC (.int i)) := q_con pe_int fun _ _ => rfl
theorem q_bl {i j pos} : QE X bx (.Constant (.bool i) j pos) (rC (.bl i)) := q_con pe_bl fun _ _ => rfl
theorem q_non {j pos} : QE X bx (.Constant .none j pos) (rC .non) := q_con pe_non fun _ _ => rfl
theorem q_str {i j pos} : QE X bx (.Constant (.str i) j pos) (rC (.str i)) := q_con pe_str fun _ _ => rfl
theorem op_up {r : V2} {ta tb : RE} {σ : L2.St} {H : Hp} {Q' : VK} : up X.K bx (rOp r ta tb) σ H Q' → tOp (upV2 X.K r) (up X.K bx ta) (up X.K bx tb) σ H Q' := fun ⟨env, F, Q, R, ht, k⟩ =>
  ⟨env, F, _, R, ht, fun d v env1 F1 H1 s1 R1 r1 q1 => ⟨env1, F1, _, R1, q1, fun d2 w env2 F2 H2 s2 R2 r2 q2 => ⟨F2, d, d2, _, R2.sf, Rep.mono s2 _ _ r1, r2, q2, fun z u F3 H3 g r3 q3 =>
    k z u env2 F3 H3 ((s1.trans s2).trans g.e) (R2.to g) r3 q3⟩⟩⟩
theorem q_op {op : Operator} {r : V2} (ho : OpR X (binaryOp op) (upV2 X.K r)) (ha : QE X bx a ta) (hb : QE X bx b tb) : QE X bx (.BinOp a op b pos) (rOp r ta tb) := pe_imp (pe_op ho ha hb) fun _ _ _ => op_up
theorem q_cmp {op : CmpOp} {r : V2} (ho : OpR X (compareOp op) (upV2 X.K r)) (ha : QE X bx a ta) (hb : QE X bx b tb) (hm : behindInMarks op b = false := by first | exact nomark _ | rfl) : QE X bx (.Compare a [op] [b] pos) (rOp r ta tb) :=
  pe_imp (pe_cmpR ho ha hb hm) fun _ _ _ => op_up
/-- a comparison whose answer is a bool, as a test -/
def rTst (t : RE) : RB := fun env Q => t env fun d env1 => match d with | .bl k => Q k env1 | _ => False
theorem tst_up {t : RE} {σ : L2.St} {H : Hp} {Q' : Bool → Hp → Prop} : upT X.K bx (rTst t) σ H Q' → up X.K bx t σ H fun x H' => ∃ k, x = .bl k ∧ Q' k H' := fun ⟨env, F, Q, R, ht, k⟩ =>
  ⟨env, F, _, R, ht, fun d v env1 F1 H1 s1 R1 r1 q1 => by
    cases d with
    | bl c => exact ⟨c, r1, k c env1 F1 H1 s1 R1 q1⟩
    | _ => exact q1.elim⟩
theorem qt_cmp {op : CmpOp} {r : V2} (ho : OpR X (compareOp op) (upV2 X.K r)) (ha : QE X bx a ta) (hb : QE X bx b tb) (hm : behindInMarks op b = false := by first | exact nomark _ | rfl) : QT X bx (.Compare a [op] [b] pos) (rTst (rOp r ta tb)) :=
  pt_imp (pt_cmpR ho ha hb hm) fun σ H Q' h => op_up (tst_up h)

/-! ### truth -/
def truD : D → Option Bool
  | .non => some false
  | .bl b => some b
  | .int i => some (i != 0)
  | .tup xs => some (!xs.isEmpty)
  | .lst xs => some (!xs.isEmpty)
  | .scr ns => some (!ns.isEmpty)
  | _ => none
theorem RepL.isEmpty {K : PySem.W.Frag} {F : Hp} : ∀ {xs : List D} {vs : List V}, RepL K F xs vs → xs.isEmpty = vs.isEmpty
  | [], _, h => by rw [show _ = [] from h]; rfl
  | _ :: _, _, ⟨v, r, h1, _, _⟩ => by rw [h1]; rfl
theorem tru_of {K : PySem.W.Frag} {F H : Hp} (s : Same F H) : ∀ {d : D} {v : V} {k : Bool}, Rep K F d v → truD d = some k → TruV K v H k
  | .non, _, _, r, e => by rw [show _ = V.non from r]; exact (Option.some.inj e).symm
  | .bl b, _, _, r, e => by rw [show _ = V.bl b from r]; exact (Option.some.inj e).symm
  | .int b, _, _, r, e => by rw [show _ = V.int b from r]; exact (Option.some.inj e).symm
  | .tup xs, _, _, ⟨a, vs, h1, h2, h3⟩, e => by rw [h1]; exact .inr (.inl ⟨vs, sqt_of s h2, by rw [← RepL.isEmpty h3]; exact (Option.some.inj e).symm⟩)
  | .lst xs, _, _, ⟨a, vs, h1, h2, h3⟩, e => by rw [h1]; exact .inl ⟨vs, .inl (.inl (s _ _ h2)), by rw [← RepL.isEmpty h3]; exact (Option.some.inj e).symm⟩
  | .scr xs, _, _, ⟨a, h1, h2⟩, e => by rw [h1]; exact .inl ⟨_, s.seq h2, by rw [List.isEmpty_map]; exact (Option.some.inj e).symm⟩
  | .str _, _, _, _, e => nomatch e
  | .raw _, _, _, _, e => nomatch e
  | .dic _ _, _, _, _, e => nomatch e
  | .dct _ _, _, _, _, e => nomatch e
  | .obj _ _ _, _, _, _, e => nomatch e
def rTru (t : RE) : RB := fun env Q => t env fun d env1 => match truD d with | some k => Q k env1 | none => False
theorem qt_tru (ha : QE X bx a ta) (he : ∀ whole, isTrue a X.env whole = (do let v ← whole; standAt a.pos; holding [v] (truthy v)) := by intro _; rfl) : QT X bx a (rTru ta) :=
  pt_imp (pt_truth ha he) fun σ H Q' ⟨env, F, Q, R, ht, k⟩ => ⟨env, F, _, R, ht, fun d v env1 F1 H1 s1 R1 r1 q1 => by
    split at q1
    · rename_i c hc
      exact ⟨c, tru_of R1.sf r1 hc, k c env1 F1 H1 s1 R1 q1⟩
    · exact q1.elim⟩
def rNotT (t : RB) : RB := fun env Q => t env fun b env1 => Q (!b) env1
theorem qt_not {t : RB} (h : QT X bx a t) : QT X bx (.UnaryOp .Not a pos) (rNotT t) := pt_imp (pt_not h) fun σ H Q' ⟨env, F, Q, R, ht, k⟩ => ⟨env, F, _, R, ht, fun b env1 F1 H1 s1 R1 q1 => k (!b) env1 F1 H1 s1 R1 q1⟩
def rAndT (t u : RB) : RB := fun env Q => t env fun b env1 => if b = true then u env1 Q else Q false env1
def rOrT (t u : RB) : RB := fun env Q => t env fun b env1 => if b = true then Q true env1 else u env1 Q
theorem qw_and1 {t : RB} (h : QT X bx a t) : QW X bx (.BoolOp .And [a] pos) t := pw_and1 h
theorem qw_or1 {t : RB} (h : QT X bx a t) : QW X bx (.BoolOp .Or [a] pos) t := pw_or1 h
theorem qw_and {t u : RB} {rest : List Expr} (h : QT X bx a t) (g : QW X bx (.BoolOp .And (b :: rest) pos) u) : QW X bx (.BoolOp .And (a :: b :: rest) pos) (rAndT t u) := pw_imp (pw_and h g) fun σ H Q' ⟨env, F, Q, R, ht, k⟩ => ⟨env, F, _, R, ht, fun c env1 F1 H1 s1 R1 q1 => by
    cases c with
    | true => rw [if_pos rfl] at q1 ⊢; exact ⟨env1, F1, Q, R1, q1, fun c2 env2 F2 H2 s2 R2 q2 => k c2 env2 F2 H2 (s1.trans s2) R2 q2⟩
    | false => rw [if_neg Bool.false_ne_true] at q1 ⊢; exact k false env1 F1 H1 s1 R1 q1⟩
theorem qw_or {t u : RB} {rest : List Expr} (h : QT X bx a t) (g : QW X bx (.BoolOp .Or (b :: rest) pos) u) : QW X bx (.BoolOp .Or (a :: b :: rest) pos) (rOrT t u) := pw_imp (pw_or h g) fun σ H Q' ⟨env, F, Q, R, ht, k⟩ => ⟨env, F, _, R, ht, fun c env1 F1 H1 s1 R1 q1 => by
    cases c with
    | false => rw [if_neg Bool.false_ne_true] at q1 ⊢; exact ⟨env1, F1, Q, R1, q1, fun c2 env2 F2 H2 s2 R2 q2 => k c2 env2 F2 H2 (s1.trans s2) R2 q2⟩
    | true => rw [if_pos rfl] at q1 ⊢; exact k true env1 F1 H1 s1 R1 q1⟩
theorem qt_w {t : RB} (h : QW X bx a t) : QT X bx a t := h.pt
/-- and, or, not, as values -/
def rAnd (t u : RE) : RE := fun env Q => t env fun d env1 => match truD d with | some k => (if k = true then u env1 Q else Q d env1) | none => False
def rOr (t u : RE) : RE := fun env Q => t env fun d env1 => match truD d with | some k => (if k = true then Q d env1 else u env1 Q) | none => False
def rNot (t : RE) : RE := fun env Q => t env fun d env1 => match truD d with | some k => Q (.bl (!k)) env1 | none => False
theorem q_one {op} {t : RE} (h : QE X bx a t) : QE X bx (.BoolOp op [a] pos) t := pe_one h
theorem q_and {t u : RE} {rest : List Expr} (h : QE X bx a t) (g : QE X bx (.BoolOp .And (b :: rest) pos) u) : QE X bx (.BoolOp .And (a :: b :: rest) pos) (rAnd t u) := pe_imp (pe_andT h g) fun σ H Q' ⟨env, F, Q, R, ht, k⟩ => ⟨env, F, _, R, ht, fun d v env1 F1 H1 s1 R1 r1 q1 => by
    split at q1
    · rename_i c hc
      refine ⟨c, tru_of R1.sf r1 hc, ?_⟩
      cases c with
      | true => rw [if_pos rfl] at q1 ⊢; exact ⟨env1, F1, Q, R1, q1, fun d2 v2 env2 F2 H2 s2 R2 r2 q2 => k d2 v2 env2 F2 H2 (s1.trans s2) R2 r2 q2⟩
      | false => rw [if_neg Bool.false_ne_true] at q1 ⊢; exact k d v env1 F1 H1 s1 R1 r1 q1
    · exact q1.elim⟩
theorem q_not {t : RE} (h : QE X bx a t) : QE X bx (.UnaryOp .Not a pos) (rNot t) := pe_imp (pe_notT h) fun σ H Q' ⟨env, F, Q, R, ht, k⟩ => ⟨env, F, _, R, ht, fun d v env1 F1 H1 s1 R1 r1 q1 => by
    split at q1
    · rename_i c hc
      exact ⟨c, tru_of R1.sf r1 hc, k (.bl (!c)) (.bl (!c)) env1 F1 H1 s1 R1 rfl q1⟩
    · exact q1.elim⟩
def rIf (c : RB) (t u : RE) : RE := fun env Q => c env fun b env1 => if b = true then t env1 Q else u env1 Q
theorem q_if {c : RB} {t u : RE} {ec : Expr} (hc : QT X bx ec c) (h : QE X bx a t) (g : QE X bx b u) : QE X bx (.IfExp ec a b pos) (rIf c t u) := pe_imp (pe_ifExp hc h g) fun σ H Q' ⟨env, F, Q, R, ht, k⟩ => ⟨env, F, _, R, ht, fun c env1 F1 H1 s1 R1 q1 => by
    cases c with
    | true => rw [if_pos rfl] at q1 ⊢; exact ⟨env1, F1, Q, R1, q1, fun d2 v2 env2 F2 H2 s2 R2 r2 q2 => k d2 v2 env2 F2 H2 (s1.trans s2) R2 r2 q2⟩
    | false => rw [if_neg Bool.false_ne_true] at q1 ⊢; exact ⟨env1, F1, Q, R1, q1, fun d2 v2 env2 F2 H2 s2 R2 r2 q2 => k d2 v2 env2 F2 H2 (s1.trans s2) R2 r2 q2⟩⟩
/-- a < b < c -/
def rChain (r r' : V2) (ta tb tc : RE) : RE := fun env Q => ta env fun d env1 => tb env1 fun e env2 => r d e fun z => match z with | .bl k => (if k = true then tc env2 fun w env3 => r' e w fun z => Q z env3 else Q (.bl false) env2) | _ => False
end
end QL
set_option Elab.async false
set_option linter.all false
set_option maxRecDepth 100000
namespace QL
open PySem PySem.Spec PyProof.Rows L2
/-! ### the operators -/
def MOk (i j : Int) : Prop := CMulW i j ∨ CMul i j
def DOk (j : Int) : Prop := 0 < j ∧ j.natAbs.log2 < 9000
def vAdd : V2
  | .int i, .int j, Q => Q (.int (i + j))
  | .lst xs, .lst ys, Q => xs.length + ys.length ≤ sizeLine ∧ Q (.lst (xs ++ ys))
  | .tup xs, .tup ys, Q => (xs ≠ [] ∧ xs.length + ys.length ≤ sizeLine) ∧ Q (.tup (xs ++ ys))
  | .str x, .str y, Q => x.length + y.length ≤ sizeLine ∧ Q (.str (x ++ y))
  | _, _, _ => False
def vAddL : V2
  | .lst xs, .lst ys, Q => xs.length + ys.length ≤ sizeLine ∧ Q (.lst (xs ++ ys))
  | _, _, _ => False
def vSub : V2
  | .int i, .int j, Q => Q (.int (i - j))
  | _, _, _ => False
def vMul : V2
  | .int i, .int j, Q => MOk i j ∧ Q (.int (i * j))
  | .lst xs, .int k, Q => (-(2 ^ 63) ≤ k ∧ k < 2 ^ 63 ∧ xs.length * k.toNat ≤ sizeLine) ∧ Q (.lst (List.replicate k.toNat xs).flatten)
  | _, _, _ => False
def vDiv : V2
  | .int i, .int j, Q => DOk j ∧ Q (.int (i / j))
  | _, _, _ => False
def vMod : V2
  | .int i, .int j, Q => 0 < j ∧ Q (.int (i % j))
  | _, _, _ => False
def vPow : V2
  | .int i, .int j, Q => (0 ≤ j ∧ j ≤ 1000000 ∧ i.natAbs < 2 ^ 64) ∧ Q (.int (i ^ j.toNat))
  | _, _, _ => False
def vShl : V2
  | .int i, .int j, Q => (0 ≤ j ∧ j ≤ 1000000 ∧ i.natAbs < 2 ^ 64) ∧ Q (.int (i * 2 ^ j.toNat))
  | _, _, _ => False
def vShr : V2
  | .int i, .int j, Q => 0 ≤ j ∧ Q (.int (i / 2 ^ j.toNat))
  | _, _, _ => False
def vNeg : V1
  | .int i, Q => Q (.int (-i))
  | _, _ => False
def vLt : V2
  | .int i, .int j, Q => Q (.bl (decide (i < j)))
  | _, _, _ => False
def vLe : V2
  | .int i, .int j, Q => Q (.bl (decide (i ≤ j)))
  | _, _, _ => False
def vGt : V2
  | .int i, .int j, Q => Q (.bl (decide (j < i)))
  | _, _, _ => False
def vGe : V2
  | .int i, .int j, Q => Q (.bl (decide (j ≤ i)))
  | _, _, _ => False
def isNon : D → Bool
  | .non => true
  | _ => false
/-- is None: of data -/
def vIsN : V2
  | .raw _, _, _ => False
  | d, .non, Q => Q (.bl (isNon d))
  | _, _, _ => False
def vNotN : V2
  | .raw _, _, _ => False
  | d, .non, Q => Q (.bl (!isNon d))
  | _, _, _ => False
mutual
def toP : D → PyData
  | .non => .none
  | .bl b => .bool b
  | .int i => .int i
  | .str x => .str x
  | .scr ns => .list (ns.map PyData.int)
  | .tup xs => .tuple (toPs xs)
  | .lst xs => .list (toPs xs)
  | _ => .none
def toPs : List D → List PyData
  | [] => []
  | x :: xs => toP x :: toPs xs
end
mutual
def okP : D → Bool
  | .non => true
  | .bl _ => true
  | .int _ => true
  | .str _ => true
  | .scr _ => true
  | .tup xs => okPs xs
  | .lst xs => okPs xs
  | _ => false
def okPs : List D → Bool
  | [] => true
  | x :: xs => okP x && okPs xs
end
def vEqP (d e : D) (Q : Bool → Prop) : Prop := okP d = true ∧ okP e = true ∧ SeqAt.shaped (toP d) = true ∧ SeqAt.shaped (toP e) = true ∧ Q (PyData.eqv (toP d) (toP e))
def vEq : V2
  | .int i, .int j, Q => Q (.bl (decide (i = j)))
  | .str i, .str j, Q => Q (.bl (decide (i = j)))
  | .bl i, .bl j, Q => Q (.bl (decide (i = j)))
  | d, e, Q => vEqP d e fun b => Q (.bl b)
def vNe : V2
  | .int i, .int j, Q => Q (.bl (!decide (i = j)))
  | .str i, .str j, Q => Q (.bl (!decide (i = j)))
  | .bl i, .bl j, Q => Q (.bl (!decide (i = j)))
  | d, e, Q => vEqP d e fun b => Q (.bl (!b))
section
variable {X : Cx}
section
variable {K : PySem.W.Frag} {F H : Hp} {d e : D} {x y : V} {Q : D → Prop} {Q' : VK}
theorem dp_ints {K : PySem.W.Frag} {H : Hp} : ∀ ns : List Int, DpAll K H (ns.map V.int) (ns.map PyData.int)
  | [] => .nil
  | n :: r => .cons (.int n) (dp_ints r)
mutual
theorem dp_of (s : Same F H) : ∀ (d : D) (v : V), okP d = true → Rep K F d v → Dp K H v (toP d)
  | .non, _, _, r => by rw [show _ = V.non from r]; exact .non
  | .bl b, _, _, r => by rw [show _ = V.bl b from r]; exact .bl b
  | .int b, _, _, r => by rw [show _ = V.int b from r]; exact .int b
  | .str b, _, _, r => by rw [show _ = V.str b from r]; exact .str b
  | .scr ns, _, _, ⟨a, h1, h2⟩ => by rw [h1]; exact .lst (s.seq h2) (dp_ints ns)
  | .tup xs, _, h, ⟨a, vs, h1, h2, h3⟩ => by rw [h1]; exact .tup (sqt_of s h2) (dps_of s xs vs h h3)
  | .lst xs, _, h, ⟨a, vs, h1, h2, h3⟩ => by rw [h1]; exact .lst (.inl (.inl (s _ _ h2))) (dps_of s xs vs h h3)
  | .raw _, _, h, _ => nomatch h
  | .dic _ _, _, h, _ => nomatch h
  | .dct _ _, _, h, _ => nomatch h
  | .obj _ _ _, _, h, _ => nomatch h
theorem dps_of (s : Same F H) : ∀ (xs : List D) (vs : List V), okPs xs = true → RepL K F xs vs → DpAll K H vs (toPs xs)
  | [], _, _, h => by rw [show _ = [] from h]; exact .nil
  | x :: xs, _, h, ⟨v, r, h1, h2, h3⟩ => by
    rw [h1]
    have h' : okP x = true ∧ okPs xs = true := Bool.and_eq_true_iff.mp h
    exact .cons (dp_of s x v h'.1 h2) (dps_of s xs r h'.2 h3)
end
end
theorem qo_add : OpR X (binaryOp .Add) (upV2 X.K vAdd) := by
  intro pins s σ H x y v u Q' I rx ry ⟨F, d, e, Q, sm, r1, r2, h, g⟩
  unfold vAdd at h
  split at h
  · cases r1; cases r2
    exact op_add pins s σ H _ _ v u Q' I rx ry ⟨_, _, rfl, rfl, g.i sm h⟩
  · obtain ⟨a, vs, rfl, h2, h3⟩ := r1
    obtain ⟨b, ws, rfl, k2, k3⟩ := r2
    refine op_cat pins s σ H _ _ v u Q' I rx ry ⟨a, b, vs, ws, rfl, rfl, sm _ _ h2, sm _ _ k2, by rw [← h3.length, ← k3.length]; exact h.1, fun p hp => ?_⟩
    exact g.lst sm (RepL.append h3 k3) h.2 hp
  · obtain ⟨a, vs, rfl, h2, h3⟩ := r1
    obtain ⟨b, ws, rfl, k2, k3⟩ := r2
    refine op_catT pins s σ H _ _ v u Q' I rx ry ⟨a, b, vs, ws, rfl, rfl, sqt_of sm h2, sqt_of sm k2, fun z => ?_, by rw [← h3.length, ← k3.length]; exact h.1.2, fun z => ?_, fun _ p hp => ?_⟩
    · exact h.1.1 (by have e := h3.length; rw [z] at e; exact List.length_eq_zero_iff.mp e)
    · have e := k3.length
      rw [z] at e
      have e' := List.length_eq_zero_iff.mp e
      rw [e', List.append_nil] at h
      exact g.flat sm (z := .tup _) ⟨a, vs, rfl, h2, h3⟩ h.2
    · exact g.tup sm (RepL.append h3 k3) h.2 hp
  · cases r1; cases r2
    exact op_add_str pins s σ H _ _ v u Q' I rx ry ⟨_, _, rfl, rfl, h.1, g.s sm h.2⟩
  · exact h.elim
theorem qo_sub : OpR X (binaryOp .Sub) (upV2 X.K vSub) := by
  intro pins s σ H x y v u Q' I rx ry ⟨F, d, e, Q, sm, r1, r2, h, g⟩
  unfold vSub at h
  split at h
  · cases r1; cases r2
    exact op_sub pins s σ H _ _ v u Q' I rx ry ⟨_, _, rfl, rfl, g.i sm h⟩
  · exact h.elim
theorem rep_flat {K : PySem.W.Frag} {F : Hp} {xs : List D} {vs : List V} (r : RepL K F xs vs) : ∀ n : Nat, RepL K F (List.replicate n xs).flatten (List.replicate n vs).flatten
  | 0 => rfl
  | n + 1 => by
    rw [List.replicate_succ, List.replicate_succ, List.flatten_cons, List.flatten_cons]
    exact RepL.append r (rep_flat r n)
theorem qo_mul : OpR X (binaryOp .Mult) (upV2 X.K vMul) := by
  intro pins s σ H x y v u Q' I rx ry ⟨F, d, e, Q, sm, r1, r2, h, g⟩
  unfold vMul at h
  split at h
  · cases r1; cases r2
    rcases h.1 with c | c
    · exact op_mulW pins s σ H _ _ v u Q' I rx ry ⟨_, _, rfl, rfl, c, g.i sm h.2⟩
    · exact op_mul pins s σ H _ _ v u Q' I rx ry ⟨_, _, rfl, rfl, c, g.i sm h.2⟩
  · cases r2
    obtain ⟨a, vs, rfl, h2, h3⟩ := r1
    refine op_rep pins s σ H _ _ v u Q' I rx ry ⟨a, _, vs, rfl, rfl, sm _ _ h2, h.1.1, h.1.2.1, by rw [← h3.length]; exact h.1.2.2, fun p hp => ?_⟩
    exact g.lst sm (rep_flat h3 _) h.2 hp
  · exact h.elim
theorem qo_div : OpR X (binaryOp .FloorDiv) (upV2 X.K vDiv) := by
  intro pins s σ H x y v u Q' I rx ry ⟨F, d, e, Q, sm, r1, r2, h, g⟩
  unfold vDiv at h
  split at h
  · cases r1; cases r2
    exact op_fdivW pins s σ H _ _ v u Q' I rx ry ⟨_, _, rfl, rfl, h.1, g.i sm h.2⟩
  · exact h.elim
theorem qo_mod : OpR X (binaryOp .Mod) (upV2 X.K vMod) := by
  intro pins s σ H x y v u Q' I rx ry ⟨F, d, e, Q, sm, r1, r2, h, g⟩
  unfold vMod at h
  split at h
  · cases r1; cases r2
    exact op_mod pins s σ H _ _ v u Q' I rx ry ⟨_, _, rfl, rfl, h.1, g.i sm h.2⟩
  · exact h.elim
theorem qo_pow : OpR X (binaryOp .Pow) (upV2 X.K vPow) := by
  intro pins s σ H x y v u Q' I rx ry ⟨F, d, e, Q, sm, r1, r2, h, g⟩
  unfold vPow at h
  split at h
  · cases r1; cases r2
    exact op_pow pins s σ H _ _ v u Q' I rx ry ⟨_, _, rfl, rfl, h.1, g.i sm h.2⟩
  · exact h.elim
theorem qo_lt : OpR X (compareOp .Lt) (upV2 X.K vLt) := by
  intro pins s σ H x y v u Q' I rx ry ⟨F, d, e, Q, sm, r1, r2, h, g⟩
  unfold vLt at h
  split at h
  · cases r1; cases r2
    exact op_lt pins s σ H _ _ v u Q' I rx ry ⟨_, _, rfl, rfl, g.b sm h⟩
  · exact h.elim
theorem qo_le : OpR X (compareOp .LtE) (upV2 X.K vLe) := by
  intro pins s σ H x y v u Q' I rx ry ⟨F, d, e, Q, sm, r1, r2, h, g⟩
  unfold vLe at h
  split at h
  · cases r1; cases r2
    exact op_le pins s σ H _ _ v u Q' I rx ry ⟨_, _, rfl, rfl, g.b sm h⟩
  · exact h.elim
theorem qo_gt : OpR X (compareOp .Gt) (upV2 X.K vGt) := by
  intro pins s σ H x y v u Q' I rx ry ⟨F, d, e, Q, sm, r1, r2, h, g⟩
  unfold vGt at h
  split at h
  · cases r1; cases r2
    exact op_gt pins s σ H _ _ v u Q' I rx ry ⟨_, _, rfl, rfl, g.b sm h⟩
  · exact h.elim
theorem isNon_rep {K : PySem.W.Frag} {F : Hp} : ∀ {d : D} {v : V}, (∀ u, d ≠ .raw u) → Rep K F d v → decide (v = V.non) = isNon d
  | .non, _, _, r => by rw [show _ = V.non from r]; rfl
  | .bl b, _, _, r => by rw [show _ = V.bl b from r]; rfl
  | .int b, _, _, r => by rw [show _ = V.int b from r]; rfl
  | .str b, _, _, r => by rw [show _ = V.str b from r]; rfl
  | .raw u, _, n, _ => absurd rfl (n u)
  | .scr ns, _, _, ⟨a, h1, _⟩ => by rw [h1]; rfl
  | .tup xs, _, _, ⟨a, vs, h1, _⟩ => by rw [h1]; rfl
  | .lst xs, _, _, ⟨a, vs, h1, _⟩ => by rw [h1]; rfl
  | .dic _ _, _, _, ⟨a, h1, _⟩ => by rw [h1]; rfl
  | .dct _ _, _, _, ⟨a, h1, _⟩ => by rw [h1]; rfl
  | .obj _ _ _, _, _, ⟨a, _, _, h1, _⟩ => by rw [h1]; rfl
theorem qo_notN : OpR X (compareOp .IsNot) (upV2 X.K vNotN) := by
  intro pins s σ H x y v u Q' I rx ry ⟨F, d, e, Q, sm, r1, r2, h, g⟩
  unfold vNotN at h
  split at h
  · exact h.elim
  · rename_i hn
    cases r2
    exact op_notN pins s σ H _ _ v u Q' I rx ry ⟨rfl, by rw [isNon_rep (fun u z => hn u z) r1]; exact g.b sm h⟩
  · exact h.elim
theorem qo_eq (hu : X.A.units + 64 < cLine) : OpR X (compareOp .Eq) (upV2 X.K vEq) := by
  intro pins s σ H x y v u Q' I rx ry ⟨F, d, e, Q, sm, r1, r2, h, g⟩
  unfold vEq at h
  split at h
  · cases r1; cases r2
    exact op_eq pins s σ H _ _ v u Q' I rx ry ⟨rfl, by rw [show ∀ i j : Int, decide (V.int i = V.int j) = decide (i = j) from fun i j => by simp]; exact g.b sm h⟩
  · cases r1; cases r2
    exact op_eq pins s σ H _ _ v u Q' I rx ry ⟨rfl, by rw [show ∀ i j : Str, decide (V.str i = V.str j) = decide (i = j) from fun i j => by simp]; exact g.b sm h⟩
  · cases r1; cases r2
    exact op_eq pins s σ H _ _ v u Q' I rx ry ⟨rfl, by rw [show ∀ i j : Bool, decide (V.bl i = V.bl j) = decide (i = j) from fun i j => by simp]; exact g.b sm h⟩
  · obtain ⟨o1, o2, s1, s2, q⟩ := h
    exact op_eqD hu pins s σ H _ _ v u Q' I rx ry ⟨_, _, dp_of sm _ _ o1 r1, dp_of sm _ _ o2 r2, s1, s2, g.b sm q⟩
theorem qo_ne (hu : X.A.units + 64 < cLine) : OpR X (compareOp .NotEq) (upV2 X.K vNe) := by
  intro pins s σ H x y v u Q' I rx ry ⟨F, d, e, Q, sm, r1, r2, h, g⟩
  unfold vNe at h
  split at h
  · cases r1; cases r2
    exact op_ne pins s σ H _ _ v u Q' I rx ry ⟨rfl, by rw [show ∀ i j : Int, decide (V.int i = V.int j) = decide (i = j) from fun i j => by simp]; exact g.b sm h⟩
  · cases r1; cases r2
    exact op_ne pins s σ H _ _ v u Q' I rx ry ⟨rfl, by rw [show ∀ i j : Str, decide (V.str i = V.str j) = decide (i = j) from fun i j => by simp]; exact g.b sm h⟩
  · cases r1; cases r2
    exact op_ne pins s σ H _ _ v u Q' I rx ry ⟨rfl, by rw [show ∀ i j : Bool, decide (V.bl i = V.bl j) = decide (i = j) from fun i j => by simp]; exact g.b sm h⟩
  · obtain ⟨o1, o2, s1, s2, q⟩ := h
    exact op_neD hu pins s σ H _ _ v u Q' I rx ry ⟨_, _, dp_of sm _ _ o1 r1, dp_of sm _ _ o2 r2, s1, s2, g.b sm q⟩
end
end QL
set_option Elab.async false
set_option linter.all false
set_option maxRecDepth 100000
namespace QL
open PySem PySem.Spec PyProof.Rows L2
/-! ### what lets out: an exception as a datum -/
def RepX (K : PySem.W.Frag) (F : Hp) : D → Value → Option Addr → Prop
  | .obj C ns xs, cls, dx => cls = .ref C ∧ ∃ da fs, dx = some da ∧ F da = some (.xd fs) ∧ fs.map (·.1) = ns ∧ RepL K F xs (fs.map (·.2))
  | _, _, _ => False
theorem RepX.mono {K : PySem.W.Frag} {F F' : Hp} (e : Same F F') : ∀ {d : D} {cls : Value} {dx : Option Addr}, RepX K F d cls dx → RepX K F' d cls dx
  | .obj C ns xs, _, _, ⟨h1, da, fs, h2, h3, h4, h5⟩ => ⟨h1, da, fs, h2, e _ _ h3, h4, RepL.mono e _ _ h5⟩
  | .non, _, _, h => h.elim
  | .bl _, _, _, h => h.elim
  | .int _, _, _, h => h.elim
  | .str _, _, _, h => h.elim
  | .raw _, _, _, h => h.elim
  | .scr _, _, _, h => h.elim
  | .tup _, _, _, h => h.elim
  | .lst _, _, _, h => h.elim
  | .dic _ _, _, _, h => h.elim
  | .dct _ _, _, _, h => h.elim
def WEx (K : PySem.W.Frag) (bx : Bx) (EX : XD) : WX := fun cls dx σ H => ∃ env F ed, ER K bx F env σ H ∧ RepX K F ed cls dx ∧ EX ed env
def TkE (X : Cx) (bx : Bx) (EX : XD) : Prop := ∀ σ, PassesAt (L2.CX X.prog X.w) X σ (fun cls dx H => WEx X.K bx EX cls dx σ H)
abbrev EX0 : XD := fun _ _ => False
theorem tkE0 {X : Cx} {bx : Bx} : TkE X bx EX0 := fun σ _ _ _ _ _ _ h => by
  obtain ⟨_, _, _, _, _, _, _, _, _, _, _, _, _, _, _, _, _, z⟩ := h
  exact z.elim
theorem tkE_of {X : Cx} {bx : Bx} {EX : XD} (tk : Takes X (WEx X.K bx EX)) : TkE X bx EX := fun σ => passAt tk σ

/-! ### promises -/
abbrev FA := List D → (D → Prop) → (D → Prop) → Prop
abbrev FB := D → List D → (D → D → Prop) → (D → D → Prop) → Prop
/-- a call that leaves all as it was -/
def spA (K : PySem.W.Frag) (n : Nat) (S : FA) : Sp := fun vs H Q' E' => ∃ F ds Q E, ds.length = n ∧ Same F H ∧ RepL K F ds vs ∧ S ds Q E ∧ Gr K F H Q Q' ∧
  ∀ ed cls dx F' H', Grow F H F' H' → RepX K F' ed cls dx → E ed → E' cls dx H'
/-- all but the object at a -/
structure GrowB (a : Addr) (F H F' H' : Hp) : Prop where
  e : Same F F'
  sf : Same F' H'
  sh : ∀ b o, H b = some o → b ≠ a → H' b = some o
  hn : ∀ b, F b = none → Hard H b → F' b = none
/-- a call that changes the object in its first place -/
def spB (K : PySem.W.Frag) (n : Nat) (M : FB) : Sp := fun vs H Q' E' => ∃ F a ho d0 ds ws Q E, ds.length = n ∧ vs = .ref a :: ws ∧ Same F H ∧ F a = none ∧ H a = some ho ∧ OwnH K F d0 ho ∧ RepL K F ds ws ∧ M d0 ds Q E ∧
  (∀ z u d' ho' F' H', GrowB a F H F' H' → H' a = some ho' → OwnH K F' d' ho' → Rep K F' z u → Q z d' → Q' u H') ∧
  (∀ ed cls dx d' ho' F' H', GrowB a F H F' H' → H' a = some ho' → OwnH K F' d' ho' → RepX K F' ed cls dx → E ed d' → E' cls dx H')
section
variable {K : PySem.W.Frag} {bx : Bx} {F F' H H' : Hp} {env : List Slot} {σ : L2.St}
theorem set_some {α : Type} {l : List α} {i j : Nat} {x y : α} (h : (l.set i x)[j]? = some y) : (i = j ∧ x = y ∧ i < l.length) ∨ (i ≠ j ∧ l[j]? = some y) := by
  by_cases e : i = j
  · subst e
    have hl : i < l.length := by
      have := (List.getElem?_eq_some_iff.mp h).1
      simpa using this
    rw [List.getElem?_set_self hl] at h
    exact .inl ⟨rfl, Option.some.inj h, hl⟩
  · rw [List.getElem?_set_ne e] at h
    exact .inr ⟨e, h⟩
/-- the object of slot i has changed -/
theorem ER.setOwn {i : Nat} {a : Addr} {d0 d' : D} {ho' : HO} (R : ER K bx F env σ H) (hi : env[i]? = some (.own d0)) (hs : σ[i]? = some (some (.ref a))) (g : GrowB a F H F' H') (ha : H' a = some ho') (o : OwnH K F' d' ho') : ER K bx F' (env.set i (.own d')) σ H' := by
  obtain ⟨oa, h1, a', ho, h2, h3, h4, h5, h6⟩ := R.slots i _ hi
  rw [hs] at h1; cases h1; cases h2
  refine ⟨fun b q z => g.sh b q (R.sb b q z) (fun e => by rw [e, h4] at z; cases z), g.sf, by rw [List.length_set]; exact R.len, fun j s hj => ?_, fun j k d e c hj hk sj sk => ?_, fun c hc => ?_, R.f0.trans g.e, fun c h1 h2 => g.hn c (R.fz c h1 h2) (R.bh h2)⟩
  · rcases set_some hj with ⟨rfl, rfl, _⟩ | ⟨hne, hj⟩
    · exact ⟨_, hs, a, ho', rfl, g.hn a h3 (OwnH.hard h5 h6), h4, ha, o⟩
    · obtain ⟨q, k1, k2⟩ := R.slots j s hj
      refine ⟨q, k1, ?_⟩
      cases s with
      | un => trivial
      | val d => obtain ⟨v, k3, k4⟩ := k2; exact ⟨v, k3, Rep.mono g.e _ _ k4⟩
      | own d =>
        obtain ⟨c, hc, k3, k4, k5, k6, k7⟩ := k2
        have hca : c ≠ a := fun z => by
          subst z
          rw [k3] at k1
          exact hne (R.sep i j _ _ c hi hj hs k1)
        exact ⟨c, hc, k3, g.hn c k4 (OwnH.hard k6 k7), k5, g.sh c hc k6 hca, OwnH.mono g.e k7⟩
  · have own : ∀ {m : Nat} {d : D}, (env.set i (.own d'))[m]? = some (.own d) → ∃ d2, env[m]? = some (.own d2) := fun {m d} hm => by
      rcases set_some hm with ⟨rfl, _, _⟩ | ⟨_, hm⟩
      · exact ⟨_, hi⟩
      · exact ⟨_, hm⟩
    obtain ⟨d2, hj2⟩ := own hj
    obtain ⟨e2, hk2⟩ := own hk
    exact R.sep j k d2 e2 c hj2 hk2 sj sk
  · obtain ⟨k1, d, k2⟩ := R.io c hc
    refine ⟨k1, ?_⟩
    by_cases h0 : i = 0
    · subst h0
      exact ⟨d', by rw [List.getElem?_set_self (List.getElem?_eq_some_iff.mp hi).1]⟩
    · exact ⟨d, by rw [List.getElem?_set_ne h0]; exact k2⟩
/-- slot i takes a datum -/
theorem ER.setVal {i : Nat} {d : D} {v : V} (R : ER K bx F env σ H) (hio : bx.io = none ∨ i ≠ 0) (r : Rep K F d v) : ER K bx F (env.set i (.val d)) (σ.set i (some v)) H := by
  refine ⟨R.sb, R.sf, by rw [List.length_set, List.length_set]; exact R.len, fun j s hj => ?_, fun j k d1 e c hj hk sj sk => ?_, fun c hc => ?_, R.f0, R.fz⟩
  · rcases set_some hj with ⟨rfl, rfl, hl⟩ | ⟨hne, hj⟩
    · exact ⟨_, by rw [List.getElem?_set_self (by rw [← R.len]; exact hl)], v, rfl, r⟩
    · obtain ⟨q, k1, k2⟩ := R.slots j s hj
      exact ⟨q, by rw [List.getElem?_set_ne hne]; exact k1, k2⟩
  · have old : ∀ {m : Nat} {d2 : D}, (env.set i (.val d))[m]? = some (.own d2) → (σ.set i (some v))[m]? = some (some (V.ref c)) → env[m]? = some (.own d2) ∧ σ[m]? = some (some (V.ref c)) := fun {m d2} hm sm => by
      rcases set_some hm with ⟨rfl, z, _⟩ | ⟨hne, hm⟩
      · cases z
      · rw [List.getElem?_set_ne hne] at sm; exact ⟨hm, sm⟩
    obtain ⟨a1, a2⟩ := old hj sj
    obtain ⟨b1, b2⟩ := old hk sk
    exact R.sep j k _ _ c a1 b1 a2 b2
  · obtain ⟨k1, d2, k2⟩ := R.io c hc
    have h0 : i ≠ 0 := hio.elim (fun z => by rw [z] at hc; cases hc) id
    exact ⟨by rw [List.getElem?_set_ne h0]; exact k1, d2, by rw [List.getElem?_set_ne h0]; exact k2⟩
/-- slot i takes a new object of its own -/
theorem ER.setNew {i : Nat} {d : D} {a : Addr} {ho : HO} (R : ER K bx F env σ H) (hio : bx.io = none ∨ i ≠ 0) (l : Lone bx F env σ H a) (ha : H a = some ho) (o : OwnH K F d ho) : ER K bx F (env.set i (.own d)) (σ.set i (some (.ref a))) H := by
  refine ⟨R.sb, R.sf, by rw [List.length_set, List.length_set]; exact R.len, fun j s hj => ?_, fun j k d1 e c hj hk sj sk => ?_, fun c hc => ?_, R.f0, R.fz⟩
  · rcases set_some hj with ⟨rfl, rfl, hl⟩ | ⟨hne, hj⟩
    · exact ⟨_, by rw [List.getElem?_set_self (by rw [← R.len]; exact hl)], a, ho, rfl, l.f, l.b, ha, o⟩
    · obtain ⟨q, k1, k2⟩ := R.slots j s hj
      exact ⟨q, by rw [List.getElem?_set_ne hne]; exact k1, k2⟩
  · rcases set_some hj with ⟨rfl, _, hl⟩ | ⟨hne, hj⟩
    · rcases set_some hk with ⟨rfl, _, _⟩ | ⟨hne2, hk⟩
      · rfl
      · rw [List.getElem?_set_self (by rw [← R.len]; exact hl)] at sj
        cases sj
        rw [List.getElem?_set_ne hne2] at sk
        exact absurd sk (l.o k _ hk)
    · rcases set_some hk with ⟨rfl, _, hl⟩ | ⟨hne2, hk⟩
      · rw [List.getElem?_set_self (by rw [← R.len]; exact hl)] at sk
        cases sk
        rw [List.getElem?_set_ne hne] at sj
        exact absurd sj (l.o j _ hj)
      · rw [List.getElem?_set_ne hne] at sj
        rw [List.getElem?_set_ne hne2] at sk
        exact R.sep j k _ _ c hj hk sj sk
  · obtain ⟨k1, d2, k2⟩ := R.io c hc
    have h0 : i ≠ 0 := hio.elim (fun z => by rw [z] at hc; cases hc) id
    exact ⟨by rw [List.getElem?_set_ne h0]; exact k1, d2, by rw [List.getElem?_set_ne h0]; exact k2⟩
end
section
variable {X : Cx} {bx : Bx} {e a b : Expr} {es : List Expr} {te ta tb : RE} {t : RA} {pos : Pos} {i : Nat}
/-! ### a name -/
/-- a name of the def: a datum; what it owns becomes one -/
def rVarO (i : Nat) : RE := fun env Q => match env[i]? with
  | some (.val d) => Q d env
  | some (.own d) => Q d (env.set i (.val d))
  | _ => False
/-! ### arguments, displays -/
def rNil : RA := fun env Q => Q [] env
def rCons (te : RE) (t : RA) : RA := fun env Q => te env fun d env1 => t env1 fun ds env2 => Q (d :: ds) env2
def rStar (te : RE) (t : RA) : RA := fun env Q => te env fun d env1 => match d with
  | .tup xs => t env1 fun ds env2 => Q (xs ++ ds) env2
  | .lst xs => t env1 fun ds env2 => Q (xs ++ ds) env2
  | _ => False
theorem qa_nil : QA X bx [] rNil := pa_imp pa_nil fun σ H Q' ⟨env, F, Q, R, ht, k⟩ => k [] [] env F H (Same.refl _) R rfl ht
theorem qa_cons (ha : QE X bx e te) (hr : QA X bx es t) (hs : starEach (e :: es) X.env = (false, eval e X.env) :: starEach es X.env := by rfl) : QA X bx (e :: es) (rCons te t) := pa_imp (pa_cons ha hr hs) fun σ H Q' ⟨env, F, Q, R, ht, k⟩ =>
  ⟨env, F, _, R, ht, fun d v env1 F1 H1 s1 R1 r1 q1 => ⟨env1, F1, _, R1, q1, fun ds vs env2 F2 H2 s2 R2 r2 q2 => k (d :: ds) (v :: vs) env2 F2 H2 (s1.trans s2) R2 ⟨v, vs, rfl, Rep.mono s2 _ _ r1, r2⟩ q2⟩⟩
def rTup (t : RA) : RE := fun env Q => t env fun ds env1 => ds.length ≤ sizeLine ∧ Q (.tup ds) env1
def rLst (t : RA) : RE := fun env Q => t env fun ds env1 => ds.length ≤ sizeLine ∧ Q (.lst ds) env1
theorem q_tup {x1} (h : QA X bx es t) : QE X bx (.Tuple es x1 pos) (rTup t) := pe_imp (pe_tup h) fun σ H Q' ⟨env, F, Q, R, ht, k⟩ =>
  ⟨env, F, _, R, ht, fun ds vs env1 F1 H1 s1 R1 r1 q1 => ⟨by rw [← r1.length]; exact q1.1, fun p hp => k (.tup ds) (.ref p) env1 (upd F1 p (.tup vs)) _ (s1.trans (same_upd (R1.sf.free hp))) (R1.laid hp) ⟨p, vs, rfl, upd_same, RepL.mono (same_upd (R1.sf.free hp)) _ _ r1⟩ q1.2⟩⟩
theorem q_lstN (h : QA X bx es t) : QN X bx (.List es pos) (rLst t) := pe_imp (pe_lst h) fun σ H Q' ⟨env, F, Q, R, ht, k⟩ =>
  ⟨env, F, _, R, ht, fun ds vs env1 F1 H1 s1 R1 r1 q1 => ⟨by rw [← r1.length]; exact q1.1, fun p hp => k (.lst ds) p (.lst vs) env1 F1 _ s1 (R1.laid0 hp) (R1.lone hp) upd_same ⟨vs, rfl, r1⟩ q1.2⟩⟩
theorem q_lst (h : QA X bx es t) : QE X bx (.List es pos) (rLst t) := (q_lstN h).qe

/-! ### subscripts -/
def vIx : V2
  | .lst xs, .int i, Q => ∃ d, atI xs i = some d ∧ Q d
  | .tup xs, .int i, Q => ∃ d, atI xs i = some d ∧ Q d
  | .scr ns, .int i, Q => ∃ n, atI ns i = some n ∧ Q (.int n)
  | _, _, _ => False
theorem atI_rep {K : PySem.W.Frag} {F : Hp} {xs : List D} {vs : List V} {i : Int} {d : D} (r : RepL K F xs vs) (h : atI xs i = some d) : ∃ v, atI vs i = some v ∧ Rep K F d v := by
  unfold atI at h ⊢
  rw [← r.length]
  cases e : ixN xs.length i with
  | none => rw [e] at h; cases h
  | some j => rw [e] at h; exact r.get h
theorem atI_map {ns : List Int} {i n : Int} (h : atI ns i = some n) : atI (ns.map V.int) i = some (V.int n) := by
  unfold atI at h ⊢
  rw [List.length_map]
  cases e : ixN ns.length i with
  | none => rw [e] at h; cases h
  | some j => rw [e] at h; show (ns.map V.int)[j]? = _; rw [List.getElem?_map, show ns[j]? = some n from h]; rfl
theorem qi_ix : IxR X (upV2 X.K vIx) := by
  intro value slice pins s σ H x y v u Q' I rx ry ⟨F, d, e, Q, sm, r1, r2, h, g⟩ hs
  unfold vIx at h
  split at h
  · obtain ⟨a, vs, rfl, h2, h3⟩ := r1
    cases r2
    obtain ⟨z, hz, q⟩ := h
    obtain ⟨w, hw, rw⟩ := atI_rep h3 hz
    exact ix_list value slice pins s σ H _ _ v u Q' I rx ry ⟨a, vs, _, w, rfl, rfl, .inl (.inl (sm _ _ h2)), hw, g.flat sm rw q⟩ hs
  · obtain ⟨a, vs, rfl, h2, h3⟩ := r1
    cases r2
    obtain ⟨z, hz, q⟩ := h
    obtain ⟨w, hw, rw⟩ := atI_rep h3 hz
    exact ix_tup value slice pins s σ H _ _ v u Q' I rx ry ⟨a, vs, _, w, rfl, rfl, sqt_of sm h2, hw, g.flat sm rw q⟩ hs
  · obtain ⟨a, rfl, h2⟩ := r1
    cases r2
    obtain ⟨z, hz, q⟩ := h
    exact ix_list value slice pins s σ H _ _ v u Q' I rx ry ⟨a, _, _, _, rfl, rfl, sm.seq h2, atI_map hz, g.i sm q⟩ hs
  · exact h.elim
theorem q_ix (ha : QE X bx a ta) (hb : QE X bx b tb) (hs : PlainIx b := by exact fun _ _ => rfl) : QE X bx (.Subscript a b pos) (rOp vIx ta tb) := pe_imp (pe_ix qi_ix ha hb hs) fun _ _ _ => op_up
/-- an item of what a slot owns -/
def rIxO (i : Nat) (tb : RE) : RE := fun env Q => (∃ d, env[i]? = some (.own d)) ∧ tb env fun j env1 => match env1[i]? with
  | some (.own d) => vIx d j fun z => Q z env1
  | _ => False
theorem own_ix {K : PySem.W.Frag} {bx : Bx} {F H : Hp} {env : List Slot} {σ : L2.St} (R : ER K bx F env σ H) {i : Nat} {d : D} (hi : env[i]? = some (.own d)) : ∃ a ho, σ[i]? = some (some (.ref a)) ∧ H a = some ho ∧ F a = none ∧ OwnH K F d ho := by
  obtain ⟨oa, h1, a', ho, h2, h3, h4, h5, h6⟩ := R.slots i _ hi
  cases h2
  exact ⟨a', ho, h1, h5, h3, h6⟩
theorem q_ixO (h : L2.PE X a (tVar i)) (hb : QE X bx b tb) (hs : PlainIx b := by exact fun _ _ => rfl) : QE X bx (.Subscript a b pos) (rIxO i tb) := pe_imp (pe_ix ix_list h hb hs) fun σ H Q' ⟨env, F, Q, R, ⟨⟨d, hd⟩, ht⟩, k⟩ => by
  obtain ⟨p, ho, h1, h2, h3, h4⟩ := own_ix R hd
  refine ⟨.ref p, h1, env, F, _, R, ht, fun j w env1 F1 H1 s1 R1 r1 q1 => ?_⟩
  split at q1
  · rename_i d1 hd1
    obtain ⟨p1, ho1, g1, g2, g3, g4⟩ := own_ix R1 hd1
    rw [h1] at g1
    cases g1
    unfold vIx at q1
    split at q1
    · obtain ⟨vs, rfl, h6⟩ := g4
      cases r1
      obtain ⟨z, hz, q⟩ := q1
      obtain ⟨u, hu, ru⟩ := atI_rep h6 hz
      exact ⟨p, vs, _, u, rfl, rfl, .inl (.inl g2), hu, k z u env1 F1 H1 s1 R1 ru q⟩
    · exact g4.elim
    · exact g4.elim
    · exact q1.elim
  · exact q1.elim

/-! ### calls -/
def rCall (S : FA) (n : Nat) (EX : XD) (t : RA) : RE := fun env Q => t env fun ds env1 => ds.length = n ∧ S ds (fun d => Q d env1) fun ed => EX ed env1
theorem q_call {k n : Nat} {f : Addr} {fd : FuncData} {ps : List Str} {S : FA} {x : Str} {EX : XD} {p : Pos} (Fn : FnOk X.prog X.w X.K X.mg X.base (L2.CX X.prog X.w) k f fd ps (spA X.K n S)) (hr : Room k X.A) (hg : Gl X x) (hm : X.mg x = some (.ref f)) (hk : PySem.W.keepIn X.K (.ref f) = true)
    (hb : Binds X.K fd ps []) (tk : TkE X bx EX) (ha : QA X bx (e :: es) t) (hdb : (x == ("__debug__" : Str)) = false := by decide) (he : starEach (e :: es) X.env = (false, eval e X.env) :: starEach es X.env := by rfl) (hpl : (backTo pos (starEach es X.env)).any (·.1) = false := by rfl) :
    QE X bx (.Call (.Name x p) (e :: es) [] pos) (rCall S n EX t) := pe_imp (pe_callS Fn hr hg hm hk hb tk ha hdb he hpl) fun σ H Q' ⟨env, F, Q, R, ht, kk⟩ =>
  ⟨env, F, _, R, ht, fun ds vs env1 F1 H1 s1 R1 r1 q1 => ⟨F1, ds, _, _, q1.1, R1.sf, r1, q1.2, fun z u F2 H2 g r2 q2 => kk z u env1 F2 H2 (s1.trans g.e) (R1.to g) r2 q2,
    fun ed cls dx F2 H2 g rx ex => ⟨env1, F2, ed, R1.to g, rx, ex⟩⟩⟩
/-- f(x, e, ..), f changes what slot i owns -/
def rCallM (i : Nat) (M : FB) (n : Nat) (EX : XD) (t : RA) : RE := fun env Q => (∃ d, env[i]? = some (.own d)) ∧ t env fun ds env1 => match env1[i]? with
  | some (.own d0) => ds.length = n ∧ M d0 ds (fun d d' => Q d (env1.set i (.own d'))) fun ed d' => EX ed (env1.set i (.own d'))
  | _ => False
theorem callM_up {i n : Nat} {M : FB} {EX : XD} {σ : L2.St} {H : Hp} {Q' : VK} (h : up X.K bx (rCallM i M n EX t) σ H Q') :
    ∃ a, σ[i]? = some (some (.ref a)) ∧ upA X.K bx t σ H fun vs H1 => spB X.K n M (.ref a :: vs) H1 Q' fun cls dx H => WEx X.K bx EX cls dx σ H := by
  obtain ⟨env, F, Q, R, ⟨⟨d, hd⟩, ht⟩, kk⟩ := h
  obtain ⟨a, ho, h1, h2, h3, h4⟩ := own_ix R hd
  refine ⟨a, h1, env, F, _, R, ht, fun ds vs env1 F1 H1 s1 R1 r1 q1 => ?_⟩
  split at q1
  · rename_i d1 hd1
    obtain ⟨p1, ho1, g1, g2, g3, g4⟩ := own_ix R1 hd1
    rw [h1] at g1
    cases g1
    exact ⟨F1, a, ho1, d1, ds, vs, _, _, q1.1, rfl, R1.sf, g3, g2, g4, r1, q1.2,
      fun z u d' ho' F2 H2 g ha o r2 q2 => kk z u (env1.set i (.own d')) F2 H2 (s1.trans g.e) (R1.setOwn hd1 h1 g ha o) r2 q2,
      fun ed cls dx d' ho' F2 H2 g ha o rx ex => ⟨env1.set i (.own d'), F2, ed, R1.setOwn hd1 h1 g ha o, rx, ex⟩⟩
  · exact q1.elim
theorem q_callM {k n : Nat} {f : Addr} {fd : FuncData} {ps : List Str} {M : FB} {x : Str} {EX : XD} {p : Pos} (Fn : FnOk X.prog X.w X.K X.mg X.base (L2.CX X.prog X.w) k f fd ps (spB X.K n M)) (hr : Room k X.A) (hg : Gl X x) (hm : X.mg x = some (.ref f)) (hk : PySem.W.keepIn X.K (.ref f) = true)
    (hb : Binds X.K fd ps []) (tk : TkE X bx EX) (hv : L2.PE X e (tVar i)) (ha : QA X bx es t) (hdb : (x == ("__debug__" : Str)) = false := by decide) (he : starEach (e :: es) X.env = (false, eval e X.env) :: starEach es X.env := by rfl) (hpl : (backTo pos (starEach es X.env)).any (·.1) = false := by rfl) :
    QE X bx (.Call (.Name x p) (e :: es) [] pos) (rCallM i M n EX t) := pe_imp (pe_callS Fn hr hg hm hk hb tk (pa_cons hv ha he) hdb he hpl) fun σ H Q' h => by
  obtain ⟨a, h1, h2⟩ := callM_up h
  exact ⟨_, h1, h2⟩
/-- built-ins -/
def rCB (r : VL) (t : RA) : RE := fun env Q => t env fun ds env1 => r ds fun z => Q z env1
theorem cb_up {r : VL} {σ : L2.St} {H : Hp} {Q' : VK} : up X.K bx (rCB r t) σ H Q' → upA X.K bx t σ H fun vs H1 => upVL X.K r vs H1 Q' := fun ⟨env, F, Q, R, ht, k⟩ =>
  ⟨env, F, _, R, ht, fun ds vs env1 F1 H1 s1 R1 r1 q1 => ⟨F1, ds, _, R1.sf, r1, q1, fun z u F2 H2 g r2 q2 => k z u env1 F2 H2 (s1.trans g.e) (R1.to g) r2 q2⟩⟩
theorem q_callB {x : Str} {id : String} {r : VL} {p : Pos} (hc : CallR X (.builtin id) (upVL X.K r)) (hg : Gl X x) (hm : X.mg x = none) (hv : bootBuiltins x = some (.builtin id)) (ha : QA X bx (e :: es) t) (hn : x ≠ "__name__" := by decide) (hdb : (x == ("__debug__" : Str)) = false := by decide)
    (he : starEach (e :: es) X.env = (false, eval e X.env) :: starEach es X.env := by rfl) (hpl : (backTo pos (starEach es X.env)).any (·.1) = false := by rfl) : QE X bx (.Call (.Name x p) (e :: es) [] pos) (rCB r t) := pe_imp (pe_callB hc hg hm hv ha hn hdb he hpl) fun _ _ _ => cb_up
theorem q_callTy {x : Str} {id : String} {r : VL} {p : Pos} (hc : CallR X (.type id) (upVL X.K r)) (hg : Gl X x) (hm : X.mg x = none) (hv : bootBuiltins x = some (.type id)) (ha : QA X bx (e :: es) t) (hn : x ≠ "__name__" := by decide) (hdb : (x == ("__debug__" : Str)) = false := by decide)
    (he : starEach (e :: es) X.env = (false, eval e X.env) :: starEach es X.env := by rfl) (hpl : (backTo pos (starEach es X.env)).any (·.1) = false := by rfl) : QE X bx (.Call (.Name x p) (e :: es) [] pos) (rCB r t) := pe_imp (pe_callTy hc hg hm hv ha hn hdb he hpl) fun _ _ _ => cb_up
end
end QL
set_option Elab.async false
set_option linter.all false
set_option maxRecDepth 100000
namespace QL
open PySem PySem.Spec PyProof.Rows L2
theorem ownLst {K : PySem.W.Frag} {F : Hp} {xs : List D} {vs : List V} (h : RepL K F xs vs) : OwnH K F (.lst xs) (.lst vs) := ⟨vs, rfl, h⟩
theorem RepL.two {K : PySem.W.Frag} {F : Hp} {d e : D} {vs : List V} (h : RepL K F [d, e] vs) : ∃ v w, vs = [v, w] ∧ Rep K F d v ∧ Rep K F e w := by
  obtain ⟨v, r, rfl, rd, w, r', rfl, re, z⟩ := h
  rw [show r' = [] from z]
  exact ⟨v, w, rfl, rd, re⟩
theorem RepL.three {K : PySem.W.Frag} {F : Hp} {d e f : D} {vs : List V} (h : RepL K F [d, e, f] vs) : ∃ v w u, vs = [v, w, u] ∧ Rep K F d v ∧ Rep K F e w ∧ Rep K F f u := by
  obtain ⟨v, r, rfl, rd, h⟩ := h
  obtain ⟨w, u, rfl, re, rf⟩ := RepL.two h
  exact ⟨v, w, u, rfl, rd, re, rf⟩
/-! ### targets -/
abbrev RG := D → List Slot → (List Slot → Prop) → Prop
abbrev RGs := List D → List Slot → (List Slot → Prop) → Prop
/-- only places of P change -/
def Only' (P : Nat → Prop) (σ σ' : L2.St) : Prop := σ'.length = σ.length ∧ ∀ j : Nat, ¬ P j → σ'[j]? = σ[j]?
theorem Only'.refl {P : Nat → Prop} {σ : L2.St} : Only' P σ σ := ⟨rfl, fun _ _ => rfl⟩
theorem Only'.trans {P : Nat → Prop} {σ σ1 σ2 : L2.St} (a : Only' P σ σ1) (b : Only' P σ1 σ2) : Only' P σ σ2 := ⟨b.1.trans a.1, fun j h => (b.2 j h).trans (a.2 j h)⟩
theorem Only'.set {P : Nat → Prop} {σ : L2.St} {i : Nat} {v : Option V} (h : P i) : Only' P σ (σ.set i v) := ⟨by rw [List.length_set], fun j hj => by rw [List.getElem?_set_ne (fun e => hj (by rw [← e]; exact h))]⟩
def upG (K : PySem.W.Frag) (bx : Bx) (P : Nat → Prop) (g : RG) : TG := fun v σ H Q' => ∃ env F d Q, ER K bx F env σ H ∧ Rep K F d v ∧ g d env Q ∧ ∀ env' F' σ' H', Same F F' → ER K bx F' env' σ' H' → Only' P σ σ' → Q env' → Q' σ' H'
def upGs (K : PySem.W.Frag) (bx : Bx) (P : Nat → Prop) (g : RGs) : TGs := fun vs σ H Q' => ∃ env F ds Q, ER K bx F env σ H ∧ RepL K F ds vs ∧ g ds env Q ∧ ∀ env' F' σ' H', Same F F' → ER K bx F' env' σ' H' → Only' P σ σ' → Q env' → Q' σ' H'
abbrev anyP : Nat → Prop := fun _ => True
abbrev QG (X : Cx) (bx : Bx) (P : Nat → Prop) (tg : Expr) (g : RG) : Prop := L2.PG X tg (upG X.K bx P g)
abbrev QGs (X : Cx) (bx : Bx) (P : Nat → Prop) (tg : List Expr) (g : RGs) : Prop := L2.PGs X tg (upGs X.K bx P g)
def rgN (i : Nat) : RG := fun d env Q => Q (env.set i (.val d))
def rgNil : RGs := fun ds env Q => ds = [] ∧ Q env
def rgCons (g : RG) (gs : RGs) : RGs := fun ds env Q => match ds with
  | [] => False
  | d :: r => g d env fun env1 => gs r env1 Q
def rgT (n : Nat) (gs : RGs) : RG := fun d env Q => match d with
  | .tup xs => xs.length = n ∧ gs xs env Q
  | _ => False
section
variable {X : Cx} {bx : Bx} {e a b tg : Expr} {es tgs : List Expr} {te ta tb : RE} {t : RA} {pos : Pos} {i : Nat} {g : RG} {gs : RGs} {P : Nat → Prop}
theorem pg_imp {t t' : TG} (h : L2.PG X e t) (i : ∀ v σ H Q, t' v σ H Q → t v σ H Q) : L2.PG X e t' := ⟨fun pins s σ H v u Q I r q => h.run pins s σ H v u Q I r (i v σ H Q q)⟩
theorem pgs_imp {t t' : TGs} (h : L2.PGs X es t) (i : ∀ v σ H Q, t' v σ H Q → t v σ H Q) : L2.PGs X es t' := ⟨fun pins s σ H v u Q I r q => h.run pins s σ H v u Q I r (i v σ H Q q)⟩
theorem qg_n (h : L2.PG X tg (gName i)) (hio : bx.io = none ∨ i ≠ 0) (hP : P i := by first | trivial | decide) : QG X bx P tg (rgN i) := pg_imp h fun v σ H Q' ⟨env, F, d, Q, R, r, hg, k⟩ => k _ F _ H (Same.refl _) (R.setVal hio r) (Only'.set hP) hg
theorem qgs_nil : QGs X bx P [] rgNil := pgs_imp pgs_nil fun v σ H Q' ⟨env, F, ds, Q, R, r, hg, k⟩ => by
  obtain ⟨rfl, q⟩ := hg
  exact ⟨r, k env F σ H (Same.refl _) R Only'.refl q⟩
theorem qgs_cons (h1 : QG X bx P tg g) (h2 : QGs X bx P tgs gs) (hs : (assignEach (tg :: tgs) X.env).map (·.2) = assign tg X.env :: (assignEach tgs X.env).map (·.2) := by rfl) : QGs X bx P (tg :: tgs) (rgCons g gs) := pgs_imp (pgs_cons h1 h2 hs) fun v σ H Q' ⟨env, F, ds, Q, R, r, hg, k⟩ => by
  cases ds with
  | nil => exact hg.elim
  | cons d rest =>
    obtain ⟨v1, vs, rfl, r1, r2⟩ := r
    exact ⟨v1, vs, rfl, env, F, d, _, R, r1, hg, fun env1 F1 σ1 H1 s1 R1 o1 q1 => ⟨env1, F1, rest, Q, R1, RepL.mono s1 _ _ r2, q1, fun env2 F2 σ2 H2 s2 R2 o2 q2 => k env2 F2 σ2 H2 (s1.trans s2) R2 (o1.trans o2) q2⟩⟩
theorem qg_t {k n : Nat} (hc : X.calm = true) (h : QGs X bx P tgs gs) (hn : (assignEach tgs X.env).length = n := by rfl) (hst : (assignEach tgs X.env).findIdx? (·.1) = none := by rfl) : QG X bx P (.Tuple tgs k pos) (rgT n gs) := pg_imp (pg_tup hc h hn hst) fun v σ H Q' ⟨env, F, d, Q, R, r, hg, kk⟩ => by
  unfold rgT at hg
  split at hg
  · obtain ⟨p, vs, rfl, h2, h3⟩ := r
    exact ⟨p, vs, rfl, sqt_of R.sf h2, by rw [← h3.length]; exact hg.1, env, F, _, Q, R, h3, hg.2, kk⟩
  · exact hg.elim

/-! ### statements -/
def sNil : RS := fun en env => en.nx env
def sSeq (t u : RS) : RS := fun en env => t { en with nx := fun env' => u en env' } env
def sAsg (te : RE) (g : RG) : RS := fun en env => te env fun d env1 => g d env1 en.nx
def sOwn (i : Nat) (te : RE) : RS := fun en env => te env fun d env1 => en.nx (env1.set i (.own d))
def sDrop (te : RE) : RS := fun en env => te env fun _ env1 => en.nx env1
def sRet (te : RE) : RS := fun en env => te env en.rt
def sRetN : RS := fun en env => en.rt .non env
def sIf (c : RB) (t u : RS) : RS := fun en env => c env fun b env1 => if b = true then t en env1 else u en env1
def sBrk : RS := fun en env => en.bk env
def sCnt : RS := fun en env => en.ct env
def sPass : RS := fun en env => en.nx env
def sNever : RS := fun _ _ => False
variable {st : Stmt} {sts : List Stmt} {ts us : RS}
theorem qs_nil : QSs X bx [] sNil := pss_imp pss_nil fun Dn σ H ⟨env, F, en, R, ht, k, _⟩ => k env F σ H (Same.refl _) R ht
theorem seq_up {σ : L2.St} {H : Hp} {Dn : Ends} : upS X.K bx (sSeq ts us) Dn σ H → tSeq (upS X.K bx ts) (upS X.K bx us) Dn σ H := fun ⟨env, F, en, R, ht, k1, k2, k3, k4⟩ =>
  ⟨env, F, _, R, ht, fun env' F' σ' H' s R' q => ⟨env', F', en, R', q, fun env2 F2 σ2 H2 s2 => k1 env2 F2 σ2 H2 (s.trans s2), fun d v env2 F2 σ2 H2 s2 => k2 d v env2 F2 σ2 H2 (s.trans s2), fun env2 F2 σ2 H2 s2 => k3 env2 F2 σ2 H2 (s.trans s2), fun env2 F2 σ2 H2 s2 => k4 env2 F2 σ2 H2 (s.trans s2)⟩, k2, k3, k4⟩
theorem qs_cons (h : QS X bx st ts) (g : QSs X bx sts us) : QSs X bx (st :: sts) (sSeq ts us) := pss_imp (pss_cons h g) fun _ _ _ => seq_up
theorem qs_one (h : QS X bx st ts) : QSs X bx [st] ts := pss_one h
theorem qs_asg (he : QE X bx e te) (hg : QG X bx anyP tg g) (hs : swapsWithSole [tg] e pos.line X.env = pure false := by rfl) (hw : swappedStores [tg] e X.env = pure none := by rfl) (h1 : (assignEach [tg] X.env).map (·.2) = [assign tg X.env] := by rfl) : QS X bx (.Assign [tg] e pos) (sAsg te g) := ps_imp (ps_asg he hg hs hw h1) fun Dn σ H ⟨env, F, en, R, ht, k, _⟩ =>
  ⟨env, F, _, R, ht, fun d v env1 F1 H1 s1 R1 r1 q1 => ⟨env1, F1, d, _, R1, r1, q1, fun env2 F2 σ2 H2 s2 R2 _ q2 => k env2 F2 σ2 H2 (s1.trans s2) R2 q2⟩⟩
theorem qs_set {x : Str} {pos' : Pos} (hN : X.N.Nodup) (hi : X.N[i]? = some x) (hx : Loc X.env.scope x) (hio : bx.io = none ∨ i ≠ 0) (he : QE X bx e te) (hs : swapsWith e (some (.Name x pos')) pos.line X.env = pure false := by rfl) (hf : X.fn x = true ∨ X.env.scope.names.lookup x = some .local := by first | exact .inl rfl | exact .inr rfl | assumption) :
    QS X bx (.Assign [.Name x pos'] e pos) (sAsg te (rgN i)) := ps_imp (ps_set hN hi hx he hs hf) fun Dn σ H ⟨env, F, en, R, ht, k, _⟩ =>
  ⟨env, F, _, R, ht, fun d v env1 F1 H1 s1 R1 r1 q1 => k _ F1 _ H1 s1 (R1.setVal hio r1) q1⟩
theorem qs_own {x : Str} {pos' : Pos} (hN : X.N.Nodup) (hi : X.N[i]? = some x) (hx : Loc X.env.scope x) (hio : bx.io = none ∨ i ≠ 0) (he : QN X bx e te) (hs : swapsWith e (some (.Name x pos')) pos.line X.env = pure false := by rfl) (hf : X.fn x = true ∨ X.env.scope.names.lookup x = some .local := by first | exact .inl rfl | exact .inr rfl | assumption) :
    QS X bx (.Assign [.Name x pos'] e pos) (sOwn i te) := ps_imp (ps_set hN hi hx he hs hf) fun Dn σ H ⟨env, F, en, R, ht, k, _⟩ =>
  ⟨env, F, _, R, ht, fun d p ho env1 F1 H1 s1 R1 l hp o q1 => k _ F1 _ H1 s1 (R1.setNew hio l hp o) q1⟩
theorem qs_expr (he : QE X bx e te) (hs : swapsWith e none pos.line X.env = pure false := by rfl) : QS X bx (.Expr e pos) (sDrop te) := ps_imp (ps_expr he hs) fun Dn σ H ⟨env, F, en, R, ht, k, _⟩ =>
  ⟨env, F, _, R, ht, fun d v env1 F1 H1 s1 R1 r1 q1 => k env1 F1 σ H1 s1 R1 q1⟩
theorem qs_ret (he : QE X bx e te) : QS X bx (.Return (some e) pos) (sRet te) := ps_imp (ps_ret he) fun Dn σ H ⟨env, F, en, R, ht, _, k, _⟩ =>
  ⟨env, F, _, R, ht, fun d v env1 F1 H1 s1 R1 r1 q1 => k d v env1 F1 σ H1 s1 R1 r1 q1⟩
theorem qs_if {c : Expr} {sa sb : List Stmt} {tc : RB} (hc : QT X bx c tc) (ha : QSs X bx sa ts) (hb : QSs X bx sb us) : QS X bx (.If c sa sb pos) (sIf tc ts us) := ps_imp (ps_if hc ha hb) fun Dn σ H ⟨env, F, en, R, ht, k1, k2, k3, k4⟩ =>
  ⟨env, F, _, R, ht, fun b env1 F1 H1 s R1 q1 => by
    cases b with
    | true =>
      rw [if_pos rfl] at q1 ⊢
      exact ⟨env1, F1, en, R1, q1, fun env2 F2 σ2 H2 s2 => k1 env2 F2 σ2 H2 (s.trans s2), fun d v env2 F2 σ2 H2 s2 => k2 d v env2 F2 σ2 H2 (s.trans s2), fun env2 F2 σ2 H2 s2 => k3 env2 F2 σ2 H2 (s.trans s2), fun env2 F2 σ2 H2 s2 => k4 env2 F2 σ2 H2 (s.trans s2)⟩
    | false =>
      rw [if_neg Bool.false_ne_true] at q1 ⊢
      exact ⟨env1, F1, en, R1, q1, fun env2 F2 σ2 H2 s2 => k1 env2 F2 σ2 H2 (s.trans s2), fun d v env2 F2 σ2 H2 s2 => k2 d v env2 F2 σ2 H2 (s.trans s2), fun env2 F2 σ2 H2 s2 => k3 env2 F2 σ2 H2 (s.trans s2), fun env2 F2 σ2 H2 s2 => k4 env2 F2 σ2 H2 (s.trans s2)⟩⟩
/-- a, b = e1, e2 -/
def sPar (i j : Nat) (t : RA) : RS := fun en env => t env fun ds env1 => match ds with
  | [d, e] => en.nx ((env1.set i (.val d)).set j (.val e))
  | _ => False
theorem qs_par {j : Nat} {x y : Str} {px py pt : Pos} {kt k2 pt2} (hc : X.calm = true) (hN : X.N.Nodup) (hi : X.N[i]? = some x) (hj : X.N[j]? = some y) (hij : i ≠ j) (hio : bx.io = none ∨ i ≠ 0) (hio2 : bx.io = none ∨ j ≠ 0)
    (hx : X.env.scope.names.lookup x = some .local) (hy : X.env.scope.names.lookup y = some .local) (ha : QA X bx [a, b] t)
    (hw : swappedStores [.Tuple [.Name x px, .Name y py] kt pt] (.Tuple [a, b] k2 pt2) X.env = pure (some [x, y]))
    (hs : swapsWithSole [.Tuple [.Name x px, .Name y py] kt pt] (.Tuple [a, b] k2 pt2) pos.line X.env = pure false := by rfl) :
    QS X bx (.Assign [.Tuple [.Name x px, .Name y py] kt pt] (.Tuple [a, b] k2 pt2) pos) (sPar i j t) := ps_imp (ps_par hc hN hi hj hij hx hy ha hw hs) fun Dn σ H ⟨env, F, en, R, ht, k, _⟩ =>
  ⟨env, F, _, R, ht, fun ds vs env1 F1 H1 s1 R1 r1 q1 => by
    split at q1
    · obtain ⟨v, w, rfl, rd, re⟩ := RepL.two r1
      exact ⟨v, w, rfl, k _ F1 _ H1 s1 ((R1.setVal hio rd).setVal hio2 re) q1⟩
    · exact q1.elim⟩
def sPar3 (i j l : Nat) (t : RA) : RS := fun en env => t env fun ds env1 => match ds with
  | [d, e, f] => en.nx (((env1.set i (.val d)).set j (.val e)).set l (.val f))
  | _ => False
/-- x op= e -/
def sAug (i : Nat) (r : V2) (te : RE) : RS := fun en env => match env[i]? with
  | some (.val d) => te env fun e env1 => r d e fun z => en.nx (env1.set i (.val z))
  | _ => False
def IpQ (X : Cx) (op : Operator) (r : V2) : Prop := PIp X op (upV2 X.K r)
def vIAdd : V2
  | .int i, .int j, Q => Q (.int (i + j))
  | _, _, _ => False
def vISub : V2
  | .int i, .int j, Q => Q (.int (i - j))
  | _, _, _ => False
theorem qip_add : IpQ X .Add vIAdd := by
  intro pins s σ H x y v u Q' I rx ry ⟨F, d, e, Q, sm, r1, r2, h, g⟩
  unfold vIAdd at h
  split at h
  · cases r1; cases r2
    exact ip_add pins s σ H _ _ v u Q' I rx ry ⟨_, _, rfl, rfl, g.i sm h⟩
  · exact h.elim
/-! what a slot owns: lists -/
def sApp (i : Nat) (te : RE) : RS := fun en env => (∃ xs, env[i]? = some (.own (.lst xs))) ∧ te env fun d env1 => match env1[i]? with
  | some (.own (.lst xs)) => xs.length < sizeLine ∧ en.nx (env1.set i (.own (.lst (xs ++ [d]))))
  | _ => False
theorem growB_upd {F H : Hp} {a : Addr} {o : HO} (s : Same F H) (h : F a = none) : GrowB a F H F (upd H a o) :=
  ⟨Same.refl _, same_upd2 s h, fun b q z hb => by rw [upd_ne hb]; exact z, fun b h1 h2 => h1⟩
/-- x.pop() -/
def rPopO (i : Nat) : RE := fun env Q => match env[i]? with
  | some (.own (.lst xs)) => ∃ d, xs[xs.length - 1]? = some d ∧ Q d (env.set i (.own (.lst xs.dropLast)))
  | _ => False
theorem RepL.dropLast {K : PySem.W.Frag} {F : Hp} {xs : List D} {vs : List V} (h : RepL K F xs vs) : RepL K F xs.dropLast vs.dropLast := by
  rw [List.dropLast_eq_take, List.dropLast_eq_take, h.length]
  exact RepL.take _ h
/-- x[j] = e, x[j] op= e -/
def sPut (i : Nat) (te tj : RE) : RS := fun en env => te env fun d env1 => (∃ xs, env1[i]? = some (.own (.lst xs))) ∧ tj env1 fun j env2 => match env2[i]? with
  | some (.own (.lst xs)) => (match j with
    | .int k => ∃ n, ixN xs.length k = some n ∧ en.nx (env2.set i (.own (.lst (xs.set n d))))
    | _ => False)
  | _ => False
theorem get_list : PGet X (rIxL X.K) := by
  intro pins s σ H x y v u Q I rx ry h
  obtain ⟨p, xs, i, z, rfl, rfl, hq, he, q⟩ := h
  cases rx
  obtain ⟨t, rfl⟩ := ry
  obtain ⟨its, r, pl, hz⟩ := I.list hq
  obtain ⟨j, h1, h2, h3, h4, h5⟩ := atI_get he
  obtain ⟨w, ew, rw'⟩ := r.get h2
  have hl := r.length
  have hn := line63
  have fin : EP X pins σ Q w s := ⟨z, H, I, rw', q⟩
  by_cases h0 : 0 ≤ i
  · have hj : i.toNat = j := by
      rw [seqIndex_of h0 h5] at h1
      exact Option.some.inj h1
    exact wpAny_getItem_list pl.isList h0 (by omega) (by rw [hj]; simpa using ew) fin
  · have hj : (i + (its.toArray.size : Int)).toNat = j := by
      rw [seqIndex_neg (by omega) h4] at h1
      rw [List.size_toArray, ← hl]
      exact Option.some.inj h1
    exact wpAny_getItem_list_neg pl.isList (by omega) (by rw [List.size_toArray] <;> omega) (by omega) (by rw [hj]; simpa using ew) fin
def sAugI (i : Nat) (r : V2) (tj te : RE) : RS := fun en env => (∃ xs, env[i]? = some (.own (.lst xs))) ∧ tj env fun j env1 => match env1[i]? with
  | some (.own (.lst xs)) => (match j with
    | .int k => ∃ d, atI xs k = some d ∧ te env1 fun e env2 => r d e fun z => match env2[i]? with
      | some (.own (.lst ys)) => ∃ n, ixN ys.length k = some n ∧ en.nx (env2.set i (.own (.lst (ys.set n z))))
      | _ => False
    | _ => False)
  | _ => False
theorem qs_augI {o j : Expr} {tj : RE} {r : V2} {op : Operator} {p' : Pos} (ho : L2.PE X o (tVar i)) (hj : QE X bx j tj) (hp : IpQ X op r) (he : QE X bx e te)
    (ha : ∀ ov iv new, augStore j ov iv new = (do holding [new, ov, iv] (setItem ov iv new); release [new, ov, iv] []; pure .next) := by intros; rfl) : QS X bx (.AugAssign (.Subscript o j p') op e pos) (sAugI i r tj te) := ps_imp (ps_augS ho hj get_list he hp set_list ha) fun Dn σ H ⟨env, F, en, R, ⟨⟨xs, hx⟩, ht⟩, k, _⟩ => by
  obtain ⟨a, ho, h1, h2, h3, ⟨vs, rfl, h4⟩⟩ := own_ix R hx
  refine ⟨.ref a, h1, env, F, _, R, ht, fun z w env1 F1 H1 s1 R1 r1 q1 => ?_⟩
  split at q1
  · rename_i ys hy
    obtain ⟨a', ho', f1, f2, f3, ⟨ws, rfl, f4⟩⟩ := own_ix R1 hy
    rw [h1] at f1; cases f1
    split at q1
    · cases r1
      obtain ⟨d, hd, q2⟩ := q1
      obtain ⟨v, hv, rv⟩ := atI_rep f4 hd
      refine ⟨a, ws, _, v, rfl, rfl, .inl (.inl f2), hv, env1, F1, _, R1, q2, fun e w env2 F2 H2 s2 R2 r2 q3 => ⟨F2, d, e, _, R2.sf, Rep.mono s2 _ _ rv, r2, q3, fun z u F3 H3 g r3 q4 => ?_⟩⟩
      split at q4
      · rename_i zs hz
        have R3 := R2.to g
        obtain ⟨a', ho', e1, e2, e3, ⟨us, rfl, e4⟩⟩ := own_ix R3 hz
        rw [h1] at e1; cases e1
        obtain ⟨n, hn, q5⟩ := q4
        exact ⟨a, us, _, n, rfl, rfl, e2, by rw [← e4.length]; exact hn, k _ F3 σ _ ((s1.trans s2).trans g.e) (R3.setOwn hz h1 (growB_upd R3.sf e3) upd_same (ownLst (RepL.set n e4 r3))) q5⟩
      · exact q4.elim
    · exact q1.elim
  · exact q1.elim
end
end QL
set_option Elab.async false
set_option linter.all false
set_option maxRecDepth 100000
namespace QL
open PySem PySem.Spec PyProof.Rows L2
/-! ### what is walked -/
/-- the iterator J gives the data xs, one after another, as long as F0 stands frozen -/
structure Wk (K : PySem.W.Frag) (F0 : Hp) (J : It) (xs : List D) : Prop where
  go : ∀ (i : Nat) (F H : Hp), Same F0 F → Same F H → i < xs.length → J.go i H
  yl : ∀ (i : Nat) (F H : Hp) (v : V) (H' : Hp), Same F0 F → Same F H → i < xs.length → J.yld i H v H' → ∃ F' d, Grow F H F' H' ∧ xs[i]? = some d ∧ Rep K F' d v
  st : ∀ (i : Nat) (F H : Hp), Same F0 F → Same F H → xs.length ≤ i → J.stop i H
theorem wk_tup {K : PySem.W.Frag} {F0 : Hp} {a : Addr} {vs : List V} {xs : List D} (h : SqT K F0 a vs) (r : RepL K F0 xs vs) : Wk K F0 (Itt K a) xs where
  go := fun i F H s1 s2 hi => by
    rw [r.length] at hi
    exact ⟨vs, vs[i], same_sqt s2 (same_sqt s1 h), List.getElem?_eq_getElem hi⟩
  yl := fun i F H v H' s1 s2 hi ⟨e, y⟩ => by
    have hv := y vs (same_sqt s2 (same_sqt s1 h))
    obtain ⟨d, hd, rd⟩ := r.getV hv
    rw [e]
    exact ⟨F, d, Grow.refl s2, hd, Rep.mono s1 _ _ rd⟩
  st := fun i F H s1 s2 hi => ⟨vs, same_sqt s2 (same_sqt s1 h), by rw [← r.length]; exact hi⟩
def rng (lo : Int) (n : Nat) : List D := (List.range n).map fun i => D.int (lo + (i : Nat))
theorem wk_rng {K : PySem.W.Frag} {F0 : Hp} {lo : Int} {n : Nat} : Wk K F0 (Itr lo n) (rng lo n) where
  go := fun i F H s1 s2 hi => by
    have e : (rng lo n).length = n := by simp [rng]
    rw [e] at hi; exact hi
  yl := fun i F H v H' s1 s2 hi ⟨e, y⟩ => by
    have el : (rng lo n).length = n := by simp [rng]
    rw [el] at hi
    rw [e, y]
    refine ⟨F, .int (lo + (i : Nat)), Grow.refl s2, ?_, rfl⟩
    simp [rng, hi]
  st := fun i F H s1 s2 hi => by
    have el : (rng lo n).length = n := by simp [rng]
    rw [el] at hi; exact hi
def enumD (xs : List D) : List D := (List.range xs.length).zipWith (fun (i : Nat) d => D.tup [.int i, d]) xs
def zipD (xs ys : List D) : List D := xs.zipWith (fun d e => D.tup [d, e]) ys
abbrev RI := List Slot → (List D → List Slot → Prop) → Prop
def upI (K : PySem.W.Frag) (bx : Bx) (t : RI) : TI := fun σ H R' => ∃ env F Q, ER K bx F env σ H ∧ t env Q ∧ ∀ xs env' F' H' J, Same F F' → ER K bx F' env' σ H' → Wk K F' J xs → Q xs env' → R' J H'
abbrev QI (X : Cx) (bx : Bx) (tg iter : Expr) (t : RI) : Prop := L2.PI X tg iter (upI X.K bx t)
def itD : D → Option (List D)
  | .lst xs => some xs
  | .tup xs => some xs
  | _ => none
def riL (te : RE) : RI := fun env Q => te env fun d env1 => match d with
  | .lst xs => Q xs env1
  | .scr ns => Q (ns.map D.int) env1
  | _ => False
def riT (te : RE) : RI := fun env Q => te env fun d env1 => match d with
  | .tup xs => Q xs env1
  | _ => False
def riR1 (t : RA) : RI := fun env Q => t env fun ds env1 => match ds with
  | [.int j] => (-(2 ^ 62) ≤ j ∧ j < 2 ^ 62) ∧ Q (rng 0 j.toNat) env1
  | _ => False
def riR2 (t : RA) : RI := fun env Q => t env fun ds env1 => match ds with
  | [.int i, .int j] => (-(2 ^ 62) ≤ i ∧ i < 2 ^ 62 ∧ -(2 ^ 62) ≤ j ∧ j < 2 ^ 62) ∧ Q (rng i (j - i).toNat) env1
  | _ => False
def riE (t : RA) : RI := fun env Q => t env fun ds env1 => match ds with
  | [.lst xs] => Q (enumD xs) env1
  | _ => False
def riZ (t : RA) : RI := fun env Q => t env fun ds env1 => match ds with
  | [.lst xs, .lst ys] => Q (zipD xs ys) env1
  | _ => False
section
variable {X : Cx} {bx : Bx} {e a b tg iter : Expr} {es : List Expr} {te : RE} {t : RA} {pos : Pos}
theorem pi_imp {w w' : TI} (h : L2.PI X tg iter w) (i : ∀ σ H Q, w' σ H Q → w σ H Q) : L2.PI X tg iter w' := ⟨fun pins s σ H R I q => h.run pins s σ H R I (i σ H R q)⟩
theorem qi_l (h : QE X bx e te) : QI X bx tg e (riL te) := pi_imp (pi_list h) fun σ H Q' ⟨env, F, Q, R, ht, k⟩ => ⟨env, F, _, R, ht, fun d v env1 F1 H1 s1 R1 r1 q1 => by
  split at q1
  · obtain ⟨a, vs, rfl, h2, h3⟩ := r1
    exact ⟨a, rfl, ⟨vs, .inl (.inl (R1.sf _ _ h2))⟩, k _ env1 F1 H1 _ s1 R1 ⟨fun i F H s1 s2 hi => by
      rw [h3.length] at hi
      exact ⟨vs, vs[i], .inl (.inl (s2 _ _ (s1 _ _ h2))), List.getElem?_eq_getElem hi⟩, fun i F H v H' s1 s2 hi ⟨e, y⟩ => by
      have hv := y vs (.inl (.inl (s2 _ _ (s1 _ _ h2))))
      obtain ⟨d, hd, rd⟩ := h3.getV hv
      rw [e]
      exact ⟨F, d, Grow.refl s2, hd, Rep.mono s1 _ _ rd⟩, fun i F H s1 s2 hi => ⟨vs, .inl (.inl (s2 _ _ (s1 _ _ h2))), by rw [← h3.length]; exact hi⟩⟩ q1⟩
  · obtain ⟨a, rfl, h2⟩ := r1
    rename_i ns
    have h3 : RepL X.K F1 (ns.map D.int) (ns.map V.int) := RepL.of_ints
    exact ⟨a, rfl, ⟨_, R1.sf.seq h2⟩, k _ env1 F1 H1 _ s1 R1 ⟨fun i F H s1 s2 hi => by
      rw [h3.length] at hi
      exact ⟨_, _, s2.seq (s1.seq h2), List.getElem?_eq_getElem hi⟩, fun i F H v H' s1 s2 hi ⟨e, y⟩ => by
      have hv := y _ (s2.seq (s1.seq h2))
      obtain ⟨d, hd, rd⟩ := h3.getV hv
      rw [e]
      exact ⟨F, d, Grow.refl s2, hd, Rep.mono s1 _ _ rd⟩, fun i F H s1 s2 hi => ⟨_, s2.seq (s1.seq h2), by rw [← h3.length]; exact hi⟩⟩ q1⟩
  · exact q1.elim⟩
theorem qi_t (h : QE X bx e te) : QI X bx tg e (riT te) := pi_imp (pi_tup h) fun σ H Q' ⟨env, F, Q, R, ht, k⟩ => ⟨env, F, _, R, ht, fun d v env1 F1 H1 s1 R1 r1 q1 => by
  split at q1
  · obtain ⟨a, vs, rfl, h2, h3⟩ := r1
    exact ⟨a, rfl, ⟨vs, sqt_of R1.sf h2⟩, k _ env1 F1 H1 _ s1 R1 (wk_tup (sqt0 h2) h3) q1⟩
  · exact q1.elim⟩
theorem qi_r1 {p : Pos} (hg : Gl X "range") (hm : X.mg "range" = none) (ha : QA X bx [a] t) (hs : starEach [a] X.env = [(false, eval a X.env)] := by rfl) : QI X bx tg (.Call (.Name "range" p) [a] [] pos) (riR1 t) := pi_imp (pi_range1 hg hm ha hs) fun σ H Q' ⟨env, F, Q, R, ht, k⟩ => ⟨env, F, _, R, ht, fun ds vs env1 F1 H1 s1 R1 r1 q1 => by
  split at q1
  · obtain ⟨v, r, rfl, rfl, rfl⟩ := r1
    exact ⟨_, rfl, q1.1.1, q1.1.2, k _ env1 F1 H1 _ s1 R1 wk_rng q1.2⟩
  · exact q1.elim⟩
theorem qi_r2 {p : Pos} (hg : Gl X "range") (hm : X.mg "range" = none) (ha : QA X bx [a, b] t) (hs : starEach [a, b] X.env = [(false, eval a X.env), (false, eval b X.env)] := by rfl) (hs2 : starEach [b] X.env = [(false, eval b X.env)] := by rfl) : QI X bx tg (.Call (.Name "range" p) [a, b] [] pos) (riR2 t) := pi_imp (pi_range2 hg hm ha hs hs2) fun σ H Q' ⟨env, F, Q, R, ht, k⟩ => ⟨env, F, _, R, ht, fun ds vs env1 F1 H1 s1 R1 r1 q1 => by
  split at q1
  · obtain ⟨v, w, rfl, rfl, rfl⟩ := RepL.two r1
    exact ⟨_, _, rfl, q1.1, k _ env1 F1 H1 _ s1 R1 wk_rng q1.2⟩
  · exact q1.elim⟩
/-! ### for -/
def forR (g : RG) (tb : RS) (en : PEnds) : List D → List Slot → Prop
  | [], env => en.nx env
  | x :: xs, env => g x env fun env1 => tb { en with nx := forR g tb en xs, ct := forR g tb en xs, bk := en.nx } env1
def sFor (ti : RI) (g : RG) (tb : RS) : RS := fun en env => ti env fun xs env1 => forR g tb en xs env1
theorem qs_for {body : List Stmt} {ti : RI} {g : RG} {tb : RS} (hp : PassesOwn (model X.prog X.w) X.A X.env X.xe) (hc : X.calm = true) (hi : QI X bx tg iter ti) (hg : QG X bx anyP tg g) (hb : QSs X bx body tb)
    (hs : ∀ x, foldedSetIterable iter X.env x = pure x := by intro _; rfl) : QS X bx (.For tg iter body [] pos) (sFor ti g tb) := ps_imp (ps_for hp hc hi hg hb hs) fun Dn σ H ⟨env, F, en, R, ht, k1, k2, k3, k4⟩ =>
  ⟨env, F, _, R, ht, fun xs env1 F1 H1 J s1 R1 wk q1 => by
    refine ⟨fun i m σ' H' => m = xs.length - i ∧ i ≤ xs.length ∧ ∃ env' F', Same F1 F' ∧ ER X.K bx F' env' σ' H' ∧ forR g tb en (xs.drop i) env', ⟨xs.length, rfl, Nat.zero_le _, env1, F1, Same.refl _, R1, q1⟩, ?_⟩
    rintro i m σ' H' ⟨rfl, hi, env', F', s', R', q'⟩
    by_cases hlt : i < xs.length
    · refine .inr ⟨wk.go i F' H' s' R'.sf hlt, fun σ2 H2 => ∃ env2 F2, Same F' F2 ∧ ER X.K bx F2 env2 σ2 H2 ∧ forR g tb en (xs.drop (i + 1)) env2, fun σ2 H2 ⟨env2, F2, s2, R2, q2⟩ => ⟨xs.length - (i + 1), by omega, rfl, hlt, env2, F2, s'.trans s2, R2, q2⟩, fun x H2 hy => ?_⟩
      obtain ⟨F2, d, gr, hd, rd⟩ := wk.yl i F' H' x H2 s' R'.sf hlt hy
      have ed : xs.drop i = d :: xs.drop (i + 1) := by
        rw [List.drop_eq_getElem_cons hlt]
        congr 1
        rw [List.getElem?_eq_getElem hlt] at hd
        exact Option.some.inj hd
      rw [ed] at q'
      refine ⟨env', F2, d, _, R'.to gr, rd, q', fun env3 F3 σ3 H3 s3 R3 _ q3 => ⟨env3, F3, _, R3, q3, fun env4 F4 σ4 H4 s4 R4 q4 => ⟨env4, F4, (gr.e.trans s3).trans s4, R4, q4⟩, fun d v env4 F4 σ4 H4 s4 => k2 d v env4 F4 σ4 H4 ((((s1.trans s').trans gr.e).trans s3).trans s4),
        fun env4 F4 σ4 H4 s4 => k1 env4 F4 σ4 H4 ((((s1.trans s').trans gr.e).trans s3).trans s4), fun env4 F4 σ4 H4 s4 R4 q4 => ⟨env4, F4, (gr.e.trans s3).trans s4, R4, q4⟩⟩⟩
    · have e : i = xs.length := by omega
      subst e
      rw [List.drop_length] at q'
      exact .inl ⟨wk.st _ F' H' s' R'.sf (Nat.le_refl _), k1 env' F' σ' H' (s1.trans s') R' q'⟩⟩
/-! ### while -/
def sWhl (c : RB) (tb : RS) : RS := fun en env => ∃ W : Nat → List Slot → Prop, (∃ m, W m env) ∧ ∀ m env1, W m env1 → c env1 fun b env2 => if b = true then
  tb { en with nx := fun env3 => ∃ m', m' < m ∧ W m' env3, ct := fun env3 => ∃ m', m' < m ∧ W m' env3, bk := en.nx } env2 else en.nx env2
end
end QL
set_option Elab.async false
set_option linter.all false
set_option maxRecDepth 100000
namespace QL
open PySem PySem.Spec PyProof.Rows L2
/-! ### comprehensions -/
def wipeE : List Nat → List Slot → List Slot
  | [], env => env
  | i :: is, env => (wipeE is env).set i .un
def getS : List Slot → Nat → Slot
  | [], _ => .un
  | s :: _, 0 => s
  | _ :: l, n + 1 => getS l n
def putS : List Slot → Nat → Slot → List Slot
  | [], _, _ => []
  | _ :: l, 0, t => t :: l
  | s :: l, n + 1, t => s :: putS l n t
theorem putS_eq : ∀ (l : List Slot) (i : Nat) (s : Slot), l.set i s = putS l i s
  | [], _, _ => rfl
  | _ :: _, 0, _ => rfl
  | a :: l, n + 1, s => by show a :: l.set n s = a :: putS l n s; rw [putS_eq l n s]
theorem getS_eq : ∀ (l : List Slot) (i : Nat), getS l i = match l[i]? with | some s => s | none => .un
  | [], _ => rfl
  | _ :: _, 0 => rfl
  | _ :: l, n + 1 => getS_eq l n
theorem getS_some {l : List Slot} {i : Nat} (h : i < l.length) : l[i]? = some (getS l i) := by
  rw [getS_eq, List.getElem?_eq_getElem h]
/-- the slots in is as they were -/
def backE : List Nat → List Slot → List Slot → List Slot
  | [], _, env => env
  | i :: is, old, env => putS (backE is old env) i (getS old i)
def noOwn : List Nat → List Slot → Bool
  | [], _ => true
  | i :: is, env => (match env[i]? with | some (.own _) => false | _ => true) && noOwn is env
def lcR (g : RG) (tt : RB) (te : RE) (is : List Nat) : List D → List D → List Slot → (List D → List Slot → Prop) → Prop
  | [], acc, env, Q => Q acc env
  | x :: xs, acc, env, Q => g x env fun env1 => tt env1 fun b env2 => if b = true then te env2 fun d env3 => acc.length < sizeLine ∧ lcR g tt te is xs (acc ++ [d]) (wipeE is env3) Q else lcR g tt te is xs acc (wipeE is env2) Q
def rLc (ti : RI) (g : RG) (tt : RB) (te : RE) (is : List Nat) : RE := fun env Q => ti env fun xs env1 => noOwn is env1 = true ∧ lcR g tt te is xs [] (wipeE is env1) fun acc env2 => Q (.lst acc) (backE is env1 env2)
theorem wipeE_len (is : List Nat) (env : List Slot) : (wipeE is env).length = env.length := by
  induction is with
  | nil => rfl
  | cons i is ih => unfold wipeE; rw [List.length_set, ih]
theorem wipeE_get : ∀ {is : List Nat} {env : List Slot} {j : Nat} {s : Slot}, (wipeE is env)[j]? = some s → s = .un ∨ (j ∉ is ∧ env[j]? = some s)
  | [], env, j, s, h => .inr ⟨by simp, h⟩
  | i :: is, env, j, s, h => by
    unfold wipeE at h
    rcases set_some h with ⟨_, e, _⟩ | ⟨hne, h⟩
    · exact .inl e.symm
    · rcases wipeE_get h with e | ⟨h1, h2⟩
      · exact .inl e
      · exact .inr ⟨fun m => (List.mem_cons.mp m).elim (fun z => hne z.symm) h1, h2⟩
theorem wipe_len (σ : L2.St) (is : List Nat) : (wipe σ is).length = σ.length := wipe_length σ is
section
variable {K : PySem.W.Frag} {bx : Bx} {F H : Hp} {env : List Slot} {σ : L2.St}
theorem ER.wipe {is : List Nat} (R : ER K bx F env σ H) (h0 : bx.io = none ∨ 0 ∉ is) : ER K bx F (wipeE is env) (wipe σ is) H := by
  have un : ∀ {j : Nat} {d : D}, (wipeE is env)[j]? = some (.own d) → j ∉ is ∧ env[j]? = some (.own d) := fun {j d} h => by
    rcases wipeE_get h with e | h
    · cases e
    · exact h
  refine ⟨R.sb, R.sf, by rw [wipeE_len, wipe_len]; exact R.len, fun j s hj => ?_, fun j k d e a hj hk sj sk => ?_, fun c hc => ?_, R.f0, R.fz⟩
  · rcases wipeE_get hj with e | ⟨h1, h2⟩
    · subst e
      have hl := (List.getElem?_eq_some_iff.mp hj).1
      rw [wipeE_len, R.len, ← wipe_len σ is] at hl
      exact ⟨_, List.getElem?_eq_getElem hl, trivial⟩
    · obtain ⟨o, h3, h4⟩ := R.slots j s h2
      exact ⟨o, by rw [wipe_out h1]; exact h3, h4⟩
  · obtain ⟨j1, j2⟩ := un hj
    obtain ⟨k1, k2⟩ := un hk
    rw [wipe_out j1] at sj
    rw [wipe_out k1] at sk
    exact R.sep j k d e a j2 k2 sj sk
  · obtain ⟨h1, d, h2⟩ := R.io c hc
    have n0 : 0 ∉ is := h0.elim (fun z => by rw [z] at hc; cases hc) id
    refine ⟨by rw [wipe_out n0]; exact h1, d, ?_⟩
    have : ∀ is : List Nat, 0 ∉ is → (wipeE is env)[0]? = env[0]? := by
      intro is
      induction is with
      | nil => intro _; rfl
      | cons i is ih =>
        intro hn
        unfold wipeE
        rw [List.getElem?_set_ne (fun z => hn (by rw [z]; exact List.mem_cons_self)), ih (fun z => hn (List.mem_cons_of_mem _ z))]
    rw [this is n0]; exact h2
/-- within a turn: slots forgotten again -/
theorem ER.wipe2 {is : List Nat} {σ2 : L2.St} (R : ER K bx F env σ2 H) (h0 : bx.io = none ∨ 0 ∉ is) (e : L2.wipe σ2 is = L2.wipe σ is) : ER K bx F (wipeE is env) (L2.wipe σ is) H := by
  rw [← e]
  exact R.wipe h0
/-- the object at D is held besides -/
def Bx.hold (bx : Bx) (Dd : Addr) (o : HO) : Bx := ⟨upd bx.B Dd o, bx.io, bx.F0⟩
theorem ER.hold {Dd : Addr} {o : HO} (R : ER K bx F env σ H) (hn : H Dd = none) : ER K (bx.hold Dd o) F env σ (upd H Dd o) := by
  refine ⟨same_updb R.sb, same_upd2 R.sf (R.sf.free hn), R.len, fun j s hj => ?_, R.sep, R.io, R.f0, fun a k1 k2 => ?_⟩
  rotate_left
  · by_cases e : a = Dd
    · subst e; exact R.sf.free hn
    · obtain ⟨x, k2, k3⟩ := k2
      have k2' : upd bx.B Dd o a = some x := k2
      rw [upd_ne e] at k2'
      exact R.fz a k1 ⟨x, k2', k3⟩
  obtain ⟨q, h1, h2⟩ := R.slots j s hj
  refine ⟨q, h1, ?_⟩
  cases s with
  | un => trivial
  | val d => exact h2
  | own d =>
    obtain ⟨a, ho, h3, h4, h5, h6, h7⟩ := h2
    have na : a ≠ Dd := fun z => by rw [z, hn] at h6; cases h6
    exact ⟨a, ho, h3, h4, by show upd bx.B Dd o a = none; rw [upd_ne na]; exact h5, by rw [upd_ne na]; exact h6, h7⟩
theorem ER.heldF {Dd : Addr} {o : HO} (R : ER K (bx.hold Dd o) F env σ H) (h0 : bx.F0 Dd = none) (ht : ∀ vs, o ≠ .tup vs) : F Dd = none := R.fz Dd h0 ⟨o, by show upd bx.B Dd o Dd = some o; rw [upd_same], ht⟩
theorem ER.rehold {Dd : Addr} {o o' : HO} (R : ER K (bx.hold Dd o) F env σ H) (h0 : bx.F0 Dd = none) (ht : ∀ vs, o ≠ .tup vs) : ER K (bx.hold Dd o') F env σ (upd H Dd o') := by
  have e : upd (upd bx.B Dd o) Dd o' = upd bx.B Dd o' := upd_upd
  refine ⟨fun b q z => ?_, same_upd2 R.sf (R.heldF h0 ht), R.len, fun j s hj => ?_, R.sep, R.io, R.f0, fun a k1 k2 => R.fz a k1 ?_⟩
  rotate_left 2
  · obtain ⟨x, k2, k3⟩ := k2
    have k2' : upd bx.B Dd o' a = some x := k2
    by_cases e : a = Dd
    · subst e; exact ⟨o, by show upd bx.B a o a = some o; rw [upd_same], ht⟩
    · rw [upd_ne e] at k2'
      exact ⟨x, by show upd bx.B Dd o a = some x; rw [upd_ne e]; exact k2', k3⟩
  · by_cases hb : b = Dd
    · subst hb; have z' : upd bx.B b o' b = some q := z; rw [upd_same] at z' ⊢; exact z'
    · have z' : upd bx.B Dd o' b = some q := z
      rw [upd_ne hb] at z' ⊢
      exact R.sb b q (by show upd bx.B Dd o b = some q; rw [upd_ne hb]; exact z')
  · obtain ⟨q, h1, h2⟩ := R.slots j s hj
    refine ⟨q, h1, ?_⟩
    cases s with
    | un => trivial
    | val d => exact h2
    | own d =>
      obtain ⟨a, ho, h3, h4, h5, h6, h7⟩ := h2
      have h5' : upd bx.B Dd o a = none := h5
      have na : a ≠ Dd := fun z => by rw [z, upd_same] at h5'; cases h5'
      rw [upd_ne na] at h5'
      exact ⟨a, ho, h3, h4, by show upd bx.B Dd o' a = none; rw [upd_ne na]; exact h5', by rw [upd_ne na]; exact h6, h7⟩
theorem ER.held {Dd : Addr} {o : HO} (R : ER K (bx.hold Dd o) F env σ H) : H Dd = some o := R.sb Dd o (by show upd bx.B Dd o Dd = some o; exact upd_same)
theorem ER.unhold {Dd : Addr} {o : HO} (R : ER K (bx.hold Dd o) F env σ H) (hb : bx.B Dd = none) : ER K bx F env σ H ∧ ∀ (i : Nat) d, env[i]? = some (.own d) → σ[i]? ≠ some (some (.ref Dd)) := by
  refine ⟨⟨fun b q z => R.sb b q (by show upd bx.B Dd o b = some q; rw [upd_ne (fun e => by rw [e, hb] at z; cases z)]; exact z), R.sf, R.len, fun j s hj => ?_, R.sep, R.io, R.f0, fun a k1 k2 => R.fz a k1 (by
    obtain ⟨x, k2, k3⟩ := k2
    exact ⟨x, by show upd bx.B Dd o a = some x; rw [upd_ne (fun e => by rw [e, hb] at k2; cases k2)]; exact k2, k3⟩)⟩, fun i d hi hs => ?_⟩
  · obtain ⟨q, h1, h2⟩ := R.slots j s hj
    refine ⟨q, h1, ?_⟩
    cases s with
    | un => trivial
    | val d => exact h2
    | own d =>
      obtain ⟨a, ho, h3, h4, h5, h6, h7⟩ := h2
      have h5' : upd bx.B Dd o a = none := h5
      have na : a ≠ Dd := fun z => by rw [z, upd_same] at h5'; cases h5'
      rw [upd_ne na] at h5'
      exact ⟨a, ho, h3, h4, h5', h6, h7⟩
  · obtain ⟨q, h1, a, ho, h3, h4, h5, h6, h7⟩ := R.slots i _ hi
    rw [hs] at h1; cases h1; cases h3
    have h5' : upd bx.B Dd o Dd = none := h5
    rw [upd_same] at h5'; cases h5'
theorem backE_len (is : List Nat) (old env : List Slot) : (backE is old env).length = env.length := by
  induction is with
  | nil => rfl
  | cons i is ih =>
    unfold backE
    rw [← putS_eq, List.length_set, ih]
theorem backE_get : ∀ {is : List Nat} {old env : List Slot} {j : Nat} {s : Slot}, old.length = env.length → (backE is old env)[j]? = some s → (j ∈ is ∧ old[j]? = some s) ∨ env[j]? = some s
  | [], _, _, _, _, _, h => .inr h
  | i :: is, old, env, j, s, hl, h => by
    unfold backE at h
    rw [← putS_eq] at h
    rcases set_some h with ⟨rfl, rfl, hi⟩ | ⟨_, h⟩
    · rw [backE_len, ← hl] at hi
      exact .inl ⟨List.mem_cons_self, getS_some hi⟩
    · rcases backE_get hl h with ⟨a, b⟩ | a
      · exact .inl ⟨List.mem_cons_of_mem _ a, b⟩
      · exact .inr a
theorem noOwn_get : ∀ {is : List Nat} {env : List Slot} {j : Nat} {d : D}, noOwn is env = true → j ∈ is → env[j]? ≠ some (.own d)
  | [], _, _, _, _, h => by simp at h
  | i :: is, env, j, d, h, hj => fun e => by
    unfold noOwn at h
    have h' := Bool.and_eq_true_iff.mp h
    rcases List.mem_cons.mp hj with rfl | hj
    · rw [e] at h'; cases h'.1
    · exact noOwn_get h'.2 hj e
/-- behind a comprehension -/
theorem ER.back {is : List Nat} {F' H' : Hp} {env' : List Slot} (R : ER K bx F env σ H) (R' : ER K bx F' env' (L2.wipe σ is) H') (sF : Same F F') (hn : noOwn is env = true) (h0 : bx.io = none ∨ 0 ∉ is) (hu : ∀ (j : Nat) (s : Slot), j ∈ is → env'[j]? = some s → s = .un) : ER K bx F' (backE is env env') σ H' := by
  have hlen : env.length = env'.length := by rw [R.len, R'.len, wipe_len]
  have own : ∀ {j : Nat} {d : D}, (backE is env env')[j]? = some (.own d) → j ∉ is ∧ env'[j]? = some (.own d) := fun {j d} h => by
    rcases backE_get hlen h with ⟨a, b⟩ | a
    · exact absurd b (noOwn_get hn a)
    · exact ⟨fun z => (by cases hu j _ z a), a⟩
  refine ⟨R'.sb, R'.sf, by rw [backE_len, R'.len, wipe_len], fun j s hj => ?_, fun j k d e a hj hk sj sk => ?_, fun c hc => ?_, R'.f0, R'.fz⟩
  · rcases backE_get hlen hj with ⟨h1, h2⟩ | h2
    · obtain ⟨o, h3, h4⟩ := R.slots j s h2
      refine ⟨o, h3, ?_⟩
      cases s with
      | un => trivial
      | val d => obtain ⟨v, h5, h6⟩ := h4; exact ⟨v, h5, Rep.mono sF _ _ h6⟩
      | own d => exact absurd h2 (noOwn_get hn h1)
    · by_cases hm : j ∈ is
      · have e := hu j s hm h2
        subst e
        have hl := (List.getElem?_eq_some_iff.mp h2).1
        rw [R'.len, wipe_len] at hl
        exact ⟨_, List.getElem?_eq_getElem hl, trivial⟩
      · obtain ⟨o, h3, h4⟩ := R'.slots j s h2
        exact ⟨o, by rw [wipe_out hm] at h3; exact h3, h4⟩
  · obtain ⟨j1, j2⟩ := own hj
    obtain ⟨k1, k2⟩ := own hk
    exact R'.sep j k d e a j2 k2 (by rw [wipe_out j1]; exact sj) (by rw [wipe_out k1]; exact sk)
  · obtain ⟨h1, _⟩ := R.io c hc
    obtain ⟨_, d, h2⟩ := R'.io c hc
    refine ⟨h1, d, ?_⟩
    have n0 : 0 ∉ is := h0.elim (fun z => by rw [z] at hc; cases hc) id
    have : ∀ is : List Nat, 0 ∉ is → (backE is env env')[0]? = env'[0]? := by
      intro is
      induction is with
      | nil => intro _; rfl
      | cons i is ih =>
        intro hn
        unfold backE
        rw [← putS_eq, List.getElem?_set_ne (fun z => hn (by rw [z]; exact List.mem_cons_self)), ih (fun z => hn (List.mem_cons_of_mem _ z))]
    rw [this is n0]; exact h2
end
theorem wipeE_un : ∀ {is : List Nat} {env : List Slot} {j : Nat} {s : Slot}, j ∈ is → (wipeE is env)[j]? = some s → s = .un := fun {is env j s} hj h => by
  rcases wipeE_get h with e | ⟨h1, _⟩
  · exact e
  · exact absurd hj h1
section
variable {X : Cx} {bx : Bx} {tg iter elt : Expr} {ifs : List Expr} {pos : Pos} {ti : RI} {g : RG} {tt : RB} {te : RE}
abbrev QTs (X : Cx) (bx : Bx) (ifs : List Expr) (t : RB) : Prop := L2.PTs X ifs (upT X.K bx t)
def rYes : RB := fun env Q => Q true env
theorem qts_nil : QTs X bx [] rYes := ⟨fun pins s σ H Q I ⟨env, F, Q', R, ht, k⟩ => pts_nil.run pins s σ H Q I (k true env F H (Same.refl _) R ht)⟩
/-- what the block of a comprehension is proved over -/
abbrev BlkX (X : Cx) (s : Shared) (H : Hp) (scope : Scope) (C : Addr) (cl : List (Str × Addr)) (fp : List Addr) : Cx := X.blk s H scope (compEnvC scope cl C X.env) fp
/-- the rules of the block's parts: for every context of the block, and whatever is held -/
abbrev QGb (X : Cx) (bx : Bx) (P : Nat → Prop) (tg : Expr) (scope : Scope) (g : RG) : Prop := ∀ (B : Hp) (s : Shared) (H : Hp) (C : Addr) (cl : List (Str × Addr)) (fp : List Addr), QG (BlkX X s H scope C cl fp) ⟨B, bx.io, bx.F0⟩ P tg g
abbrev QTb (X : Cx) (bx : Bx) (ifs : List Expr) (scope : Scope) (t : RB) : Prop := ∀ (B : Hp) (s : Shared) (H : Hp) (C : Addr) (cl : List (Str × Addr)) (fp : List Addr), QTs (BlkX X s H scope C cl fp) ⟨B, bx.io, bx.F0⟩ ifs t
abbrev QEb (X : Cx) (bx : Bx) (e : Expr) (scope : Scope) (t : RE) : Prop := ∀ (B : Hp) (s : Shared) (H : Hp) (C : Addr) (cl : List (Str × Addr)) (fp : List Addr), QE (BlkX X s H scope C cl fp) ⟨B, bx.io, bx.F0⟩ e t
def anyG (K : PySem.W.Frag) (io : Option Addr) (F0 : Hp) (P : Nat → Prop) (g : RG) : TG := fun v σ H Q => ∃ B, upG K ⟨B, io, F0⟩ P g v σ H Q
def anyT (K : PySem.W.Frag) (io : Option Addr) (F0 : Hp) (t : RB) : TT := fun σ H Q => ∃ B, upT K ⟨B, io, F0⟩ t σ H Q
def anyE (K : PySem.W.Frag) (io : Option Addr) (F0 : Hp) (t : RE) : TE := fun σ H Q => ∃ B, up K ⟨B, io, F0⟩ t σ H Q
theorem wipe_in {σ : L2.St} {i : Nat} : ∀ {is : List Nat}, i ∈ is → i < σ.length → (L2.wipe σ is)[i]? = some none
  | [], h, _ => by simp at h
  | v :: vs, h, hl => by
    unfold L2.wipe
    by_cases e : v = i
    · subst e; rw [List.getElem?_set_self (by rw [wipe_len]; exact hl)]
    · rw [List.getElem?_set_ne e]; exact wipe_in ((List.mem_cons.mp h).resolve_left fun z => e z.symm) hl
theorem wipe_only {σ σ' : L2.St} {is : List Nat} (o : Only' (· ∈ is) σ σ') : L2.wipe σ' is = L2.wipe σ is := by
  apply List.ext_getElem?
  intro j
  by_cases hj : j ∈ is
  · by_cases hl : j < σ.length
    · rw [wipe_in hj hl, wipe_in hj (by rw [o.1]; exact hl)]
    · rw [List.getElem?_eq_none (by rw [wipe_len, o.1]; omega), List.getElem?_eq_none (by rw [wipe_len]; omega)]
  · rw [wipe_out hj, wipe_out hj, o.2 j hj]
theorem wipe_wipe {σ : L2.St} {is : List Nat} : L2.wipe (L2.wipe σ is) is = L2.wipe σ is := wipe_only ⟨wipe_len σ is, fun j hj => wipe_out hj⟩
theorem lc_up {is : List Nat} (h0 : bx.io = none ∨ 0 ∉ is) {σ : L2.St} {H : Hp} {Q' : VK}
    (h : upN X.K bx (rLc ti g tt te is) σ H Q') : tLc (upI X.K bx ti) (anyG X.K bx.io bx.F0 (· ∈ is) g) (anyT X.K bx.io bx.F0 tt) (anyE X.K bx.io bx.F0 te) is σ H Q' := by
  obtain ⟨env, F, Q, R, ht, k⟩ := h
  refine ⟨env, F, _, R, ht, fun xs env1 F1 H1 J s1 R1 wk ⟨hn, q1⟩ => ?_⟩
  intro Dd hD
  have bD : bx.B Dd = none := R1.sb.free hD
  have fD : F1 Dd = none := R1.sf.free hD
  have fD0 : bx.F0 Dd = none := R1.f0.free fD
  refine ⟨fun i m H' => m = xs.length - i ∧ i ≤ xs.length ∧ ∃ env' F' acc accV, Same F1 F' ∧ RepL X.K F' acc accV ∧ ER X.K (bx.hold Dd (.lst accV)) F' env' (L2.wipe σ is) H' ∧ (∀ (j : Nat) (s : Slot), j ∈ is → env'[j]? = some s → s = .un) ∧
    lcR g tt te is (xs.drop i) acc env' fun acc env2 => Q (.lst acc) (backE is env1 env2), ⟨xs.length, rfl, Nat.zero_le _, _, F1, [], [], Same.refl _, rfl, (R1.wipe h0).hold hD, fun j s => wipeE_un, q1⟩, ?_⟩
  rintro i m H' ⟨rfl, hi, env', F', acc, accV, s', ra, R', hu, q'⟩
  by_cases hlt : i < xs.length
  · refine .inr ⟨wk.go i F' H' s' R'.sf hlt, fun H2 => ∃ env2 F2 acc accV, Same F' F2 ∧ RepL X.K F2 acc accV ∧ ER X.K (bx.hold Dd (.lst accV)) F2 env2 (L2.wipe σ is) H2 ∧ (∀ (j : Nat) (s : Slot), j ∈ is → env2[j]? = some s → s = .un) ∧
      lcR g tt te is (xs.drop (i + 1)) acc env2 fun acc env2 => Q (.lst acc) (backE is env1 env2),
      fun H2 ⟨env2, F2, acc2, accV2, s2, ra2, R2, hu2, q2⟩ => ⟨xs.length - (i + 1), by omega, rfl, hlt, env2, F2, acc2, accV2, s'.trans s2, ra2, R2, hu2, q2⟩, fun x H2 hy => ?_⟩
    obtain ⟨F2, d, gr, hd, rd⟩ := wk.yl i F' H' x H2 s' R'.sf hlt hy
    have ed : xs.drop i = d :: xs.drop (i + 1) := by
      rw [List.drop_eq_getElem_cons hlt]
      congr 1
      rw [List.getElem?_eq_getElem hlt] at hd
      exact Option.some.inj hd
    rw [ed] at q'
    refine ⟨(bx.hold Dd (.lst accV)).B, ?_⟩
    refine ⟨env', F2, d, _, R'.to gr, rd, q', fun env4 F4 σ4 H4 s4 R4 o4 q4 => ?_⟩
    have ew' : L2.wipe σ4 is = L2.wipe σ is := (wipe_only o4).trans wipe_wipe
    refine ⟨ew'.trans wipe_wipe.symm |>.trans wipe_wipe, (bx.hold Dd (.lst accV)).B, env4, F4, _, R4, q4, fun b env5 F5 H5 s5 R5 q5 => ?_⟩
    cases b with
    | false =>
      rw [if_neg Bool.false_ne_true] at q5 ⊢
      exact ⟨_, F5, acc, accV, (gr.e.trans s4).trans s5, RepL.mono ((gr.e.trans s4).trans s5) _ _ ra, R5.wipe2 h0 ew', fun j s => wipeE_un, q5⟩
    | true =>
      rw [if_pos rfl] at q5 ⊢
      refine ⟨(bx.hold Dd (.lst accV)).B, env5, F5, _, R5, q5, fun d2 v2 env6 F6 H6 s6 R6 r6 q6 => ?_⟩
      have sA := ((gr.e.trans s4).trans s5).trans s6
      exact ⟨accV, R6.held, by rw [← ra.length]; exact q6.1, _, F6, acc ++ [d2], accV ++ [v2], sA, RepL.append (RepL.mono sA _ _ ra) (RepL.one r6), (ER.wipe2 R6 h0 ew').rehold fD0 (fun us z => by cases z), fun j s => wipeE_un, q6.2⟩
  · have e : i = xs.length := by omega
    subst e
    rw [List.drop_length] at q'
    refine .inl ⟨wk.st _ F' H' s' R'.sf (Nat.le_refl _), ?_⟩
    obtain ⟨R2, no⟩ := R'.unhold bD
    have Rb := R1.back R2 s' hn h0 hu
    refine k (.lst acc) Dd (.lst accV) _ F' H' (s1.trans s') Rb ⟨R'.heldF fD0 (fun us z => by cases z), bD, ⟨_, R'.held, fun us z => by cases z⟩, fun j d hj sj => ?_⟩ R'.held (ownLst ra) q'
    rcases backE_get (by rw [R1.len, R'.len, wipe_len]) hj with ⟨a, b⟩ | a
    · exact noOwn_get hn a b
    · by_cases hm : j ∈ is
      · cases hu j _ hm a
      · exact no j d a (by rw [wipe_out hm]; exact sj)

theorem blk_g {P : Nat → Prop} {scope : Scope} {e : Expr} {g : RG} (h : QGb X bx P e scope g) (s : Shared) (H : Hp) (C : Addr) (cl : List (Str × Addr)) (fp : List Addr) : L2.PG (BlkX X s H scope C cl fp) e (anyG X.K bx.io bx.F0 P g) :=
  ⟨fun pins s' σ H' v u Q I r ⟨B, q⟩ => (h B s H C cl fp).run pins s' σ H' v u Q I r q⟩
theorem blk_t {scope : Scope} {ifs : List Expr} {t : RB} (h : QTb X bx ifs scope t) (s : Shared) (H : Hp) (C : Addr) (cl : List (Str × Addr)) (fp : List Addr) : L2.PTs (BlkX X s H scope C cl fp) ifs (anyT X.K bx.io bx.F0 t) :=
  ⟨fun pins s' σ H' Q I ⟨B, q⟩ => (h B s H C cl fp).run pins s' σ H' Q I q⟩
theorem blk_e {scope : Scope} {e : Expr} {t : RE} (h : QEb X bx e scope t) (s : Shared) (H : Hp) (C : Addr) (cl : List (Str × Addr)) (fp : List Addr) : L2.PE (BlkX X s H scope C cl fp) e (anyE X.K bx.io bx.F0 t) :=
  ⟨fun pins s' σ H' Q I ⟨B, q⟩ => (h B s H C cl fp).run pins s' σ H' Q I q⟩
theorem q_lcN {scope : Scope} {own : List (Str × Nat)} (hc : X.calm = true) (hN : X.N.Nodup) (h0 : bx.io = none ∨ 0 ∉ own.map (·.2)) (hi : QI X bx tg iter ti) (ok : BlkOk X.N X.env.scope scope own)
    (hg : QGb X bx (· ∈ own.map (·.2)) tg scope g) (ht : QTb X bx ifs scope tt) (he : QEb X bx elt scope te) (hs : ∀ x, foldedSetIterable iter X.env x = pure x := by intro _; rfl) :
    QN X bx (.ListComp elt [⟨tg, iter, ifs, 0⟩] scope pos) (rLc ti g tt te (own.map (·.2))) := pe_imp (pe_lc hc hN hi ok (blk_g hg) (blk_t ht) (blk_e he) hs) fun σ H Q' h => lc_up h0 h
def sOwnLc (i : Nat) (te : RE) : RS := sOwn i te
theorem qs_setLc {i : Nat} {y : Str} {py : Pos} {spos : Pos} {scope : Scope} {own : List (Str × Nat)} (hc : X.calm = true) (hN : X.N.Nodup) (hy : X.N[i]? = some y) (hyl : X.env.scope.names.lookup y = some .local) (hio : bx.io = none ∨ i ≠ 0) (h0 : bx.io = none ∨ 0 ∉ own.map (·.2))
    (hsw : swapsWith (.ListComp elt [⟨tg, iter, ifs, 0⟩] scope pos) (some (.Name y py)) spos.line X.env = pure true) (hi : QI X bx tg iter ti) (ok : BlkOk X.N X.env.scope scope own)
    (hg : QGb X bx (· ∈ own.map (·.2)) tg scope g) (ht : QTb X bx ifs scope tt) (he : QEb X bx elt scope te) (hs : ∀ x, foldedSetIterable iter X.env x = pure x := by intro _; rfl) :
    QS X bx (.Assign [.Name y py] (.ListComp elt [⟨tg, iter, ifs, 0⟩] scope pos) spos) (sAsg (rLc ti g tt te (own.map (·.2))) (rgN i)) := ps_imp (ps_setLc hc hN hy hyl hsw hi ok (blk_g hg) (blk_t ht) (blk_e he) hs) fun Dn σ H ⟨env, F, en, R, ht, k, _⟩ =>
  lc_up h0 ⟨env, F, _, R, ht, fun d p ho env1 F1 H1 s1 R1 l hp o q1 => k _ (upd F1 p ho) _ H1 (s1.trans (same_upd l.f)) ((R1.freeze l hp).setVal hio (OwnH.rep l.f o)) q1⟩
end

/-! ### a def by its body -/
section
variable {P : Program} {w : World} {K : PySem.W.Frag} {mg : Str → Option Value} {base : Heap}
def envA (N : List Str) (ds : List D) : List Slot := ds.map .val ++ List.replicate (N.length - ds.length) .un
theorem er_start {N : List Str} {F H : Hp} {ds : List D} {vs : List V} (s : Same F H) (r : RepL K F ds vs) : ER K ⟨H, none, F⟩ F (envA N ds) (L2.start N vs) H := by
  have hl := r.length
  have old : ∀ (i : Nat) (sl : Slot), (envA N ds)[i]? = some sl → (∃ d, ds[i]? = some d ∧ sl = .val d) ∨ (ds.length ≤ i ∧ i < N.length ∧ sl = .un) := fun i sl h => by
    unfold envA at h
    by_cases hi : i < ds.length
    · rw [List.getElem?_append_left (by simpa using hi), List.getElem?_map] at h
      rw [List.getElem?_eq_getElem hi] at h ⊢
      exact .inl ⟨_, rfl, (Option.some.inj h).symm⟩
    · rw [List.getElem?_append_right (by simpa using hi), List.getElem?_replicate] at h
      split at h
      · rename_i hlt
        rw [List.length_map] at hlt
        exact .inr ⟨by omega, by omega, (Option.some.inj h).symm⟩
      · cases h
  refine ⟨Same.refl _, s, (by unfold envA L2.start; simp [hl]), fun i sl h => ?_, fun i j d e a hi _ _ _ => ?_, (fun a h => nomatch h), Same.refl _, fun a h _ => h⟩
  · rcases old i sl h with ⟨d, hd, rfl⟩ | ⟨h1, h2, rfl⟩
    · obtain ⟨v, hv, rv⟩ := r.get hd
      have hi : i < vs.length := (List.getElem?_eq_some_iff.mp hv).1
      refine ⟨some v, ?_, v, rfl, rv⟩
      unfold L2.start
      rw [List.getElem?_append_left (by simpa using hi), List.getElem?_map, hv]
      rfl
    · refine ⟨none, ?_, trivial⟩
      unfold L2.start
      rw [List.getElem?_append_right (by simp; omega), List.getElem?_replicate, if_pos (by simp; omega)]
  · rcases old i _ hi with ⟨d, _, z⟩ | ⟨_, _, z⟩
    · cases z
    · cases z
theorem ER.grown {bx : Bx} {F' H' : Hp} {env : List Slot} {σ : L2.St} (R : ER K bx F' env σ H') : Grow bx.F0 bx.B F' H' := ⟨R.f0, R.sf, R.sb, R.fz⟩
/-- a def that changes nothing of its caller's -/
theorem fnA {x qual : Str} {st : Stmt} {f : Addr} {fd : FuncData} {N ps : List Str} {k : Nat} {S : FA} (Fn : Fun K x qual st f fd) (Sc : FnScope N ps (defScope st))
    (hbody : ∀ (cdv : Value) (A : Around) (outer : List Env) (s : Shared) (H F0 : Hp) (E : XK) (EX : D → Prop), Room k (A.deeper (envOfC qual (defScope st) s.heap.objs.size f cdv)) →
      Takes (cxOf (L2.CX P w) P w K mg base N qual (defScope st) f cdv A outer s H E) (WEx K ⟨H, none, F0⟩ fun ed _ => EX ed) →
      ∃ t, QSs (cxOf (L2.CX P w) P w K mg base N qual (defScope st) f cdv A outer s H E) ⟨H, none, F0⟩ (defBody st) t ∧ ∀ ds Q, ds.length = ps.length → S ds Q EX → t { nx := fun _ => Q .non, rt := fun d _ => Q d } (envA N ds)) :
    FnOk P w K mg base (L2.CX P w) (k + 1) f fd ps (spA K ps.length S) := by
  refine Fn.okX Sc (fun vs H Q E ⟨F, ds, _, _, hn, _, r, _⟩ => by rw [← r.length]; exact hn) (fun cdv A outer s H vs Q' E' hr ⟨F, ds, Q, E, hn, sm, r, h, g, gx⟩ => ?_)
  obtain ⟨t, ht, hq⟩ := hbody cdv A outer s H F E' E hr ((takes_of rfl rfl rfl rfl : Takes (cxOf (L2.CX P w) P w K mg base N qual (defScope st) f cdv A outer s H E') (fun cls d _ H => E' cls d H)).imp fun cls d σ H' ⟨env, F', ed, R, rx, ex⟩ => gx ed cls d F' H' R.grown rx ex)
  refine ⟨_, ht, envA N ds, F, _, er_start sm r, hq ds Q hn h, fun env' F' σ' H' s' R' q => g .non .non F' H' R'.grown rfl q, fun d v env' F' σ' H' s' R' rd q => g d v F' H' R'.grown rd q, fun _ _ _ _ _ _ z => z.elim, fun _ _ _ _ _ _ z => z.elim⟩
end
end QL
set_option Elab.async false
set_option linter.all false
set_option maxRecDepth 100000
namespace QL
open PySem PySem.Spec PyProof.Rows L2
/-! ### built-in functions -/
def vLen : VL
  | [.lst xs], Q => Q (.int xs.length)
  | [.tup xs], Q => Q (.int xs.length)
  | [.scr xs], Q => Q (.int xs.length)
  | [.str x], Q => x.length ≤ sizeLine ∧ Q (.int x.length)
  | _, _ => False
def vAbs : VL
  | [.int i], Q => Q (.int (if i < 0 then -i else i))
  | _, _ => False
def vInt : VL
  | [.int i], Q => Q (.int i)
  | [.bl b], Q => Q (.int (if b then 1 else 0))
  | _, _ => False
def vBool : VL
  | [.int i], Q => Q (.bl (i != 0))
  | [.bl b], Q => Q (.bl b)
  | _, _ => False
def allInts : List D → Option (List Int)
  | [] => some []
  | .int i :: r => (allInts r).map (i :: ·)
  | _ => none
def allBls : List D → Option (List Bool)
  | [] => some []
  | .bl i :: r => (allBls r).map (i :: ·)
  | _ => none
theorem allInts_map : ∀ ns : List Int, allInts (ns.map D.int) = some ns
  | [] => rfl
  | n :: r => by simp only [List.map, allInts, allInts_map r, Option.map]
theorem allInts_eq : ∀ {xs : List D} {ns : List Int}, allInts xs = some ns → xs = ns.map D.int
  | [], _, h => by cases h; rfl
  | .int i :: r, ns, h => by
    simp only [allInts, Option.map_eq_some_iff] at h
    obtain ⟨z, hz, rfl⟩ := h
    rw [allInts_eq hz]; rfl
  | .non :: _, _, h => nomatch h
  | .bl _ :: _, _, h => nomatch h
  | .str _ :: _, _, h => nomatch h
  | .raw _ :: _, _, h => nomatch h
  | .scr _ :: _, _, h => nomatch h
  | .tup _ :: _, _, h => nomatch h
  | .lst _ :: _, _, h => nomatch h
  | .dic _ _ :: _, _, h => nomatch h
  | .dct _ _ :: _, _, h => nomatch h
  | .obj _ _ _ :: _, _, h => nomatch h
def vSum : VL
  | [.lst xs], Q => ∃ ns, allInts xs = some ns ∧ Q (.int ns.sum)
  | _, _ => False
def vMax : VL
  | [.int i, .int j], Q => Q (.int (if j > i then j else i))
  | [.lst xs], Q => ∃ ns, allInts xs = some ns ∧ 0 < ns.length ∧ ∀ m, m ∈ ns → (∀ y, y ∈ ns → y ≤ m) → Q (.int m)
  | _, _ => False
def vMin : VL
  | [.int i, .int j], Q => Q (.int (if j < i then j else i))
  | [.lst xs], Q => ∃ ns, allInts xs = some ns ∧ 0 < ns.length ∧ ∀ m, m ∈ ns → (∀ y, y ∈ ns → m ≤ y) → Q (.int m)
  | _, _ => False
def vAll : VL
  | [.lst xs], Q => ∃ ns, allBls xs = some ns ∧ Q (.bl (ns.all id))
  | _, _ => False
def vAny : VL
  | [.lst xs], Q => ∃ ns, allBls xs = some ns ∧ Q (.bl (ns.any id))
  | _, _ => False
def vList : VL
  | [.lst xs], Q => Q (.lst xs)
  | [.tup xs], Q => Q (.lst xs)
  | _, _ => False
def vTuple : VL
  | [.lst xs], Q => Q (.tup xs)
  | [.tup xs], Q => Q (.tup xs)
  | _, _ => False
def tyN : D → Option String
  | .non => some "NoneType"
  | .bl _ => some "bool"
  | .int _ => some "int"
  | .str _ => some "str"
  | .scr _ => some "list"
  | .tup _ => some "tuple"
  | .lst _ => some "list"
  | .dic _ _ => some "dict"
  | .dct _ _ => some "dict"
  | _ => none
/-- isinstance(d, a built-in class) -/
def vIsiB : VL
  | [d, .raw (.ty n)], Q => ∃ t b, tyN d = some t ∧ kitB t n = some b ∧ Q (.bl b)
  | _, _ => False
section
variable {X : Cx}
theorem qc_len : CallR X (.builtin "len") (upVL X.K vLen) := by
  intro pins s σ H xs us Q' I r ⟨F, ds, Q, sm, rl, h, g⟩
  unfold vLen at h
  split at h
  · obtain ⟨v, _, rfl, ⟨a, vs, rfl, h2, h3⟩, rfl⟩ := rl
    exact call_len pins s σ H _ us Q' I r ⟨_, _, rfl, .inl ⟨vs, .inl (.inl (sm _ _ h2)), rfl⟩, by rw [← h3.length]; exact g.i sm h⟩
  · obtain ⟨v, _, rfl, ⟨a, vs, rfl, h2, h3⟩, rfl⟩ := rl
    exact call_len pins s σ H _ us Q' I r ⟨_, _, rfl, .inr ⟨vs, sqt_of sm h2, rfl⟩, by rw [← h3.length]; exact g.i sm h⟩
  · obtain ⟨v, _, rfl, ⟨a, rfl, h2⟩, rfl⟩ := rl
    exact call_len pins s σ H _ us Q' I r ⟨_, _, rfl, .inl ⟨_, sm.seq h2, rfl⟩, by rw [List.length_map]; exact g.i sm h⟩
  · obtain ⟨v, _, rfl, rfl, rfl⟩ := rl
    exact call_len pins s σ H _ us Q' I r ⟨_, _, rfl, ⟨h.1, rfl⟩, g.i sm h.2⟩
  · exact h.elim
theorem qc_int : CallR X (.type "int") (upVL X.K vInt) := by
  intro pins s σ H xs us Q' I r ⟨F, ds, Q, sm, rl, h, g⟩
  unfold vInt at h
  split at h
  · obtain ⟨v, _, rfl, rfl, rfl⟩ := rl
    exact call_int1 pins s σ H _ us Q' I r (.inl ⟨_, rfl, g.i sm h⟩)
  · obtain ⟨v, _, rfl, rfl, rfl⟩ := rl
    exact call_int1 pins s σ H _ us Q' I r (.inr ⟨_, rfl, g.i sm h⟩)
  · exact h.elim
theorem qc_max (hc : X.calm = true) : CallR X (.builtin "max") (upVL X.K vMax) := by
  intro pins s σ H xs us Q' I r ⟨F, ds, Q, sm, rl, h, g⟩
  unfold vMax at h
  split at h
  · obtain ⟨v, w, rfl, rfl, rfl⟩ := RepL.two rl
    exact call_max2 hc pins s σ H _ us Q' I r ⟨_, _, rfl, g.i sm h⟩
  · obtain ⟨v, _, rfl, ⟨a, vs, rfl, h2, h3⟩, rfl⟩ := rl
    obtain ⟨ns, hn, h0, q⟩ := h
    rw [allInts_eq hn] at h3
    rw [h3.ints] at h2
    exact cr_max hc pins s σ H _ us Q' I r ⟨a, ns, rfl, .inl (.inl (sm _ _ h2)), h0, fun m h1 h2 => g.i sm (q m h1 h2)⟩
  · exact h.elim
theorem qc_min (hc : X.calm = true) : CallR X (.builtin "min") (upVL X.K vMin) := by
  intro pins s σ H xs us Q' I r ⟨F, ds, Q, sm, rl, h, g⟩
  unfold vMin at h
  split at h
  · obtain ⟨v, w, rfl, rfl, rfl⟩ := RepL.two rl
    exact call_min2 hc pins s σ H _ us Q' I r ⟨_, _, rfl, g.i sm h⟩
  · obtain ⟨v, _, rfl, ⟨a, vs, rfl, h2, h3⟩, rfl⟩ := rl
    obtain ⟨ns, hn, h0, q⟩ := h
    rw [allInts_eq hn] at h3
    rw [h3.ints] at h2
    exact cr_min hc pins s σ H _ us Q' I r ⟨a, ns, rfl, .inl (.inl (sm _ _ h2)), h0, fun m h1 h2 => g.i sm (q m h1 h2)⟩
  · exact h.elim
theorem tyx_of {K : PySem.W.Frag} {F H : Hp} (s : Same F H) : ∀ {d : D} {v : V} {n : String}, tyN d = some n → Rep K F d v → TyX K H v (.type n)
  | .non, _, _, e, r => by cases e; rw [show _ = V.non from r]; exact .base .non
  | .bl b, _, _, e, r => by cases e; rw [show _ = V.bl b from r]; exact .base (.bl b)
  | .int b, _, _, e, r => by cases e; rw [show _ = V.int b from r]; exact .base (.int b)
  | .str b, _, _, e, r => by cases e; rw [show _ = V.str b from r]; exact .base (.str b)
  | .scr ns, _, _, e, ⟨a, h1, h2⟩ => by
    cases e; rw [h1]
    rcases h2 with (h2 | ⟨o, h2⟩) | ⟨o, _, _, h2, h3, _⟩
    · exact .base (.lst (s _ _ h2))
    · exact .base (.frz (s _ _ h2))
    · exact .kList h2 h3
  | .tup xs, _, _, e, ⟨a, vs, h1, h2, h3⟩ => by cases e; rw [h1]; exact .base (.tup (s _ _ h2))
  | .lst xs, _, _, e, ⟨a, vs, h1, h2, h3⟩ => by cases e; rw [h1]; exact .base (.lst (s _ _ h2))
  | .dic ks xs, _, _, e, ⟨a, h1, kvs, h2, _⟩ => by cases e; rw [h1]; exact .base (.dK (s _ _ h2))
  | .dct ks xs, _, _, e, ⟨a, h1, kvs, h2, _⟩ => by cases e; rw [h1]; exact .base (.dT (s _ _ h2))
  | .raw _, _, _, e, _ => nomatch e
  | .obj _ _ _, _, _, e, _ => nomatch e
theorem qc_isiB : CallR X (.builtin "isinstance") (upVL X.K vIsiB) := by
  intro pins s σ H xs us Q' I r ⟨F, ds, Q, sm, rl, h, g⟩
  unfold vIsiB at h
  split at h
  · obtain ⟨v, w, rfl, rv, rfl⟩ := RepL.two rl
    obtain ⟨t, b, ht, hb, q⟩ := h
    exact call_isi pins s σ H _ us Q' I r ⟨v, _, _, _, b, rfl, .ty _, tyx_of sm ht rv, kit_ty hb, g.b sm q⟩
  · exact h.elim
end
section
variable {X : Cx} {bx : Bx} {e : Expr}
/-- a built-in's name as a value -/
theorem q_raw {v : V} (h : L2.PE X e (tC v)) : QE X bx e (rC (.raw v)) := q_con h fun _ _ => rfl
end
section
variable {P : Program} {w : World} {K : PySem.W.Frag} {mg : Str → Option Value} {base : Heap}
/-- a def (or method) that changes the object in its first place -/
def envB (N : List Str) (d0 : D) (ds : List D) : List Slot := .own d0 :: (ds.map .val ++ List.replicate (N.length - (ds.length + 1)) .un)
def minus (H : Hp) (a : Addr) : Hp := fun b => if b = a then none else H b
theorem er_startB {N : List Str} {F H : Hp} {a : Addr} {ho : HO} {d0 : D} {ds : List D} {vs : List V} (s : Same F H) (hf : F a = none) (ha : H a = some ho) (o : OwnH K F d0 ho) (r : RepL K F ds vs) : ER K ⟨minus H a, some a, F⟩ F (envB N d0 ds) (L2.start N (.ref a :: vs)) H := by
  have hl := r.length
  have old : ∀ (i : Nat) (sl : Slot), (envB N d0 ds)[i]? = some sl → (i = 0 ∧ sl = .own d0) ∨ (∃ j d, i = j + 1 ∧ ds[j]? = some d ∧ sl = .val d) ∨ (ds.length + 1 ≤ i ∧ i < N.length ∧ sl = .un) := fun i sl h => by
    unfold envB at h
    cases i with
    | zero => exact .inl ⟨rfl, (Option.some.inj h).symm⟩
    | succ j =>
      have h : (ds.map Slot.val ++ List.replicate (N.length - (ds.length + 1)) Slot.un)[j]? = some sl := h
      by_cases hi : j < ds.length
      · rw [List.getElem?_append_left (by simpa using hi), List.getElem?_map] at h
        rw [List.getElem?_eq_getElem hi] at h
        exact .inr (.inl ⟨j, ds[j], rfl, List.getElem?_eq_getElem hi, (Option.some.inj h).symm⟩)
      · rw [List.getElem?_append_right (by simpa using hi), List.getElem?_replicate] at h
        split at h
        · rename_i hlt
          rw [List.length_map] at hlt
          exact .inr (.inr ⟨by omega, by omega, (Option.some.inj h).symm⟩)
        · cases h
  refine ⟨fun b q z => ?_, s, (by unfold envB L2.start; simp [hl]), fun i sl h => ?_, fun i j d e c hi hj _ _ => ?_, (fun c h => ?_), Same.refl _, fun b h _ => h⟩
  · have z' : (if b = a then none else H b) = some q := z
    split at z'
    · cases z'
    · exact z'
  · rcases old i sl h with ⟨rfl, rfl⟩ | ⟨j, d, rfl, hd, rfl⟩ | ⟨h1, h2, rfl⟩
    · exact ⟨some (.ref a), rfl, a, ho, rfl, hf, if_pos rfl, ha, o⟩
    · obtain ⟨v, hv, rv⟩ := r.get hd
      have hi : j < vs.length := (List.getElem?_eq_some_iff.mp hv).1
      refine ⟨some v, ?_, v, rfl, rv⟩
      unfold L2.start
      show ((vs.map some) ++ _)[j]? = _
      rw [List.getElem?_append_left (by simpa using hi), List.getElem?_map, hv]
      rfl
    · refine ⟨none, ?_, trivial⟩
      unfold L2.start
      rw [List.getElem?_append_right (by simp; omega), List.getElem?_replicate, if_pos (by simp; omega)]
  · rcases old i _ hi with ⟨z, _⟩ | ⟨_, d, _, _, z⟩ | ⟨_, _, z⟩
    · rcases old j _ hj with ⟨z2, _⟩ | ⟨_, d, _, _, z⟩ | ⟨_, _, z⟩
      · rw [z, z2]
      · cases z
      · cases z
    · cases z
    · cases z
  · cases h
    exact ⟨rfl, d0, rfl⟩
/-- what slot 0 owns -/
def own0 (env : List Slot) (P : D → Prop) : Prop := match env[(0 : Nat)]? with
  | some (.own d) => P d
  | _ => False
theorem own0_of {env : List Slot} {P : D → Prop} (h : own0 env P) : ∃ d, env[(0 : Nat)]? = some (.own d) ∧ P d := by
  unfold own0 at h
  split at h
  · rename_i d hd
    exact ⟨d, hd, h⟩
  · exact h.elim
theorem fnB {x qual : Str} {st : Stmt} {f : Addr} {fd : FuncData} {N ps : List Str} {k n : Nat} {M : FB} (Fn : Fun K x qual st f fd) (Sc : FnScope N ps (defScope st)) (hps : ps.length = n + 1)
    (hbody : ∀ (cdv : Value) (A : Around) (outer : List Env) (s : Shared) (H B F0 : Hp) (a : Addr) (E : XK) (EX : D → D → Prop), Room k (A.deeper (envOfC qual (defScope st) s.heap.objs.size f cdv)) →
      Takes (cxOf (L2.CX P w) P w K mg base N qual (defScope st) f cdv A outer s H E) (WEx K ⟨B, some a, F0⟩ fun ed env => own0 env (EX ed)) →
      ∃ t, QSs (cxOf (L2.CX P w) P w K mg base N qual (defScope st) f cdv A outer s H E) ⟨B, some a, F0⟩ (defBody st) t ∧ ∀ d0 ds Q, ds.length = n → M d0 ds Q EX →
        t { nx := fun env => own0 env (Q .non), rt := fun d env => own0 env (Q d) } (envB N d0 ds)) :
    FnOk P w K mg base (L2.CX P w) (k + 1) f fd ps (spB K n M) := by
  refine Fn.okX Sc (fun vs H Q E ⟨F, a, ho, d0, ds, ws, _, _, hn, e, _, _, _, _, r, _⟩ => by rw [e, List.length_cons, ← r.length, hn, hps]) (fun cdv A outer s H vs Q' E' hr ⟨F, a, ho, d0, ds, ws, Q, E, hn, ev, sm, hf, ha, o, r, h, g, gx⟩ => ?_)
  subst ev
  have fin : ∀ {F' H' : Hp} {env : List Slot} {σ : L2.St} {d' : D}, ER K ⟨minus H a, some a, F⟩ F' env σ H' → env[0]? = some (.own d') → ∃ ho', GrowB a F H F' H' ∧ H' a = some ho' ∧ OwnH K F' d' ho' := fun {F' H' env σ d'} R h0 => by
    obtain ⟨p, ho', h1, h2, h3, h4⟩ := own_ix R h0
    obtain ⟨k1, _⟩ := R.io a rfl
    rw [k1] at h1; cases h1
    refine ⟨ho', ⟨R.f0, R.sf, fun b q z hb => R.sb b q (by show (if b = a then none else H b) = some q; rw [if_neg hb]; exact z), fun b z1 z2 => ?_⟩, h2, h4⟩
    by_cases hb : b = a
    · rw [hb]; exact h3
    · obtain ⟨x, z3, z4⟩ := z2
      exact R.fz b z1 ⟨x, by show (if b = a then none else H b) = some x; rw [if_neg hb]; exact z3, z4⟩
  obtain ⟨t, ht, hq⟩ := hbody cdv A outer s H (minus H a) F a E' E hr ((takes_of rfl rfl rfl rfl : Takes (cxOf (L2.CX P w) P w K mg base N qual (defScope st) f cdv A outer s H E') (fun cls d _ H => E' cls d H)).imp fun cls d σ H' ⟨env, F', ed, R, rx, ex⟩ => by
    obtain ⟨d', hd', ex⟩ := own0_of ex
    obtain ⟨ho', g1, g2, g3⟩ := fin R hd'
    exact gx ed cls d d' ho' F' H' g1 g2 g3 rx ex)
  refine ⟨_, ht, envB N d0 ds, F, _, er_startB sm hf ha o r, hq d0 ds Q hn h, fun env' F' σ' H' s' R' q => ?_, fun d v env' F' σ' H' s' R' rd q => ?_, fun _ _ _ _ _ _ z => z.elim, fun _ _ _ _ _ _ z => z.elim⟩
  · obtain ⟨d', hd', q⟩ := own0_of q
    obtain ⟨ho', g1, g2, g3⟩ := fin R' hd'
    exact g .non .non d' ho' F' H' g1 g2 g3 rfl q
  · obtain ⟨d', hd', q⟩ := own0_of q
    obtain ⟨ho', g1, g2, g3⟩ := fin R' hd'
    exact g d v d' ho' F' H' g1 g2 g3 rd q
end
end QL
namespace QL
open PySem PySem.Spec PyProof.Rows L2
theorem bt_len : bootBuiltins "len" = some (.builtin "len") := by decide +kernel
theorem bt_max : bootBuiltins "max" = some (.builtin "max") := by decide +kernel
theorem bt_min : bootBuiltins "min" = some (.builtin "min") := by decide +kernel
theorem bt_isinstance : bootBuiltins "isinstance" = some (.builtin "isinstance") := by decide +kernel
theorem bt_int : bootBuiltins "int" = some (.type "int") := by decide +kernel
theorem bt_bool : bootBuiltins "bool" = some (.type "bool") := by decide +kernel
theorem qs_nev {X : Cx} {bx : Bx} {st : Stmt} : QS X bx st sNever := ps_imp ps_never fun Dn σ H ⟨env, F, en, R, ht, _⟩ => ht
end QL
set_option Elab.async false
set_option linter.all false
set_option maxRecDepth 100000
namespace QL
open PySem PySem.Spec PyProof.Rows L2
/-! ### the readings, step by step -/
def bq (d : D) (Q : Bool → Prop) : Prop := match d with
  | .bl k => Q k
  | _ => False
def valQ (s : Slot) (Q : D → Prop) : Prop := match s with
  | .val d => Q d
  | _ => False
def ownQ (s : Slot) (Q : D → Prop) : Prop := match s with
  | .own d => Q d
  | _ => False
def anyQ (s : Slot) (Q : D → Prop) (Q' : D → Prop) : Prop := match s with
  | .val d => Q d
  | .own d => Q' d
  | _ => False
def trq (d : D) (P : Bool → Prop) : Prop := match truD d with
  | some k => P k
  | none => False
section
variable {env : List Slot} {Q : D → List Slot → Prop} {QB : Bool → List Slot → Prop} {QM : List D → List Slot → Prop} {Q0 : D → Prop} {d e : D} {i j : Nat} {ta tb tc : RE} {r r' : V2} {u : V1} {vl : VL} {t : RA} {c c' : RB} {en : PEnds} {ts us : RS} {g : RG} {gs : RGs} {EX : XD} {S : FA} {M : FB} {n : Nat}
theorem e_own0 {l : List Slot} {P : D → Prop} : own0 (.own d :: l) P = P d := rfl
theorem e_c : rC d env Q = Q d env := rfl
theorem e_var : rVar i env Q = valQ (getS env i) fun d => Q d env := by
  unfold rVar; rw [getS_eq]
  cases env[i]? with
  | none => rfl
  | some s => cases s <;> rfl
theorem e_valQ {P : D → Prop} : valQ (.val d) P = P d := rfl
theorem e_ownQ {P : D → Prop} : ownQ (.own d) P = P d := rfl
theorem e_anyV {P P' : D → Prop} : anyQ (.val d) P P' = P d := rfl
theorem e_anyO {P P' : D → Prop} : anyQ (.own d) P P' = P' d := rfl
theorem e_get0 {s : Slot} {l : List Slot} : getS (s :: l) 0 = s := rfl
theorem e_getS {s : Slot} {l : List Slot} : getS (s :: l) (n + 1) = getS l n := rfl
theorem e_put0 {s s' : Slot} {l : List Slot} : putS (s :: l) 0 s' = s' :: l := rfl
theorem e_putS {s s' : Slot} {l : List Slot} : putS (s :: l) (n + 1) s' = s :: putS l n s' := rfl
def notOwn : Slot → Bool
  | .own _ => false
  | _ => true
theorem e_noN {env : List Slot} : noOwn [] env = true := rfl
theorem e_noC {is : List Nat} {env : List Slot} : noOwn (i :: is) env = (notOwn (getS env i) && noOwn is env) := by
  show ((match env[i]? with | some (.own _) => false | _ => true) && noOwn is env) = _
  rw [getS_eq]
  cases env[i]? with
  | none => rfl
  | some s => cases s <;> rfl
theorem e_noU : notOwn .un = true := rfl
theorem e_noV : notOwn (.val d) = true := rfl
theorem e_wipN {env : List Slot} : wipeE [] env = env := rfl
theorem e_wipC {is : List Nat} {env : List Slot} : wipeE (i :: is) env = putS (wipeE is env) i .un := by show (wipeE is env).set i .un = _; rw [putS_eq]
theorem e_bakN {old env : List Slot} : backE [] old env = env := rfl
theorem e_bakC {is : List Nat} {old env : List Slot} : backE (i :: is) old env = putS (backE is old env) i (getS old i) := rfl
theorem e_ownN {α β : Type} {f : α → β} : List.map f [] = [] := rfl
theorem e_op : rOp r ta tb env Q = ta env fun d env1 => tb env1 fun e env2 => r d e fun z => Q z env2 := rfl
theorem e_un : rUn u ta env Q = ta env fun d env1 => u d fun z => Q z env1 := rfl
theorem e_tst : rTst ta env QB = ta env fun d env1 => bq d fun k => QB k env1 := rfl
theorem e_bq {k : Bool} {P : Bool → Prop} : bq (.bl k) P = P k := rfl
theorem e_tru : rTru ta env QB = ta env fun d env1 => trq d fun k => QB k env1 := rfl
theorem e_notT : rNotT c env QB = c env fun b env1 => QB (!b) env1 := rfl
theorem e_andT : rAndT c c' env QB = c env fun b env1 => if b = true then c' env1 QB else QB false env1 := rfl
theorem e_orT : rOrT c c' env QB = c env fun b env1 => if b = true then QB true env1 else c' env1 QB := rfl
theorem e_and : rAnd ta tb env Q = ta env fun d env1 => trq d fun k => (if k = true then tb env1 Q else Q d env1) := rfl
theorem e_or : rOr ta tb env Q = ta env fun d env1 => trq d fun k => (if k = true then Q d env1 else tb env1 Q) := rfl
theorem e_not : rNot ta env Q = ta env fun d env1 => trq d fun k => Q (.bl (!k)) env1 := rfl
theorem e_tqB {k : Bool} {P : Bool → Prop} : trq (.bl k) P = P k := rfl
theorem e_tqI {k : Int} {P : Bool → Prop} : trq (.int k) P = P (k != 0) := rfl
theorem e_tqN {P : Bool → Prop} : trq .non P = P false := rfl
theorem e_tqL {xs : List D} {P : Bool → Prop} : trq (.lst xs) P = P (!xs.isEmpty) := rfl
theorem e_tqT {xs : List D} {P : Bool → Prop} : trq (.tup xs) P = P (!xs.isEmpty) := rfl
theorem e_if : rIf c ta tb env Q = c env fun b env1 => if b = true then ta env1 Q else tb env1 Q := rfl
theorem e_nil : rNil env QM = QM [] env := rfl
theorem e_cons : rCons ta t env QM = ta env fun d env1 => t env1 fun ds env2 => QM (d :: ds) env2 := rfl
theorem e_tup : rTup t env Q = t env fun ds env1 => ds.length ≤ sizeLine ∧ Q (.tup ds) env1 := rfl
theorem e_lst : rLst t env Q = t env fun ds env1 => ds.length ≤ sizeLine ∧ Q (.lst ds) env1 := rfl
theorem e_ixO : rIxO i tb env Q = ownQ (getS env i) fun _ => tb env fun j env1 => ownQ (getS env1 i) fun d => vIx d j fun z => Q z env1 := by
  unfold rIxO; rw [getS_eq]
  cases h : env[i]? with
  | none =>
    show _ = False
    exact propext ⟨fun ⟨⟨d, z⟩, _⟩ => (by cases z), fun z => z.elim⟩
  | some s =>
    cases s with
    | un => exact propext ⟨fun ⟨⟨d, z⟩, _⟩ => (by cases z), fun z => z.elim⟩
    | val d => exact propext ⟨fun ⟨⟨d, z⟩, _⟩ => (by cases z), fun z => z.elim⟩
    | own d =>
      have e : (fun (j : D) (env1 : List Slot) => match env1[i]? with | some (.own d) => vIx d j fun z => Q z env1 | _ => False) = fun j env1 => ownQ (getS env1 i) fun d => vIx d j fun z => Q z env1 := by
        funext j env1
        rw [getS_eq]
        cases env1[i]? with
        | none => rfl
        | some s => cases s <;> rfl
      exact propext ⟨fun ⟨_, z⟩ => by rw [← e]; exact z, fun z => ⟨⟨d, rfl⟩, by rw [← e] at z; exact z⟩⟩
theorem e_call : rCall S n EX t env Q = t env fun ds env1 => ds.length = n ∧ S ds (fun d => Q d env1) fun ed => EX ed env1 := rfl
theorem e_callM : rCallM i M n EX t env Q = ownQ (getS env i) fun _ => t env fun ds env1 => ownQ (getS env1 i) fun d0 => ds.length = n ∧ M d0 ds (fun d d' => Q d (putS env1 i (.own d'))) fun ed d' => EX ed (putS env1 i (.own d')) := by
  unfold rCallM; rw [getS_eq]
  have e : (fun (ds : List D) (env1 : List Slot) => match env1[i]? with | some (.own d0) => ds.length = n ∧ M d0 ds (fun d d' => Q d (env1.set i (.own d'))) (fun ed d' => EX ed (env1.set i (.own d'))) | _ => False) = fun ds env1 => ownQ (getS env1 i) fun d0 => ds.length = n ∧ M d0 ds (fun d d' => Q d (putS env1 i (.own d'))) fun ed d' => EX ed (putS env1 i (.own d')) := by
    funext ds env1
    rw [getS_eq]
    cases env1[i]? with
    | none => rfl
    | some s => cases s <;> first | rfl | (simp only [putS_eq]; rfl)
  cases h : env[i]? with
  | none => exact propext ⟨fun ⟨⟨d, z⟩, _⟩ => (by cases z), fun z => z.elim⟩
  | some s =>
    cases s with
    | un => exact propext ⟨fun ⟨⟨d, z⟩, _⟩ => (by cases z), fun z => z.elim⟩
    | val d => exact propext ⟨fun ⟨⟨d, z⟩, _⟩ => (by cases z), fun z => z.elim⟩
    | own d => exact propext ⟨fun ⟨_, z⟩ => by rw [← e]; exact z, fun z => ⟨⟨d, rfl⟩, by rw [← e] at z; exact z⟩⟩
theorem e_cb : rCB vl t env Q = t env fun ds env1 => vl ds fun z => Q z env1 := rfl
theorem e_snil : sNil en env = en.nx env := rfl
theorem e_seq : sSeq ts us en env = ts { en with nx := fun env' => us en env' } env := rfl
theorem e_asg : sAsg ta g en env = ta env fun d env1 => g d env1 en.nx := rfl
theorem e_own : sOwn i ta en env = ta env fun d env1 => en.nx (putS env1 i (.own d)) := by unfold sOwn; simp only [putS_eq]
theorem e_drop : sDrop ta en env = ta env fun _ env1 => en.nx env1 := rfl
theorem e_ret : sRet ta en env = ta env en.rt := rfl
theorem e_retN : sRetN en env = en.rt .non env := rfl
theorem e_sif : sIf c ts us en env = c env fun b env1 => if b = true then ts en env1 else us en env1 := rfl
theorem e_brk : sBrk en env = en.bk env := rfl
theorem e_cnt : sCnt en env = en.ct env := rfl
theorem e_nev : sNever en env = False := rfl
theorem e_gn {P : List Slot → Prop} : rgN i d env P = P (putS env i (.val d)) := by unfold rgN; rw [putS_eq]
theorem e_gnil {P : List Slot → Prop} : rgNil [] env P = P env := by unfold rgNil; exact propext ⟨fun h => h.2, fun h => ⟨rfl, h⟩⟩
theorem e_gcons {P : List Slot → Prop} {ds : List D} : rgCons g gs (d :: ds) env P = g d env fun env1 => gs ds env1 P := rfl
theorem e_gt {P : List Slot → Prop} {xs : List D} : rgT n gs (.tup xs) env P = (xs.length = n ∧ gs xs env P) := rfl
theorem e_par : sPar i j t en env = t env fun ds env1 => match ds with | [d, e] => en.nx (putS (putS env1 i (.val d)) j (.val e)) | _ => False := by unfold sPar; simp only [putS_eq]; try rfl
def lstQ (d : D) (Q : List D → Prop) : Prop := match d with
  | .lst xs => Q xs
  | _ => False
theorem e_lstQ {xs : List D} {P : List D → Prop} : lstQ (.lst xs) P = P xs := rfl
def intQ (d : D) (Q : Int → Prop) : Prop := match d with
  | .int i => Q i
  | _ => False
theorem e_intQ {k : Int} {P : Int → Prop} : intQ (.int k) P = P k := rfl
theorem e_augI {r : V2} {tj te : RE} : sAugI i r tj te en env = ownQ (getS env i) fun d => lstQ d fun _ => tj env fun j env1 => ownQ (getS env1 i) fun e => lstQ e fun xs => intQ j fun k => ∃ d, atI xs k = some d ∧ te env1 fun e env2 => r d e fun z => ownQ (getS env2 i) fun f => lstQ f fun ys => ∃ n, ixN ys.length k = some n ∧ en.nx (putS env2 i (.own (.lst (ys.set n z)))) := by
  unfold sAugI; rw [getS_eq]
  have e : (fun (j : D) (env1 : List Slot) => match env1[i]? with
  | some (.own (.lst xs)) => (match j with
    | .int k => ∃ d, atI xs k = some d ∧ te env1 fun e env2 => r d e fun z => match env2[i]? with
      | some (.own (.lst ys)) => ∃ n, ixN ys.length k = some n ∧ en.nx (env2.set i (.own (.lst (ys.set n z))))
      | _ => False
    | _ => False)
  | _ => False) = fun j env1 => ownQ (getS env1 i) fun e => lstQ e fun xs => intQ j fun k => ∃ d, atI xs k = some d ∧ te env1 fun e env2 => r d e fun z => ownQ (getS env2 i) fun f => lstQ f fun ys => ∃ n, ixN ys.length k = some n ∧ en.nx (putS env2 i (.own (.lst (ys.set n z)))) := by
    funext j env1
    rw [getS_eq]
    cases env1[i]? with
    | none => rfl
    | some s =>
      cases s with
      | un => rfl
      | val _ => rfl
      | own z =>
        cases z with
        | lst xs =>
          cases j with
          | int k =>
            show (∃ d, atI xs k = some d ∧ te env1 fun e env2 => r d e fun z => match env2[i]? with
      | some (.own (.lst ys)) => ∃ n, ixN ys.length k = some n ∧ en.nx (env2.set i (.own (.lst (ys.set n z))))
      | _ => False) = ∃ d, atI xs k = some d ∧ te env1 fun e env2 => r d e fun z => ownQ (getS env2 i) fun f => lstQ f fun ys => ∃ n, ixN ys.length k = some n ∧ en.nx (putS env2 i (.own (.lst (ys.set n z))))
            congr 1; funext d; congr 1; congr 1; funext e env2; congr 1; funext z
            rw [getS_eq]
            cases env2[i]? with
            | none => rfl
            | some s =>
              cases s with
              | un => rfl
              | val _ => rfl
              | own z => cases z <;> first | rfl | (simp only [putS_eq]; rfl)
          | _ => rfl
        | _ => rfl
  cases h : env[i]? with
  | none => exact propext ⟨fun ⟨⟨d, z⟩, _⟩ => (by cases z), fun z => z.elim⟩
  | some s =>
    cases s with
    | un => exact propext ⟨fun ⟨⟨d, z⟩, _⟩ => (by cases z), fun z => z.elim⟩
    | val d => exact propext ⟨fun ⟨⟨d, z⟩, _⟩ => (by cases z), fun z => z.elim⟩
    | own d =>
      cases d with
      | lst xs => exact propext ⟨fun ⟨_, z⟩ => by rw [← e]; exact z, fun z => ⟨⟨xs, rfl⟩, by rw [← e] at z; exact z⟩⟩
      | _ => exact propext ⟨fun ⟨⟨d, z⟩, _⟩ => (by cases z), fun z => z.elim⟩
/-! loops -/
theorem e_for {ti : RI} {tb : RS} : sFor ti g tb en env = ti env fun xs env1 => forR g tb en xs env1 := rfl
theorem e_forN {tb : RS} : forR g tb en [] env = en.nx env := rfl
theorem e_forC {tb : RS} {xs : List D} : forR g tb en (d :: xs) env = g d env fun env1 => tb { en with nx := forR g tb en xs, ct := forR g tb en xs, bk := en.nx } env1 := rfl
theorem e_lc {ti : RI} {tt : RB} {is : List Nat} : rLc ti g tt ta is env Q = ti env fun xs env1 => noOwn is env1 = true ∧ lcR g tt ta is xs [] (wipeE is env1) fun acc env2 => Q (.lst acc) (backE is env1 env2) := rfl
theorem e_riL {P : List D → List Slot → Prop} : riL ta env P = ta env fun d env1 => match d with | .lst xs => P xs env1 | .scr ns => P (ns.map D.int) env1 | _ => False := rfl
theorem e_riT {P : List D → List Slot → Prop} : riT ta env P = ta env fun d env1 => match d with | .tup xs => P xs env1 | _ => False := rfl
theorem e_riR1 {P : List D → List Slot → Prop} : riR1 t env P = t env fun ds env1 => match ds with | [.int j] => (-(2 ^ 62) ≤ j ∧ j < 2 ^ 62) ∧ P (rng 0 j.toNat) env1 | _ => False := rfl
theorem e_riR2 {P : List D → List Slot → Prop} : riR2 t env P = t env fun ds env1 => match ds with | [.int i, .int j] => (-(2 ^ 62) ≤ i ∧ i < 2 ^ 62 ∧ -(2 ^ 62) ≤ j ∧ j < 2 ^ 62) ∧ P (rng i (j - i).toNat) env1 | _ => False := rfl
theorem e_riE {P : List D → List Slot → Prop} : riE t env P = t env fun ds env1 => match ds with | [.lst xs] => P (enumD xs) env1 | _ => False := rfl
theorem e_riZ {P : List D → List Slot → Prop} : riZ t env P = t env fun ds env1 => match ds with | [.lst xs, .lst ys] => P (zipD xs ys) env1 | _ => False := rfl
theorem e_yes : rYes env QB = QB true env := rfl
/-! operators -/
variable {a b : Int} {xs ys : List D} {P : D → Prop}
theorem o_add : vAdd (.int a) (.int b) P = P (.int (a + b)) := rfl
theorem o_addL : vAdd (.lst xs) (.lst ys) P = (xs.length + ys.length ≤ sizeLine ∧ P (.lst (xs ++ ys))) := rfl
theorem o_addT : vAdd (.tup xs) (.tup ys) P = ((xs ≠ [] ∧ xs.length + ys.length ≤ sizeLine) ∧ P (.tup (xs ++ ys))) := rfl
theorem o_addLL : vAddL (.lst xs) (.lst ys) P = (xs.length + ys.length ≤ sizeLine ∧ P (.lst (xs ++ ys))) := rfl
theorem o_sub : vSub (.int a) (.int b) P = P (.int (a - b)) := rfl
theorem o_mul : vMul (.int a) (.int b) P = (MOk a b ∧ P (.int (a * b))) := rfl
theorem o_div : vDiv (.int a) (.int b) P = (DOk b ∧ P (.int (a / b))) := rfl
theorem o_mod : vMod (.int a) (.int b) P = (0 < b ∧ P (.int (a % b))) := rfl
theorem o_pow : vPow (.int a) (.int b) P = ((0 ≤ b ∧ b ≤ 1000000 ∧ a.natAbs < 2 ^ 64) ∧ P (.int (a ^ b.toNat))) := rfl
theorem o_shl : vShl (.int a) (.int b) P = ((0 ≤ b ∧ b ≤ 1000000 ∧ a.natAbs < 2 ^ 64) ∧ P (.int (a * 2 ^ b.toNat))) := rfl
theorem o_shr : vShr (.int a) (.int b) P = (0 ≤ b ∧ P (.int (a / 2 ^ b.toNat))) := rfl
theorem o_neg : vNeg (.int a) P = P (.int (-a)) := rfl
theorem o_lt : vLt (.int a) (.int b) P = P (.bl (decide (a < b))) := rfl
theorem o_le : vLe (.int a) (.int b) P = P (.bl (decide (a ≤ b))) := rfl
theorem o_gt : vGt (.int a) (.int b) P = P (.bl (decide (b < a))) := rfl
theorem o_ge : vGe (.int a) (.int b) P = P (.bl (decide (b ≤ a))) := rfl
theorem o_eq : vEq (.int a) (.int b) P = P (.bl (decide (a = b))) := rfl
theorem o_ne : vNe (.int a) (.int b) P = P (.bl (!decide (a = b))) := rfl
theorem o_iadd : vIAdd (.int a) (.int b) P = P (.int (a + b)) := rfl
theorem o_isub : vISub (.int a) (.int b) P = P (.int (a - b)) := rfl
theorem o_ixL : vIx (.lst xs) (.int a) P = ∃ d, atI xs a = some d ∧ P d := rfl
theorem o_ixT : vIx (.tup xs) (.int a) P = ∃ d, atI xs a = some d ∧ P d := rfl
theorem o_ixS {ns : List Int} : vIx (.scr ns) (.int a) P = ∃ n, atI ns a = some n ∧ P (.int n) := rfl
theorem o_lenL : vLen [.lst xs] P = P (.int xs.length) := rfl
theorem o_lenT : vLen [.tup xs] P = P (.int xs.length) := rfl
theorem o_lenS {ns : List Int} : vLen [.scr ns] P = P (.int ns.length) := rfl
theorem o_abs : vAbs [.int a] P = P (.int (if a < 0 then -a else a)) := rfl
theorem o_int : QL.vInt [.int a] P = P (.int a) := rfl
theorem o_max : vMax [.int a, .int b] P = P (.int (if b > a then b else a)) := rfl
theorem o_min : vMin [.int a, .int b] P = P (.int (if b < a then b else a)) := rfl
theorem o_sum : vSum [.lst xs] P = ∃ ns, allInts xs = some ns ∧ P (.int ns.sum) := rfl
theorem shaped_ints (ns : List Int) : SeqAt.shaped (.list (ns.map PyData.int)) = true := by
  unfold SeqAt.shaped
  have h1 : ∀ ns : List Int, PyData.canLayAll0 (ns.map PyData.int) = true := fun ns => by
    induction ns with
    | nil => rfl
    | cons a r ih => simp only [List.map, PyData.canLayAll0, PyData.canLay0, ih, Bool.and_self]
  have h2 : ∀ ns : List Int, PyData.depthAll (ns.map PyData.int) = 0 := fun ns => by
    induction ns with
    | nil => rfl
    | cons a r ih => simp only [List.map, PyData.depthAll, PyData.depth, ih, Nat.max_self]
  rw [Bool.and_eq_true]
  exact ⟨by rw [PyData.canLay0]; exact h1 ns, by rw [PyData.depth, h2]; rfl⟩
theorem o_neS {ns : List Int} : vNe (.scr ns) (.lst []) P = P (.bl (!ns.isEmpty)) := by
  show (okP (.scr ns) = true ∧ okP (.lst []) = true ∧ SeqAt.shaped (.list (ns.map PyData.int)) = true ∧ SeqAt.shaped (.list []) = true ∧ P (.bl (!PyData.eqv (.list (ns.map PyData.int)) (.list [])))) = _
  have e : PyData.eqv (.list (ns.map PyData.int)) (.list []) = ns.isEmpty := by cases ns <;> rfl
  rw [e]
  exact propext ⟨fun h => h.2.2.2.2, fun h => ⟨rfl, rfl, shaped_ints ns, shaped_ints [], h⟩⟩
end
section
variable {g : RG} {tb : RS} {en : PEnds} {xs xs' acc acc' : List D} {env env' : List Slot} {c : RB} {tt : RB} {te : RE} {is : List Nat} {Q : List D → List Slot → Prop}
end
/-! a cut: what stands between is told -/
def rCut (t : RE) : RE := fun env Q => ∃ R : D → List Slot → Prop, t env R ∧ ∀ d env', R d env' → Q d env'
def sCut (t : RS) : RS := fun en env => ∃ N : List Slot → Prop, t { en with nx := N } env ∧ ∀ env', N env' → en.nx env'
theorem q_cut {X : Cx} {bx : Bx} {e : Expr} {t : RE} (h : QE X bx e t) : QE X bx e (rCut t) := pe_imp h fun σ H Q' ⟨env, F, Q, R, ⟨R0, ht, i⟩, k⟩ => ⟨env, F, R0, R, ht, fun d v env' F' H' s R' r q => k d v env' F' H' s R' r (i d env' q)⟩
/-! rules for loops -/
/-- a for by what holds behind each turn -/
theorem forR_inv {g : RG} {tb : RS} {en : PEnds} {xs : List D} {env : List Slot} (I : Nat → List Slot → Prop) (h0 : I 0 env)
    (hs : ∀ (i : Nat) (d : D) (env : List Slot) (N : List Slot → Prop), xs[i]? = some d → I i env → (∀ env', I (i + 1) env' → N env') → g d env fun env1 => tb { en with nx := N, ct := N, bk := en.nx } env1) (he : ∀ env, I xs.length env → en.nx env) : forR g tb en xs env := by
  have main : ∀ (n i : Nat) (env : List Slot), n = xs.length - i → i ≤ xs.length → I i env → forR g tb en (xs.drop i) env := by
    intro n
    induction n with
    | zero =>
      intro i env hn hi h
      have e : i = xs.length := by omega
      subst e
      rw [List.drop_length]
      exact he env h
    | succ n ih =>
      intro i env hn hi h
      have hlt : i < xs.length := by omega
      rw [List.drop_eq_getElem_cons hlt]
      exact hs i _ env _ (List.getElem?_eq_getElem hlt) h fun e' q' => ih (i + 1) e' (by omega) hlt q'
  exact main _ 0 env rfl (Nat.zero_le _) h0
theorem rng_len {lo : Int} {n : Nat} : (rng lo n).length = n := by simp [rng]
theorem rng_get {lo : Int} {n i : Nat} {d : D} (h : (rng lo n)[i]? = some d) : i < n ∧ d = .int (lo + (i : Nat)) := by
  have hi := (List.getElem?_eq_some_iff.mp h).1
  rw [rng_len] at hi
  simp [rng, hi] at h
  exact ⟨hi, h.symm⟩
/-- .. over a range -/
theorem forR_rng {g : RG} {tb : RS} {en : PEnds} {lo : Int} {n : Nat} {env : List Slot} (I : Nat → List Slot → Prop) (h0 : I 0 env)
    (hs : ∀ (i : Nat) (env : List Slot) (N : List Slot → Prop), i < n → I i env → (∀ env', I (i + 1) env' → N env') → g (.int (lo + (i : Nat))) env fun env1 => tb { en with nx := N, ct := N, bk := en.nx } env1) (he : ∀ env, I n env → en.nx env) : forR g tb en (rng lo n) env :=
  forR_inv I h0 (fun i d env N hd hI hN => by
    obtain ⟨hi, rfl⟩ := rng_get hd
    exact hs i env N hi hI hN) (fun env h => he env (by rw [rng_len] at h; exact h))
/-- a comprehension by what holds behind each turn -/
theorem lcR_inv {g : RG} {tt : RB} {te : RE} {is : List Nat} {xs acc0 : List D} {env : List Slot} {Q : List D → List Slot → Prop} (I : Nat → List D → List Slot → Prop) (h0 : I 0 acc0 env)
    (hs : ∀ (i : Nat) (d : D) (acc : List D) (env : List Slot) (N : List D → List Slot → Prop), xs[i]? = some d → I i acc env → (∀ acc' env', I (i + 1) acc' env' → N acc' env') →
      g d env fun env1 => tt env1 fun b env2 => if b = true then te env2 fun d env3 => acc.length < sizeLine ∧ N (acc ++ [d]) (wipeE is env3) else N acc (wipeE is env2)) (he : ∀ acc env, I xs.length acc env → Q acc env) : lcR g tt te is xs acc0 env Q := by
  have main : ∀ (n i : Nat) (acc : List D) (env : List Slot), n = xs.length - i → i ≤ xs.length → I i acc env → lcR g tt te is (xs.drop i) acc env Q := by
    intro n
    induction n with
    | zero =>
      intro i acc env hn hi h
      have e : i = xs.length := by omega
      subst e
      rw [List.drop_length]
      exact he acc env h
    | succ n ih =>
      intro i acc env hn hi h
      have hlt : i < xs.length := by omega
      rw [List.drop_eq_getElem_cons hlt]
      exact hs i _ acc env (fun acc env => lcR g tt te is (xs.drop (i + 1)) acc env Q) (List.getElem?_eq_getElem hlt) h fun acc' e' q' => ih (i + 1) acc' e' (by omega) hlt q'
  exact main _ 0 acc0 env rfl (Nat.zero_le _) h0
theorem atI_get_nat {α : Type} {xs : List α} {i : Int} (h0 : 0 ≤ i) (h : i < xs.length) : ∃ d, atI xs i = some d ∧ d ∈ xs := by
  have hn : i.toNat < xs.length := by omega
  refine ⟨xs[i.toNat], ?_, List.getElem_mem _⟩
  have e : i = ((i.toNat : Nat) : Int) := by omega
  conv => lhs; rw [e]
  exact atI_nat (List.getElem?_eq_getElem hn)
/-! sizes -/
/-- below 2 ^ n -/
class Bd (i : Int) (n : outParam Nat) : Prop where
  h : i.natAbs < 2 ^ n
theorem MOk.of {i j : Int} {a b : Nat} (h1 : i.natAbs < 2 ^ a) (h2 : j.natAbs < 2 ^ b) (h : a + b ≤ 999990) : MOk i j :=
  .inl (wide_mul (a := a + 1) (b := b + 1) (Nat.lt_of_lt_of_le h1 (Nat.pow_le_pow_right (by decide) (by omega))) (Nat.lt_of_lt_of_le h2 (Nat.pow_le_pow_right (by decide) (by omega))) (by omega) (by omega) (by omega))
theorem MOk.l {i j : Int} (h : -(2 ^ 64) < i) (h2 : i < 2 ^ 64) : MOk i j := .inr (.inl ⟨h, h2⟩)
theorem MOk.r {i j : Int} (h : -(2 ^ 64) < j) (h2 : j < 2 ^ 64) : MOk i j := .inr (.inr ⟨h, h2⟩)
theorem DOk.of {j : Int} {b : Nat} (h : 0 < j) (h2 : j.natAbs < 2 ^ b) (h3 : b ≤ 8990) : DOk j := ⟨h, by
  have := wide_div (i := 0) (b := b + 1) h (Nat.lt_of_lt_of_le h2 (Nat.pow_le_pow_right (by decide) (by omega))) (by omega) (by omega)
  exact this.2⟩
theorem DOk.small {j : Int} (h : 0 < j) (h2 : j < 18446744073709551616) : DOk j := DOk.of (b := 64) h (by
  have : (2 : Nat) ^ 64 = 18446744073709551616 := by decide
  omega) (by decide)
theorem bd_mul {i j : Int} {a b : Nat} (h1 : i.natAbs < 2 ^ a) (h2 : j.natAbs < 2 ^ b) : (i * j).natAbs < 2 ^ (a + b) := wide_lt h1 h2
theorem bd_add {i j : Int} {a b : Nat} (h1 : i.natAbs < 2 ^ a) (h2 : j.natAbs < 2 ^ b) : (i + j).natAbs < 2 ^ (max a b + 1) := by
  have e1 : (2 : Nat) ^ a ≤ 2 ^ max a b := Nat.pow_le_pow_right (by decide) (Nat.le_max_left _ _)
  have e2 : (2 : Nat) ^ b ≤ 2 ^ max a b := Nat.pow_le_pow_right (by decide) (Nat.le_max_right _ _)
  have e3 : (2 : Nat) ^ (max a b + 1) = 2 ^ max a b + 2 ^ max a b := by rw [Nat.pow_succ]; omega
  omega
theorem bd_sub {i j : Int} {a b : Nat} (h1 : i.natAbs < 2 ^ a) (h2 : j.natAbs < 2 ^ b) : (i - j).natAbs < 2 ^ (max a b + 1) := by
  have e1 : (2 : Nat) ^ a ≤ 2 ^ max a b := Nat.pow_le_pow_right (by decide) (Nat.le_max_left _ _)
  have e2 : (2 : Nat) ^ b ≤ 2 ^ max a b := Nat.pow_le_pow_right (by decide) (Nat.le_max_right _ _)
  have e3 : (2 : Nat) ^ (max a b + 1) = 2 ^ max a b + 2 ^ max a b := by rw [Nat.pow_succ]; omega
  omega
theorem bd_mono {i : Int} {a b : Nat} (h1 : i.natAbs < 2 ^ a) (h : a ≤ b) : i.natAbs < 2 ^ b := Nat.lt_of_lt_of_le h1 (Nat.pow_le_pow_right (by decide) h)
end QL
set_option Elab.async false
set_option linter.all false
set_option maxRecDepth 100000
namespace QL
open PySem PySem.Spec PyProof.Rows L2
/-! ### order of tuples of ints -/
def lxE (ns ms : List Int) (j : Nat) : Bool := decide (ns.getD j 0 = ms.getD j 0)
def lexG (r : Int → Int → Bool) (z : Nat → Nat → Bool) (ns ms : List Int) : Bool :=
  Ob.lexAt (lxE ns ms) (fun j => r (ns.getD j 0) (ms.getD j 0)) (z ns.length ms.length) 0 (min ns.length ms.length)
def vOrdT (r : Int → Int → Bool) (z : Nat → Nat → Bool) : V2
  | .int i, .int j, Q => Q (.bl (r i j))
  | .tup xs, .tup ys, Q => ∃ ns ms, allInts xs = some ns ∧ allInts ys = some ms ∧ Q (.bl (lexG r z ns ms))
  | _, _, _ => False
section
variable {X : Cx}
def CmpT (X : Cx) (op : CmpOp) (r : Int → Int → Bool) (z : Nat → Nat → Bool) : Prop := ∀ {A : Around} {s : Shared} {l b : Addr} {items items2 : Array Value} {e r' : Nat → Bool}, IsTup s.heap l items → IsTup s.heap b items2 → A.units < cLine →
    (∀ j (h1 : j < items.size) (h2 : j < items2.size), SeqAt.EqAt A.in1 s items[j] items2[j] (e j)) →
    (∀ j (h1 : j < items.size) (h2 : j < items2.size), e j = false → Ob.RcOp op A.in1 s items[j] items2[j] (r' j)) →
    Ob.RcOp op A s (.ref l) (.ref b) (Ob.lexAt e r' (z items.size items2.size) 0 (min items.size items2.size))
def vGtT : V2 := vOrdT (fun a b => decide (b < a)) (fun n m => decide (n > m))
def vGeT : V2 := vOrdT (fun a b => decide (b ≤ a)) (fun n m => decide (n ≥ m))
def vLtT : V2 := vOrdT (fun a b => decide (a < b)) (fun n m => decide (n < m))
def vLeT : V2 := vOrdT (fun a b => decide (a ≤ b)) (fun n m => decide (n ≤ m))
end
theorem q_gi {X : Cx} {bx : Bx} {x : Str} {i : Int} {pos : Pos} (hg : Gl X x) (hm : ∃ t, X.mg x = some (.int i t)) (hd : (x == ("__debug__" : Str)) = false := by decide) : QE X bx (.Name x pos) (rC (.int i)) := by
  obtain ⟨t, h⟩ := hm
  exact q_con (pe_glob (v := .int i) hg h ⟨t, rfl⟩ hd) fun _ _ => rfl
/-! ### == of ints in tuples and lists -/
theorem eqv_ints : ∀ ns ms : List Int, PyData.eqvAll (ns.map PyData.int) (ms.map PyData.int) = decide (ns = ms)
  | [], [] => rfl
  | [], _ :: _ => by simp [PyData.eqvAll]
  | _ :: _, [] => by simp [PyData.eqvAll]
  | n :: ns, m :: ms => by
    rw [List.map_cons, List.map_cons, PyData.eqvAll, eqv_ints ns ms]
    have e : PyData.eqv (.int n) (.int m) = decide (n = m) := by
      unfold PyData.eqv
      by_cases h : n = m
      · subst h; simp
      · simp [h]
    rw [e, ← Bool.decide_and]
    simp
theorem toPs_ints : ∀ ns : List Int, toPs (ns.map D.int) = ns.map PyData.int
  | [] => rfl
  | n :: ns => by rw [List.map_cons, toPs, toPs_ints ns]; rfl
theorem okPs_ints : ∀ ns : List Int, okPs (ns.map D.int) = true
  | [] => rfl
  | n :: ns => by rw [List.map_cons, okPs, okPs_ints ns]; rfl
theorem shapedT_ints (ns : List Int) : SeqAt.shaped (.tuple (ns.map PyData.int)) = true := by
  have h := shaped_ints ns
  unfold SeqAt.shaped at h ⊢
  rw [Bool.and_eq_true] at h ⊢
  exact ⟨by rw [PyData.canLay0]; have h1 := h.1; rw [PyData.canLay0] at h1; exact h1, by rw [PyData.depth]; have h1 := h.2; rw [PyData.depth] at h1; exact h1⟩
theorem o_eqTn {ns ms : List Int} {P : D → Prop} : vEq (.tup (ns.map D.int)) (.tup (ms.map D.int)) P = P (.bl (decide (ns = ms))) := by
  show (okPs _ = true ∧ okPs _ = true ∧ SeqAt.shaped (.tuple (toPs _)) = true ∧ SeqAt.shaped (.tuple (toPs _)) = true ∧ P (.bl (PyData.eqv (.tuple (toPs _)) (.tuple (toPs _))))) = _
  rw [toPs_ints, toPs_ints, PyData.eqv, eqv_ints]
  exact propext ⟨fun h => h.2.2.2.2, fun h => ⟨okPs_ints _, okPs_ints _, shapedT_ints _, shapedT_ints _, h⟩⟩
theorem o_eqT3 {a b c d a' b' : Int} {P : D → Prop} : vEq (.tup [.int a, .int b, .int c]) (.tup [.int d, .int a', .int b']) P = P (.bl (decide ([a, b, c] = [d, a', b']))) := o_eqTn (ns := [a, b, c]) (ms := [d, a', b'])
theorem o_neTn {ns ms : List Int} {P : D → Prop} : vNe (.tup (ns.map D.int)) (.tup (ms.map D.int)) P = P (.bl (!decide (ns = ms))) := by
  show (okPs _ = true ∧ okPs _ = true ∧ SeqAt.shaped (.tuple (toPs _)) = true ∧ SeqAt.shaped (.tuple (toPs _)) = true ∧ P (.bl (!PyData.eqv (.tuple (toPs _)) (.tuple (toPs _))))) = _
  rw [toPs_ints, toPs_ints, PyData.eqv, eqv_ints]
  exact propext ⟨fun h => h.2.2.2.2, fun h => ⟨okPs_ints _, okPs_ints _, shapedT_ints _, shapedT_ints _, h⟩⟩
theorem o_neT2 {a b c d : Int} {P : D → Prop} : vNe (.tup [.int a, .int b]) (.tup [.int c, .int d]) P = P (.bl (!decide ([a, b] = [c, d]))) := o_neTn (ns := [a, b]) (ms := [c, d])
end QL
set_option Elab.async false
set_option linter.all false
set_option maxRecDepth 100000
namespace QL
open PySem PySem.Spec PyProof.Rows L2
/-! ### own classes: calls whose exceptions see the slots -/
section
variable {X : Cx} {T : CXT} {k : Nat} {g C : Addr} {fn : FuncData} {qs : List Str} {sp : Sp} {Ex : L2.St → XK} {x m : Str} {p1 p2 p3 : Pos} {e o : Expr} {es : List Expr} {ta : TE} {tt : TA}
def tMakeE (C : Addr) (sp : Sp) (Ex : L2.St → XK) (tt : TA) : TE := fun σ H Q => tt σ H fun vs H1 => ∀ y dy, H1 y = none → H1 dy = none → dy ≠ y →
  sp (.ref y :: vs) (upd (upd H1 dy (.own y)) y (.ins C dy [])) (fun v H2 => v = .non ∧ Q (.ref y) H2) (Ex σ)
theorem go_make {pins : List (Addr × Obj)} {σ : L2.St} {H : Hp} {s : Shared} {Q : VK} {us : List Value} {vs : List V} (mk : Mk X.K C g) (ok : FnOk X.prog X.w X.K X.mg X.base T k g fn qs sp) (rm : Room (k + 1) X.A) (bd : Binds X.K fn qs [])
    (ex : PassesAt T X σ (Ex σ)) (J : Inv X pins σ H s) (rv : Vals vs us)
    (q : ∀ y dy, H y = none → H dy = none → dy ≠ y → sp (.ref y :: vs) (upd (upd H dy (.own y)) y (.ins C dy [])) (fun v H2 => v = .non ∧ Q (.ref y) H2) (Ex σ)) :
    wpAny (model X.prog X.w) X.A (call (.ref C) us) (EP X pins σ Q) X.xe s := by
  have q0 := q (s.heap.objs.size + 1) s.heap.objs.size (J.hok.fresh (Nat.le_succ _)) (J.hok.fresh (Nat.le_refl _)) (Nat.ne_of_lt (Nat.lt_succ_self _))
  have J2 := Inv.made (C := C) J
  have rv2 : Vals (V.ref (s.heap.objs.size + 1) :: vs) (Value.ref (s.heap.objs.size + 1) :: us) := .cons rfl rv
  have ln : (Value.ref (s.heap.objs.size + 1) :: us).length = qs.length := by
    have z := rv2.length
    rw [ok.len _ _ _ _ q0] at z
    exact z.symm
  have bd2 := bd _ (Value.ref (s.heap.objs.size + 1) :: us) J2.kIn (by rw [List.append_nil]; exact ln)
  rw [List.append_nil] at bd2
  have run := ok.run _ X.stack _ _ ⟨Value.ref (s.heap.objs.size + 1) :: us, []⟩ (Value.ref (s.heap.objs.size + 1) :: us) _ _ (Ex σ) (rm.make C us []) (J2.env0.make C us []) bd2 rv2 q0
  refine wpAny_call (make_map (f := g) J.kIn mk.makes mk.init (beq_iff_eq.mp mk.fn) (codeAny_mono run fun r s2 w => ?_))
  rcases r with er | fl
  · exact ex pins _ _ er s2 J2 w
  · cases fl with
    | ret u =>
      obtain ⟨v, H2, J3, r3, rfl, q3⟩ := J2.after w
      exact ⟨r3, ⟨V.ref (s.heap.objs.size + 1), H2, J3, rfl, q3⟩⟩
    | next => exact w.elim
    | brk => exact w.elim
    | cont => exact w.elim
theorem pe_makeE (mk : Mk X.K C g) (ok : FnOk X.prog X.w X.K X.mg X.base T k g fn qs sp) (rm : Room (k + 1) X.A) (gl : Gl X x) (at_ : X.mg x = some (.ref C)) (bd : Binds X.K fn qs []) (ex : ∀ σ, PassesAt T X σ (Ex σ))
    (ag : PA X (e :: es) tt) (db : (x == ("__debug__" : Str)) = false := by decide) (s1 : starEach (e :: es) X.env = (false, eval e X.env) :: starEach es X.env := by rfl) (s2 : (backTo p2 (starEach es X.env)).any (·.1) = false := by rfl) :
    PE X (.Call (.Name x p1) (e :: es) [] p2) (tMakeE C sp Ex tt) :=
  ⟨fun pins s σ H Q J q => wpAny_Call_Name_kw (ld_glob J gl at_ (PySem.W.callWith_K (h₀ := X.base) J.ok.mod.kin mk.kp (thn (ag.run p2 pins s σ H _ J q) fun us s1 ⟨vs, H1, J1, r, w⟩ => ⟨J1.kIn, go_make mk ok rm bd (ex σ) J1 r w⟩) s1 s2) db)⟩
def tMethE (C : Addr) (m : Str) (sp : Sp) (Ex : L2.St → XK) (ta : TE) (tt : TA) : TE := fun σ H Q => ta σ H fun y H1 => ∃ a dx fs, y = .ref a ∧ H1 a = some (.ins C dx fs) ∧ fs.lookup m = none ∧ tt σ H1 fun vs H2 => sp (y :: vs) H2 Q (Ex σ)
theorem pe_methE {pl : Sem Bool} (ob : PE X o ta) (c : Cls X.K C) (me : Meth X.K C m g) (ok : FnOk X.prog X.w X.K X.mg X.base T k g fn qs sp) (rm : Room k X.A) (bd : Binds X.K fn qs []) (ex : ∀ σ, PassesAt T X σ (Ex σ)) (ag : PA X (e :: es) tt)
    (s1 : starEach (e :: es) X.env = (false, eval e X.env) :: starEach es X.env := by rfl) (s2 : (backTo p2 (starEach es X.env)).any (·.1) = false := by rfl)
    (tx : eval (.Call (.Attribute o m p3) (e :: es) [] p2) X.env = (do
      let w ← eval o X.env
      standAt p3.atName
      let (h, first) ← holding [w] (getMethod w m pl)
      callWith p2 h first (backTo p2 (starEach (e :: es) X.env)) (backToKw p2 (keywordEach [] X.env))) := by rfl) :
    PE X (.Call (.Attribute o m p3) (e :: es) [] p2) (tMethE C m sp Ex ta tt) := by
  refine ⟨fun pins s σ H Q J q => PySem.W.methodCall_KW (pl := pl) (thn (ob.run pins s σ H _ J q) fun u s3 ⟨y, H1, J1, ry, a, dx, fs, ey, ea, l, w⟩ => ?_) tx⟩
  subst ey
  cases (show u = Value.ref a from ry)
  refine getmeth_ok J1 ea c me l (PySem.W.callWith_K (first := [.ref a]) (h₀ := X.base) J.ok.mod.kin me.kp (thn (ag.run p2 pins s3 σ H1 _ J1 w) fun us s4 ⟨vs, H2, J2, r, w2⟩ => ⟨J2.kIn, ?_⟩) s1 s2)
  exact run_fnS (us := .ref a :: us) (vs := .ref a :: vs) ok rm bd (ex σ) J2 (.cons rfl r) w2
end

/-! ### attributes -/
def fldD (f : Str) : List Str → List D → Option D
  | n :: ns, x :: xs => if f = n then some x else fldD f ns xs
  | _, _ => none
def putN (f : Str) : List Str → List Str
  | [] => [f]
  | n :: ns => if n = f then n :: ns else n :: putN f ns
def putX (f : Str) (z : D) : List Str → List D → List D
  | n :: ns, x :: xs => if n = f then z :: xs else x :: putX f z ns xs
  | _, _ => [z]
section
variable {K : PySem.W.Frag} {F : Hp} {f : Str}
theorem lk_cons {n : Str} {v : V} {r : List (Str × V)} : List.lookup f ((n, v) :: r) = if f = n then some v else List.lookup f r := by
  by_cases h : f = n
  · subst h; rw [if_pos rfl]; simp [List.lookup]
  · rw [if_neg h]
    have : (f == n) = false := by simpa using h
    simp [List.lookup, this]
theorem fld_rep {z : D} : ∀ {fs : List (Str × V)} {xs : List D}, RepL K F xs (fs.map (·.2)) → fldD f (fs.map (·.1)) xs = some z → ∃ v, List.lookup f fs = some v ∧ Rep K F z v
  | [], [], _, h => nomatch h
  | [], _ :: _, r, _ => by obtain ⟨_, _, h, _⟩ := r; cases h
  | (n, v) :: fs, [], _, h => nomatch h
  | (n, v) :: fs, x :: xs, ⟨v', r, h1, h2, h3⟩, h => by
    rw [List.map_cons] at h1
    cases h1
    have h' : (if f = n then some x else fldD f (fs.map (·.1)) xs) = some z := h
    rw [lk_cons]
    by_cases e : f = n
    · rw [if_pos e] at h' ⊢
      cases h'
      exact ⟨v, rfl, h2⟩
    · rw [if_neg e] at h' ⊢
      exact fld_rep h3 h'
theorem fld_none : ∀ {fs : List (Str × V)} {xs : List D}, RepL K F xs (fs.map (·.2)) → fldD f (fs.map (·.1)) xs = none → List.lookup f fs = none
  | [], _, _, _ => rfl
  | (n, v) :: fs, [], r, _ => by cases (show _ = [] from r)
  | (n, v) :: fs, x :: xs, ⟨v', r, h1, h2, h3⟩, h => by
    rw [List.map_cons] at h1
    cases h1
    have h' : (if f = n then some x else fldD f (fs.map (·.1)) xs) = none := h
    rw [lk_cons]
    by_cases e : f = n
    · rw [if_pos e] at h'; cases h'
    · rw [if_neg e] at h' ⊢
      exact fld_none h3 h'
theorem put_n {z : V} : ∀ {fs : List (Str × V)}, (putF f z fs).map (·.1) = putN f (fs.map (·.1))
  | [] => rfl
  | (n, v) :: fs => by
    show List.map _ (if n = f then (n, z) :: fs else (n, v) :: putF f z fs) = if n = f then n :: fs.map (·.1) else n :: putN f (fs.map (·.1))
    by_cases e : n = f
    · rw [if_pos e, if_pos e]; rfl
    · rw [if_neg e, if_neg e, List.map_cons, put_n]
theorem put_x {z : D} {w : V} (r : Rep K F z w) : ∀ {fs : List (Str × V)} {xs : List D}, RepL K F xs (fs.map (·.2)) → RepL K F (putX f z (fs.map (·.1)) xs) ((putF f w fs).map (·.2))
  | [], [], _ => RepL.one r
  | [], _ :: _, h => by obtain ⟨_, _, z, _⟩ := h; cases z
  | (n, v) :: fs, [], h => by cases (show _ = [] from h)
  | (n, v) :: fs, x :: xs, ⟨v', q, h1, h2, h3⟩ => by
    rw [List.map_cons] at h1
    cases h1
    show RepL K F (if n = f then z :: xs else x :: putX f z (fs.map (·.1)) xs) (List.map _ (if n = f then (n, w) :: fs else (n, v) :: putF f w fs))
    by_cases e : n = f
    · rw [if_pos e, if_pos e]; exact ⟨w, _, rfl, r, h3⟩
    · rw [if_neg e, if_neg e]; exact ⟨v, _, rfl, h2, put_x r h3⟩
end
def fldQ (S : Addr → Prop) (f : Str) (d : D) (Q : D → Prop) : Prop := match d with
  | .obj C ns xs => S C ∧ ∃ z, fldD f ns xs = some z ∧ Q z
  | _ => False
abbrev HasF (K : PySem.W.Frag) (S : Addr → Prop) (f : Str) : Prop := ∀ C, S C → Cls K C ∧ NoAttr K C f
section
variable {X : Cx} {bx : Bx} {e o : Expr} {es : List Expr} {te ta : RE} {t : RA} {p1 p2 p3 : Pos} {i : Nat} {f m : Str} {S : Addr → Prop}
def rFld (S : Addr → Prop) (f : Str) (ta : RE) : RE := fun env Q => ta env fun d env1 => fldQ S f d fun z => Q z env1
theorem q_fld (hS : HasF X.K S f) (h : QE X bx e ta) (hb : attributeBase e f X.env (eval e X.env) = eval e X.env := by rfl) : QE X bx (.Attribute e f p1) (rFld S f ta) := pe_imp (pe_fld h hb) fun σ H Q' ⟨env, F, Q, R, ht, k⟩ =>
  ⟨env, F, _, R, ht, fun d v env1 F1 H1 s1 R1 r1 q1 => by
    unfold fldQ at q1
    split at q1
    · obtain ⟨hC, z, hz, q⟩ := q1
      obtain ⟨a, dx, fs, rfl, h2, h3, h4⟩ := r1
      subst h3
      obtain ⟨w, hw, rw⟩ := fld_rep h4 hz
      exact ⟨a, _, dx, fs, w, rfl, R1.sf _ _ h2, (hS _ hC).1, (hS _ hC).2, hw, k z w env1 F1 H1 s1 R1 rw q⟩
    · exact q1.elim⟩
/-- of a name that may own its object -/
def rFldO (S : Addr → Prop) (f : Str) (i : Nat) : RE := fun env Q => match env[i]? with
  | some (.val d) => fldQ S f d fun z => Q z env
  | some (.own d) => fldQ S f d fun z => Q z env
  | _ => False
/-- x.f = e, x owns its object -/
def sFldS (S : Addr → Prop) (f : Str) (i : Nat) (tv : RE) : RS := fun en env => tv env fun z env1 => match env1[i]? with
  | some (.own (.obj C ns xs)) => S C ∧ ns.length < 1000 ∧ en.nx (env1.set i (.own (.obj C (putN f ns) (putX f z ns xs))))
  | _ => False
theorem qs_fld (hS : HasF X.K S f) (h : L2.PE X o (tVar i)) (hv : QE X bx e te) (hs : swapsWith e (some (.Attribute o f p1)) p2.line X.env = pure false := by rfl) : QS X bx (.Assign [.Attribute o f p1] e p2) (sFldS S f i te) := ps_imp (ps_fld h hv hs) fun Dn σ H ⟨env, F, en, R, ht, k1, k2, k3, k4⟩ =>
  ⟨env, F, _, R, ht, fun z w env1 F1 H1 s1 R1 r1 q1 => by
    split at q1
    · rename_i C ns xs hd
      obtain ⟨a, ho, h1, h2, h3, h4⟩ := own_ix R1 hd
      obtain ⟨dx, fs, rfl, g3, g4⟩ := h4
      subst g3
      obtain ⟨hC, hl, q⟩ := q1
      refine ⟨_, h1, a, _, dx, fs, rfl, h2, (hS _ hC).1, (hS _ hC).2, by rw [List.length_map] at hl; exact hl, k1 (env1.set i (.own (.obj C (putN f (fs.map (·.1))) (putX f z (fs.map (·.1)) xs)))) F1 σ _ s1 ?_ q⟩
      refine R1.setOwn hd h1 (ho' := .ins C dx (putF f w fs)) ⟨Same.refl _, same_upd2 R1.sf h3, fun b q' e' hb => by rw [upd_ne hb]; exact e', fun b e' _ => e'⟩ upd_same ⟨dx, _, rfl, put_n, put_x r1 g4⟩
    · exact q1.elim⟩
end
end QL
set_option Elab.async false
set_option linter.all false
set_option maxRecDepth 100000
namespace QL
open PySem PySem.Spec PyProof.Rows L2
section
variable {K : PySem.W.Frag} {bx : Bx} {F F' H H' : Hp} {env : List Slot} {σ : L2.St}
/-- what is nobody's has changed -/
theorem ER.growB {a : Addr} (R : ER K bx F env σ H) (l : Lone bx F env σ H a) (g : GrowB a F H F' H') : ER K bx F' env σ H' where
  sb := fun b q z => g.sh b q (R.sb b q z) (fun e => by rw [e, l.b] at z; cases z)
  sf := g.sf
  len := R.len
  slots := fun j s hj => by
    obtain ⟨q, k1, k2⟩ := R.slots j s hj
    refine ⟨q, k1, ?_⟩
    cases s with
    | un => trivial
    | val d => obtain ⟨v, k3, k4⟩ := k2; exact ⟨v, k3, Rep.mono g.e _ _ k4⟩
    | own d =>
      obtain ⟨c, hc, k3, k4, k5, k6, k7⟩ := k2
      exact ⟨c, hc, k3, g.hn c k4 (OwnH.hard k6 k7), k5, g.sh c hc k6 (fun z => l.o j d hj (by rw [k1, k3, z])), OwnH.mono g.e k7⟩
  sep := R.sep
  io := R.io
  f0 := R.f0.trans g.e
  fz := fun c h1 h2 => g.hn c (R.fz c h1 h2) (R.bh h2)
theorem Lone.growB {a : Addr} {ho : HO} {d : D} (l : Lone bx F env σ H a) (g : GrowB a F H F' H') (h : H' a = some ho) (o : OwnH K F' d ho) : Lone bx F' env σ H' a := ⟨g.hn a l.f l.h, l.b, OwnH.hard h o, l.o⟩
end
section
variable {X : Cx} {bx : Bx} {e o : Expr} {es : List Expr} {te ta : RE} {t : RA} {p1 p2 p3 : Pos} {i k n : Nat} {f m x : Str} {C g : Addr} {fn : FuncData} {qs : List Str} {EX : XD}
/-! ### an object made -/
def rMake (C : Addr) (M : FB) (n : Nat) (EX : XD) (t : RA) : RE := fun env Q => t env fun ds env1 => ds.length = n ∧ M (.obj C [] []) ds (fun d d' => d = .non ∧ Q d' env1) fun ed _ => EX ed env1
theorem q_makeN {M : FB} (mk : Mk X.K C g) (ok : FnOk X.prog X.w X.K X.mg X.base (L2.CX X.prog X.w) k g fn qs (spB X.K n M)) (rm : Room (k + 1) X.A) (gl : Gl X x) (at_ : X.mg x = some (.ref C)) (bd : Binds X.K fn qs []) (tk : TkE X bx EX)
    (ag : QA X bx (e :: es) t) (db : (x == ("__debug__" : Str)) = false := by decide) (s1 : starEach (e :: es) X.env = (false, eval e X.env) :: starEach es X.env := by rfl) (s2 : (backTo p2 (starEach es X.env)).any (·.1) = false := by rfl) :
    QN X bx (.Call (.Name x p1) (e :: es) [] p2) (rMake C M n EX t) := pe_imp (pe_makeE mk ok rm gl at_ bd tk ag db s1 s2) fun σ H Q' ⟨env, F, Q, R, ht, kk⟩ =>
  ⟨env, F, _, R, ht, fun ds vs env1 F1 H1 s1 R1 r1 q1 y dy hy hd ne => by
    have R2 := R1.laid0 (o := .own y) hd
    have hy2 : (upd H1 dy (.own y)) y = none := by rw [upd_ne (fun z => ne z.symm)]; exact hy
    have l := R2.lone (o := .ins C dy []) hy2
    have R3 := R2.laid0 (o := .ins C dy []) hy2
    refine ⟨F1, y, _, .obj C [] [], ds, vs, _, _, q1.1, rfl, R3.sf, l.f, upd_same, ⟨dy, [], rfl, rfl, rfl⟩, r1, q1.2, ?_, ?_⟩
    · rintro z u d' ho' F2 H2 g ha ow r2 ⟨rfl, q2⟩
      exact ⟨r2, kk d' y ho' env1 F2 H2 (s1.trans g.e) (R3.growB l g) (l.growB g ha ow) ha ow q2⟩
    · intro ed cls dx d' ho' F2 H2 g ha ow rx ex
      exact ⟨env1, F2, ed, R3.growB l g, rx, ex⟩⟩
/-! ### a method that leaves its object -/
def objQ (C : Addr) (m : Str) (d : D) (Q : Prop) : Prop := match d with
  | .obj C' ns xs => C' = C ∧ fldD m ns xs = none ∧ Q
  | _ => False
def rMeth (C : Addr) (m : Str) (S : FA) (n : Nat) (EX : XD) (ta : RE) (t : RA) : RE := fun env Q => ta env fun d env1 => objQ C m d (t env1 fun ds env2 => ds.length = n ∧ S (d :: ds) (fun z => Q z env2) fun ed => EX ed env2)
theorem meth_up {S : FA} {σ : L2.St} {H : Hp} {Q' : VK} (h : up X.K bx (rMeth C m S n EX ta t) σ H Q') : tMethE C m (spA X.K (n + 1) S) (fun σ cls dx H => WEx X.K bx EX cls dx σ H) (up X.K bx ta) (upA X.K bx t) σ H Q' := by
  obtain ⟨env, F, Q, R, ht, kk⟩ := h
  refine ⟨env, F, _, R, ht, fun d v env1 F1 H1 s1 R1 r1 q1 => ?_⟩
  unfold objQ at q1
  split at q1
  · rename_i C' ns xs
    obtain ⟨rfl, hm, q⟩ := q1
    have r1' := r1
    obtain ⟨a, dx, fs, rfl, h2, h3, h4⟩ := r1
    subst h3
    exact ⟨a, dx, fs, rfl, R1.sf _ _ h2, fld_none h4 hm, env1, F1, _, R1, q, fun ds vs env2 F2 H2 s2 R2 r2 q2 => ⟨F2, _ :: ds, _, _, by rw [List.length_cons, q2.1], R2.sf, ⟨.ref a, vs, rfl, Rep.mono s2 _ _ r1', r2⟩, q2.2,
      fun z u F3 H3 g r3 q3 => kk z u env2 F3 H3 (s1.trans (s2.trans g.e)) (R2.to g) r3 q3, fun ed cls dx F3 H3 g rx ex => ⟨env2, F3, ed, R2.to g, rx, ex⟩⟩⟩
  · exact q1.elim
theorem q_meth {S : FA} (c : Cls X.K C) (me : Meth X.K C m g) (ok : FnOk X.prog X.w X.K X.mg X.base (L2.CX X.prog X.w) k g fn qs (spA X.K (n + 1) S)) (rm : Room k X.A) (bd : Binds X.K fn qs []) (tk : TkE X bx EX) (ob : QE X bx o ta) (ag : QA X bx (e :: es) t)
    (s1 : starEach (e :: es) X.env = (false, eval e X.env) :: starEach es X.env := by rfl) (s2 : (backTo p2 (starEach es X.env)).any (·.1) = false := by rfl) {pl : Sem Bool}
    (tx : eval (.Call (.Attribute o m p3) (e :: es) [] p2) X.env = (do
      let w ← eval o X.env
      standAt p3.atName
      let (h, first) ← holding [w] (getMethod w m pl)
      callWith p2 h first (backTo p2 (starEach (e :: es) X.env)) (backToKw p2 (keywordEach [] X.env))) := by rfl) :
    QE X bx (.Call (.Attribute o m p3) (e :: es) [] p2) (rMeth C m S n EX ta t) := pe_imp (pe_methE ob c me ok rm bd tk ag s1 s2 tx) fun σ H Q' h => meth_up h
/-! ### isinstance with an own class -/
structure IsC (K : PySem.W.Frag) (C : Addr) : Prop where
  cl : Cls K C
  ha : PySem.W.findIn K (.ref C) "__class__" = some (some (.builtin "object.__class__"))
  hn : PySem.W.specialIn K (.builtin "object.__class__") "__get__" = some (some (.builtin "getset_descriptor.__get__"))
  tk : PySem.W.takesIn K (.builtin "object.__class__") = some true
  mr : PySem.W.mroIn K C (.type "object") = some true
def TyD (K : PySem.W.Frag) : D → Value → Prop
  | .obj C _ _, t => t = .ref C ∧ IsC K C
  | d, t => ∃ n, tyN d = some n ∧ t = .type n
theorem tyd_of {K : PySem.W.Frag} {F H : Hp} (s : Same F H) {d : D} {v : V} {t : Value} (h : TyD K d t) (r : Rep K F d v) : TyX K H v t := by
  unfold TyD at h
  split at h
  · obtain ⟨rfl, c⟩ := h
    obtain ⟨a, dx, fs, rfl, h2, _⟩ := r
    exact .base (.ins (s _ _ h2) c.cl c.ha c.hn c.tk c.mr)
  · obtain ⟨n, hn, rfl⟩ := h
    exact tyx_of s hn r
def vIsiC (K : PySem.W.Frag) : VL
  | [d, .raw (.ref C)], Q => ∃ t b, TyD K d t ∧ PySem.W.kitOne K t (.ref C) = some b ∧ Q (.bl b)
  | [d, .raw (.ty n)], Q => ∃ t b, TyD K d t ∧ PySem.W.kitOne K t (.type n) = some b ∧ Q (.bl b)
  | _, _ => False
theorem qc_isiC : CallR X (.builtin "isinstance") (upVL X.K (vIsiC X.K)) := by
  intro pins s σ H xs us Q' I r ⟨F, ds, Q, sm, rl, h, g⟩
  unfold vIsiC at h
  split at h
  · obtain ⟨v, w, rfl, rv, rfl⟩ := RepL.two rl
    obtain ⟨t, b, ht, hb, q⟩ := h
    exact call_isi pins s σ H _ us Q' I r ⟨v, _, t, _, b, rfl, .own _, tyd_of sm ht rv, hb, g.b sm q⟩
  · obtain ⟨v, w, rfl, rv, rfl⟩ := RepL.two rl
    obtain ⟨t, b, ht, hb, q⟩ := h
    exact call_isi pins s σ H _ us Q' I r ⟨v, _, t, _, b, rfl, .ty _, tyd_of sm ht rv, hb, g.b sm q⟩
  · exact h.elim
/-- the name of an own class as a value -/
theorem q_cls {p : Pos} (hg : Gl X x) (hm : X.mg x = some (.ref C)) (hd : (x == ("__debug__" : Str)) = false := by decide) : QE X bx (.Name x p) (rC (.raw (.ref C))) := q_raw (pe_glob (v := .ref C) hg hm rfl hd)
end
/-! ### the readings, step by step -/
section
variable {env : List Slot} {Q : D → List Slot → Prop} {C C' : Addr} {ns : List Str} {xs : List D} {S : Addr → Prop} {f m : Str} {ta tv : RE} {t : RA} {n i : Nat} {EX : XD} {M : FB} {SA : FA} {P : D → Prop} {en : PEnds} {K : PySem.W.Frag}
theorem e_fld : rFld S f ta env Q = ta env fun d env1 => fldQ S f d fun z => Q z env1 := rfl
def objOQ (d : D) (Q : Addr → List Str → List D → Prop) : Prop := match d with
  | .obj C ns xs => Q C ns xs
  | _ => False
theorem e_objO {R : Addr → List Str → List D → Prop} : objOQ (.obj C ns xs) R = R C ns xs := rfl
theorem e_fldS : sFldS S f i tv en env = tv env fun z env1 => ownQ (getS env1 i) fun d => objOQ d fun C ns xs => S C ∧ ns.length < 1000 ∧ en.nx (putS env1 i (.own (.obj C (putN f ns) (putX f z ns xs)))) := by
  unfold sFldS
  congr 1; funext z env1
  rw [getS_eq]
  cases env1[i]? with
  | none => rfl
  | some s =>
    cases s with
    | un => rfl
    | val _ => rfl
    | own d => cases d <;> first | rfl | (simp only [putS_eq]; rfl)
theorem e_make : rMake C M n EX t env Q = t env fun ds env1 => ds.length = n ∧ M (.obj C [] []) ds (fun d d' => d = .non ∧ Q d' env1) fun ed _ => EX ed env1 := rfl
theorem e_meth : rMeth C m SA n EX ta t env Q = ta env fun d env1 => objQ C m d (t env1 fun ds env2 => ds.length = n ∧ SA (d :: ds) (fun z => Q z env2) fun ed => EX ed env2) := rfl
theorem o_isiO : vIsiC K [.obj C' ns xs, .raw (.ref C)] P = (IsC K C' ∧ ∃ b, PySem.W.kitOne K (.ref C') (.ref C) = some b ∧ P (.bl b)) := propext
  ⟨fun ⟨t, b, ⟨h1, h2⟩, h3, h4⟩ => ⟨h2, b, by rw [← h1]; exact h3, h4⟩, fun ⟨h2, b, h3, h4⟩ => ⟨_, b, ⟨rfl, h2⟩, h3, h4⟩⟩
end
end QL
set_option Elab.async false
set_option linter.all false
set_option maxRecDepth 100000
/-! enumerate over a tuple -/
namespace QT
open PySem
open Sem (wp)
open AutoSeq1 (wpAny_loadPart')
section
variable {prog : Program} {w : World} {A : Around} {E : Value → Shared → Prop} {s : Shared}
end
end QT
namespace QL
open PySem PySem.Spec PyProof.Rows L2
def IteT (K : PySem.W.Frag) (a : Addr) : It :=
  ⟨fun i H => ∃ (xs : List V) (x : V), SqT K H a xs ∧ xs[i]? = some x, fun i H v H' => ∃ T x, v = .ref T ∧ H T = none ∧ H' = upd H T (.tup [.int (i : Nat), x]) ∧ ∀ xs, SqT K H a xs → xs[i]? = some x, fun i H => ∃ xs : List V, SqT K H a xs ∧ xs.length ≤ i⟩
def iEnT (K : PySem.W.Frag) (ta : TA) : TI := fun σ H R => ta σ H fun vs H1 => ∃ a xs, vs = [.ref a] ∧ ((SqL K H1 a xs ∧ R (Ite K a) H1) ∨ (SqT K H1 a xs ∧ R (IteT K a) H1))
/-- lo, lo + c, .. -/
def rngC (lo c : Int) (n : Nat) : List D := (List.range n).map fun i => D.int (lo + (i : Nat) * c)
def riEA (t : RA) : RI := fun env Q => t env fun ds env1 => match ds with
  | [.lst xs] => Q (enumD xs) env1
  | [.tup xs] => Q (enumD xs) env1
  | _ => False
def riZA (t : RA) : RI := fun env Q => t env fun ds env1 => match ds with
  | [.lst xs, .lst ys] => Q (zipD xs ys) env1
  | [.tup xs, .tup ys] => Q (zipD xs ys) env1
  | _ => False
def riR3 (t : RA) : RI := fun env Q => t env fun ds env1 => match ds with
  | [.int i, .int j, .int c] => ∃ n, RgC i j c n ∧ Q (rngC i c n) env1
  | _ => False
section
variable {X : Cx} {bx : Bx} {e a b c : Expr} {es : List Expr} {t : RA} {p1 p2 p3 : Pos} {kk : Nat} {tg : Expr}
end
section
variable {env : List Slot} {t : RA} {P : List D → List Slot → Prop}
theorem e_riEA : riEA t env P = t env fun ds env1 => match ds with | [.lst xs] => P (enumD xs) env1 | [.tup xs] => P (enumD xs) env1 | _ => False := rfl
theorem e_riZA : riZA t env P = t env fun ds env1 => match ds with | [.lst xs, .lst ys] => P (zipD xs ys) env1 | [.tup xs, .tup ys] => P (zipD xs ys) env1 | _ => False := rfl
theorem e_riR3 : riR3 t env P = t env fun ds env1 => match ds with | [.int i, .int j, .int c] => ∃ n, RgC i j c n ∧ P (rngC i c n) env1 | _ => False := rfl
end
end QL
set_option Elab.async false
set_option linter.all false
set_option maxRecDepth 100000
namespace QL
open PySem PySem.Spec PyProof.Rows L2
/-! ### slices -/
abbrev RO := List Slot → (Option Int → List Slot → Prop) → Prop
def upO (K : PySem.W.Frag) (bx : Bx) (t : RO) : TO := fun σ H Q' => ∃ env F Q, ER K bx F env σ H ∧ t env Q ∧ ∀ o env' F' H', Same F F' → ER K bx F' env' σ H' → Q o env' → Q' o H'
def roN : RO := fun env Q => Q none env
def roS (te : RE) : RO := fun env Q => te env fun d env1 => match d with
  | .int i => Q (some i) env1
  | _ => False
def cutD (xs : List D) (lo hi : Option Int) : List D := (xs.drop (HT.sIx xs.length 0 lo)).take (HT.sIx xs.length xs.length hi - HT.sIx xs.length 0 lo)
def vSli (d : D) (lo hi : Option Int) (Q : D → Prop) : Prop := match d with
  | .lst xs => Q (.lst (cutD xs lo hi))
  | .tup xs => Q (.tup (cutD xs lo hi))
  | _ => False
def rSli (ta : RE) (tl th : RO) : RE := fun env Q => ta env fun d env1 => tl env1 fun lo env2 => th env2 fun hi env3 => vSli d lo hi fun z => Q z env3
section
variable {X : Cx} {bx : Bx} {e a b : Expr} {es : List Expr} {te ta tb : RE} {t : RA} {lo hi : Option Expr} {tl th : RO} {p1 p2 p3 pos : Pos} {i : Nat}
theorem RepL.cut {K : PySem.W.Frag} {F : Hp} {xs : List D} {vs : List V} (r : RepL K F xs vs) (lo hi : Option Int) : RepL K F (cutD xs lo hi) (cutV vs lo hi) := by
  unfold cutD cutV
  rw [r.length]
  exact RepL.take _ (RepL.drop _ r)
/-! ### an item of a name that may own its list -/
def rIxA (i : Nat) (tb : RE) : RE := fun env Q => match env[i]? with
  | some (.val d) => tb env fun j env1 => vIx d j fun z => Q z env1
  | some (.own _) => tb env fun j env1 => match env1[i]? with
    | some (.own d) => vIx d j fun z => Q z env1
    | _ => False
  | _ => False
/-! ### in, not in: ints -/
def vInI (neg : Bool) : V2
  | .int i, .tup xs, Q => ∃ ns, allInts xs = some ns ∧ Q (.bl (if neg then !decide (i ∈ ns) else decide (i ∈ ns)))
  | .int i, .lst xs, Q => ∃ ns, allInts xs = some ns ∧ Q (.bl (if neg then !decide (i ∈ ns) else decide (i ∈ ns)))
  | _, _, _ => False
/-! ### isinstance(x, (A, B)) -/
def clsVal : D → Option Value
  | .raw (.ty n) => some (.type n)
  | .raw (.ref C) => some (.ref C)
  | _ => none
def clsVals : List D → Option (List Value)
  | [] => some []
  | d :: ds => match clsVal d, clsVals ds with
    | some v, some vs => some (v :: vs)
    | _, _ => none
def rIsiT (K : PySem.W.Frag) (ta : RE) (t : RA) : RE := fun env Q => ta env fun d env1 => t env1 fun cs env2 => cs.length ≤ sizeLine ∧ ∃ tv us b, TyD K d tv ∧ clsVals cs = some us ∧ PySem.W.kitAny K tv us = some b ∧ Q (.bl b) env2
end
/-! ### the readings, step by step -/
section
variable {env : List Slot} {Q : D → List Slot → Prop} {P : D → Prop} {xs : List D} {ta tb te : RE} {tl th : RO} {QO : Option Int → List Slot → Prop} {lo hi : Option Int} {i : Nat} {K : PySem.W.Frag} {t : RA} {a : Int} {neg : Bool}
theorem e_sli : rSli ta tl th env Q = ta env fun d env1 => tl env1 fun lo env2 => th env2 fun hi env3 => vSli d lo hi fun z => Q z env3 := rfl
theorem e_roN : roN env QO = QO none env := rfl
theorem e_roS : roS te env QO = te env fun d env1 => intQ d fun i => QO (some i) env1 := rfl
theorem o_sliL : vSli (.lst xs) lo hi P = P (.lst (cutD xs lo hi)) := rfl
theorem o_sliT : vSli (.tup xs) lo hi P = P (.tup (cutD xs lo hi)) := rfl
theorem o_inIT : vInI neg (.int a) (.tup xs) P = ∃ ns, allInts xs = some ns ∧ P (.bl (if neg then !decide (a ∈ ns) else decide (a ∈ ns))) := rfl
theorem o_inIL : vInI neg (.int a) (.lst xs) P = ∃ ns, allInts xs = some ns ∧ P (.bl (if neg then !decide (a ∈ ns) else decide (a ∈ ns))) := rfl
theorem e_isiT : rIsiT K ta t env Q = ta env fun d env1 => t env1 fun cs env2 => cs.length ≤ sizeLine ∧ ∃ tv us b, TyD K d tv ∧ clsVals cs = some us ∧ PySem.W.kitAny K tv us = some b ∧ Q (.bl b) env2 := rfl
end
theorem fld_hit {f : Str} {ns : List Str} {x : D} {xs : List D} : fldD f (f :: ns) (x :: xs) = some x := if_pos rfl
theorem fld_miss {f n : Str} {ns : List Str} {x : D} {xs : List D} (h : ¬ f = n) : fldD f (n :: ns) (x :: xs) = fldD f ns xs := if_neg h
theorem px_miss {f n : Str} {ns : List Str} {x z : D} {xs : List D} (h : ¬ n = f) : putX f z (n :: ns) (x :: xs) = x :: putX f z ns xs := if_neg h
theorem fldQ_hit {S : Addr → Prop} {f : Str} {C : Addr} {ns : List Str} {xs : List D} {z : D} {P : D → Prop} (h : S C) (e : fldD f ns xs = some z) : fldQ S f (.obj C ns xs) P = P z := propext
  ⟨fun ⟨_, y, hy, q⟩ => by rw [e] at hy; cases hy; exact q, fun q => ⟨h, z, e, q⟩⟩
theorem objQ_hit {C : Addr} {m : Str} {ns : List Str} {xs : List D} {R : Prop} (e : fldD m ns xs = none) : objQ C m (.obj C ns xs) R = R := propext ⟨fun h => h.2.2, fun q => ⟨rfl, e, q⟩⟩
end QL
set_option Elab.async false
set_option linter.all false
set_option maxRecDepth 100000
namespace QL
open PySem PySem.Spec PyProof.Rows L2
section
variable {x y z w : D} {xs : List D} {P : D → Prop} {a : Addr} {ns : List Str}
theorem e_ix0 : (∃ d, atI (x :: xs) 0 = some d ∧ P d) = P x := propext ⟨fun ⟨d, h, q⟩ => by
    have e : atI (x :: xs) ((0 : Nat) : Int) = some x := atI_nat (j := 0) rfl
    rw [show (0 : Int) = ((0 : Nat) : Int) from rfl, e] at h
    cases h; exact q, fun q => ⟨x, atI_nat (j := 0) rfl, q⟩⟩
theorem e_ix1 : (∃ d, atI (x :: y :: xs) 1 = some d ∧ P d) = P y := propext ⟨fun ⟨d, h, q⟩ => by
    have e : atI (x :: y :: xs) ((1 : Nat) : Int) = some y := atI_nat (j := 1) rfl
    rw [show (1 : Int) = ((1 : Nat) : Int) from rfl, e] at h
    cases h; exact q, fun q => ⟨y, atI_nat (j := 1) rfl, q⟩⟩
theorem e_ix2 : (∃ d, atI (x :: y :: z :: xs) 2 = some d ∧ P d) = P z := propext ⟨fun ⟨d, h, q⟩ => by
    have e : atI (x :: y :: z :: xs) ((2 : Nat) : Int) = some z := atI_nat (j := 2) rfl
    rw [show (2 : Int) = ((2 : Nat) : Int) from rfl, e] at h
    cases h; exact q, fun q => ⟨z, atI_nat (j := 2) rfl, q⟩⟩
theorem o_maxL : vMax [.lst xs] P = ∃ ns, allInts xs = some ns ∧ 0 < ns.length ∧ ∀ m, m ∈ ns → (∀ y, y ∈ ns → y ≤ m) → P (.int m) := rfl
theorem o_minL : vMin [.lst xs] P = ∃ ns, allInts xs = some ns ∧ 0 < ns.length ∧ ∀ m, m ∈ ns → (∀ y, y ∈ ns → m ≤ y) → P (.int m) := rfl
theorem o_tupL : vTuple [.lst xs] P = P (.tup xs) := rfl
theorem o_tupT : vTuple [.tup xs] P = P (.tup xs) := rfl
theorem o_listL : vList [.lst xs] P = P (.lst xs) := rfl
theorem o_listT : vList [.tup xs] P = P (.lst xs) := rfl
theorem o_intB {b : Bool} : QL.vInt [.bl b] P = P (.int (if b then 1 else 0)) := rfl
theorem o_allL : vAll [.lst xs] P = ∃ ns, allBls xs = some ns ∧ P (.bl (ns.all id)) := rfl
theorem o_anyL : vAny [.lst xs] P = ∃ ns, allBls xs = some ns ∧ P (.bl (ns.any id)) := rfl
theorem o_isN : vIsN (.obj a ns xs) .non P = P (.bl false) := rfl
theorem o_isNI {i : Int} : vIsN (.int i) .non P = P (.bl false) := rfl
theorem o_isNN : vIsN .non .non P = P (.bl true) := rfl
theorem o_isNT : vIsN (.tup xs) .non P = P (.bl false) := rfl
theorem o_isNL : vIsN (.lst xs) .non P = P (.bl false) := rfl
theorem o_ntN : vNotN (.obj a ns xs) .non P = P (.bl true) := rfl
theorem o_ntNI {i : Int} : vNotN (.int i) .non P = P (.bl true) := rfl
theorem o_ntNN : vNotN .non .non P = P (.bl false) := rfl
theorem o_ntNT : vNotN (.tup xs) .non P = P (.bl true) := rfl
theorem o_ntNL : vNotN (.lst xs) .non P = P (.bl true) := rfl
end
end QL
set_option Elab.async false
set_option linter.all false
set_option maxRecDepth 100000
namespace QL
open PySem PySem.Spec PyProof.Rows L2
/-! ### dicts whose keys are tuples of ints -/
/-- the key that a tuple of ints is -/
def keyT (xs : List D) : Option (List Int) := allInts xs
abbrev keyL (ns : List Int) : List Key := ns.map Sum.inl
def keyD (d : D) (Q : List Int → Prop) : Prop := match d with
  | .tup xs => ∃ ns, allInts xs = some ns ∧ Q ns
  | _ => False
section
variable {X : Cx} {bx : Bx} {e a b o : Expr} {es : List Expr} {te ta tk tv : RE} {t : RA} {p1 p2 pos : Pos} {i : Nat}
/-- k in x, k not in x: x owns a dict with tuple keys -/
def rDin (i : Nat) (neg : Bool) (tk : RE) : RE := fun env Q => tk env fun d env1 => keyD d fun ns => match env1[i]? with
  | some (.own (.dct ks xs)) => Q (.bl (if neg then !decide (ns ∈ ks) else decide (ns ∈ ks))) env1
  | _ => False
/-! the store -/
def putKs (k : List Int) (ks : List (List Int)) : List (List Int) := if k ∈ ks then ks else ks ++ [k]
def putXs (k : List Int) (z : D) (ks : List (List Int)) (xs : List D) : List D := if k ∈ ks then List.zipWith (fun a x => if a = k then z else x) ks xs else xs ++ [z]
def sDput (i : Nat) (tv tk : RE) : RS := fun en env => tv env fun z env1 => (∃ ks xs, env1[i]? = some (.own (.dct ks xs))) ∧ tk env1 fun d env2 => keyD d fun ns => match env2[i]? with
  | some (.own (.dct ks xs)) => ks.length < sizeLine ∧ en.nx (env2.set i (.own (.dct (putKs ns ks) (putXs ns z ks xs))))
  | _ => False
/-! list(d): the keys, as tuples -/
def vListD : VL
  | [.dct ks _], Q => Q (.lst (ks.map fun k => D.tup (k.map D.int)))
  | _, _ => False
end
/-! the readings, step by step -/
section
variable {env : List Slot} {Q : D → List Slot → Prop} {tk tv : RE} {i : Nat} {neg : Bool} {ks : List (List Int)} {xs : List D} {ns : List Int} {P : D → Prop} {en : PEnds}
def dctQ (d : D) (Q : List (List Int) → List D → Prop) : Prop := match d with
  | .dct ks xs => Q ks xs
  | _ => False
theorem e_dctQ {R : List (List Int) → List D → Prop} : dctQ (.dct ks xs) R = R ks xs := rfl
theorem o_listD : vListD [.dct ks xs] P = P (.lst (ks.map fun k => D.tup (k.map D.int))) := rfl
end
end QL
set_option Elab.async false
set_option linter.all false
set_option maxRecDepth 100000
namespace QL
open PySem PySem.Spec PyProof.Rows L2
/-! ### comprehensions of two fors -/
def lc2R (g : RG) (tt : RB) (ti1 : RI) (g1 : RG) (tt1 : RB) (te : RE) (is is1 : List Nat) : List D → List D → List Slot → (List D → List Slot → Prop) → Prop
  | [], acc, env, Q => Q acc env
  | x :: xs, acc, env, Q => g x env fun env1 => tt env1 fun b env2 => if b = true then ti1 env2 fun ys env3 => lcR g1 tt1 te is1 ys acc (wipeE is1 env3) fun acc' env4 => lc2R g tt ti1 g1 tt1 te is is1 xs acc' (wipeE is env4) Q
    else lc2R g tt ti1 g1 tt1 te is is1 xs acc (wipeE is env2) Q
def rLc2 (ti : RI) (g : RG) (tt : RB) (ti1 : RI) (g1 : RG) (tt1 : RB) (te : RE) (is is1 : List Nat) : RE := fun env Q => ti env fun xs env1 => noOwn is env1 = true ∧ lc2R g tt ti1 g1 tt1 te is is1 xs [] (wipeE is env1) fun acc env2 => Q (.lst acc) (backE is env1 env2)
section
variable {X : Cx} {bx : Bx} {tg iter tg1 iter1 elt : Expr} {ifs ifs1 : List Expr} {pos : Pos} {ti ti1 : RI} {g g1 : RG} {tt tt1 : RB} {te : RE}
abbrev QIb (X : Cx) (bx : Bx) (tg iter : Expr) (scope : Scope) (t : RI) : Prop := ∀ (B : Hp) (s : Shared) (H : Hp) (C : Addr) (cl : List (Str × Addr)) (fp : List Addr), QI (BlkX X s H scope C cl fp) ⟨B, bx.io, bx.F0⟩ tg iter t
def anyI (K : PySem.W.Frag) (io : Option Addr) (F0 : Hp) (t : RI) : TI := fun σ H Q => ∃ B, upI K ⟨B, io, F0⟩ t σ H Q
end
/-! the readings, step by step -/
section
variable {env : List Slot} {Q : D → List Slot → Prop} {ti ti1 : RI} {g g1 : RG} {tt tt1 : RB} {te : RE} {is is1 : List Nat} {xs acc : List D} {x : D} {R : List D → List Slot → Prop}
theorem e_lc2 : rLc2 ti g tt ti1 g1 tt1 te is is1 env Q = ti env fun xs env1 => noOwn is env1 = true ∧ lc2R g tt ti1 g1 tt1 te is is1 xs [] (wipeE is env1) fun acc env2 => Q (.lst acc) (backE is env1 env2) := rfl
end
end QL
set_option Elab.async false
set_option linter.all false
set_option maxRecDepth 100000
namespace QL
open PySem PySem.Spec PyProof.Rows L2
/-! ### max(list, default=d) -/
section
open PySem
variable {prog : Program} {w : World} {A : Around}
variable {R : Result → Shared → Prop} {I : Addr} {fp wr : List Addr} {n : Nat} {P : Nat → Value → Prop} {St : Nat → Heap → Prop} {d : Value}
abbrev mxArgs (I S : Addr) (d : Value) : Args := ⟨[.ref I, .none, .ref S], [("default", d)]⟩
abbrev mxBox (v : Array Value) (c : Nat) : Obj := { cls := .type "list", dict := none, data := .seq v c, slots := #[] }
end
def vMaxD : List D → List D → (D → Prop) → Prop
  | [.lst xs], [.int d], Q => ∃ ns, allInts xs = some ns ∧ (ns = [] → Q (.int d)) ∧ ∀ m, m ∈ ns → (∀ y, y ∈ ns → y ≤ m) → Q (.int m)
  | _, _, _ => False
section
variable {X : Cx} {bx : Bx} {e : Expr} {te ta : RE} {p pos kp : Pos}
/-- max(xs, default=d) -/
def rMaxD (t : RA) (td : RE) : RE := fun env Q => t env fun ds env1 => td env1 fun d env2 => vMaxD ds [d] fun z => Q z env2
end
end QL
set_option Elab.async false
set_option linter.all false
set_option maxRecDepth 100000
namespace QL
open PySem PySem.Spec PyProof.Rows L2
/-! ### the truth of own objects -/
/-- objects of the class are b -/
inductive BoolC (X : Cx) (C : Addr) (b : Bool) : Prop where
  | own {g : Addr} {k : Nat} {fd : FuncData} {ps : List Str} (hs : PySem.W.findIn X.K (.ref C) "__bool__" = some (some (.ref g))) (hf : PySem.W.isFn X.K (.ref g) = true)
      (ok : FnOk X.prog X.w X.K X.mg X.base (L2.CX X.prog X.w) k g fd ps (spA X.K 1 fun ds Q _ => ∀ z, ds = [z] → Q (.bl b))) (rm : Room k X.A) (bd : Binds X.K fd ps []) (tk : ∀ σ, PassesAt (L2.CX X.prog X.w) X σ fun _ _ _ => False)
  | plain (hb : b = true) (hs : PySem.W.findIn X.K (.ref C) "__bool__" = some none) (hl : PySem.W.findIn X.K (.ref C) "__len__" = some none)
section
variable {X : Cx} {bx : Bx} {e : Expr} {te ta : RE} {pos : Pos} {pins : List (Addr × Obj)} {σ : L2.St} {H : Hp} {s : Shared}
theorem truth_own {C a dx : Addr} {fs : List (Str × V)} {b : Bool} {Q : Bool → Shared → Prop} (hC : BoolC X C b) (I : Inv X pins σ H s) (ho : H a = some (.ins C dx fs)) {F : Hp} {d : D} (sm : Same F H) (r : Rep X.K F d (.ref a))
    (h : ∀ H' F' s', Grow F H F' H' → Inv X pins σ H' s' → Q b s') : wpAny (model X.prog X.w) X.A (truthy (.ref a)) Q X.xe s := by
  obtain ⟨mA, O, _⟩ := ins_get I.hok ho
  obtain ⟨od, inst, _⟩ := O.look
  obtain ⟨m, fr⟩ := I.fr
  cases hC with
  | own hs hf ok rm bd tk =>
    refine PySem.W.truthy_K fr I.ok.mod.kin inst hs hf ?_
    refine wpAny_mono (run_fnS (E := fun _ _ _ _ => False) (Q := fun v H' => v = .bl b ∧ ∃ F', Grow F H F' H') (us := [.ref a]) (vs := [.ref a]) ok rm bd (tk σ) I (.cons rfl .nil) ?_) (fun v s' hv => ?_) fun _ _ z => z
    · exact ⟨F, [d], fun z => z = .bl b, fun _ => False, rfl, sm, RepL.one r, fun z _ => rfl, fun z u F' H' g rz ez => by subst ez; exact ⟨rz, F', g⟩, fun _ _ _ _ _ _ _ z => z⟩
    · obtain ⟨v2, H2, I2, rv, rfl, F2, g2⟩ := hv
      cases (show v = .bool b from rv)
      exact h H2 F2 s' g2 I2
  | plain hb hs hl =>
    refine PySem.W.truthy_K0 fr I.ok.mod.kin inst hs hl ?_
    rw [← hb]
    exact h H F s (Grow.refl sm) I
/-- own objects, or data -/
def truO (T : Addr → Option Bool) : D → Option Bool
  | .obj C _ _ => T C
  | d => truD d
def rTruO (T : Addr → Option Bool) (t : RE) : RB := fun env Q => t env fun d env1 => match truO T d with | some k => Q k env1 | none => False
theorem qt_truO {T : Addr → Option Bool} (hT : ∀ C b, T C = some b → BoolC X C b) (ha : QE X bx e ta) (he : ∀ whole, isTrue e X.env whole = (do let v ← whole; standAt e.pos; holding [v] (truthy v)) := by intro _; rfl) : QT X bx e (rTruO T ta) := by
  refine ⟨fun pins s σ H Q I h => ?_⟩
  obtain ⟨env, F, Q0, R, ht, k⟩ := h
  rw [he]
  refine wpAny_bind (thn (ha.run pins s σ H (fun v H' => ∃ d env1 F1, Same F F1 ∧ ER X.K bx F1 env1 σ H' ∧ Rep X.K F1 d v ∧ match truO T d with | some k => Q0 k env1 | none => False) I ⟨env, F, _, R, ht, fun d v env1 F1 H1 s1 R1 r1 q1 => ⟨d, env1, F1, s1, R1, r1, q1⟩⟩) fun u s1 ⟨v, H1, I1, rv, d, env1, F1, s1', R1, r1, q1⟩ => ?_)
  refine wpAny_bind (wpAny_standAt (wpAny_holding ?_))
  split at q1
  · rename_i c hc
    cases d with
    | obj C ns xs =>
      obtain ⟨a, dx, fs, rfl, h2, h3, h4⟩ := r1
      cases (show u = .ref a from rv)
      refine truth_own (hT C c hc) I1 (R1.sf _ _ h2) R1.sf (d := .obj C ns xs) ⟨a, dx, fs, rfl, h2, h3, h4⟩ fun H' F' s' g J => ⟨H', J, ?_⟩
      exact k c env1 F' H' (s1'.trans g.e) (R1.to g) q1
    | _ => exact tru_ok pins s1 σ H1 _ _ _ I1 rv ⟨c, tru_of R1.sf r1 hc, k c env1 F1 H1 s1' R1 q1⟩
  · exact q1.elim
end
end QL
set_option Elab.async false
set_option linter.all false
set_option maxRecDepth 100000
namespace QL
open PySem PySem.Spec PyProof.Rows L2
/-! ### ranges with ends of any size -/
abbrev rgO (lo hi : Int) (t u v : Tok) : Obj := { cls := .type "range", data := .fields #[.int lo t, .int hi u, .int 1 v] }
section
variable {X : Cx} {bx : Bx} {tg e a b : Expr} {ta : TA} {t : RA} {p pos : Pos}
def iRgA (ta : TA) : TI := fun σ H R => ta σ H fun vs H1 => ∃ i j : Int, (vs = [.int i, .int j] ∨ (i = 0 ∧ vs = [.int j])) ∧ R (Itr i (j - i).toNat) H1
def riRA1 (t : RA) : RI := fun env Q => t env fun ds env1 => match ds with | [.int j] => Q (rng 0 j.toNat) env1 | _ => False
def riRA2 (t : RA) : RI := fun env Q => t env fun ds env1 => match ds with | [.int i, .int j] => Q (rng i (j - i).toNat) env1 | _ => False
end
/-! ### list(range(a, b)) -/
section
open PySem
variable {prog : Program} {w : World} {A : Around}
abbrev lsO (c : Nat) (x : Array Value) : Obj := { cls := .type "list", dict := none, data := .seq x c, slots := #[] }
abbrev rgI (lo hi : Int) : Obj := { cls := .type (if Builtin.Range.small lo hi 1 = true then "range_iterator" else "longrange_iterator"), data := .fields #[rawInt lo, rawInt (Builtin.Range.rangeSize lo hi 1), rawInt 1] }
abbrev RgP (lo : Int) (i : Nat) (v : Value) : Prop := ∃ t, v = .int (lo + i * 1) t
abbrev FinL (prog : Program) (w : World) (A : Around) (R : Result → Shared → Prop) : Fin → Shared → Prop := fun fin s' => match fin with
  | .done f => R (.ok f) s'
  | .again c' => c'.quiet = true ∧ codeAny (model prog w) A c' R s'
end
section
variable {X : Cx} {bx : Bx} {a b : Expr} {t : RA} {p pos p2 pos2 : Pos} {te : L2.St → Hp → (Int → Int → Hp → Prop) → Prop} {e : Expr} {ta tb : RE}
def rLstRg (ta tb : RE) : RE := fun env Q => ta env fun d env1 => tb env1 fun e env2 => match d, e with
  | .int i, .int j => (j - i).toNat ≤ 2 ^ 24 ∧ Q (.lst (rng i (j - i).toNat)) env2
  | _, _ => False
end
/-! the readings, step by step -/
section
variable {env : List Slot} {Q : D → List Slot → Prop} {t : RA} {ta tb : RE} {P : List D → List Slot → Prop}
theorem e_riRA1 : riRA1 t env P = t env fun ds env1 => match ds with | [.int j] => P (rng 0 j.toNat) env1 | _ => False := rfl
theorem e_riRA2 : riRA2 t env P = t env fun ds env1 => match ds with | [.int i, .int j] => P (rng i (j - i).toNat) env1 | _ => False := rfl
end
end QL
set_option Elab.async false
set_option linter.all false
set_option maxRecDepth 100000
namespace QL
open PySem PySem.Spec PyProof.Rows L2
/-! ### max and min of a tuple of ints -/
section
open PySem
variable {prog : Program} {w : World} {A : Around}
end
def vMaxT : VL
  | [.tup xs], Q => ∃ ns, allInts xs = some ns ∧ 0 < ns.length ∧ ∀ m, m ∈ ns → (∀ y, y ∈ ns → y ≤ m) → Q (.int m)
  | _, _ => False
def vMinT : VL
  | [.tup xs], Q => ∃ ns, allInts xs = some ns ∧ 0 < ns.length ∧ ∀ m, m ∈ ns → (∀ y, y ∈ ns → m ≤ y) → Q (.int m)
  | _, _ => False
section
variable {X : Cx} {bx : Bx} {e a b : Expr} {te ta tb tk tv : RE} {p pos p1 p2 apos cpos : Pos} {t : RA}
/-! ### // by what is not 0 -/
def vDivN : V2
  | .int i, .int j, Q => (j ≠ 0 ∧ j.natAbs.log2 < 9000) ∧ Q (.int (i.fdiv j))
  | _, _, _ => False
/-! ### {i: x}, {i: x, j: y} -/
def rDisp1 (tk tv : RE) : RE := fun env Q => tk env fun d env1 => tv env1 fun z env2 => match d with
  | .int i => Q (.dic [.inl i] [z]) env2
  | _ => False
def rDisp2 (tk tv tk2 tv2 : RE) : RE := fun env Q => tk env fun d env1 => tv env1 fun z env2 => tk2 env2 fun d2 env3 => tv2 env3 fun z2 env4 => match d, d2 with
  | .int i, .int j => i ≠ j ∧ Q (.dic [.inl i, .inl j] [z, z2]) env4
  | _, _ => False
/-! ### d.get(i, x) -/
def dicGet (k : Int) : List Key → List D → Option D
  | .inl a :: ks, x :: xs => if a = k then some x else dicGet k ks xs
  | _ :: ks, _ :: xs => dicGet k ks xs
  | _, _ => none
def rGet2 (to tk tv : RE) : RE := fun env Q => to env fun o env1 => match o with
  | .dic ks xs => tk env1 fun d env2 => tv env2 fun z env3 => match d with
    | .int i => Q ((dicGet i ks xs).getD z) env3
    | _ => False
  | _ => False
end
theorem hu1 {n c : Nat} (h : n + 64 < c) : n + 1 < c := by omega
/-! the readings, step by step -/
section
variable {env : List Slot} {Q : D → List Slot → Prop} {tk tv tk2 tv2 to : RE} {a b : Int} {xs : List D} {P : D → Prop} {ks : List Key}
theorem o_divN : vDivN (.int a) (.int b) P = ((b ≠ 0 ∧ b.natAbs.log2 < 9000) ∧ P (.int (a.fdiv b))) := rfl
theorem o_maxT : vMaxT [.tup xs] P = ∃ ns, allInts xs = some ns ∧ 0 < ns.length ∧ ∀ m, m ∈ ns → (∀ y, y ∈ ns → y ≤ m) → P (.int m) := rfl
theorem o_minT : vMinT [.tup xs] P = ∃ ns, allInts xs = some ns ∧ 0 < ns.length ∧ ∀ m, m ∈ ns → (∀ y, y ∈ ns → m ≤ y) → P (.int m) := rfl
def dicQ (d : D) (Q : List Key → List D → Prop) : Prop := match d with
  | .dic ks xs => Q ks xs
  | _ => False
theorem e_dicQ {R : List Key → List D → Prop} : dicQ (.dic ks xs) R = R ks xs := rfl
end
end QL
set_option Elab.async false
set_option linter.all false
set_option maxRecDepth 100000
namespace QL
open PySem PySem.Spec PyProof.Rows L2
/-! ### walks over encoded lists -/
section
variable {α : Type} {enc : α → D} {xs : List α}
theorem enc_get {i : Nat} {d : D} (h : (xs.map enc)[i]? = some d) : ∃ a, xs[i]? = some a ∧ d = enc a := by
  rw [List.getElem?_map] at h
  obtain ⟨a, e, z⟩ := Option.map_eq_some_iff.mp h
  exact ⟨a, e, z.symm⟩
theorem forR_of {g : RG} {tb : RS} {en : PEnds} {env : List Slot} (I : Nat → List Slot → Prop) (h0 : I 0 env)
    (hs : ∀ (i : Nat) (a : α) (env : List Slot) (N : List Slot → Prop), xs[i]? = some a → I i env → (∀ env', I (i + 1) env' → N env') → g (enc a) env fun env1 => tb { en with nx := N, ct := N, bk := en.nx } env1) (he : ∀ env, I xs.length env → en.nx env) : forR g tb en (xs.map enc) env :=
  forR_inv I h0 (fun i d env N hd hI hN => by
    obtain ⟨a, e, rfl⟩ := enc_get hd
    exact hs i a env N e hI hN) fun env h => he env (by rw [List.length_map] at h; exact h)
theorem lcR_of {g : RG} {te : RE} {is : List Nat} {env : List Slot} {Q : List D → List Slot → Prop} (f : α → D) (hl : xs.length ≤ sizeLine)
    (hs : ∀ (a : α) (N : D → List Slot → Prop), a ∈ xs → (∀ env', wipeE is env' = env → N (f a) env') → g (enc a) env fun env1 => te env1 N) (he : Q (xs.map f) env) : lcR g rYes te is (xs.map enc) [] env Q := by
  refine lcR_inv (fun i acc e => acc = (xs.take i).map f ∧ e = env) ⟨by simp, rfl⟩ ?_ ?_
  · rintro i d acc e N hd ⟨rfl, rfl⟩ hN
    obtain ⟨a, ha, rfl⟩ := enc_get hd
    have hi := (List.getElem?_eq_some_iff.mp ha).1
    exact hs a (fun z env3 => ((xs.take i).map f).length < sizeLine ∧ N ((xs.take i).map f ++ [z]) (wipeE is env3)) (List.mem_of_getElem? ha) fun env' he => ⟨by rw [List.length_map, List.length_take]; omega, by
      rw [he]
      refine hN _ _ ⟨?_, rfl⟩
      rw [List.take_add_one, ha, List.map_append]
      rfl⟩
  · rintro acc e ⟨rfl, rfl⟩
    rw [List.length_map, List.take_length]
    exact he
theorem allInts_of {f : α → Int} : allInts (xs.map fun a => D.int (f a)) = some (xs.map f) := by
  have := allInts_map (xs.map f)
  rw [List.map_map] at this
  exact this
end
end QL
set_option Elab.async false
set_option linter.all false
set_option maxRecDepth 100000
namespace QL
open PySem PySem.Spec PyProof.Rows L2
/-! ### a comprehension with an if, over encoded items -/
section
variable {α : Type} {enc : α → D} {xs : List α}
/-! ### a list of tuples of ints, and [] -/
theorem toPs_enc {key : α → List Int} (h : ∀ a, enc a = .tup ((key a).map D.int)) : ∀ xs : List α, toPs (xs.map enc) = xs.map fun a => PyData.tuple ((key a).map PyData.int)
  | [] => rfl
  | a :: xs => by
    rw [List.map_cons, toPs, toPs_enc h xs, h a]
    show PyData.tuple (toPs _) :: _ = _
    rw [toPs_ints]
    rfl
theorem okPs_enc {key : α → List Int} (h : ∀ a, enc a = .tup ((key a).map D.int)) : ∀ xs : List α, okPs (xs.map enc) = true
  | [] => rfl
  | a :: xs => by
    rw [List.map_cons, okPs, okPs_enc h xs, h a]
    show (okPs _ && true) = true
    rw [okPs_ints]
    rfl
theorem shaped_encL (key : α → List Int) (xs : List α) : SeqAt.shaped (.list (xs.map fun a => PyData.tuple ((key a).map PyData.int))) = true := by
  have k1 : ∀ ns : List Int, PyData.canLayAll0 (ns.map PyData.int) = true := fun ns => by
    have := shaped_ints ns
    unfold SeqAt.shaped at this
    rw [Bool.and_eq_true, PyData.canLay0] at this
    exact this.1
  have k2 : ∀ ns : List Int, PyData.depthAll (ns.map PyData.int) = 0 := fun ns => by
    induction ns with
    | nil => rfl
    | cons a r ih => simp only [List.map, PyData.depthAll, PyData.depth, ih, Nat.max_self]
  have h1 : PyData.canLayAll0 (xs.map fun a => PyData.tuple ((key a).map PyData.int)) = true := by
    induction xs with
    | nil => rfl
    | cons a r ih =>
      rw [List.map_cons, PyData.canLayAll0, PyData.canLay0, k1, ih]
      rfl
  have h2 : PyData.depthAll (xs.map fun a => PyData.tuple ((key a).map PyData.int)) ≤ 1 := by
    clear h1
    induction xs with
    | nil => exact Nat.zero_le _
    | cons a r ih =>
      rw [List.map_cons, PyData.depthAll, PyData.depth, k2]
      exact Nat.max_le.mpr ⟨Nat.le_refl _, ih⟩
  unfold SeqAt.shaped
  rw [Bool.and_eq_true]
  exact ⟨by rw [PyData.canLay0]; exact h1, by rw [PyData.depth, decide_eq_true_eq]; omega⟩
theorem k_eqN {key : α → List Int} (h : ∀ a, enc a = .tup ((key a).map D.int)) {P : D → Prop} : vEq (.lst (xs.map enc)) (.lst []) P = P (.bl xs.isEmpty) := by
  show (okPs (xs.map enc) = true ∧ okPs [] = true ∧ SeqAt.shaped (.list (toPs (xs.map enc))) = true ∧ SeqAt.shaped (.list []) = true ∧ P (.bl (PyData.eqv (.list (toPs (xs.map enc))) (.list [])))) = _
  have e : PyData.eqv (.list (toPs (xs.map enc))) (.list []) = xs.isEmpty := by cases xs <;> rfl
  rw [e, toPs_enc h]
  exact propext ⟨fun h => h.2.2.2.2, fun z => ⟨okPs_enc h _, rfl, shaped_encL key xs, shaped_ints [], z⟩⟩
theorem k_neN {key : α → List Int} (h : ∀ a, enc a = .tup ((key a).map D.int)) {P : D → Prop} : vNe (.lst (xs.map enc)) (.lst []) P = P (.bl (!xs.isEmpty)) := by
  show (okPs (xs.map enc) = true ∧ okPs [] = true ∧ SeqAt.shaped (.list (toPs (xs.map enc))) = true ∧ SeqAt.shaped (.list []) = true ∧ P (.bl (!PyData.eqv (.list (toPs (xs.map enc))) (.list [])))) = _
  have e : PyData.eqv (.list (toPs (xs.map enc))) (.list []) = xs.isEmpty := by cases xs <;> rfl
  rw [e, toPs_enc h]
  exact propext ⟨fun h => h.2.2.2.2, fun z => ⟨okPs_enc h _, rfl, shaped_encL key xs, shaped_ints [], z⟩⟩
end
/-! ### {i: x, j: y, k: z} -/
section
variable {X : Cx} {bx : Bx} {a b a2 b2 a3 b3 : Expr} {tk tv tk2 tv2 tk3 tv3 : RE} {pos : Pos}
def rDisp3 (tk tv tk2 tv2 tk3 tv3 : RE) : RE := fun env Q => tk env fun d env1 => tv env1 fun z env2 => tk2 env2 fun d2 env3 => tv2 env3 fun z2 env4 => tk3 env4 fun d3 env5 => tv3 env5 fun z3 env6 => match d, d2, d3 with
  | .int i, .int j, .int l => (i ≠ j ∧ i ≠ l ∧ j ≠ l) ∧ Q (.dic [.inl i, .inl j, .inl l] [z, z2, z3]) env6
  | _, _, _ => False
variable {env : List Slot} {Q : D → List Slot → Prop}
end
end QL
set_option Elab.async false
set_option linter.all false
set_option maxRecDepth 100000
namespace QL
open PySem PySem.Spec PyProof.Rows L2
section
variable {X : Cx} {bx : Bx} {tg iter tg1 iter1 elt : Expr} {ifs ifs1 : List Expr} {pos : Pos} {ti ti1 : RI} {g g1 : RG} {tt tt1 : RB} {te : RE}
end
end QL
set_option Elab.async false
set_option linter.all false
set_option maxRecDepth 100000
namespace QL
open PySem PySem.Spec PyProof.Rows L2
section
variable {X : Cx} {bx : Bx} {e : Expr} {es : List Expr} {t : RA} {te : RE} {pos : Pos}
/-! ### a call that leaves the last parameter to its default, an empty tuple -/
def rCallD (S : FA) (n : Nat) (EX : XD) (z : Addr) (t : RA) : RE := fun env Q => t env fun ds env1 => ds.length + 1 = n ∧ S (ds ++ [.raw (.ref z)]) (fun d => Q d env1) fun ed => EX ed env1
/-- * of such an empty tuple -/
def rStarR (z : Addr) (te : RE) (t : RA) : RA := fun env Q => te env fun d env1 => d = .raw (.ref z) ∧ t env1 Q
variable {env : List Slot} {Q : D → List Slot → Prop} {P : List D → List Slot → Prop} {S : FA} {n : Nat} {EX : XD} {z : Addr}
theorem e_callD : rCallD S n EX z t env Q = t env fun ds env1 => ds.length + 1 = n ∧ S (ds ++ [.raw (.ref z)]) (fun d => Q d env1) fun ed => EX ed env1 := rfl
theorem e_starR : rStarR z te t env P = te env fun d env1 => d = .raw (.ref z) ∧ t env1 P := rfl
end
/-- a def as it stands, with defaults or without -/
structure FunE (K : PySem.W.Frag) (x qual : Str) (st : Stmt) (f : Addr) (fd : FuncData) : Prop where
  ex : ∃ (oc : Value) (od : Option Addr) (dV kV doc pm : Value) (an : Option Addr) (cdv ct : Value) (osl : Array (Option Value)),
    fd = PySem.W.fnOf x qual (defArgs st) (defBody st) (defScope st) dV kV doc pm an cdv ct ∧ K.lookup f = some ⟨oc, od, .func fd, osl⟩ ∧ PySem.W.codeIn K cdv qual = true
section
variable {P : Program} {w : World} {K : PySem.W.Frag} {mg : Str → Option Value} {base : Heap}
end
end QL
set_option Elab.async false
set_option linter.all false
set_option maxRecDepth 100000
namespace QL
open PySem PySem.Spec PyProof.Rows L2
/-! ### dicts with int keys that a slot owns -/
section
variable {X : Cx} {bx : Bx} {o a e : Expr} {tk tv : RE} {pos p1 : Pos} {i : Nat}
/-- x[n] = v, n new -/
def sDputN (i : Nat) (tv tk : RE) : RS := fun en env => tv env fun z env1 => (∃ ks xs, env1[i]? = some (.own (.dic ks xs))) ∧ tk env1 fun d env2 => intQ d fun n => match env2[i]? with
  | some (.own (.dic ks xs)) => (ks.length < sizeLine ∧ (Sum.inl n : Key) ∉ ks) ∧ en.nx (env2.set i (.own (.dic (ks ++ [.inl n]) (xs ++ [z]))))
  | _ => False
/-- x[n] -/
def rDgetN (i : Nat) (tk : RE) : RE := fun env Q => (∃ d, env[i]? = some (.own d)) ∧ tk env fun d env1 => intQ d fun n => match env1[i]? with
  | some (.own (.dic ks xs)) => ∃ z, dicGet n ks xs = some z ∧ Q z env1
  | _ => False
variable {env : List Slot} {Q : D → List Slot → Prop} {en : PEnds}
end
end QL
set_option Elab.async false
set_option linter.all false
set_option maxRecDepth 100000
namespace QL
open PySem PySem.Spec PyProof.Rows L2
section
variable {X : Cx} {bx : Bx} {a b : Expr} {ta tb : RE} {pos : Pos} {i j : Nat}
/-- x, y = e, {}: y owns what is new -/
def sParN (i j : Nat) (ta tb : RE) : RS := fun en env => ta env fun d env1 => tb env1 fun e env2 => en.nx ((env2.set j (.own e)).set i (.val d))
variable {env : List Slot} {en : PEnds}
end
end QL
set_option Elab.async false
set_option linter.all false
set_option maxRecDepth 100000
namespace QL
open PySem PySem.Spec PyProof.Rows L2
section
variable {X : Cx} {bx : Bx} {b : Expr} {tb : RE} {p p2 pos pos2 : Pos}
/-- list(range(n)) -/
def rLstR1 (tb : RE) : RE := fun env Q => tb env fun d env1 => intQ d fun j => j.toNat ≤ 2 ^ 24 ∧ Q (.lst (rng 0 j.toNat)) env1
variable {env : List Slot} {Q : D → List Slot → Prop}
theorem e_lstR1 : rLstR1 tb env Q = tb env fun d env1 => intQ d fun j => j.toNat ≤ 2 ^ 24 ∧ Q (.lst (rng 0 j.toNat)) env1 := rfl
end
end QL
set_option Elab.async false
set_option linter.all false
set_option maxRecDepth 100000
namespace QL
open PySem PySem.Spec PyProof.Rows L2
section
variable {X : Cx} {bx : Bx} {a b : Expr} {ta tb : RE} {pos : Pos} {i j : Nat}
end
end QL
set_option Elab.async false
set_option linter.all false
set_option maxRecDepth 100000
namespace QL
open PySem PySem.Spec PyProof.Rows L2
section
variable {T : Addr → Option Bool} {t : RE} {env : List Slot} {Q : Bool → List Slot → Prop} {C : Addr} {ns : List Str} {xs : List D} {b : Bool} {P : Bool → Prop}
/-- the truth of a datum -/
def truQ (T : Addr → Option Bool) (d : D) (P : Bool → Prop) : Prop := match truO T d with | some k => P k | none => False
theorem e_truO : rTruO T t env Q = t env fun d env1 => truQ T d fun k => Q k env1 := rfl
theorem k_truQ (h : T C = some b) (q : P b) : truQ T (.obj C ns xs) P := by
  show (match T C with | some k => P k | none => False)
  rw [h]
  exact q
end
end QL
set_option Elab.async false
set_option linter.all false
set_option maxRecDepth 100000
namespace QL
open PySem PySem.Spec PyProof.Rows L2
/-! ### one of two readings -/
section
variable {X : Cx} {bx : Bx} {e : Expr} {ta tb : RE}
variable {env : List Slot} {Q : D → List Slot → Prop}
def rEith (ta tb : RE) : RE := fun env Q => ta env Q ∨ tb env Q
theorem q_eith (ha : QE X bx e ta) (hb : QE X bx e tb) : QE X bx e (rEith ta tb) := ⟨fun pins s σ H Q I ⟨env, F, Q0, R, ht, k⟩ => by
  rcases ht with ht | ht
  · exact ha.run pins s σ H Q I ⟨env, F, Q0, R, ht, k⟩
  · exact hb.run pins s σ H Q I ⟨env, F, Q0, R, ht, k⟩⟩
def rEithA (ta tb : RA) : RA := fun env Q => ta env Q ∨ tb env Q
theorem e_eithA {ta tb : RA} {P : List D → List Slot → Prop} : rEithA ta tb env P = (ta env P ∨ tb env P) := rfl
theorem e_eith : rEith ta tb env Q = (ta env Q ∨ tb env Q) := rfl
end
section
def seqQ (d : D) (P : List D → Prop) : Prop := match d with
  | .tup xs => P xs
  | .lst xs => P xs
  | _ => False
variable {te : RE} {t : RA} {env : List Slot} {Q : List D → List Slot → Prop} {xs : List D} {P : List D → Prop}
theorem e_seqT : seqQ (.tup xs) P = P xs := rfl
theorem e_seqL : seqQ (.lst xs) P = P xs := rfl
end
section
variable {a b : Bool} {P : D → Prop}
theorem o_eqB : vEq (.bl a) (.bl b) P = P (.bl (decide (a = b))) := rfl
theorem o_neB : vNe (.bl a) (.bl b) P = P (.bl (!decide (a = b))) := rfl
end
end QL
set_option Elab.async false
set_option linter.all false
set_option maxRecDepth 100000
set_option maxHeartbeats 4000000
namespace QL
open PySem PySem.Spec PyProof.Rows L2
/-! ### tuple * int -/
section
variable {X : Cx}
def rRepS (K : PySem.W.Frag) : R2 := fun x y H Q => ∃ l k xs, x = .ref l ∧ y = .int k ∧ SqT K H l xs ∧ xs ≠ [] ∧ -1000 ≤ k ∧ ((k = 1 ∧ Q (.ref l) H) ∨ (k ≤ 0 ∧ ∀ p, H p = none → Q (.ref p) (upd H p (.tup []))))
/-- a tuple times an int -/
def vMulT : V2
  | .tup xs, .int k, Q => (xs ≠ [] ∧ xs.length ≤ 1000 ∧ -1000 ≤ k ∧ k ≤ 1000) ∧ Q (.tup (List.replicate k.toNat xs).flatten)
  | _, _, _ => False
theorem o_mulT {xs : List D} {k : Int} {P : D → Prop} : vMulT (.tup xs) (.int k) P = ((xs ≠ [] ∧ xs.length ≤ 1000 ∧ -1000 ≤ k ∧ k ≤ 1000) ∧ P (.tup (List.replicate k.toNat xs).flatten)) := rfl
end
end QL
set_option Elab.async false
set_option linter.all false
set_option maxRecDepth 100000
namespace QL
open PySem PySem.Spec PyProof.Rows L2
/-! ### {x: True for ..}, and its keys in order -/
def insI (ks : List Int) (i : Int) : List Int := if i ∈ ks then ks else ks ++ [i]
abbrev kvsT (ks : List Int) : List (Key × V) := ks.map fun i => ((Sum.inl i : Key), V.bl true)
def dcR (g : RG) (tt : RB) (tk : RE) (is : List Nat) : List D → List Int → List Slot → (List Int → List Slot → Prop) → Prop
  | [], ks, env, Q => Q ks env
  | d :: xs, ks, env, Q => g d env fun env1 => tt env1 fun b env2 => if b = true then tk env2 fun y env3 => intQ y fun i => ks.length < sizeLine ∧ dcR g tt tk is xs (insI ks i) (wipeE is env3) Q else dcR g tt tk is xs ks (wipeE is env2) Q
section
variable {X : Cx} {bx : Bx} {tg iter kx vx : Expr} {ifs : List Expr} {pos : Pos} {ti : RI} {g : RG} {tt : RB} {tk : RE}
def rDc (ti : RI) (g : RG) (tt : RB) (tk : RE) (is : List Nat) : RE := fun env Q => ti env fun xs env1 => noOwn is env1 = true ∧ dcR g tt tk is xs [] (wipeE is env1) fun ks env2 => Q (.dic (ks.map Sum.inl) (ks.map fun _ => D.bl true)) (backE is env1 env2)
end
section
variable {X : Cx}
def vSortedD : VL
  | [.dic ks xs], Q => ∃ ns : List Int, ks = ns.map Sum.inl ∧ ns.length < 64 ∧ ∀ ys : List Int, ys.Perm ns → ys.Pairwise (· ≤ ·) → Q (.lst (ys.map D.int))
  | _, _ => False
variable {ti : RI} {g : RG} {tt : RB} {tk : RE} {is : List Nat} {env : List Slot} {Q : D → List Slot → Prop} {ks : List Key} {xs : List D} {P : D → Prop}
theorem e_dc : rDc ti g tt tk is env Q = ti env fun xs env1 => noOwn is env1 = true ∧ dcR g tt tk is xs [] (wipeE is env1) fun ks env2 => Q (.dic (ks.map Sum.inl) (ks.map fun _ => D.bl true)) (backE is env1 env2) := rfl
theorem o_sortedD : vSortedD [.dic ks xs] P = ∃ ns : List Int, ks = ns.map Sum.inl ∧ ns.length < 64 ∧ ∀ ys : List Int, ys.Perm ns → ys.Pairwise (· ≤ ·) → P (.lst (ys.map D.int)) := rfl
end

end QL
set_option Elab.async false
set_option linter.all false
set_option maxRecDepth 100000
set_option maxHeartbeats 4000000
namespace QL
open PySem PySem.Spec PyProof.Rows L2
/-! ### bool(an own object) -/
section
variable {X : Cx} {pins : List (Addr × Obj)} {σ : L2.St} {H : Hp} {s : Shared}
/-- objects of the class are b, also two calls further in -/
inductive BoolD (X : Cx) (C : Addr) (b : Bool) : Prop where
  | own {g : Addr} {k : Nat} {fd : FuncData} {ps : List Str} (hs : PySem.W.findIn X.K (.ref C) "__bool__" = some (some (.ref g))) (hf : PySem.W.isFn X.K (.ref g) = true)
      (ok : FnOk X.prog X.w X.K X.mg X.base (L2.CX X.prog X.w) k g fd ps (spA X.K 1 fun ds Q _ => ∀ z, ds = [z] → Q (.bl b))) (rm : Room (k + 2) X.A) (bd : Binds X.K fd ps [])
  | plain (hb : b = true) (hs : PySem.W.findIn X.K (.ref C) "__bool__" = some none) (hl : PySem.W.findIn X.K (.ref C) "__len__" = some none)
theorem truth_in {C a dx : Addr} {fs : List (Str × V)} {b : Bool} {Q : Bool → Shared → Prop} {E : Value → Shared → Prop} (hC : BoolD X C b) (I : Inv X pins σ H s) (ho : H a = some (.ins C dx fs)) {F : Hp} {d : D} (sm : Same F H) (r : Rep X.K F d (.ref a))
    (h : ∀ H' F' s', Grow F H F' H' → Inv X pins σ H' s' → Q b s') : wpAny (model X.prog X.w) X.A.in1.in1 (truthy (.ref a)) Q E s := by
  obtain ⟨mA, O, _⟩ := ins_get I.hok ho
  obtain ⟨od, inst, _⟩ := O.look
  obtain ⟨m, fr⟩ := I.fr
  cases hC with
  | own hs hf ok rm bd =>
    refine PySem.W.truthy_K fr I.ok.mod.kin inst hs hf ?_
    have hsp : spA X.K 1 (fun ds Q _ => ∀ z, ds = [z] → Q (.bl b)) [V.ref a] H (fun v H' => v = .bl b ∧ ∃ F', Grow F H F' H') (fun _ _ _ => False) :=
      ⟨F, [d], fun z => z = .bl b, fun _ => False, rfl, sm, RepL.one r, fun z _ => rfl, fun z u F' H' g rz ez => by subst ez; exact ⟨rz, F', g⟩, fun _ _ _ _ _ _ _ z => z⟩
    have hl : ([Value.ref a] : List Value).length = _ := ok.len _ _ _ _ hsp
    have b' := bd s [.ref a] I.kIn (by rw [List.append_nil]; exact hl)
    rw [List.append_nil] at b'
    refine wpAny_call (codeAny_mono (ok.run X.A.in1.in1 X.stack s H ⟨[.ref a], []⟩ [.ref a] [V.ref a] _ _ rm.in1.in1 I.env0.in1.in1 b' (.cons rfl .nil) hsp) fun r s' hq => ?_)
    cases r with
    | error e =>
      obtain ⟨_, _, _, _, _, _, _, _, _, _, _, _, z⟩ := hq
      exact z.elim
    | ok fl =>
      cases fl with
      | ret u =>
        obtain ⟨v2, H2, I2, rv, rfl, F2, g2⟩ := I.after hq
        cases (show u = .bool b from rv)
        exact h H2 F2 s' g2 I2
      | next => exact False.elim hq
      | brk => exact False.elim hq
      | cont => exact False.elim hq
  | plain hb hs hl =>
    refine PySem.W.truthy_K0 fr I.ok.mod.kin inst hs hl ?_
    rw [← hb]
    exact h H F s (Grow.refl sm) I
theorem bool_meets {prog : Program} {w : World} {x : Value} (hx : ∃ a, x = .ref a) : MeetsIn prog w (Builtin.«bool.__new__» ⟨[.type "bool", x], []⟩) (fun A R s => wpAny (model prog w) A.in1 (truthy x) (fun b s' => R (.ok (.ret (.bool b))) s') (fun e s' => R (.error e) s') s) := fun A R s h => by
  obtain ⟨a, rfl⟩ := hx
  have f1 := F.conv_sub_bool
  obtain ⟨hp, g, d, tk, os⟩ := s
  repeat (any_goals (first | (with_reducible refine wpAny_mono h (fun b s' hq => ?_) fun _ _ z => z) | wp_step))
  all_goals exact hq
end
section
variable {X : Cx}
def vBoolO (T : Addr → Option Bool) : VL
  | [.obj C _ _], Q => ∃ b, T C = some b ∧ Q (.bl b)
  | _, _ => False
theorem qc_boolO {T : Addr → Option Bool} (hT : ∀ C b, T C = some b → BoolD X C b) : CallR X (.type "bool") (upVL X.K (vBoolO T)) := by
  intro pins s σ H xs us Q' I r ⟨F, ds, Q, sm, rl, h, g⟩
  unfold vBoolO at h
  split at h
  · rename_i C ns xs
    obtain ⟨b, hb, q⟩ := h
    obtain ⟨v, w, rfl, ⟨a, dx, fs, rfl, h2, h3, h4⟩, rfl⟩ := rl
    obtain rfl := Vals.ref1 r
    refine callType_newIn PySem.F.called_bool PySem.F.newNe_bool (PySem.F.typeCall_bool_1 _) (PySem.F.newCall_bool_1 _) (fun obj => PySem.F.args_object_init_2 obj _) PySem.F.entry_bool_new (bool_meets ⟨a, rfl⟩) ?_
    refine truth_in (hT C b hb) I (sm _ _ h2) sm (d := .obj C ns xs) ⟨a, dx, fs, rfl, h2, h3, h4⟩ fun H' F' s' gr J => ?_
    exact ⟨rfl, .bl b, H', J, rfl, g (.bl b) (.bl b) F' H' gr rfl q⟩
  · exact h.elim
end
section
variable {T : Addr → Option Bool} {C : Addr} {ns : List Str} {xs : List D} {P : D → Prop} {a : Int}
theorem o_boolO : vBoolO T [.obj C ns xs] P = ∃ b, T C = some b ∧ P (.bl b) := rfl
end
end QL
set_option Elab.async false
set_option linter.all false
set_option maxRecDepth 100000
namespace QL
open PySem PySem.Spec PyProof.Rows L2
/-! ### not x, x an own object, as a value -/
section
variable {X : Cx} {bx : Bx} {a : Expr} {ta : RE} {pos : Pos}
def rNotO (T : Addr → Option Bool) (t : RE) : RE := fun env Q => t env fun d env1 => match truO T d with | some k => Q (.bl (!k)) env1 | none => False
variable {T : Addr → Option Bool} {env : List Slot} {Q : D → List Slot → Prop}
theorem e_notO : rNotO T ta env Q = ta env fun d env1 => truQ T d fun k => Q (.bl (!k)) env1 := rfl
end
end QL
set_option Elab.async false
set_option linter.all false
set_option maxRecDepth 100000
namespace QL
open PySem PySem.Spec PyProof.Rows L2
section
variable {X : Cx} {bx : Bx} {pos : Pos} {i j : Nat}
/-- x, y = [], []: both own what is new -/
def sParLL (i j : Nat) : RS := fun en env => en.nx ((env.set j (.own (.lst []))).set i (.own (.lst [])))
variable {env : List Slot} {en : PEnds}
end
end QL
set_option Elab.async false
set_option linter.all false
set_option maxRecDepth 100000
namespace QL
open PySem PySem.Spec PyProof.Rows L2
/-! ### isinstance in the condition of a comprehension -/
section
variable {X : Cx} {K : PySem.W.Frag}
end
end QL
set_option Elab.async false
set_option linter.all false
set_option maxRecDepth 100000
set_option maxHeartbeats 4000000
/-! ### sorted(list of triples of ints), sorted(list of pairs of ints) -/
namespace S3
open PySem PyProof.Rows Srt SrtO
variable {prog : Program} {w : World} {A : Around} {E : Value → Shared → Prop} {s : Shared}
abbrev I3 := Int × Int × Int
def IsTri (h : Heap) (v : Value) (k : I3) : Prop := ∃ a o t u r n, v = .ref a ∧ h.get? a = some o ∧ o.cls = .type "tuple" ∧ o.data = .seq #[.int k.1 t, .int k.2.1 u, .int k.2.2 r] n
theorem IsTri.keeps {h h' : Heap} {v : Value} {k : I3} (p : IsTri h v k) (g : ∀ b o, h.get? b = some o → o.cls = .type "tuple" → h'.get? b = some o) : IsTri h' v k := by
  obtain ⟨a, o, t, u, r, n, e, ho, hc, hd⟩ := p
  exact ⟨a, o, t, u, r, n, e, g _ _ ho hc, hc, hd⟩
def lex3 (p q : I3) : Bool := if p.1 = q.1 then (if p.2.1 = q.2.1 then decide (p.2.2 < q.2.2) else decide (p.2.1 < q.2.1)) else decide (p.1 < q.1)
end S3
namespace L2
open PySem PySem.Spec PyProof.Rows
def rSortedTri (K : PySem.W.Frag) : List V → Hp → VK → Prop := fun vs H Q => ∃ (a : Addr) (xs : List V) (k : V → S3.I3), vs = [V.ref a] ∧ SqL K H a xs ∧ (∀ x ∈ xs, ∃ t, x = V.ref t ∧ H t = some (.tup [.int (k x).1, .int (k x).2.1, .int (k x).2.2])) ∧
  ∀ ys p, SrtO.Srtd (fun x y => S3.lex3 (k x) (k y)) ys → ys.Perm xs → H p = none → Q (.ref p) (upd H p (.lst ys))
section
variable {X : Cx}
end
end L2
namespace QL
open PySem PySem.Spec PyProof.Rows L2
abbrev triD (k : S3.I3) : D := .tup [.int k.1, .int k.2.1, .int k.2.2]
abbrev duoD (k : Int × Int) : D := .tup [.int k.1, .int k.2]
def kTri (F : Hp) : V → S3.I3
  | .ref a => match F a with
    | some (.tup [.int x, .int y, .int z]) => (x, y, z)
    | _ => (0, 0, 0)
  | _ => (0, 0, 0)
def kDuo (F : Hp) : V → Int × Int
  | .ref a => match F a with
    | some (.tup [.int x, .int y]) => (x, y)
    | _ => (0, 0)
  | _ => (0, 0)
section
variable {K : PySem.W.Frag} {F : Hp}
theorem rep_duo {k : Int × Int} {v : V} (h : Rep K F (duoD k) v) : (∃ t, v = .ref t ∧ F t = some (.tup [.int k.1, .int k.2])) ∧ kDuo F v = k := by
  obtain ⟨a, vs, rfl, h2, ⟨v1, r1, rfl, e1, v2, r2, rfl, e2, e4⟩⟩ := h
  cases e1; cases e2; cases e4
  refine ⟨⟨a, rfl, h2⟩, ?_⟩
  simp only [kDuo, h2]
theorem repL_key {α : Type} {enc : α → D} {kf : V → α} (hk : ∀ {k : α} {v : V}, Rep K F (enc k) v → kf v = k) : ∀ {ks : List α} {vs : List V}, RepL K F (ks.map enc) vs → ks = vs.map kf ∧ ∀ v ∈ vs, Rep K F (enc (kf v)) v
  | [], vs, h => by cases h; exact ⟨rfl, fun v hv => by cases hv⟩
  | k :: ks, vs, ⟨v, r, e, h1, h2⟩ => by
    subst e
    obtain ⟨e1, e2⟩ := repL_key hk h2
    refine ⟨by rw [List.map_cons, ← e1, hk h1], fun u hu => ?_⟩
    rcases List.mem_cons.mp hu with rfl | hu
    · rw [hk h1]; exact h1
    · exact e2 u hu
end
def vSort3 : VL
  | [.lst xs], Q => ∃ ks : List S3.I3, xs = ks.map triD ∧ ∀ ys : List S3.I3, ys.Perm ks → ys.Pairwise (fun p q => S3.lex3 q p = false) → Q (.lst (ys.map triD))
  | _, _ => False
def vSort2 : VL
  | [.lst xs], Q => ∃ ks : List (Int × Int), xs = ks.map duoD ∧ ∀ ys : List (Int × Int), ys.Perm ks → ys.Pairwise (fun p q => SrtO.lexB q p = false) → Q (.lst (ys.map duoD))
  | _, _ => False
section
variable {X : Cx}
variable {xs : List D} {P : D → Prop}
theorem o_sort3 : vSort3 [.lst xs] P = ∃ ks : List S3.I3, xs = ks.map triD ∧ ∀ ys : List S3.I3, ys.Perm ks → ys.Pairwise (fun p q => S3.lex3 q p = false) → P (.lst (ys.map triD)) := rfl
theorem o_sort2 : vSort2 [.lst xs] P = ∃ ks : List (Int × Int), xs = ks.map duoD ∧ ∀ ys : List (Int × Int), ys.Perm ks → ys.Pairwise (fun p q => SrtO.lexB q p = false) → P (.lst (ys.map duoD)) := rfl
end
end QL
set_option Elab.async false
set_option linter.all false
set_option maxRecDepth 100000
namespace QL
open PySem PySem.Spec PyProof.Rows L2
/-! ### xs[::-1] -/
def vRev (d : D) (Q : D → Prop) : Prop := match d with
  | .lst xs => Q (.lst xs.reverse)
  | _ => False
def rRev (te : RE) : RE := fun env Q => te env fun d env1 => vRev d fun z => Q z env1
section
variable {X : Cx} {bx : Bx} {e : Expr} {te : RE} {k : Nat} {p1 p2 p3 pos : Pos} {env : List Slot} {Q : D → List Slot → Prop} {xs : List D} {P : D → Prop}
theorem e_rev : rRev te env Q = te env fun d env1 => vRev d fun z => Q z env1 := rfl
theorem o_rev : vRev (.lst xs) P = P (.lst xs.reverse) := rfl
end
end QL
set_option Elab.async false
set_option linter.all false
set_option maxRecDepth 100000
set_option maxHeartbeats 4000000
namespace QL
open PySem PySem.Spec PyProof.Rows L2
section
variable {X : Cx} {bx : Bx} {a1 a2 a3 a4 a5 : Expr} {t1 t2 t3 t4 t5 : RE} {pos : Pos} {i1 i2 i3 i4 i5 j l : Nat}
/-- x1, .., x5, y, z = e1, .., e5, [], None: y owns what is new -/
def sPar7 (i1 i2 i3 i4 i5 j l : Nat) (t1 t2 t3 t4 t5 : RE) : RS := fun en env => t1 env fun d1 env => t2 env fun d2 env => t3 env fun d3 env => t4 env fun d4 env => t5 env fun d5 env =>
  en.nx (((((((env.set j (.own (.lst []))).set i1 (.val d1)).set i2 (.val d2)).set i3 (.val d3)).set i4 (.val d4)).set i5 (.val d5)).set l (.val .non))
variable {en : PEnds} {env : List Slot}
end
end QL
set_option Elab.async false
set_option linter.all false
set_option maxRecDepth 100000
namespace QL
open PySem PySem.Spec PyProof.Rows L2
/-! ### xs[::-1] of a name that owns its list -/
def rRevO (i : Nat) : RE := fun env Q => match env[i]? with
  | some (.own d) => vRev d fun z => Q z env
  | _ => False
section
variable {X : Cx} {bx : Bx} {a : Expr} {k i : Nat} {p1 p2 p3 pos : Pos} {env : List Slot} {Q : D → List Slot → Prop}
end
end QL
set_option Elab.async false
set_option linter.all false
set_option maxRecDepth 100000
set_option maxHeartbeats 4000000
/-! ### min(list of pairs of ints), (x, y) in a list of pairs of ints -/
namespace S4
open PySem PyProof.Rows
variable {prog : Program} {w : World} {A : Around} {R : Result → Shared → Prop} {I : Addr} {fp wr : List Addr} {n : Nat} {P : Nat → Value → Prop} {St : Nat → Heap → Prop} {H0 : Heap}
def CmpAt (prog : Program) (w : World) (A : Around) (op : CmpOp) (P : Nat → Value → Prop) (bt : Nat → Nat → Bool) (H0 : Heap) : Prop :=
  ∀ i j vi vj (s : Shared) (Q : Value → Shared → Prop) (E : Value → Shared → Prop), (∀ b o, H0.get? b = some o → s.heap.get? b = some o) → P i vi → P j vj → Q (.bool (bt i j)) s → wpAny (model prog w) A (richCompare op vi vj) Q E s
abbrev mnBox (v : Array Value) (c : Nat) : Obj := { cls := .type "list", dict := none, data := .seq v c, slots := #[] }
abbrev mnArgs (I S : Addr) : Args := ⟨[.ref I, .none, .ref S], []⟩
theorem mn_name : (toString "min" ++ toString ".loop" : String) = "min.loop" := by decide
theorem mn_loop (W : Walks prog w A.in1 I fp wr n P St) (bt : Nat → Nat → Bool) (cm : CmpAt prog w A.in1 .Lt P bt H0) (S : Addr) (nf : S ∉ fp) (k0 : ∀ b o, H0.get? b = some o → b ∉ wr ∧ b ≠ S) (k : Nat) : ∀ (j : Nat) (s : Shared) (vb : Value) (c : Nat), n - (j + 1) = k → j + 1 ≤ n → St (j + 1) s.heap → (∀ b o, H0.get? b = some o → s.heap.get? b = some o) → P (argBest bt j) vb → s.heap.get? S = some (mnBox #[vb, vb] c) →
    (∀ v h' tk, P (argBest bt (n - 1)) v → (∀ b o, b ∉ wr → b ≠ S → s.heap.get? b = some o → h'.get? b = some o) → R (.ok (.ret v)) { s with heap := h', toks := tk }) → codeAny (model prog w) A (.builtin "min.loop" (mnArgs I S)) R s := by
  have nw : S ∉ wr := fun z => nf (W.sub _ z)
  induction k with
  | zero =>
    intro j s vb c ek lj st kp pb eS hR
    refine codeAny_builtin F.entry_min_loop ?_
    rw [Around.under_plainId F.plain_min_loop _]
    show wpAny _ A.in1 (seqItems? (.ref S) >>= _) _ _ s
    refine wpAny_bind (wpAny_seqItems eS rfl ?_)
    show wpAny _ A.in1 (tryCatch (pyNext (.ref I)) _ >>= _) _ _ s
    have en : j + 1 = n := by omega
    rw [en] at st
    refine wpAny_bind (wpAny_tryCatch (W.done s _ _ st fun h2 t2 keep => ?_))
    have eS2 := keep S _ nw eS
    show wpAny _ A.in1 (updateSeq S (fun _ => #[]) >>= _) _ _ _
    refine wpAny_bind (wpAny_updateSeq eS2 rfl (wpAny_bind (wpAny_letGo (wpAny_pure ?_))))
    have ej : j = n - 1 := by omega
    rw [ej] at pb
    exact hR vb _ t2 pb fun b o z1 z2 z3 => (Heap.get?_update_other _ _ (Ne.symm z2)).trans (keep b o z1 z3)
  | succ k ih =>
    intro j s vb c ek lj st kp pb eS hR
    have lt : j + 1 < n := by omega
    refine codeAny_builtin F.entry_min_loop ?_
    rw [Around.under_plainId F.plain_min_loop _]
    show wpAny _ A.in1 (seqItems? (.ref S) >>= _) _ _ s
    refine wpAny_bind (wpAny_seqItems eS rfl ?_)
    show wpAny _ A.in1 (tryCatch (pyNext (.ref I)) _ >>= _) _ _ s
    refine wpAny_bind (wpAny_tryCatch (W.item (j + 1) s _ _ lt st fun v h2 t2 pv st2 keep => ?_))
    have eS2 := keep S _ nw eS
    have kp2 : ∀ b o, H0.get? b = some o → h2.get? b = some o := fun b o e => keep b o (k0 b o e).1 (kp b o e)
    show wpAny _ A.in1 (tryCatch (holding [v, v] (richCompare .Lt v vb >>= _)) _ >>= _) _ _ _
    refine wpAny_bind (wpAny_tryCatch (wpAny_holding (wpAny_bind (cm (j + 1) (argBest bt j) v vb _ _ _ kp2 pv pb ?_))))
    refine wpAny_bind (wpAny_holding (wpAny_truthy_bool ?_))
    refine wpAny_bind (wpAny_letGo (wpAny_pure ?_))
    by_cases hb : bt (j + 1) (argBest bt j) = true
    · rw [if_pos hb]
      refine wpAny_bind (wpAny_updateSeq eS2 rfl (wpAny_bind (wpAny_letGo ?_)))
      rw [mn_name]
      have stay : St (j + 1 + 1) (h2.update S (Obj.mapSeq fun _ => #[v, v])) := W.frame _ _ _ st2 fun b z o e => (Heap.get?_update_other _ _ (fun y : S = b => nf (by rw [y]; exact z))).trans e
      refine wpAny_pure ⟨plainId_quiet F.plain_min_loop _, ih (j + 1) _ v _ (by omega) lt stay (fun b o e => (Heap.get?_update_other _ _ (Ne.symm (k0 b o e).2)).trans (kp2 b o e)) (by unfold argBest; rw [if_pos hb]; exact pv) (Heap.get?_update_self _ eS2 rfl) fun v3 h3 t3 p3 k3 => ?_⟩
      exact hR v3 h3 t3 p3 fun b o z1 z2 z3 => k3 b o z1 z2 ((Heap.get?_update_other _ _ (Ne.symm z2)).trans (keep b o z1 z3))
    · rw [if_neg hb]
      refine wpAny_bind (wpAny_letGo ?_)
      rw [mn_name]
      refine wpAny_pure ⟨plainId_quiet F.plain_min_loop _, ih (j + 1) _ vb c (by omega) lt st2 kp2 (by unfold argBest; rw [if_neg hb]; exact pb) eS2 fun v3 h3 t3 p3 k3 => ?_⟩
      exact hR v3 h3 t3 p3 fun b o z1 z2 z3 => k3 b o z1 z2 (keep b o z1 z3)
theorem mn_first (W : Walks prog w A.in1 I fp wr n P St) (bt : Nat → Nat → Bool) (cm : CmpAt prog w A.in1 .Lt P bt H0) (S : Addr) (nf : S ∉ fp) (k0 : ∀ b o, H0.get? b = some o → b ∉ wr ∧ b ≠ S) (hn : 0 < n) {s : Shared} {c : Nat} (st : St 0 s.heap) (kp : ∀ b o, H0.get? b = some o → s.heap.get? b = some o) (eS : s.heap.get? S = some (mnBox #[] c))
    (hR : ∀ v h' tk, P (argBest bt (n - 1)) v → (∀ b o, b ∉ wr → b ≠ S → s.heap.get? b = some o → h'.get? b = some o) → R (.ok (.ret v)) { s with heap := h', toks := tk }) : codeAny (model prog w) A (.builtin "min.loop" (mnArgs I S)) R s := by
  have nw : S ∉ wr := fun z => nf (W.sub _ z)
  refine codeAny_builtin F.entry_min_loop ?_
  rw [Around.under_plainId F.plain_min_loop _]
  show wpAny _ A.in1 (seqItems? (.ref S) >>= _) _ _ s
  refine wpAny_bind (wpAny_seqItems eS rfl ?_)
  show wpAny _ A.in1 (tryCatch (pyNext (.ref I)) _ >>= _) _ _ s
  refine wpAny_bind (wpAny_tryCatch (W.item 0 s _ _ hn st fun v h2 t2 pv st2 keep => ?_))
  have eS2 := keep S _ nw eS
  show wpAny _ A.in1 (updateSeq S (fun _ => #[v, v]) >>= _) _ _ _
  refine wpAny_bind (wpAny_updateSeq eS2 rfl ?_)
  rw [mn_name]
  have stay : St (0 + 1) (h2.update S (Obj.mapSeq fun _ => #[v, v])) := W.frame _ _ _ st2 fun b z o e => (Heap.get?_update_other _ _ (fun y : S = b => nf (by rw [y]; exact z))).trans e
  refine wpAny_pure ⟨plainId_quiet F.plain_min_loop _, mn_loop W bt cm S nf k0 _ 0 _ v _ rfl hn stay (fun b o e => (Heap.get?_update_other _ _ (Ne.symm (k0 b o e).2)).trans (keep b o (k0 b o e).1 (kp b o e))) pv (Heap.get?_update_self _ eS2 rfl) fun v3 h3 t3 p3 k3 => ?_⟩
  exact hR v3 h3 t3 p3 fun b o z1 z2 z3 => k3 b o z1 z2 ((Heap.get?_update_other _ _ (Ne.symm z2)).trans (keep b o z1 z3))
/-- the best place of all, in a strict weak order -/
theorem best_least {k : Nat → Int × Int} : ∀ n j : Nat, j ≤ n → SrtO.lexB (k j) (k (argBest (fun i j => SrtO.lexB (k i) (k j)) n)) = false
  | 0, j, h => by
    have : j = 0 := by omega
    subst this
    unfold argBest
    refine SrtO.lexB_no.mpr ?_
    omega
  | n + 1, j, h => by
    have ih := best_least (k := k) n
    unfold argBest
    by_cases hb : SrtO.lexB (k (n + 1)) (k (argBest (fun i j => SrtO.lexB (k i) (k j)) n)) = true
    · rw [if_pos hb]
      have b1 := SrtO.lexB_iff.mp hb
      rcases Nat.lt_or_ge n j with c | c
      · have : j = n + 1 := by omega
        subst this
        refine SrtO.lexB_no.mpr ?_
        omega
      · have b2 := SrtO.lexB_no.mp (ih j c)
        refine SrtO.lexB_no.mpr ?_
        omega
    · rw [if_neg hb]
      rcases Nat.lt_or_ge n j with c | c
      · have : j = n + 1 := by omega
        subst this
        exact Bool.eq_false_iff.mpr hb
      · exact ih j c
def IsDuo (h : Heap) (v : Value) (k : Int × Int) : Prop := ∃ a o t u n, v = .ref a ∧ h.get? a = some o ∧ o.cls = .type "tuple" ∧ o.data = .seq #[.int k.1 t, .int k.2 u] n
theorem duo_lt {A : Around} {s : Shared} {v u : Value} {p q : Int × Int} (hu : A.units < cLine) (h1 : IsDuo s.heap v p) (h2 : IsDuo s.heap u q) : Ob.RcOp .Lt A s v u (SrtO.lexB p q) := by
  obtain ⟨a, o, t, r, n, rfl, ho, hc, hd⟩ := h1
  obtain ⟨b, o', t', r', n', rfl, ho', hc', hd'⟩ := h2
  have R := Ob.RcOp.tuples_lt (A := A) (s := s) (l := a) (b := b) (e := fun j => if j = 0 then p.1 == q.1 else p.2 == q.2) (r := fun j => if j = 0 then decide (p.1 < q.1) else decide (p.2 < q.2)) ⟨o, ho, hc, n, hd⟩ ⟨o', ho', hc', n', hd'⟩ hu (fun j h1 h2 => by
    match j, h1, h2 with
    | 0, _, _ => exact SeqAt.EqAt.int_int _ _ _ _
    | 1, _, _ => exact SeqAt.EqAt.int_int _ _ _ _) (fun j h1 h2 _ => by
    match j, h1, h2 with
    | 0, _, _ => exact Ob.RcOp.lt_int _ _ _ _
    | 1, _, _ => exact Ob.RcOp.lt_int _ _ _ _)
  have e : SrtO.lexB p q = Ob.lexAt (fun j => if j = 0 then p.1 == q.1 else p.2 == q.2) (fun j => if j = 0 then decide (p.1 < q.1) else decide (p.2 < q.2)) (decide (2 < 2)) 0 2 := by
    rw [Ob.lexAt_succ, Ob.lexAt_succ, Ob.lexAt_zero]
    unfold SrtO.lexB
    by_cases c : p.1 = q.1
    · rw [if_pos c, if_pos (by simp [c])]
      by_cases c2 : p.2 = q.2
      · rw [if_pos (by simp [c2])]
        simp [c2]
      · rw [if_neg (by simp [c2])]
        simp
    · rw [if_neg c, if_neg (by simp [c])]
      simp
  rw [e]
  exact R
theorem mn_call {l : Addr} {vs : List Value} {k : Value → Int × Int} {Q : Value → Shared → Prop} {E : Value → Shared → Prop} {s : Shared} (hh : A.handled = none) (hu : A.in1.units < cLine) (hl : s.heap.IsList l vs.toArray) (h0 : 0 < vs.length) (hp : ∀ v ∈ vs, IsDuo s.heap v (k v))
    (h : ∀ v h' tk, v ∈ vs → (∀ u ∈ vs, SrtO.lexB (k u) (k v) = false) → (∀ b o, s.heap.get? b = some o → h'.get? b = some o) → Q v { s with heap := h', toks := tk }) :
    wpAny (model prog w) A (call (.builtin "min") [.ref l]) Q E s := by
  refine call_function_tree F.kind_min F.plain_min F.entry_min (F.args_min1 _) ?_
  show wpAny _ A.in1 (Builtin.Builtins.bindParams "min" ["key", "default"] 0 ⟨[], []⟩ >>= _) _ _ s
  refine wpAny_bind (wpAny_of_eq (show Builtin.Builtins.bindParams "min" ["key", "default"] 0 ⟨[], []⟩ = pure [none, none] from rfl) ?_)
  refine wpAny_bind (wpAny_pure ?_)
  have hlt : l < s.heap.objs.size := by obtain ⟨_, e, _⟩ := hl; exact Heap.lt_size e
  refine wpAny_bind (wpAny_pyIter_list hl ?_)
  have W := Walks.list (prog := prog) (w := w) (A := A.in1) hh s.heap.objs.size l (Nat.ne_of_lt hlt) vs.toArray
  refine wpAny_bind (wpAny_newObj_type ?_)
  have nf : (s.heap.push { cls := .type "list_iterator", data := .fields #[.ref l, .int 0 0] }).objs.size ∉ [s.heap.objs.size, l] := fun z => by
    rw [Heap.size_push] at z
    rcases List.mem_cons.mp z with e | z
    · exact absurd e (Nat.succ_ne_self _)
    · have e := List.mem_singleton.mp z
      exact absurd hlt (by rw [← e]; exact Nat.not_lt.mpr (Nat.le_succ _))
  rw [mn_name]
  have kAll : ∀ b o, s.heap.get? b = some o → b ∉ [s.heap.objs.size] ∧ b ≠ (s.heap.push { cls := .type "list_iterator", data := .fields #[.ref l, .int 0 0] }).objs.size := fun b o e => by
    have lt := Heap.lt_size e
    refine ⟨fun z => ?_, fun z => ?_⟩
    · have e := List.mem_singleton.mp z
      rw [e] at lt
      exact Nat.lt_irrefl _ lt
    · rw [Heap.size_push] at z
      rw [z] at lt
      exact Nat.lt_irrefl _ (Nat.lt_trans (Nat.lt_succ_self _) lt)
  have ix : ∀ {i : Nat} {v : Value}, vs.toArray[i]? = some v → v ∈ vs ∧ vs[i]? = some v := fun {i v} e => by
    rw [List.getElem?_toArray] at e
    exact ⟨List.mem_of_getElem? e, e⟩
  have cm : CmpAt prog w A.in1 .Lt (fun i v => vs.toArray[i]? = some v) (fun i j => SrtO.lexB (k (vs.getD i .none)) (k (vs.getD j .none))) s.heap := fun i j vi vj s2 Q2 E2 kp pi pj q => by
    obtain ⟨mi, ei⟩ := ix pi
    obtain ⟨mj, ej⟩ := ix pj
    have gi : vs.getD i .none = vi := by rw [List.getD_eq_getElem?_getD, ei]; rfl
    have gj : vs.getD j .none = vj := by rw [List.getD_eq_getElem?_getD, ej]; rfl
    have up : ∀ {v}, v ∈ vs → IsDuo s2.heap v (k v) := fun m => by
      obtain ⟨a, o, t, u, n, e, ho, r⟩ := hp _ m
      exact ⟨a, o, t, u, n, e, kp _ _ ho, r⟩
    dsimp only at q
    rw [gi, gj] at q
    exact duo_lt (A := A.in1) hu (up mi) (up mj) _ _ _ _ q
  refine wpAny_pure ⟨plainId_quiet F.plain_min_loop _, mn_first (H0 := s.heap) W _ cm _ nf kAll (by rw [List.size_toArray]; exact h0) (W.frame _ _ _ (⟨⟨_, Heap.get?_push_size _ rfl, rfl, rfl⟩, hl.push _⟩) fun b z o y => Heap.get?_push_of_some _ y) (fun b o e => Heap.get?_push_of_some _ (Heap.get?_push_of_some _ e)) (Heap.get?_push_size _ rfl) fun v h' tk hv kk => ?_⟩
  obtain ⟨mv, ev⟩ := ix hv
  refine h v h' tk mv (fun u hu' => ?_) fun b o e => kk b o (kAll b o e).1 (kAll b o e).2 (Heap.get?_push_of_some _ (Heap.get?_push_of_some _ e))
  obtain ⟨j, hj, rfl⟩ := List.getElem_of_mem hu'
  have := best_least (k := fun i => k (vs.getD i .none)) (vs.toArray.size - 1) j (by rw [List.size_toArray]; omega)
  have gv : vs.getD (argBest (fun i j => SrtO.lexB (k (vs.getD i .none)) (k (vs.getD j .none))) (vs.toArray.size - 1)) .none = v := by rw [List.getD_eq_getElem?_getD, ev]; rfl
  have gj : vs.getD j .none = vs[j] := by rw [List.getD_eq_getElem?_getD, List.getElem?_eq_getElem hj]; rfl
  rw [gv, gj] at this
  exact this
end S4
namespace L2
open PySem PySem.Spec PyProof.Rows
def rMinDuo (K : PySem.W.Frag) : List V → Hp → VK → Prop := fun vs H Q => ∃ (a : Addr) (xs : List V) (k : V → Int × Int), vs = [V.ref a] ∧ SqL K H a xs ∧ 0 < xs.length ∧ (∀ x ∈ xs, ∃ t, x = V.ref t ∧ H t = some (.tup [.int (k x).1, .int (k x).2])) ∧
  ∀ y ∈ xs, (∀ x ∈ xs, SrtO.lexB (k x) (k y) = false) → Q y H
section
variable {X : Cx}
theorem cr_minDuo (hc : X.calm = true) (hu : X.A.units + 1 < cLine) : CallR X (.builtin "min") (rMinDuo X.K) := by
  intro pins s σ H vs us Q I r h
  obtain ⟨a, xs, k, rfl, hs, h0, hx, q⟩ := h
  obtain ⟨its, rv, hl, hz⟩ := I.list hs
  obtain ⟨u, rfl, ru⟩ := vals1 r
  obtain rfl : u = Value.ref a := ru
  obtain ⟨e1, e2⟩ := refs_back rv fun x m => by
    obtain ⟨t, e, _⟩ := hx x m
    exact ⟨t, e⟩
  refine S4.mn_call (k := fun u => k (backV u)) (I.ok.hd hc) (by exact hu) hl.isList (by rw [← rv.length]; exact h0) (fun v hv => ?_) fun v h' tk hv hm kp => ?_
  · obtain ⟨t, rfl⟩ := e2 v hv
    have hm : V.ref t ∈ xs := by rw [e1]; exact List.mem_map.mpr ⟨_, hv, rfl⟩
    obtain ⟨t', e, ht⟩ := hx _ hm
    cases e
    obtain ⟨_, its2, r2, o, ho, hc, n, hd⟩ := I.hok _ _ ht
    obtain ⟨u1, u2, rfl, ri, rj⟩ := vals2 r2
    obtain ⟨t1, rfl⟩ := ri
    obtain ⟨t2, rfl⟩ := rj
    exact ⟨t, o, t1, t2, n, rfl, ho, hc, hd⟩
  · obtain ⟨t, rfl⟩ := e2 v hv
    have mx : V.ref t ∈ xs := by rw [e1]; exact List.mem_map.mpr ⟨_, hv, rfl⟩
    refine ⟨.ref t, H, I.kept kp, rfl, q _ mx fun x hx2 => ?_⟩
    rw [e1] at hx2
    obtain ⟨u, hu2, rfl⟩ := List.mem_map.mp hx2
    exact hm u hu2
end
end L2
namespace QL
open PySem PySem.Spec PyProof.Rows L2
theorem hu65 {k : Nat} {A : Around} (r : Room k A) : A.units + 65 < cLine := by have := r.un; omega
def vMin2 : VL
  | [.lst xs], Q => ∃ ks : List (Int × Int), xs = ks.map duoD ∧ ks ≠ [] ∧ ∀ p ∈ ks, (∀ q ∈ ks, SrtO.lexB q p = false) → Q (duoD p)
  | _, _ => False
/-- (x, y) in a list of pairs -/
def vInP (neg : Bool) : V2
  | .tup [.int x, .int y], .lst xs, Q => ∃ ks : List (Int × Int), xs = ks.map duoD ∧ Q (.bl (if neg then !decide ((x, y) ∈ ks) else decide ((x, y) ∈ ks)))
  | _, _, _ => False
section
variable {X : Cx}
theorem qc_min2 (hc : X.calm = true) (hu : X.A.units + 1 < cLine) : CallR X (.builtin "min") (upVL X.K vMin2) := by
  intro pins s σ H xs us Q' I r ⟨F, ds, Q, sm, rl, h, g⟩
  unfold vMin2 at h
  split at h
  · obtain ⟨v, w, rfl, ⟨a, vs, rfl, h2, h3⟩, rfl⟩ := rl
    obtain ⟨ks, rfl, hne, h⟩ := h
    obtain ⟨ek, hr⟩ := repL_key (kf := kDuo F) (fun h => (rep_duo h).2) h3
    refine cr_minDuo hc hu pins s σ H _ us Q' I r ⟨a, vs, kDuo F, rfl, .inl (.inl (sm _ _ h2)), ?_, fun x hx => ?_, fun y hy hm => ?_⟩
    · rcases vs with _ | ⟨v, vs⟩
      · exact (hne (by rw [ek]; rfl)).elim
      · exact Nat.succ_pos _
    · obtain ⟨t, e, ht⟩ := (rep_duo (hr x hx)).1
      exact ⟨t, e, sm _ _ ht⟩
    · refine g (duoD (kDuo F y)) y F H (Grow.refl sm) (hr y hy) (h _ (by rw [ek]; exact List.mem_map.mpr ⟨y, hy, rfl⟩) fun q hq => ?_)
      rw [ek] at hq
      obtain ⟨x, hx, rfl⟩ := List.mem_map.mp hq
      exact hm x hx
  · exact h.elim
end
theorem o_min2 {xs : List D} {P : D → Prop} : vMin2 [.lst xs] P = ∃ ks : List (Int × Int), xs = ks.map duoD ∧ ks ≠ [] ∧ ∀ p ∈ ks, (∀ q ∈ ks, SrtO.lexB q p = false) → P (duoD p) := rfl
theorem o_inP {x y : Int} {xs : List D} {P : D → Prop} : vInP false (.tup [.int x, .int y]) (.lst xs) P = ∃ ks : List (Int × Int), xs = ks.map duoD ∧ P (.bl (decide ((x, y) ∈ ks))) := rfl
end QL
set_option Elab.async false
set_option linter.all false
set_option maxRecDepth 100000
set_option maxHeartbeats 4000000
/-! ### zip(a tuple, a list) -/
namespace QM
open PySem
open PySem.Sem (wp)
section
variable {prog : Program} {w : World} {A : Around} {it t : Addr} {fp : List Addr} {n i : Nat} {P : Nat → Value → Prop} {St : Nat → Heap → Prop}
end
abbrev mH1 (h : Heap) (l1 : Addr) : Heap := h.push { cls := .type "tuple_iterator", data := .fields #[.ref l1, .int 0 0] }
abbrev mH2 (h : Heap) (l1 l2 : Addr) : Heap := (mH1 h l1).push { cls := .type "list_iterator", data := .fields #[.ref l2, .int 0 0] }
abbrev mH3 (h : Heap) (l1 l2 : Addr) : Heap := (mH2 h l1 l2).push { cls := .type "tuple", data := .seq #[.ref h.objs.size, .ref (mH1 h l1).objs.size] }
abbrev mH4 (h : Heap) (l1 l2 : Addr) : Heap := (mH3 h l1 l2).push { cls := .type "tuple", data := .seq #[.none, .none] }
abbrev mH5 (h : Heap) (l1 l2 : Addr) : Heap := (mH4 h l1 l2).push { cls := .type "zip", data := .fields #[.none, .bool false, .bool false, .ref (mH2 h l1 l2).objs.size, .ref (mH3 h l1 l2).objs.size] }
section
variable {prog : Program} {w : World} {A : Around} {E : Value → Shared → Prop} {s : Shared}
end
end QM
namespace QL
open PySem PySem.Spec PyProof.Rows L2
def ItzM (K : PySem.W.Frag) (a b : Addr) : It :=
  ⟨fun i H => ∃ (xs ys : List V) (x y : V), SqT K H a xs ∧ SqL K H b ys ∧ xs[i]? = some x ∧ ys[i]? = some y,
    fun i H v H' => ∃ T x y, v = .ref T ∧ H T = none ∧ H' = upd H T (.tup [x, y]) ∧ (∀ xs, SqT K H a xs → xs[i]? = some x) ∧ ∀ ys, SqL K H b ys → ys[i]? = some y,
    fun i H => ∃ xs ys : List V, SqT K H a xs ∧ SqL K H b ys ∧ (xs.length ≤ i ∨ ys.length ≤ i)⟩
def iZM (K : PySem.W.Frag) (ta : TA) : TI := fun σ H R => ta σ H fun vs H1 => ∃ a b xs ys, vs = [.ref a, .ref b] ∧ SqT K H1 a xs ∧ SqL K H1 b ys ∧ R (ItzM K a b) H1
def riZM (t : RA) : RI := fun env Q => t env fun ds env1 => match ds with
  | [.tup xs, .lst ys] => Q (zipD xs ys) env1
  | _ => False
section
variable {X : Cx} {bx : Bx} {e a b c : Expr} {es : List Expr} {t : RA} {p1 p2 p3 : Pos} {kk : Nat} {tg : Expr}
end
theorem e_riZM {env : List Slot} {t : RA} {P : List D → List Slot → Prop} : riZM t env P = t env fun ds env1 => match ds with | [.tup xs, .lst ys] => P (zipD xs ys) env1 | _ => False := rfl
end QL
set_option Elab.async false
set_option linter.all false
set_option maxRecDepth 100000
set_option maxHeartbeats 4000000
namespace PySem.W
open PySem PySem.Spec PySem.Calls PyProof.Rows PySem.Builtin
section
variable {prog : Program} {w : World} {A : Around} {E : Value → Shared → Prop} {s : Shared} {K : Frag} {x C L f : Addr} {h₀ : Heap} {m : Str → Option Value} {ox : Obj} {od : Option Obj} {name : Str} {b tb : Value}
theorem ifBound_B {M : Model} {args : List Value} {id : String} {Q : Option Value → Shared → Prop} (X : K.In s.heap) (I : InstAt s.heap x ox C od) (hs : findIn K (.ref C) name = some (some (.builtin id)))
    (hbd : ∀ self : Value, bindSpecial (.builtin id) self = pure ((.builtin id : Value), [self]))
    (h : wpAny M A (call (.builtin id) (.ref x :: args)) (fun v => Q (some v)) E s) : wpAny M A (callSpecialIfBound? (.ref x) name args) Q E s := by
  simp only [callSpecialIfBound?, bindSpecialIfBound?]
  refine wpAny_holding (wpAny_bind (wpAny_bind (wpAny_bind (I.type.here ((looks_findIn X hs).here ?_)))))
  simp only [hbd]
  refine wpAny_bind (wpAny_askSetting (wpAny_ite ?_))
  have fin : wpAny M A (call (.builtin id) ([.ref x] ++ args) >>= fun v => pure (some v)) Q E s := wpAny_bind (wpAny_mono h (fun v s' h' => wpAny_pure h') fun _ _ h' => h')
  split
  · exact wpAny_bind (wpAny_pure (wpAny_pure fin))
  · exact wpAny_tryCatch (wpAny_bind (wpAny_pure (wpAny_pure fin)))
/-- x != b where x has an own == and object's != -/
theorem ne_K {Q : Value → Shared → Prop} (hu : A.units + 1 < cLine) (F : Fr h₀ L s.heap m) (X₀ : K.In h₀) (I : InstAt s.heap x ox C od) (hb : Looks (model prog w) s.heap (typeOf b) tb) (hn : notFirst K C tb = true)
    (hne : findIn K (.ref C) "__ne__" = some (some (.builtin "object.__ne__"))) (hob : subIn K (.ref C) (.type "object") = some true)
    (hs : findIn K (.ref C) "__eq__" = some (some (.ref f))) (hf : isFn K (.ref f) = true)
    (h : wpAny (model prog w) A.in1 (call (.ref f) [.ref x, b]) (fun v s' => ∃ k, v = .bool k ∧ Q (.bool (!k)) s') E s) : wpAny (model prog w) A (richCompare .NotEq (.ref x) b) Q E s := by
  have X := X₀.keeps F.keep
  have one : wpAny (model prog w) A (tryCompare (.ref x) (cmpInfo .NotEq).2.1 b) (fun r s' => ∃ v, r = some v ∧ Q v s') E s := by
    unfold tryCompare
    refine wpAny_bind (ifBound_B X I hne (fun self => PySem.F.cmp_object.ne.bind self) (wpAny_call (codeAny_call_builtin PySem.F.cmp_object.ne.plain PySem.F.cmpEntry_ne
      (check_slot (by decide +kernel) PySem.F.cmpSplit_ne (I.type.andThen (looks_subIn X hob)) (PySem.F.cmpArgs_ne _ _) ?_))))
    unfold Builtin.«object.__ne__»
    repeat (first
      | with_reducible refine wpAny_cRoomFor (by show A.in1.units < cLine; exact hu) ?_
      | (refine wpAny_bind (m := callSpecialIfBound? (.ref x) (Str.ofString "__eq__") [b])
          (ifBound_K X I hs hf (wpAny_mono h (fun r s' hr => by
            obtain ⟨k, rfl, hq⟩ := hr
            repeat (first | exact wpAny_pure hq | exact wpAny_pure ⟨_, rfl, hq⟩ | exact wpAny_truthy_bool hq | (refine wpAny_bind (m := truthy (.bool _)) (wpAny_truthy_bool ?_)) | wp_step)) fun _ _ e => e)))
      | wp_step)
  unfold richCompare
  simp only [oneThing_ref]
  refine wpAny_holding (wpAny_bind (wpAny_cRoomFor (Nat.lt_of_succ_lt hu) ?_))
  refine wpAny_bind (I.type.here (wpAny_bind (hb.here ?_)))
  split
  · rename_i q
    have e : subIn K tb (.ref C) = some false := by
      rcases Bool.or_eq_true_iff.mp hn with e | e
      · rw [beq_iff_eq.mp e] at q; simp at q
      · exact beq_iff_eq.mp e
    refine wpAny_bind ((looks_subIn X e).here ?_)
    simp only [Bool.false_eq_true, if_false]
    refine wpAny_bind (wpAny_mono one (fun r s' z => ?_) fun _ _ e => e)
    obtain ⟨v, rfl, hq⟩ := z
    exact wpAny_pure hq
  · refine wpAny_bind (wpAny_pure ?_)
    simp only [Bool.false_eq_true, if_false]
    refine wpAny_bind (wpAny_mono one (fun r s' z => ?_) fun _ _ e => e)
    obtain ⟨v, rfl, hq⟩ := z
    exact wpAny_pure hq
end
end PySem.W
namespace QL
open PySem PySem.Spec PyProof.Rows L2
/-! ### == and != of an own class -/
def vEqO (K : PySem.W.Frag) (C : Addr) (S : FA) : V2 := fun d e Q => match d with
  | .obj C' _ _ => C' = C ∧ (∃ t, TyD K e t ∧ PySem.W.notFirst K C t = true) ∧ S [d, e] (fun z => match z with | .bl b => Q (.bl b) | _ => False) fun _ => False
  | _ => False
def vNeO (K : PySem.W.Frag) (C : Addr) (S : FA) : V2 := fun d e Q => match d with
  | .obj C' _ _ => C' = C ∧ (∃ t, TyD K e t ∧ PySem.W.notFirst K C t = true) ∧ S [d, e] (fun z => match z with | .bl b => Q (.bl (!b)) | _ => False) fun _ => False
  | _ => False
/-- a class with an own == -/
structure EqC (K : PySem.W.Frag) (C f : Addr) : Prop where
  eq : PySem.W.findIn K (.ref C) "__eq__" = some (some (.ref f))
  fn : PySem.W.isFn K (.ref f) = true
  ne : PySem.W.findIn K (.ref C) "__ne__" = some (some (.builtin "object.__ne__"))
  ob : PySem.W.subIn K (.ref C) (.type "object") = some true
section
variable {X : Cx} {k : Nat} {C f : Addr} {fd : FuncData} {ps : List Str} {S : FA}
theorem no_pass : Passes (L2.CX X.prog X.w) X (fun _ _ _ => False) := fun _ _ _ _ _ _ _ h => by
  obtain ⟨_, _, _, _, _, _, _, _, _, _, _, _, z⟩ := h
  exact z.elim
theorem qo_neO (Fn : FnOk X.prog X.w X.K X.mg X.base (L2.CX X.prog X.w) k f fd ps (spA X.K 2 S)) (hr : Room (k + 1) X.A) (hb : Binds X.K fd ps []) (c : EqC X.K C f) : OpR X (compareOp .NotEq) (upV2 X.K (vNeO X.K C S)) := by
  intro pins s σ H x y v u Q' I rx ry ⟨F, d, e, Q, sm, r1, r2, h, g⟩
  unfold vNeO at h
  split at h
  · rename_i C' ns xs
    obtain ⟨rfl, ⟨t, ht, hn⟩, hS⟩ := h
    have r1' := r1
    obtain ⟨a, dx, fs, rfl, h2, _⟩ := r1'
    cases rx
    obtain ⟨mA, J, _⟩ := ins_get I.hok (sm _ _ h2)
    obtain ⟨od, J, _⟩ := J.look
    obtain ⟨P, kt, hP, _⟩ := kit_of I ry (tyd_of sm ht r2)
    obtain ⟨m, hF⟩ := I.fr
    show wpAny (model X.prog X.w) X.A (richCompare .NotEq (.ref a) u) (EP X pins σ Q') X.xe s
    refine PySem.W.ne_K (tb := t) (by have := hr.units; omega) hF I.ok.mod.kin J (kt.ty _ _ I.kIn hP) hn c.ne c.ob c.eq c.fn ?_
    have hsp : spA X.K 2 S [.ref a, y] H (fun z H' => ∃ b, z = .bl b ∧ Q' (.bl (!b)) H') (fun _ _ _ => False) := ⟨F, [.obj C' ns xs, e], _, fun _ => False, rfl, sm, ⟨_, _, rfl, r1, _, _, rfl, r2, rfl⟩, hS, fun z w F' H' gr rz q => by
      cases z with
      | bl b => exact ⟨b, rz, g (.bl (!b)) _ F' H' gr rfl q⟩
      | _ => exact q.elim, fun _ _ _ _ _ _ _ z => z.elim⟩
    have hl := Fn.len _ _ _ _ hsp
    have r2 : Vals [V.ref a, y] [Value.ref a, u] := .cons rfl (.cons ry .nil)
    refine wpAny_call (codeAny_mono (Fn.run X.A.in1 X.stack s H ⟨[.ref a, u], []⟩ [.ref a, u] [.ref a, y] _ _ hr.in1 I.env0.in1 (by
      have := hb s [.ref a, u] I.kIn (by simpa using hl)
      simpa using this) r2 hsp) fun r s' hq => ?_)
    cases r with
    | error e => exact no_pass pins σ H s e s' I hq
    | ok fl =>
      cases fl with
      | ret w =>
        obtain ⟨z, H', I', rz, b, ez, q⟩ := I.after hq
        subst ez
        cases rz
        exact ⟨b, rfl, .bl (!b), H', I', rfl, q⟩
      | next => exact False.elim hq
      | brk => exact False.elim hq
      | cont => exact False.elim hq
  · exact h.elim
end
end QL
set_option Elab.async false
set_option linter.all false
set_option maxRecDepth 100000
set_option maxHeartbeats 4000000
namespace L2
open PySem PySem.Spec PyProof.Rows
/-! ### several clauses, each `except C as n` -/
def wAsM (K : PySem.W.Frag) (i : Nat) (Wout : WX) (D : Ends) : List (Value × (Addr → Value → Option Addr → TS)) → WX
  | [] => Wout
  | (c, ts) :: r => fun cls d σ H => ∃ b, PySem.W.exmOne K cls c = some b ∧
    (b = true → ∀ a, H a = none → ts a cls d { nx := fun σ' H' => D.nx (σ'.set i none) H', rt := D.rt, bk := fun σ' H' => D.bk (σ'.set i none) H', ct := fun σ' H' => D.ct (σ'.set i none) H' } (σ.set i (some (.ref a))) H) ∧
    (b = false → wAsM K i Wout D r cls d σ H)
inductive HdsAs (X : Cx) (n : Str) : List ExceptHandler → List (Value × (Addr → Value → Option Addr → TS)) → Prop
  | nil : HdsAs X n [] []
  | cons {x : Str} {c : Value} {ts : Addr → Value → Option Addr → TS} {b₀ : Stmt} {suite : List Stmt} {np pos' : Pos} {hds : List ExceptHandler} {l : List (Value × (Addr → Value → Option Addr → TS))} (hc : Names X x c)
      (hsu : ∀ (a : Addr) (oe : Obj) (cls : Value) (d : Option Addr) (pn : List (Addr × Obj)), Zc cls d oe → (∃ vs, oe.data = .fields vs) → PSs (X.suite a ((a, oe) :: pn)) (b₀ :: suite) (ts a cls d)) (r : HdsAs X n hds l) :
      HdsAs X n (.ExceptHandler (some (.Name x np)) (some n) (b₀ :: suite) pos' :: hds) ((c, ts) :: l)
section
variable {X : Cx} {n : Str} {i : Nat} {body : List Stmt} {h₀ : ExceptHandler} {hds : List ExceptHandler} {l : List (Value × (Addr → Value → Option Addr → TS))} {pos : Pos} {tb : WX → TS} {Wout : WX}
theorem ps_try_asM (hs : X.stack = X.env :: X.outer) (hf : X.env.frame = some X.env.locals) (hN : X.N.Nodup) (hi : X.N[i]? = some n) (hln : X.env.kindOf n = some .local) (tk : Takes X Wout)
    (hb : ∀ (W : WX) (pn : List (Addr × Obj)) (xe : Value → Shared → Prop), Takes (X.tr pn xe) W → PassesOwn (model X.prog X.w) X.A X.env xe → PSs (X.tr pn xe) body (tb W))
    (hh : HdsAs X n (h₀ :: hds) l) : PS X (.Try body (h₀ :: hds) [] [] pos) (fun D σ H => tb (wAsM X.K i Wout D l) D σ H) := by
  refine ⟨fun pins s σ H D I h => ?_⟩
  have ok := I.ok
  have hfr : X.A.frames = some (X.env :: X.outer) := by rw [ok.frames, hs]
  have hloc : Loc X.env.scope n := .inl hln
  refine wpAny_Try_except ?_
  refine wpAny_mono ((hb (wAsM X.K i Wout D l) (X.pn ++ pins) (fun e s₁ => wpAny (model X.prog X.w) X.A (noteFrame e X.env) (fun _ s₂ => wpAny (model X.prog X.w) X.A (setFlight e none) (fun _ s₃ =>
    wpAny (model X.prog X.w) X.A (handleBy e X.env (h₀ :: hds)) (SP X pins D) X.xe s₃) X.xe s₂) X.xe s₁) (fun u s' xx => ?_) PassesOwn.looking).run [] s σ H D (I.toTry _) h) (fun f s1 hsp => ?_) (fun e s1 he => he)
  · -- the catch
    obtain ⟨a, B, sI, pins', σ', H', cls, d, rfl, J', nb, up, sky, na, os, ag, w⟩ := xx
    have J : Inv X pins σ' H' sI := J'.ofTry ok
    have sky' : Sky B (X.env :: X.outer) a (Zc cls d) X.env.locals s'.heap := by rw [← hs]; exact sky
    show wpAny (model X.prog X.w) X.A (noteFrame (.ref a) X.env) _ _ _
    refine Sky.land Zc.steady hfr hf sky' fun h3 fl3 up3 => ?_
    have J3 : Inv X pins σ' H' { s' with heap := h3 } := J.landed nb fl3.1 (up.trans up3) os ag
    obtain ⟨oe3, vs3, he3, hz3, hd3⟩ := fl3.there
    have notFr : ∀ {h : Heap} {o : Obj} {vs : Array Value}, h.FunFrames B (X.env :: X.outer) → h.get? a = some o → o.data = .fields vs → a ∉ frs (X.env :: X.outer) := fun {h o vs} ff e dd hm => by
      obtain ⟨_, o', e', hnf⟩ := ff.mem hm
      rw [e] at e'; cases e'
      exact hnf _ dd
    have nfr := notFr fl3.2.2.1 he3 hd3
    have nL : a ≠ X.env.locals := fun z => nfr (List.mem_filterMap.mpr ⟨X.env, List.mem_cons_self, by rw [hf, z]⟩)
    have nF : a ∉ X.fs := fun hm => by
      obtain ⟨e, he, q⟩ := List.mem_filterMap.mp hm
      exact nfr (List.mem_filterMap.mpr ⟨e, List.mem_cons_of_mem _ he, q⟩)
    have S3 := J3.suite he3 hd3 na nL nF
    have go : ∀ {hds' : List ExceptHandler} {l' : List (Value × (Addr → Value → Option Addr → TS))}, HdsAs X n hds' l' → wAsM X.K i Wout D l' cls d σ' H' →
        wpAny (model X.prog X.w) X.A (handleBy (.ref a) X.env hds') (SP X pins D) X.xe { s' with heap := h3 } := by
      intro hds' l' hk
      induction hk with
      | nil =>
        intro w
        refine wpAny_handleBy_nil ?_
        obtain ⟨k1, k2, k3, oe, vs, T, oT, ts', he, hz, hd, h1, hr⟩ := id fl3
        unfold PySem.passOn
        refine wpAny_bind (wpAny_field he hd h1 ?_)
        rw [if_neg (show ¬ ((Value.ref T == Value.none) = true) from by simp)]
        have fin : wpAny (model X.prog X.w) X.A (setFlight (.ref a) X.env.frame) (fun _ s4 => wpAny (model X.prog X.w) X.A (throw (.ref a) : Sem Flow) (SP X pins D) X.xe s4) X.xe { s' with heap := h3 } := by
          rw [hf]
          refine HandSPX.setFlight_upZ fl3 fun h4 hh4 up4 => wpAny_throw (tk _ _ ?_)
          exact ⟨a, B, sI, pins, σ', H', cls, d, rfl, J, nb, (up.trans up3).trans up4, .inr (.inr (by rw [hs]; exact hh4)), na, os, ag, w⟩
        first
          | exact wpAny_bind (wpAny_pure (wpAny_bind fin))
          | exact wpAny_bind fin
      | @cons x c ts b₀ suite np pos' hds2 l2 hc hsu r ih =>
        intro w
        obtain ⟨b, hb1, hyes, hno⟩ := w
        refine wpAny_handleBy_cons (codeAny_handlers_test ?_) (by intro q; cases q)
        have LT : PySem.W.Looks (model X.prog X.w) h3 (typeOf (.ref a)) cls := fun A Q E s k q => wpAny_typeOf_ref (k _ _ he3) (by rw [hz3.1]; exact q)
        have LM := PySem.W.exm_one (M := model X.prog X.w) (J3.kIn) LT hb1
        have test : ∀ {Q : Value → Shared → Prop} {E : Value → Shared → Prop}, Q c { s' with heap := h3 } → wpAny (model X.prog X.w) (X.A.mark (some (.ref a))) (eval (.Name x np) X.env) Q E { s' with heap := h3 } := fun {Q E} q => by
          obtain ⟨hg, hdbg, hm | ⟨hm, hv, hnn⟩⟩ := hc
          · exact ld_glob (X := X.suite a ((a, oe3) :: (X.pn ++ pins))) S3 hg hm q hdbg
          · exact ld_blt (X := X.suite a ((a, oe3) :: (X.pn ++ pins))) S3 hg hm hv q hnn hdbg
        refine test (LM.here ?_)
        cases b with
        | true =>
          refine codeAny_handlers_suite_as ?_
          refine HandSPX.lands_againZ fl3 fun h4 fl4 up4 => ?_
          have J4 : Inv X pins σ' H' { s' with heap := h4 } := J.landed nb fl4.1 ((up.trans up3).trans up4) os ag
          obtain ⟨oe4, vs4, he4, hz4, hd4⟩ := fl4.there
          have S4 := J4.suite he4 hd4 na nL nF
          refine store_ok (X := X.suite a ((a, oe4) :: (X.pn ++ pins))) (v := .ref a) S4 hN hi hloc rfl (fun s5 S5 => ?_) (.inr hln)
          refine wpAny_mono ((hsu a oe4 cls d (X.pn ++ pins) hz4 ⟨_, hd4⟩).run [] s5 _ H' _ S5 (hyes rfl a na)) (fun f s6 hsp => ?_) (fun _ _ z => False.elim z)
          have end_ : ∀ {σ6 : St} {H6 : Hp} {Q : Shared → Prop}, Inv (X.suite a ((a, oe4) :: (X.pn ++ pins))) [] σ6 H6 s6 → (∀ s7, Inv X pins (σ6.set i none) H6 s7 → Q s7) →
              wpAny (model X.prog X.w) X.A (do bindName X.env n .none; unbindBehindTheSuite X.env n pos') (fun _ s7 => Q s7) X.xe s6 := fun {σ6 H6 Q} S6 hq => gone_ok (S6.unsuite ok) hN hi hln hq
          cases f with
          | next =>
            obtain ⟨σ6, H6, S6, q6⟩ := hsp
            exact end_ S6 fun s7 J7 => ⟨_, _, J7, q6⟩
          | brk =>
            obtain ⟨σ6, H6, S6, q6⟩ := hsp
            exact end_ S6 fun s7 J7 => ⟨_, _, J7, q6⟩
          | cont =>
            obtain ⟨σ6, H6, S6, q6⟩ := hsp
            exact end_ S6 fun s7 J7 => ⟨_, _, J7, q6⟩
          | ret u =>
            obtain ⟨v6, σ6, H6, S6, r6, q6⟩ := hsp
            exact end_ S6 fun s7 J7 => ⟨_, _, _, J7, r6, q6⟩
        | false =>
          show wpAny _ X.A (handleBy (.ref a) X.env hds2) _ _ _
          exact ih (hno rfl)
    exact go hh w
  · cases f with
    | next =>
      obtain ⟨σ', H', J', q⟩ := hsp
      exact wpAny_execs_nil ⟨σ', H', J'.ofTry ok, q⟩
    | brk =>
      obtain ⟨σ', H', J', q⟩ := hsp
      exact ⟨σ', H', J'.ofTry ok, q⟩
    | cont =>
      obtain ⟨σ', H', J', q⟩ := hsp
      exact ⟨σ', H', J'.ofTry ok, q⟩
    | ret u =>
      obtain ⟨v, σ', H', J', r, q⟩ := hsp
      exact ⟨v, σ', H', J'.ofTry ok, r, q⟩
end
end L2
namespace QL
open PySem PySem.Spec PyProof.Rows L2
/-! ### an exception's own __init__: self.f = value -/
def spI (C : Addr) (f : Str) : Sp := fun vs H Q _ => ∃ a v, vs = [.ref a, v] ∧ H a = some (exo a C none) ∧ ∀ dx, H dx = none → dx ≠ a → Q .non (upd (upd H dx (exd dx [(f, v)])) a (exo a C (some dx)))
theorem fnI {P : Program} {w : World} {K : PySem.W.Frag} {mg : Str → Option Value} {base : Heap} {x qual : Str} {st : Stmt} {f : Addr} {fd : FuncData} {N ps : List Str} {k : Nat} {C : Addr} {fl : Str} (Fn : Fun K x qual st f fd) (Sc : FnScope N ps (defScope st)) (hps : ps.length = 2)
    (T : OexC K C) (hno : PySem.W.findIn K (.ref C) fl = some none)
    (hbody : ∀ (cdv : Value) (A : Around) (outer : List Env) (s : Shared) (H : Hp) (E : XK), PSs (cxOf (L2.CX P w) P w K mg base N qual (defScope st) f cdv A outer s H E) (defBody st) (tOst K fl (tVar 0) (tVar 1))) :
    FnOk P w K mg base (L2.CX P w) (k + 1) f fd ps (spI C fl) := by
  refine Fn.okX Sc (fun vs H Q E ⟨a, v, e, _⟩ => by rw [e, hps]; rfl) fun cdv A outer s H vs Q E hr ⟨a, v, e, ha, q⟩ => ⟨_, hbody cdv A outer s H E, ?_⟩
  subst e
  exact ⟨v, rfl, .ref a, rfl, a, C, rfl, T, hno, .inl ⟨ha, fun dx h1 h2 => q dx h1 h2⟩⟩
/-! ### raise C(e) -/
def sRaise (C : Addr) (f : Str) (EX : XD) (te : RE) : RS := fun _ env => te env fun d env1 => EX (.obj C [f] [d]) env1
section
variable {X : Cx} {bx : Bx} {e : Expr} {te : RE} {C fI : Addr} {k : Nat} {fd : FuncData} {ps : List Str} {f x n : Str} {EX : XD} {p p2 pos : Pos}
theorem qs_raise (T : OexC X.K C) (iC : PySem.W.findIn X.K (.ref C) "__init__" = some (some (.ref fI))) (tI : PySem.W.typeIn X.K (.ref fI) = some (.type "function"))
    (F1 : FnOk X.prog X.w X.K X.mg X.base (L2.CX X.prog X.w) k fI fd ps (spI C f)) (hr : Room (k + 1) X.A) (hg : Gl X x) (hm : X.mg x = some (.ref C)) (hb : Binds X.K fd ps []) (hc : X.calm = true) (tk : Takes X (WEx X.K bx EX)) (he : QE X bx e te)
    (hdb : (x == ("__debug__" : Str)) = false := by decide) (hs : starEach (e :: []) X.env = (false, eval e X.env) :: starEach [] X.env := by rfl) (hpl : (backTo p2 (starEach [] X.env)).any (·.1) = false := by rfl) :
    QS X bx (.Raise (some (.Call (.Name x p) [e] [] p2)) none pos) (sRaise C f EX te) :=
  ps_imp (ps_raise hc tk (pmk_oex T iC tI F1 hr hb .nil no_pass hg hm (pa_cons he pa_nil hs) hdb hs hpl)) fun Dn σ H ⟨env, F, en, R, ht, _⟩ => by
    refine ⟨env, F, _, R, ht, fun d v env1 F1 H1 s1 R1 r1 q1 => ⟨by simp, fun a ha => ⟨a, v, rfl, upd_same, fun dx hdx hne => ⟨rfl, dx, [(f, v)], upd_same, ?_, ?_, ?_⟩⟩⟩⟩
    · rw [upd_ne hne, upd_same]
    · rw [upd_ne hne] at hdx; exact hdx
    · have hd1 : H1 dx = none := by rw [upd_ne hne] at hdx; exact hdx
      have eq : upd (del (upd (upd (upd H1 a (exo a C none)) dx (exd dx [(f, v)])) a (exo a C (some dx))) a) dx (.xd [(f, v)]) = upd H1 dx (.xd [(f, v)]) := by
        funext b
        by_cases hb : b = dx
        · rw [hb, upd_same, upd_same]
        · rw [upd_ne hb, upd_ne hb]
          by_cases hba : b = a
          · rw [hba, del_same, ha]
          · rw [del_ne hba, upd_ne hba, upd_ne hb, upd_ne hba]
      rw [eq]
      exact ⟨env1, upd F1 dx (.xd [(f, v)]), .obj C [f] [d], R1.laid hd1, ⟨rfl, dx, [(f, v)], rfl, upd_same, rfl, ⟨v, [], rfl, Rep.mono (same_upd (R1.sf.free hd1)) _ _ r1, rfl⟩⟩, q1⟩
/-! ### try -/
abbrev RH := Addr → D → RS
def unE (i : Nat) (en : PEnds) : PEnds := { nx := fun env => en.nx (env.set i .un), rt := en.rt, bk := fun env => en.bk (env.set i .un), ct := fun env => en.ct (env.set i .un) }
def disp (K : PySem.W.Frag) (i : Nat) (EX : XD) (en : PEnds) : List (Addr × RH) → XD
  | [] => EX
  | (c, ts) :: r => fun ed env => match ed with
    | .obj C _ _ => ∃ b, PySem.W.exmOne K (.ref C) (.ref c) = some b ∧ (b = true → ∀ a, ts a ed (unE i en) (env.set i (.val (.raw (.ref a))))) ∧ (b = false → disp K i EX en r ed env)
    | _ => False
inductive HdsQ (X : Cx) (bx : Bx) (n : Str) : List ExceptHandler → List (Addr × RH) → Prop
  | nil : HdsQ X bx n [] []
  | cons {x : Str} {c : Addr} {ts : RH} {b₀ : Stmt} {suite : List Stmt} {np pos' : Pos} {hds : List ExceptHandler} {l : List (Addr × RH)} (hg : Gl X x) (hm : X.mg x = some (.ref c))
      (hsu : ∀ (a : Addr) (oe : Obj) (cls : Value) (d : Option Addr) (pn : List (Addr × Obj)) (F0 : Hp) (ed : D), Zc cls d oe → (∃ vs, oe.data = .fields vs) → RepX X.K F0 ed cls d → QSs (X.suite a ((a, oe) :: pn)) ⟨bx.B, bx.io, F0⟩ (b₀ :: suite) (ts a ed))
      (r : HdsQ X bx n hds l) (hd : (x == ("__debug__" : Str)) = false := by decide) : HdsQ X bx n (.ExceptHandler (some (.Name x np)) (some n) (b₀ :: suite) pos' :: hds) ((c, ts) :: l)
def tHd (K : PySem.W.Frag) (bx : Bx) (ts : RH) : Addr → Value → Option Addr → TS := fun a cls d Dn σ H => ∃ F0 ed, RepX K F0 ed cls d ∧ upS K ⟨bx.B, bx.io, F0⟩ (ts a ed) Dn σ H
theorem HdsQ.as {hds : List ExceptHandler} {l : List (Addr × RH)} (h : HdsQ X bx n hds l) : HdsAs X n hds (l.map fun p => (.ref p.1, tHd X.K bx p.2)) := by
  induction h with
  | nil => exact .nil
  | cons hg hm hsu r hd ih =>
    refine .cons ⟨hg, hd, .inl hm⟩ (fun a oe cls d pn hz hf => ?_) ih
    exact ⟨fun pins s σ H D I ⟨F0, ed, rx, q⟩ => (hsu a oe cls d pn F0 ed hz hf rx).run pins s σ H D I q⟩
/-- slot i is let go -/
theorem ER.setUn {K : PySem.W.Frag} {F H : Hp} {env : List Slot} {σ : L2.St} {i : Nat} {o : Option V} (R : ER K bx F env σ H) (hio : bx.io = none ∨ i ≠ 0) : ER K bx F (env.set i .un) (σ.set i o) H := by
  refine ⟨R.sb, R.sf, by rw [List.length_set, List.length_set]; exact R.len, fun j s hj => ?_, fun j k d1 e c hj hk sj sk => ?_, fun c hc => ?_, R.f0, R.fz⟩
  · rcases set_some hj with ⟨rfl, rfl, hl⟩ | ⟨hne, hj⟩
    · exact ⟨_, by rw [List.getElem?_set_self (by rw [← R.len]; exact hl)], trivial⟩
    · obtain ⟨q, k1, k2⟩ := R.slots j s hj
      exact ⟨q, by rw [List.getElem?_set_ne hne]; exact k1, k2⟩
  · have old : ∀ {m : Nat} {d2 : D}, (env.set i .un)[m]? = some (.own d2) → (σ.set i o)[m]? = some (some (V.ref c)) → env[m]? = some (.own d2) ∧ σ[m]? = some (some (V.ref c)) := fun {m d2} hm sm => by
      rcases set_some hm with ⟨rfl, z, _⟩ | ⟨hne, hm⟩
      · cases z
      · rw [List.getElem?_set_ne hne] at sm; exact ⟨hm, sm⟩
    obtain ⟨a1, a2⟩ := old hj sj
    obtain ⟨b1, b2⟩ := old hk sk
    exact R.sep j k _ _ c a1 b1 a2 b2
  · obtain ⟨k1, d2, k2⟩ := R.io c hc
    have h0 : i ≠ 0 := hio.elim (fun z => by rw [z] at hc; cases hc) id
    exact ⟨by rw [List.getElem?_set_ne h0]; exact k1, d2, by rw [List.getElem?_set_ne h0]; exact k2⟩
theorem ER.at0 {K : PySem.W.Frag} {F H : Hp} {env : List Slot} {σ : L2.St} (R : ER K bx F env σ H) : ER K ⟨bx.B, bx.io, F⟩ F env σ H := ⟨R.sb, R.sf, R.len, R.slots, R.sep, R.io, Same.refl _, fun _ h _ => h⟩
theorem ER.of0 {K : PySem.W.Frag} {F F' H H' : Hp} {env env' : List Slot} {σ σ' : L2.St} (R : ER K bx F env σ H) (R' : ER K ⟨bx.B, bx.io, F⟩ F' env' σ' H') : ER K bx F' env' σ' H' :=
  ⟨R'.sb, R'.sf, R'.len, R'.slots, R'.sep, R'.io, R.f0.trans R'.f0, fun a h1 h2 => R'.fz a (R.fz a h1 h2) h2⟩
def sTry (K : PySem.W.Frag) (i : Nat) (EX : XD) (l : List (Addr × RH)) (tb : XD → RS) : RS := fun en env => tb (disp K i EX en l) en env
theorem qs_try {i : Nat} {body : List Stmt} {h₀ : ExceptHandler} {hds : List ExceptHandler} {l : List (Addr × RH)} {tb : XD → RS} (hs : X.stack = X.env :: X.outer) (hf : X.env.frame = some X.env.locals) (hN : X.N.Nodup) (hi : X.N[i]? = some n) (hln : X.env.kindOf n = some .local)
    (hio : bx.io = none ∨ i ≠ 0) (tk : Takes X (WEx X.K bx EX))
    (hb : ∀ (F0 : Hp), Same bx.F0 F0 → (∀ a, bx.F0 a = none → Hard bx.B a → F0 a = none) → ∀ (EXb : XD) (pn : List (Addr × Obj)) (xe : Value → Shared → Prop), Takes (X.tr pn xe) (WEx X.K ⟨bx.B, bx.io, F0⟩ EXb) → PassesOwn (model X.prog X.w) X.A X.env xe → QSs (X.tr pn xe) ⟨bx.B, bx.io, F0⟩ body (tb EXb))
    (hh : HdsQ X bx n (h₀ :: hds) l) : QS X bx (.Try body (h₀ :: hds) [] [] pos) (sTry X.K i EX l tb) := by
  refine ps_imp (ps_try_asM (tb := fun W Dn σ H => ∃ F0 EXb, (Same bx.F0 F0 ∧ ∀ a, bx.F0 a = none → Hard bx.B a → F0 a = none) ∧ (∀ cls d σ H, WEx X.K ⟨bx.B, bx.io, F0⟩ EXb cls d σ H → W cls d σ H) ∧ upS X.K ⟨bx.B, bx.io, F0⟩ (tb EXb) Dn σ H) hs hf hN hi hln tk
    (fun W pn xe tkW po => ⟨fun pins s σ H D I ⟨F0, EXb, sf, im, q⟩ => (hb F0 sf.1 sf.2 EXb pn xe (tkW.imp im) po).run pins s σ H D I q⟩) hh.as) fun Dn σ H ⟨env, F, en, R, ht, k1, k2, k3, k4⟩ => ?_
  refine ⟨F, disp X.K i EX en l, ⟨R.f0, R.fz⟩, fun cls d σ' H' ⟨env', F', ed, R', rx, ex⟩ => ?_, env, F, en, R.at0, ht, fun env' F' σ' H' s' R' q => k1 env' F' σ' H' s' (R.of0 R') q, fun d v env' F' σ' H' s' R' rd q => k2 d v env' F' σ' H' s' (R.of0 R') rd q,
    fun env' F' σ' H' s' R' q => k3 env' F' σ' H' s' (R.of0 R') q, fun env' F' σ' H' s' R' q => k4 env' F' σ' H' s' (R.of0 R') q⟩
  have s' : Same F F' := R'.f0
  have R2 := R.of0 R'
  have key : ∀ l' : List (Addr × RH), disp X.K i EX en l' ed env' → wAsM X.K i (WEx X.K bx EX) Dn (l'.map fun p => (.ref p.1, tHd X.K bx p.2)) cls d σ' H' := by
    intro l'
    induction l' with
    | nil => exact fun ex => ⟨env', F', ed, R2, rx, ex⟩
    | cons p r ih =>
      intro ex
      obtain ⟨c, ts⟩ := p
      cases ed with
      | obj C ns xs =>
        obtain ⟨b, e1, e2, e3⟩ := ex
        have hcls : cls = .ref C := rx.1
        refine ⟨b, by rw [hcls]; exact e1, fun hb' a ha => ?_, fun hb' => ih (e3 hb')⟩
        refine ⟨F', .obj C ns xs, rx, env'.set i (.val (.raw (.ref a))), F', unE i en, (ER.setVal (d := .raw (.ref a)) R2 hio rfl).at0, e2 hb' a, fun env2 F2 σ2 H2 s2 R3 q => ?_, fun d v env2 F2 σ2 H2 s2 R3 rd q => k2 d v env2 F2 σ2 H2 (s'.trans s2) ((ER.setVal (d := .raw (.ref a)) R2 hio rfl).of0 R3) rd q,
          fun env2 F2 σ2 H2 s2 R3 q => ?_, fun env2 F2 σ2 H2 s2 R3 q => ?_⟩
        · exact k1 _ F2 _ H2 (s'.trans s2) (ER.setUn ((ER.setVal (d := .raw (.ref a)) R2 hio rfl).of0 R3) hio) q
        · exact k3 _ F2 _ H2 (s'.trans s2) (ER.setUn ((ER.setVal (d := .raw (.ref a)) R2 hio rfl).of0 R3) hio) q
        · exact k4 _ F2 _ H2 (s'.trans s2) (ER.setUn ((ER.setVal (d := .raw (.ref a)) R2 hio rfl).of0 R3) hio) q
      | _ => exact ex.elim
  exact key l ex
end
end QL
namespace PySem.W
open PySem PySem.Spec PySem.Calls PyProof.Rows
section
variable {prog : Program} {w : World} {A : Around} {E : Value → Shared → Prop} {s : Shared} {K : Frag} {x D : Addr} {ox od : Obj}
end
end PySem.W
namespace QL
open PySem PySem.Spec PyProof.Rows L2
/-- a class of exceptions whose instances' fields may be read -/
def HasX (K : PySem.W.Frag) (S : Addr → Prop) (f : Str) : Prop := ∀ C, S C → XfC K C ∧ PySem.W.findIn K (.ref C) f = some none
def rXf (S : Addr → Prop) (a : Addr) (f : Str) (ed : D) (te : RE) : RE := fun env Q => te env fun d env1 => match ed with
  | .obj C ns xs => d = .raw (.ref a) ∧ S C ∧ ∃ z, fldD f ns xs = some z ∧ Q z env1
  | _ => False
section
variable {X : Cx} {a : Addr} {oe : Obj} {cls : Value} {d : Option Addr} {pn : List (Addr × Obj)} {B F0 : Hp} {io : Option Addr} {ed : D} {e : Expr} {te : RE} {f : Str} {pos : Pos} {S : Addr → Prop}
theorem q_xf (hz : Zc cls d oe) (hf : ∃ vs, oe.data = .fields vs) (rx : RepX X.K F0 ed cls d) (hS : HasX X.K S f) (he : QE (X.suite a ((a, oe) :: pn)) ⟨B, io, F0⟩ e te)
    (hb : attributeBase e f (X.suite a ((a, oe) :: pn)).env (eval e (X.suite a ((a, oe) :: pn)).env) = eval e (X.suite a ((a, oe) :: pn)).env := by rfl) :
    QE (X.suite a ((a, oe) :: pn)) ⟨B, io, F0⟩ (.Attribute e f pos) (rXf S a f ed te) := by
  refine ⟨fun pins s σ H Q' I ⟨env, F, Q, R, ht, k⟩ => ?_⟩
  refine attr_of hb (thn (he.run pins s σ H (fun x H1 => ∃ C ns xs env1 F1 z, ed = .obj C ns xs ∧ x = .ref a ∧ S C ∧ fldD f ns xs = some z ∧ Same F F1 ∧ ER (X.suite a ((a, oe) :: pn)).K ⟨B, io, F0⟩ F1 env1 σ H1 ∧ Q z env1) I ⟨env, F, _, R, ht, fun dd v env1 F1 H1 s1 R1 r1 q => ?_⟩) fun u s1 hh => ?_)
  · cases ed with
    | obj C ns xs =>
      obtain ⟨e1, hC, z, hz', q⟩ := q
      subst e1
      exact ⟨C, ns, xs, env1, F1, z, rfl, r1, hC, hz', s1, R1, q⟩
    | _ => exact q.elim
  · obtain ⟨x, H1, I1, rx1, C, ns, xs, env1, F1, z, rfl, rfl, hC, hz', sF, R1, q⟩ := hh
    obtain rfl : u = Value.ref a := rx1
    obtain ⟨ec, da, fs, h2, h3, h4, h5⟩ := rx
    subst h4
    subst ec
    subst h2
    obtain ⟨v, hv, rv⟩ := fld_rep h5 hz'
    obtain ⟨T, hno⟩ := hS C hC
    obtain ⟨ha, _⟩ := I1.pin (a, oe) (List.mem_append_left _ List.mem_cons_self)
    obtain ⟨vs, hd⟩ := hf
    have hx : ObjOk X.prog X.w H1 s1.heap da (.xd fs) := I1.hok da _ (R1.sf _ _ (R1.f0 _ _ h3))
    obtain ⟨mA, hns, hr⟩ := hx
    obtain ⟨od, ho, hl⟩ := lookIn_ns hns
    obtain ⟨u, hu, ru⟩ := RelO.some_of (v := v) (o := mA f) (by rw [← hv]; exact hr f)
    have J : PySem.W.InstAt s1.heap a oe C (some od) := ⟨ha, hz.1, by unfold PySem.W.notCls; rw [hd] <;> rfl, by rw [hz.2]; exact ho⟩
    exact HandSPX.exc_get I1.kIn J T.ga T.gg T.exC (PySem.W.findObj_own T.hdC hno rfl (by rw [hl, hu])) (handed_of ru) ⟨v, H1, I1.tok _, ru, k z v env1 F1 H1 sF R1 (Rep.mono R1.f0 _ _ rv) q⟩
/-- isinstance(e, c) of the caught exception -/
def vIsX (K : PySem.W.Frag) (a : Addr) (ed : D) : VL := fun ds Q => match ed, ds with
  | .obj C _ _, [.raw x, .raw (.ref c)] => x = .ref a ∧ ExcC K C ∧ ∃ b, PySem.W.kitOne K (.ref C) (.ref c) = some b ∧ Q (.bl b)
  | .obj C _ _, [.raw x, .raw (.ty c)] => x = .ref a ∧ ExcC K C ∧ ∃ b, PySem.W.kitOne K (.ref C) (.type c) = some b ∧ Q (.bl b)
  | _, _ => False
end
/-! ### step by step -/
section
variable {env : List Slot} {Q : D → List Slot → Prop} {C c : Addr} {ns : List Str} {xs : List D} {S : Addr → Prop} {f : Str} {te ta tb : RE} {t : RA} {i : Nat} {EX : XD} {SA : FA} {P : D → Prop} {en : PEnds} {K : PySem.W.Frag} {a : Addr} {ed d : D} {l : List (Addr × RH)} {ts : RH} {tB : XD → RS}
theorem e_raise : sRaise C f EX te en env = te env fun d env1 => EX (.obj C [f] [d]) env1 := rfl
theorem e_try : sTry K i EX l tB en env = tB (disp K i EX en l) en env := rfl
theorem e_disp0 {ed : D} : disp K i EX en [] ed env = EX ed env := rfl
theorem e_unErt : (unE i en).rt = en.rt := rfl
theorem e_unEnx : (unE i en).nx = fun env => en.nx (env.set i .un) := rfl
theorem e_xf : rXf S a f (.obj C ns xs) te env Q = te env fun d env1 => d = .raw (.ref a) ∧ S C ∧ ∃ z, fldD f ns xs = some z ∧ Q z env1 := rfl
end
end QL
set_option Elab.async false
set_option linter.all false
set_option maxRecDepth 100000
set_option maxHeartbeats 4000000
namespace QL
open PySem PySem.Spec PyProof.Rows L2
/-! ### an object made of a list that its name keeps -/
mutual
def noL : D → Bool
  | .lst _ => false
  | .scr _ => false
  | .dic _ _ => false
  | .dct _ _ => false
  | .tup xs => noLs xs
  | .obj _ _ xs => noLs xs
  | _ => true
def noLs : List D → Bool
  | [] => true
  | x :: xs => noL x && noLs xs
end
section
variable {K : PySem.W.Frag} {F : Hp} {a : Addr} {ws : List V}
end
def rMakeC (i : Nat) (C : Addr) (M : FB) : RE := fun env Q => match env[i]? with
  | some (.own (.lst xs)) => M (.obj C [] []) [.lst xs] (fun d d' => d = .non ∧ noL d' = true ∧ Q d' env) fun _ _ => False
  | _ => False
section
variable {X : Cx} {bx : Bx} {e : Expr} {p1 p2 : Pos} {i k : Nat} {x : Str} {C g : Addr} {fn : FuncData} {qs : List Str}
end
/-! ### step by step -/
section
variable {env : List Slot} {Q : D → List Slot → Prop} {C : Addr} {M : FB} {i : Nat}
theorem e_makeC : rMakeC i C M env Q = (match getS env i with | .own (.lst xs) => M (.obj C [] []) [.lst xs] (fun d d' => d = .non ∧ noL d' = true ∧ Q d' env) fun _ _ => False | _ => False) := by
  unfold rMakeC
  rw [getS_eq]
  cases env[i]? with
  | none => rfl
  | some s =>
    cases s with
    | own d => cases d <;> rfl
    | _ => rfl
end
end QL
set_option Elab.async false
set_option linter.all false
set_option maxRecDepth 100000
set_option maxHeartbeats 4000000
namespace LamX
open PySem PySem.Spec PyProof.Rows L2
section
variable {X : Cx} {pins : List (Addr × Obj)} {σ : L2.St} {H HZ : Hp} {s s1 : Shared}
/-- as pe_act, what is let out told slot by slot -/
theorem act_at {CXg : CXT} {Eg : XK} {Ng : List Str} {qg : Str} {sg : Scope} {g f c' : Addr} {cdg pm ctv : Value} {params : Arguments} {body : Expr} {scope : Scope} {k i : Nat} {a : Str} {pn : List (Addr × Obj)} {xe : Value → Shared → Prop} {E : L2.St → XK} {tb : XK → TE} {p1 p2 : Pos}
    (I : Inv X pins σ H s) (L : LamS X.env.scope scope) (hf : s.heap.get? f = some (PySem.W.kla_obj "<lambda>" (X.env.qual ++ "<lambda>") params body scope (cloFrom X.env.cells scope.names []) pm c' ctv)) (hfn : H f = none) (hfr : f ∉ frs X.stack)
    (hbind : bindArgs (PySem.W.kla_fn "<lambda>" (X.env.qual ++ "<lambda>") params body scope (cloFrom X.env.cells scope.names []) pm (.ref c') ctv) ⟨[], []⟩ = pure [])
    (hx : ∀ σ, PassesAt (L2.CX X.prog X.w) ((cxOf CXg X.prog X.w X.K X.mg X.base Ng qg sg g cdg X.A X.stack s H Eg).tr pn xe) σ (E σ)) (hr : Room (k + 1) (X.A.deeper (envOfC qg sg s.heap.objs.size g cdg)))
    (hbody : ∀ (E : XK) (A : Around) (outer : List Env) (s : Shared) (H : Hp), Room k (A.deeper (lamEnv X scope s.heap.objs.size f c')) → PE (lamCx X A outer s H E scope f c') body (tb E))
    (hN : Ng[i]? = some a) (hv : Vis sg a) (hd : (a == ("__debug__" : Str)) = false := by decide) (hcd : (a == ("__classdict__" : Str)) = false := by decide) :
    PE ((cxOf CXg X.prog X.w X.K X.mg X.base Ng qg sg g cdg X.A X.stack s H Eg).tr pn xe) (.Call (.Name a p1) [] [] p2)
      (fun σZ HZ Q => σZ[i]? = some (some (.ref f)) ∧ HZ c' = some (CodeO c' (X.env.qual ++ "<lambda>")) ∧ tb (E σZ) σ HZ Q) := by
  refine ⟨fun pinsZ sZ σZ HZ Q IZ h => ?_⟩
  obtain ⟨hs, hc, ht⟩ := h
  refine wpAny_Call_Name_kw (thn ((pe_var (pos := p1) (i := i) hN hv hd hcd).run pinsZ sZ σZ HZ (fun v H1 => v = .ref f ∧ H1 = HZ) IZ ⟨.ref f, hs, rfl, rfl⟩) fun u s1 ⟨v, H1, I1, r1, ev, eH⟩ => ?_)
  subst ev
  rw [eH] at I1
  obtain rfl : u = Value.ref f := r1
  have of1 := I1.base.keep f _ hf hfn hfr (fun z => nomatch (show f ∈ ([] : List Addr) from z))
  refine PySem.W.callWith_F0 ⟨_, _, _, _, of1⟩ ?_
  have un : Un (frs X.stack) [] H HZ s.heap s1.heap := I1.base
  obtain ⟨⟨oc, vs, t, hoc, hdc, hvc⟩, _, _⟩ := I1.hok c' _ hc
  have rc : codeAny (model X.prog X.w) (X.A.deeper (envOfC qg sg s.heap.objs.size g cdg)) (.call (.ref f) ⟨[], []⟩) (CR (L2.CX X.prog X.w) (envOfC qg sg s.heap.objs.size g cdg :: X.stack) X.prog X.w HZ s1 Q (E σZ)) s1 := by
    refine PySem.W.kla_callFunE hr.depth of1 rfl L.co L.gen rfl ⟨c', oc, vs, t, rfl, hoc, hdc, hvc⟩ ?_
    rw [hbind]
    refine wpAny_pure (wpAny_newFunctionEnv (fun y hy => (L.own y hy).2) (fun y hy => absurd hy (by simp)) (fun h₁ hns hsb => ⟨I1.nolimit.fresh _ hsb, ?_⟩) L.kind)
    have kp : ∀ b o, s1.heap.get? b = some o → h₁.get? b = some o := fun b o e => hsb.extBut b o (Nat.ne_of_lt (Heap.lt_size e)) (Heap.get?_push_of_some _ e)
    have J := lam_start2 (c' := c') (E := E σZ) (tk := s1.toks + ([] : List (Str × Value)).length) I L (f := f) I1.env0 hr.hd un hns kp
    refine PySem.W.kla_codeExpr (wpAny_mono ((hbody (E σZ) _ _ s1 HZ (hr.deeper _)).run [] _ _ HZ Q J ht) (fun v s' hq => ?_) fun e s' hq => hq)
    obtain ⟨w', H', J', rv, q⟩ := hq
    exact ⟨w', H', J'.os, J'.bare, J'.base, J'.hok, rv, q⟩
  refine wpAny_call (codeAny_mono rc fun r s' hq => ?_)
  rcases r with e | fl
  · exact hx σZ pinsZ HZ s1 e s' I1 hq
  · cases fl with
    | ret u => exact I1.after hq
    | _ => exact False.elim hq
end
/-- as GivesTo, what is let out told slot by slot -/
def GivesAt (X : Cx) (Ng : List Str) (x : Str) (sg : Scope) (g : Addr) (cdg : Value) (bg : List Stmt) (a : Str) (q : Str) (TT : (XK → Hp → VK → Prop) → Hp → VK → Prop) : Prop :=
  ∀ (f c' : Addr) (s : Shared) (H : Hp) (Q : VK) (tl : XK → Hp → VK → Prop),
    (∀ (pn : List (Addr × Obj)) (xe : Value → Shared → Prop) (E : L2.St → XK) (p1 p2 : Pos), (∀ σ, PassesAt (L2.CX X.prog X.w) ((cxOf C8.CX0 X.prog X.w X.K X.mg X.base Ng x sg g cdg X.A X.stack s H C8.E0).tr pn xe) σ (E σ)) →
      PE ((cxOf C8.CX0 X.prog X.w X.K X.mg X.base Ng x sg g cdg X.A X.stack s H C8.E0).tr pn xe) (.Call (.Name a p1) [] [] p2) (fun σZ HZ Q => σZ[0]? = some (some (.ref f)) ∧ HZ c' = some (CodeO c' q) ∧ tl (E σZ) HZ Q)) →
    H c' = some (CodeO c' q) → TT tl H Q →
    ∃ t, PSs (cxOf C8.CX0 X.prog X.w X.K X.mg X.base Ng x sg g cdg X.A X.stack s H C8.E0).nox bg t ∧ t { nx := fun _ H' => Q .non H', rt := Q } (L2.start Ng [.ref f]) H
section
variable {X : Cx}
theorem lam_call {T : List (Addr × Str)} {TT : (XK → Hp → VK → Prop) → Hp → VK → Prop} {x a : Str} {g c P : Addr} {k : Nat} {pg : Arguments} {bg : List Stmt} {sg : Scope} {dV kV doc pm cdv ct oc : Value} {an od : Option Addr} {osl : Array (Option Value)} {Ng : List Str}
    {params : Arguments} {body : Expr} {scope : Scope} {t : XK → TE} {p lpos pos : Pos} (hg : Gl X x) (hm : X.mg x = some (.ref g)) (hk : PySem.W.keepIn X.K (.ref g) = true)
    (lk : X.K.lookup g = some ⟨oc, od, .func (PySem.W.fnOf x x pg bg sg dV kV doc pm an cdv ct), osl⟩) (hcg : PySem.W.codeIn X.K cdv x = true) (hb : L2.Binds X.K (PySem.W.fnOf x x pg bg sg dV kV doc pm an cdv ct) [a] []) (Sg : FnScope Ng [a] sg) (hNg : Ng[0]? = some a) (hva : Vis sg a)
    (hG : GivesAt X Ng x sg g cdv bg a (X.env.qual ++ "<lambda>") TT)
    (TB : TabB X.base X.mg c P) (hcode : X.env.code = .ref c) (hmT : (P, X.env.qual ++ "<lambda>") ∈ T) (hu : ∀ p ∈ T, p.1 = P → p.2 = X.env.qual ++ "<lambda>") (hr : Room (k + 2) X.A) (L : LamS X.env.scope scope) (hdef : defaultsOf params X.env = ([], []))
    (hbind : ∀ (q : Str) (cl : List (Str × Addr)) (pm cv ctv : Value), bindArgs (PySem.W.kla_fn "<lambda>" q params body scope cl pm cv ctv) ⟨[], []⟩ = pure [])
    (hbody : ∀ (A : Around) (outer : List Env) (s : Shared) (H : Hp) (E : XK) (f c' : Addr), Room k (A.deeper (lamEnv X scope s.heap.objs.size f c')) → PE (lamCx X A outer s H E scope f c') body (t E))
    (hdb : (x == ("__debug__" : Str)) = false := by decide) (hd : (a == ("__debug__" : Str)) = false := by decide) (hcd : (a == ("__classdict__" : Str)) = false := by decide) :
    PE X (.Call (.Name x p) [.Lambda params body scope lpos] [] pos) (tLam T TT t) := by
  refine ⟨fun pins s σ H Q I ⟨hT, h⟩ => ?_⟩
  refine wpAny_Call_Name_kw (ld_glob I hg hm ?_ hdb)
  refine PySem.W.callWith_K (h₀ := X.base) I.ok.mod.kin hk ?_ (by rfl) (by rfl)
  show wpAny _ _ (spliced ((false, eval (.Lambda params body scope lpos) X.env) :: backTo pos (starEach [] X.env))) _ _ s
  refine Calls.spliced_cons (lam_make2 I TB hcode hmT hu hT hdef (L.has I.ok) fun f c' pm' ctv H1 s' I1 eN T1 hf hfn hfr hco => Calls.spliced_nil ⟨I1.kIn, ?_⟩)
  have rc : codeAny (model X.prog X.w) X.A (.call (.ref g) ⟨[.ref f], []⟩) (CR C8.CX0 X.stack X.prog X.w H1 s' Q C8.E0) s' := by
    refine run_ofS (N := Ng) (ps := [a]) (us := [.ref f]) (vs := [.ref f]) lk hcg Sg hr I1.env0 (hb s' [.ref f] I1.kIn rfl) (.cons rfl .nil) rfl fun hr' => ?_
    obtain ⟨t', ht', hq'⟩ := hG f c' s' H1 Q (fun E H' Q' => t E σ H' Q') (fun pn xe E p1 p2 hx => act_at (i := 0) (tb := t) I1 L hf hfn hfr (hbind _ _ _ _ _) hx hr' (fun E A outer s H hr2 => hbody A outer s H E f c' hr2) hNg hva hd hcd) hco (h H1 eN T1)
    exact ⟨t', ht'.nox, hq'⟩
  refine wpAny_call (codeAny_mono rc fun r s2 hq => ?_)
  rcases r with e | fl
  · exact (show False from hq).elim
  · cases fl with
    | ret u => exact I1.after hq
    | _ => exact False.elim hq
end
end LamX
namespace QL
open PySem PySem.Spec PyProof.Rows L2 LamX
/-! ### a heap without tables -/
def isTbl : HO → Bool
  | .tbl _ => true
  | .ext _ => true
  | _ => false
def noT (F : Hp) : Hp := fun a => match F a with
  | some o => if isTbl o then none else some o
  | none => none
section
variable {K : PySem.W.Frag} {F H : Hp}
theorem noT_of {a : Addr} {o : HO} (h : F a = some o) (n : isTbl o = false) : noT F a = some o := by
  unfold noT
  rw [h]
  show (if isTbl o = true then none else some o) = _
  rw [n, if_neg Bool.false_ne_true]
theorem noT_some {a : Addr} {o : HO} (h : noT F a = some o) : F a = some o ∧ isTbl o = false := by
  unfold noT at h
  cases e : F a with
  | none => rw [e] at h; cases h
  | some u =>
    rw [e] at h
    have h' : (if isTbl u = true then none else some u) = some o := h
    cases ht : isTbl u with
    | true => rw [ht, if_pos rfl] at h'; cases h'
    | false => rw [ht, if_neg Bool.false_ne_true] at h'; cases h'; exact ⟨rfl, ht⟩
theorem noT_none {a : Addr} (h : F a = none) : noT F a = none := by
  unfold noT
  rw [h]
theorem noT_same : Same (noT F) F := fun a o h => (noT_some h).1
theorem sqL_noT {a : Addr} {xs : List V} (h : SqL K F a xs) : SqL K (noT F) a xs := by
  rcases h with (h | ⟨o, h⟩) | h
  · exact .inl (.inl (noT_of h rfl))
  · exact .inl (.inr ⟨o, noT_of h rfl⟩)
  · exact .inr h
mutual
theorem rep_noT : ∀ (d : D) (v : V), Rep K F d v → Rep K (noT F) d v
  | .non, _, h => h
  | .bl _, _, h => h
  | .int _, _, h => h
  | .str _, _, h => h
  | .raw _, _, h => h
  | .scr _, _, ⟨a, h1, h2⟩ => ⟨a, h1, sqL_noT h2⟩
  | .tup xs, _, ⟨a, vs, h1, h2, h3⟩ => ⟨a, vs, h1, noT_of h2 rfl, repL_noT xs vs h3⟩
  | .lst xs, _, ⟨a, vs, h1, h2, h3⟩ => ⟨a, vs, h1, noT_of h2 rfl, repL_noT xs vs h3⟩
  | .dic ks xs, _, ⟨a, h1, kvs, h2, h3, h4⟩ => ⟨a, h1, kvs, noT_of h2 rfl, h3, repL_noT xs _ h4⟩
  | .dct ks xs, _, ⟨a, h1, kvs, h2, h3, h4⟩ => ⟨a, h1, kvs, noT_of h2 rfl, h3, repL_noT xs _ h4⟩
  | .obj C ns xs, _, ⟨a, dx, fs, h1, h2, h3, h4⟩ => ⟨a, dx, fs, h1, noT_of h2 rfl, h3, repL_noT xs _ h4⟩
theorem repL_noT : ∀ (xs : List D) (vs : List V), RepL K F xs vs → RepL K (noT F) xs vs
  | [], _, h => h
  | x :: xs, _, ⟨v, r, h1, h2, h3⟩ => ⟨v, r, h1, rep_noT x v h2, repL_noT xs r h3⟩
end
theorem own_noT : ∀ {d : D} {ho : HO}, OwnH K F d ho → OwnH K (noT F) d ho ∧ isTbl ho = false
  | .lst xs, _, ⟨vs, h1, h2⟩ => ⟨⟨vs, h1, repL_noT _ _ h2⟩, by rw [h1]; rfl⟩
  | .dic ks xs, _, ⟨kvs, h2, h3, h4⟩ => ⟨⟨kvs, h2, h3, repL_noT xs _ h4⟩, by rw [h2]; rfl⟩
  | .dct ks xs, _, ⟨kvs, h2, h3, h4⟩ => ⟨⟨kvs, h2, h3, repL_noT xs _ h4⟩, by rw [h2]; rfl⟩
  | .obj C ns xs, _, ⟨dx, fs, h1, h2, h3⟩ => ⟨⟨dx, fs, h1, h2, repL_noT _ _ h3⟩, by rw [h1]; rfl⟩
  | .non, _, h => h.elim
  | .bl _, _, h => h.elim
  | .int _, _, h => h.elim
  | .str _, _, h => h.elim
  | .raw _, _, h => h.elim
  | .scr _, _, h => h.elim
  | .tup _, _, h => h.elim
end
/-! ### a def that makes lambdas: its tables of code objects grow -/
abbrev bx0 : Bx := ⟨fun _ => none, none, fun _ => none⟩
abbrev Tbs := List (Addr × Str)
/-- the tables and code objects -/
def tabH (H : Hp) : Hp := fun a => match H a with
  | some o => if isTbl o then some o else none
  | none => none
theorem tabH_of {H : Hp} {a : Addr} {o : HO} (h : H a = some o) (n : isTbl o = true) : tabH H a = some o := by
  unfold tabH
  rw [h]
  show (if isTbl o = true then some o else none) = _
  rw [n, if_pos rfl]
theorem tabH_some {H : Hp} {a : Addr} {o : HO} (h : tabH H a = some o) : H a = some o ∧ isTbl o = true := by
  unfold tabH at h
  cases e : H a with
  | none => rw [e] at h; cases h
  | some u =>
    rw [e] at h
    have h' : (if isTbl u = true then some u else none) = some o := h
    cases ht : isTbl u with
    | true => rw [ht, if_pos rfl] at h'; cases h'; exact ⟨rfl, ht⟩
    | false => rw [ht, if_neg Bool.false_ne_true] at h'; cases h'
structure ERX (K : PySem.W.Frag) (T : Tbs) (F : Hp) (env : List Slot) (σ : L2.St) (H : Hp) : Prop where
  er : ER K bx0 F env σ H
  tb : Tabs T H
  nt : ∀ a o, F a = some o → isTbl o = false
section
variable {K : PySem.W.Frag} {T : Tbs} {F F' H H' : Hp} {env env' : List Slot} {σ σ' : L2.St}
theorem Tabs.keep (t : Tabs T H) (s : Same (tabH H) H') : Tabs T H' := fun p hp => by
  obtain ⟨ps, h1, h2, h3⟩ := t p hp
  refine ⟨ps, s _ _ (tabH_of h1 rfl), h2, fun pos cv hc => ?_⟩
  obtain ⟨c, e1, e2⟩ := h3 pos cv hc
  exact ⟨c, e1, s _ _ (tabH_of e2 rfl)⟩
theorem ERX.into (R : ERX K T F env σ H) : ER K ⟨tabH H, none, fun _ => none⟩ F env σ H := by
  refine ⟨fun b o h => (tabH_some h).1, R.er.sf, R.er.len, fun i s z => ?_, R.er.sep, (fun a h => nomatch h), (fun b o h => nomatch h), fun a _ ha => ?_⟩
  · obtain ⟨o, h1, h2⟩ := R.er.slots i s z
    refine ⟨o, h1, ?_⟩
    cases s with
    | un => trivial
    | val d => exact h2
    | own d =>
      obtain ⟨a, ho, h3, h4, h5, h6, h7⟩ := h2
      refine ⟨a, ho, h3, h4, ?_, h6, h7⟩
      show tabH H a = none
      cases e : tabH H a with
      | none => rfl
      | some u =>
        obtain ⟨e1, e2⟩ := tabH_some e
        rw [h6] at e1
        cases e1
        rw [(own_noT h7).2] at e2
        cases e2
  · obtain ⟨o, h1, _⟩ := ha
    obtain ⟨e1, e2⟩ := tabH_some h1
    cases hF : F a with
    | none => rfl
    | some u =>
      have e3 := R.er.sf _ _ hF
      rw [e1] at e3
      cases e3
      rw [R.nt a _ hF] at e2
      cases e2
/-- back from a step that keeps the tables -/
theorem ERX.back (R : ERX K T F env σ H) (R' : ER K ⟨tabH H, none, fun _ => none⟩ F' env' σ' H') : ERX K T (noT F') env' σ' H' where
  er := ⟨(fun b o h => nomatch h), noT_same.trans R'.sf, R'.len, fun i s z => by
    obtain ⟨o, h1, h2⟩ := R'.slots i s z
    refine ⟨o, h1, ?_⟩
    cases s with
    | un => trivial
    | val d => obtain ⟨v, h3, h4⟩ := h2; exact ⟨v, h3, rep_noT _ _ h4⟩
    | own d => obtain ⟨a, ho, h3, h4, h5, h6, h7⟩ := h2; exact ⟨a, ho, h3, noT_none h4, rfl, h6, (own_noT h7).1⟩, R'.sep, (fun a h => nomatch h), (fun b o h => nomatch h), fun a _ ha => by
      obtain ⟨o, h1, _⟩ := ha
      cases h1⟩
  tb := Tabs.keep R.tb R'.sb
  nt := fun a o h => (noT_some h).2
theorem ERX.sameN (R : ERX K T F env σ H) (s : Same F F') : Same F (noT F') := fun a o h => noT_of (s a o h) (R.nt a o h)
/-- the tables have grown -/
theorem ERX.grown (R : ERX K T F env σ H) (e : ExtN H H') (t : Tabs T H') : ERX K T F env σ H' := by
  have kp : ∀ a o, H a = some o → isTbl o = false → H' a = some o := fun a o h n => e a o h fun ps z => by rw [z] at n; cases n
  refine ⟨⟨(fun b o h => nomatch h), fun a o h => kp a o (R.er.sf a o h) (R.nt a o h), R.er.len, fun i s z => ?_, R.er.sep, (fun a h => nomatch h), (fun b o h => nomatch h), fun a _ ha => ?_⟩, t, R.nt⟩
  · obtain ⟨o, h1, h2⟩ := R.er.slots i s z
    refine ⟨o, h1, ?_⟩
    cases s with
    | un => trivial
    | val d => exact h2
    | own d => obtain ⟨a, ho, h3, h4, h5, h6, h7⟩ := h2; exact ⟨a, ho, h3, h4, h5, kp a ho h6 (own_noT h7).2, h7⟩
  · obtain ⟨o, h1, _⟩ := ha
    cases h1
theorem ERX.to (R : ERX K T F env σ H) (g : Grow F H F' H') : ERX K T (noT F') env σ H' := by
  have R2 : ER K bx0 F' env σ H' := R.er.grow g.e g.sf g.sh g.hn
  refine ⟨⟨(fun b o h => nomatch h), noT_same.trans g.sf, R2.len, fun i s z => ?_, R2.sep, (fun a h => nomatch h), (fun b o h => nomatch h), fun a _ ha => ?_⟩, R.tb.ext g.sh, fun a o h => (noT_some h).2⟩
  · obtain ⟨o, h1, h2⟩ := R2.slots i s z
    refine ⟨o, h1, ?_⟩
    cases s with
    | un => trivial
    | val d => obtain ⟨v, h3, h4⟩ := h2; exact ⟨v, h3, rep_noT _ _ h4⟩
    | own d => obtain ⟨a, ho, h3, h4, h5, h6, h7⟩ := h2; exact ⟨a, ho, h3, noT_none h4, rfl, h6, (own_noT h7).1⟩
  · obtain ⟨o, h1, _⟩ := ha
    cases h1
end
/-! ### readings over such states -/
section
variable (K : PySem.W.Frag) (T : Tbs)
def upX (t : RE) : TE := fun σ H Q' => ∃ env F Q, ERX K T F env σ H ∧ t env Q ∧ ∀ d v env' F' H', Same F F' → ERX K T F' env' σ H' → Rep K F' d v → Q d env' → Q' v H'
def upXT (t : RB) : TT := fun σ H Q' => ∃ env F Q, ERX K T F env σ H ∧ t env Q ∧ ∀ b env' F' H', Same F F' → ERX K T F' env' σ H' → Q b env' → Q' b H'
def upXS (t : RS) : TS := fun Dn σ H => ∃ env F en, ERX K T F env σ H ∧ t en env ∧
  (∀ env' F' σ' H', Same F F' → ERX K T F' env' σ' H' → en.nx env' → Dn.nx σ' H') ∧
  (∀ d v env' F' σ' H', Same F F' → ERX K T F' env' σ' H' → Rep K F' d v → en.rt d env' → Dn.rt v H') ∧
  (∀ env' F' σ' H', Same F F' → ERX K T F' env' σ' H' → en.bk env' → Dn.bk σ' H') ∧
  (∀ env' F' σ' H', Same F F' → ERX K T F' env' σ' H' → en.ct env' → Dn.ct σ' H')
end
abbrev XE' (X : Cx) (T : Tbs) (e : Expr) (t : RE) : Prop := L2.PE X e (upX X.K T t)
abbrev XT' (X : Cx) (T : Tbs) (e : Expr) (t : RB) : Prop := L2.PT X e (upXT X.K T t)
abbrev XS' (X : Cx) (T : Tbs) (st : Stmt) (t : RS) : Prop := L2.PS X st (upXS X.K T t)
abbrev XSs' (X : Cx) (T : Tbs) (st : List Stmt) (t : RS) : Prop := L2.PSs X st (upXS X.K T t)
section
variable {X : Cx} {T : Tbs} {e a b : Expr} {st : Stmt} {sts : List Stmt} {te ta tb : RE} {tc : RB} {ts us : RS} {pos : Pos}
theorem x_e (h : ∀ B F0, QE X ⟨B, none, F0⟩ e te) : XE' X T e te := ⟨fun pins s σ H Q' I ⟨env, F, Q, R, ht, k⟩ => (h (tabH H) fun _ => none).run pins s σ H Q' I ⟨env, F, Q, R.into, ht, fun d v env' F' H' s' R' rd q => k d v env' (noT F') H' (R.sameN s') (R.back R') (rep_noT _ _ rd) q⟩⟩
theorem x_s (h : ∀ B F0, QS X ⟨B, none, F0⟩ st ts) : XS' X T st ts := ⟨fun pins s σ H Dn I ⟨env, F, en, R, ht, k1, k2, k3, k4⟩ => (h (tabH H) fun _ => none).run pins s σ H Dn I ⟨env, F, en, R.into, ht,
  fun env' F' σ' H' s' R' q => k1 env' (noT F') σ' H' (R.sameN s') (R.back R') q, fun d v env' F' σ' H' s' R' rd q => k2 d v env' (noT F') σ' H' (R.sameN s') (R.back R') (rep_noT _ _ rd) q,
  fun env' F' σ' H' s' R' q => k3 env' (noT F') σ' H' (R.sameN s') (R.back R') q, fun env' F' σ' H' s' R' q => k4 env' (noT F') σ' H' (R.sameN s') (R.back R') q⟩⟩
theorem xs_one (h : XS' X T st ts) : XSs' X T [st] ts := pss_one h
theorem xs_nil : XSs' X T [] sNil := pss_imp pss_nil fun Dn σ H ⟨env, F, en, R, ht, k, _⟩ => k env F σ H (Same.refl _) R ht
theorem xs_cons (h : XS' X T st ts) (g : XSs' X T sts us) : XSs' X T (st :: sts) (sSeq ts us) := pss_imp (pss_cons h g) fun Dn σ H ⟨env, F, en, R, ht, k1, k2, k3, k4⟩ =>
  ⟨env, F, _, R, ht, fun env' F' σ' H' s R' q => ⟨env', F', en, R', q, fun env2 F2 σ2 H2 s2 => k1 env2 F2 σ2 H2 (s.trans s2), fun d v env2 F2 σ2 H2 s2 => k2 d v env2 F2 σ2 H2 (s.trans s2), fun env2 F2 σ2 H2 s2 => k3 env2 F2 σ2 H2 (s.trans s2), fun env2 F2 σ2 H2 s2 => k4 env2 F2 σ2 H2 (s.trans s2)⟩, k2, k3, k4⟩
theorem x_ret (h : XE' X T e te) : XS' X T (.Return (some e) pos) (sRet te) := ps_imp (ps_ret h) fun Dn σ H ⟨env, F, en, R, ht, _, k, _⟩ => ⟨env, F, _, R, ht, fun d v env1 F1 H1 s1 R1 r1 q1 => k d v env1 F1 σ H1 s1 R1 r1 q1⟩
theorem x_if {c : Expr} {sa sb : List Stmt} (hc : XT' X T c tc) (ha : XSs' X T sa ts) (hb : XSs' X T sb us) : XS' X T (.If c sa sb pos) (sIf tc ts us) := ps_imp (ps_if hc ha hb) fun Dn σ H ⟨env, F, en, R, ht, k1, k2, k3, k4⟩ =>
  ⟨env, F, _, R, ht, fun b env1 F1 H1 s R1 q1 => by
    cases b with
    | true =>
      rw [if_pos rfl] at q1 ⊢
      exact ⟨env1, F1, en, R1, q1, fun env2 F2 σ2 H2 s2 => k1 env2 F2 σ2 H2 (s.trans s2), fun d v env2 F2 σ2 H2 s2 => k2 d v env2 F2 σ2 H2 (s.trans s2), fun env2 F2 σ2 H2 s2 => k3 env2 F2 σ2 H2 (s.trans s2), fun env2 F2 σ2 H2 s2 => k4 env2 F2 σ2 H2 (s.trans s2)⟩
    | false =>
      rw [if_neg Bool.false_ne_true] at q1 ⊢
      exact ⟨env1, F1, en, R1, q1, fun env2 F2 σ2 H2 s2 => k1 env2 F2 σ2 H2 (s.trans s2), fun d v env2 F2 σ2 H2 s2 => k2 d v env2 F2 σ2 H2 (s.trans s2), fun env2 F2 σ2 H2 s2 => k3 env2 F2 σ2 H2 (s.trans s2), fun env2 F2 σ2 H2 s2 => k4 env2 F2 σ2 H2 (s.trans s2)⟩⟩
theorem xop_up {r : V2} {σ : L2.St} {H : Hp} {Q' : VK} : upX X.K T (rOp r ta tb) σ H Q' → tOp (upV2 X.K r) (upX X.K T ta) (upX X.K T tb) σ H Q' := fun ⟨env, F, Q, R, ht, k⟩ =>
  ⟨env, F, _, R, ht, fun d v env1 F1 H1 s1 R1 r1 q1 => ⟨env1, F1, _, R1, q1, fun d2 w env2 F2 H2 s2 R2 r2 q2 => ⟨F2, d, d2, _, R2.er.sf, Rep.mono s2 _ _ r1, r2, q2, fun z u F3 H3 g r3 q3 =>
    k z u env2 (noT F3) H3 (R.sameN ((s1.trans s2).trans g.e)) (R2.to g) (rep_noT _ _ r3) q3⟩⟩⟩
theorem x_cmp {op : CmpOp} {r : V2} (ho : OpR X (compareOp op) (upV2 X.K r)) (ha : XE' X T a ta) (hb : XE' X T b tb) (hm : behindInMarks op b = false := by first | exact nomark _ | rfl) : XE' X T (.Compare a [op] [b] pos) (rOp r ta tb) :=
  pe_imp (pe_cmpR ho ha hb hm) fun _ _ _ => xop_up
theorem xt_cmp {op : CmpOp} {r : V2} (ho : OpR X (compareOp op) (upV2 X.K r)) (ha : XE' X T a ta) (hb : XE' X T b tb) (hm : behindInMarks op b = false := by first | exact nomark _ | rfl) : XT' X T (.Compare a [op] [b] pos) (rTst (rOp r ta tb)) :=
  pt_imp (pt_cmpR ho ha hb hm) fun σ H Q' ⟨env, F, Q, R, ht, k⟩ => xop_up ⟨env, F, _, R, ht, fun d v env1 F1 H1 s1 R1 r1 q1 => by
    cases d with
    | bl c => exact ⟨c, r1, k c env1 F1 H1 s1 R1 q1⟩
    | _ => exact q1.elim⟩
end
end QL
namespace QL
open PySem PySem.Spec PyProof.Rows L2 LamX
/-! ### a def that calls what it got -/
abbrev FL := ((D → Prop) → (D → Prop) → Prop) → (D → Prop) → Prop
def rDeed (f : Addr) (L : (D → Prop) → (D → Prop) → Prop) (EX : XD) : RE := fun env Q => env[0]? = some (.val (.raw (.ref f))) ∧ L (fun d => Q d env) fun ed => EX ed env
def TTq (K : PySem.W.Frag) (S : FL) : (XK → Hp → VK → Prop) → Hp → VK → Prop := fun tl H1 Q' => ∃ (F : Hp) (L : (D → Prop) → (D → Prop) → Prop) (Q : D → Prop), Same F H1 ∧ S L Q ∧
  (∀ (HZ FZ : Hp) (Qd Ed : D → Prop) (QZ : VK) (EZ : XK), Grow F H1 FZ HZ → L Qd Ed → (∀ d v F' H', Grow FZ HZ F' H' → Rep K F' d v → Qd d → QZ v H') → (∀ ed cls dx F' H', Grow FZ HZ F' H' → RepX K F' ed cls dx → Ed ed → EZ cls dx H') → tl EZ HZ QZ) ∧
  (∀ d v F' H', Grow F H1 F' H' → Rep K F' d v → Q d → Q' v H')
section
variable {X : Cx} {Ng : List Str} {x a q : Str} {sg : Scope} {g : Addr} {cdg : Value} {bg : List Stmt} {S : FL}
theorem fnF (hbody : ∀ (f : Addr) (s : Shared) (H F0 : Hp) (L : (D → Prop) → (D → Prop) → Prop),
    (∀ (bx : Bx) (EXb : XD) (pn : List (Addr × Obj)) (xe : Value → Shared → Prop) (p1 p2 : Pos), bx.B = H → Same F0 bx.F0 → (∀ b, F0 b = none → Hard H b → bx.F0 b = none) →
      Takes ((cxOf C8.CX0 X.prog X.w X.K X.mg X.base Ng x sg g cdg X.A X.stack s H C8.E0).nox.tr pn xe) (WEx X.K bx EXb) →
      QE ((cxOf C8.CX0 X.prog X.w X.K X.mg X.base Ng x sg g cdg X.A X.stack s H C8.E0).nox.tr pn xe) bx (.Call (.Name a p1) [] [] p2) (rDeed f L EXb)) →
    ∃ t, QSs (cxOf C8.CX0 X.prog X.w X.K X.mg X.base Ng x sg g cdg X.A X.stack s H C8.E0).nox ⟨H, none, F0⟩ bg t ∧ ∀ Q, S L Q → t { nx := fun _ => Q .non, rt := fun d _ => Q d } (envA Ng [.raw (.ref f)])) :
    GivesAt X Ng x sg g cdg bg a q (TTq X.K S) := by
  intro f c' s H Q' tl act hc ⟨F, L, Q, sm, hS, him, hfin⟩
  obtain ⟨t, ht, hq⟩ := hbody f s H F L fun bx EXb pn xe p1 p2 hB hF hn tk => by
    refine pe_imp (act pn xe (fun σ cls dx H' => WEx X.K bx EXb cls dx σ H') p1 p2 (tkE_of (X := (cxOf C8.CX0 X.prog X.w X.K X.mg X.base Ng x sg g cdg X.A X.stack s H C8.E0).nox.tr pn xe) tk)) fun σZ HZ QZ ⟨env, FZ, Qe, R, ⟨h0, hL⟩, k⟩ => ?_
    obtain ⟨o, h1, v, h2, h3⟩ := R.slots 0 _ h0
    have h3 : v = .ref f := h3
    have gr : Grow F H FZ HZ := ⟨hF.trans R.f0, R.sf, by rw [← hB]; exact R.sb, fun b z1 z2 => R.fz b (hn b z1 z2) (by rw [hB]; exact z2)⟩
    refine ⟨by rw [h1, h2, h3], ?_, him HZ FZ _ _ QZ _ gr hL (fun d v F' H' g' rd qd => k d v env F' H' g'.e (R.to g') rd qd) fun ed cls dx F' H' g' rx ex => ⟨env, F', ed, R.to g', rx, ex⟩⟩
    exact R.sb _ _ (by rw [hB]; exact hc)
  refine ⟨_, ht, envA Ng [.raw (.ref f)], F, _, er_start sm ⟨_, _, rfl, rfl, rfl⟩, hq Q hS, fun env' F' σ' H' s' R' z => hfin .non .non F' H' R'.grown rfl z, fun d v env' F' σ' H' s' R' rd z => hfin d v F' H' R'.grown rd z, fun _ _ _ _ _ _ z => z.elim, fun _ _ _ _ _ _ z => z.elim⟩
end
/-! ### x(lambda: body) -/
def hide : List Slot → List Slot
  | [] => []
  | .own _ :: r => .un :: hide r
  | s :: r => s :: hide r
theorem hide_len : ∀ env : List Slot, (hide env).length = env.length
  | [] => rfl
  | .own _ :: r => by rw [hide, List.length_cons, List.length_cons, hide_len r]
  | .un :: r => by rw [hide, List.length_cons, List.length_cons, hide_len r]; exact fun d z => nomatch z
  | .val d :: r => by rw [hide, List.length_cons, List.length_cons, hide_len r]; exact fun d z => nomatch z
theorem hide_get : ∀ {env : List Slot} {i : Nat} {s : Slot}, (hide env)[i]? = some s → s = .un ∨ ((∀ d, s ≠ .own d) ∧ env[i]? = some s)
  | [], i, s, h => by simp [hide] at h
  | .own d :: r, 0, s, h => by
    have h' : Slot.un = s := by simpa [hide] using h
    exact .inl h'.symm
  | .un :: r, 0, s, h => by
    have h' : Slot.un = s := by simpa [hide] using h
    exact .inl h'.symm
  | .val d :: r, 0, s, h => by
    have h' : Slot.val d = s := by simpa [hide] using h
    subst h'
    exact .inr ⟨(fun d z => nomatch z), rfl⟩
  | .own d :: r, i + 1, s, h => by
    rcases hide_get (env := r) (i := i) (s := s) (by simpa [hide] using h) with e | ⟨e1, e2⟩
    · exact .inl e
    · exact .inr ⟨e1, by simpa using e2⟩
  | .un :: r, i + 1, s, h => by
    rcases hide_get (env := r) (i := i) (s := s) (by simpa [hide] using h) with e | ⟨e1, e2⟩
    · exact .inl e
    · exact .inr ⟨e1, by simpa using e2⟩
  | .val d :: r, i + 1, s, h => by
    rcases hide_get (env := r) (i := i) (s := s) (by simpa [hide] using h) with e | ⟨e1, e2⟩
    · exact .inl e
    · exact .inr ⟨e1, by simpa using e2⟩
theorem ER.hide {K : PySem.W.Frag} {bx : Bx} {F FZ H HZ : Hp} {env : List Slot} {σ : L2.St} (R : ER K bx F env σ H) (s1 : Same F FZ) (s2 : Same FZ HZ) : ER K ⟨HZ, none, FZ⟩ FZ (QL.hide env) σ HZ := by
  refine ⟨Same.refl _, s2, by rw [hide_len]; exact R.len, fun i s z => ?_, fun i j d e a h1 _ _ _ => ?_, (fun a h => nomatch h), Same.refl _, fun a h _ => h⟩
  · rcases hide_get z with rfl | ⟨n, z⟩
    · have hl : i < (QL.hide env).length := (List.getElem?_eq_some_iff.mp z).1
      rw [hide_len, R.len] at hl
      exact ⟨_, List.getElem?_eq_getElem hl, trivial⟩
    · obtain ⟨o, h1, h2⟩ := R.slots i s z
      refine ⟨o, h1, ?_⟩
      cases s with
      | un => trivial
      | val d => obtain ⟨v, h3, h4⟩ := h2; exact ⟨v, h3, Rep.mono s1 _ _ h4⟩
      | own d => exact absurd rfl (n d)
  · rcases hide_get h1 with z | ⟨n, _⟩
    · cases z
    · exact absurd rfl (n d)
def rLam (S : FL) (tl : XD → RE) : RE := fun env Q => S (fun Qd Ed => tl (fun ed _ => Ed ed) (hide env) fun d _ => Qd d) fun d => Q d env
section
variable {X : Cx}
theorem x_lam {T : Tbs} {S : FL} {x a : Str} {g c P : Addr} {k : Nat} {pg : Arguments} {bg : List Stmt} {sg : Scope} {dV kV doc pm cdv ct oc : Value} {an od : Option Addr} {osl : Array (Option Value)} {Ng : List Str}
    {params : Arguments} {body : Expr} {scope : Scope} {tl : XD → RE} {p lpos pos : Pos} (hg : Gl X x) (hm : X.mg x = some (.ref g)) (hk : PySem.W.keepIn X.K (.ref g) = true)
    (lk : X.K.lookup g = some ⟨oc, od, .func (PySem.W.fnOf x x pg bg sg dV kV doc pm an cdv ct), osl⟩) (hcg : PySem.W.codeIn X.K cdv x = true) (hb : L2.Binds X.K (PySem.W.fnOf x x pg bg sg dV kV doc pm an cdv ct) [a] []) (Sg : FnScope Ng [a] sg) (hNg : Ng[0]? = some a) (hva : Vis sg a)
    (hG : GivesAt X Ng x sg g cdv bg a (X.env.qual ++ "<lambda>") (TTq X.K S))
    (TB : TabB X.base X.mg c P) (hcode : X.env.code = .ref c) (hmT : (P, X.env.qual ++ "<lambda>") ∈ T) (hu : ∀ p ∈ T, p.1 = P → p.2 = X.env.qual ++ "<lambda>") (hr : Room (k + 2) X.A) (L : LamS X.env.scope scope) (hdef : defaultsOf params X.env = ([], []))
    (hbind : ∀ (q : Str) (cl : List (Str × Addr)) (pm cv ctv : Value), bindArgs (PySem.W.kla_fn "<lambda>" q params body scope cl pm cv ctv) ⟨[], []⟩ = pure [])
    (hbody : ∀ (B F0 : Hp) (EX : XD) (A : Around) (outer : List Env) (s : Shared) (H : Hp) (E : XK) (f c' : Addr), Room k (A.deeper (lamEnv X scope s.heap.objs.size f c')) → Takes (lamCx X A outer s H E scope f c') (WEx X.K ⟨B, none, F0⟩ EX) → QE (lamCx X A outer s H E scope f c') ⟨B, none, F0⟩ body (tl EX))
    (hdb : (x == ("__debug__" : Str)) = false := by decide) (hd : (a == ("__debug__" : Str)) = false := by decide) (hcd : (a == ("__classdict__" : Str)) = false := by decide) :
    XE' X T (.Call (.Name x p) [.Lambda params body scope lpos] [] pos) (rLam S tl) := by
  refine pe_imp (lam_call (T := T) (t := fun E σ HZ QZ => ∃ B F0 EX, (∀ cls dx σ' H', WEx X.K ⟨B, none, F0⟩ EX cls dx σ' H' → E cls dx H') ∧ up X.K ⟨B, none, F0⟩ (tl EX) σ HZ QZ) hg hm hk lk hcg hb Sg hNg hva hG TB hcode hmT hu hr L hdef hbind
    (fun A outer s H E f c' hr' => ⟨fun pins s' σ HZ QZ I ⟨B, F0, EX, im, u⟩ => (hbody B F0 EX A outer s H E f c' hr' ((takes_of rfl rfl rfl rfl : Takes (lamCx X A outer s H E scope f c') (fun cls d _ H => E cls d H)).imp fun cls d σ' H' w => im cls d σ' H' w)).run pins s' σ HZ QZ I u⟩) hdb hd hcd)
    fun σ H Q' ⟨env, F, Q, R, ht, k⟩ => ⟨R.tb, fun H1 eN T1 => ?_⟩
  have R1 := R.grown eN T1
  refine ⟨F, fun Qd Ed => tl (fun ed _ => Ed ed) (hide env) fun d _ => Qd d, fun d => Q d env, R1.er.sf, ht, fun HZ FZ Qd Ed QZ EZ gr hL kq ke => ?_, fun d v F' H' gr rd q => k d v env (noT F') H' (R1.sameN gr.e) (R1.to gr) (rep_noT _ _ rd) q⟩
  refine ⟨HZ, FZ, fun ed _ => Ed ed, fun cls dx σ' H' ⟨env2, F2, ed, R2, rx, ex⟩ => ke ed cls dx F2 H' R2.grown rx ex, hide env, FZ, _, R1.er.hide gr.e gr.sf, hL, fun d v env2 F2 H2 s2 R2 rd q => kq d v F2 H2 R2.grown rd q⟩
end
/-! ### step by step -/
section
variable {env : List Slot} {Q : D → List Slot → Prop} {f : Addr} {L : (D → Prop) → (D → Prop) → Prop} {EX : XD} {S : FL} {tl : XD → RE} {d : D} {s : Slot}
theorem e_deed : rDeed f L EX (.val (.raw (.ref f)) :: env) Q = L (fun d => Q d (.val (.raw (.ref f)) :: env)) fun ed => EX ed (.val (.raw (.ref f)) :: env) := propext ⟨fun h => h.2, fun h => ⟨rfl, h⟩⟩
theorem e_hide : ∀ {env : List Slot} {i : Nat} {P : D → Prop}, valQ (getS (hide env) i) P = valQ (getS env i) P
  | [], _, _ => rfl
  | s :: r, 0, P => by cases s <;> rfl
  | s :: r, i + 1, P => by
    have h : valQ (getS (hide r) i) P = valQ (getS r i) P := e_hide
    cases s <;> exact h
theorem e_lam : rLam S tl env Q = S (fun Qd Ed => tl (fun ed _ => Ed ed) (hide env) fun d _ => Qd d) fun d => Q d env := rfl
theorem e_hideN : hide [] = [] := rfl
theorem e_hideO : hide (.own d :: env) = .un :: hide env := rfl
theorem e_hideV : hide (.val d :: env) = .val d :: hide env := rfl
theorem e_hideU : hide (.un :: env) = .un :: hide env := rfl
end
end QL
set_option Elab.async false
set_option linter.all false
set_option maxRecDepth 100000
set_option maxHeartbeats 4000000
/-! ### max(list of pairs of ints); a list of ints in a list of lists of ints -/
namespace S5
open PySem PyProof.Rows S4
variable {prog : Program} {w : World} {A : Around} {R : Result → Shared → Prop} {I : Addr} {fp wr : List Addr} {n : Nat} {P : Nat → Value → Prop} {St : Nat → Heap → Prop} {H0 : Heap}
abbrev mnBox (v : Array Value) (c : Nat) : Obj := { cls := .type "list", dict := none, data := .seq v c, slots := #[] }
abbrev mnArgs (I S : Addr) : Args := ⟨[.ref I, .none, .ref S], []⟩
theorem mn_name : (toString "max" ++ toString ".loop" : String) = "max.loop" := by decide
theorem mn_loop (W : Walks prog w A.in1 I fp wr n P St) (bt : Nat → Nat → Bool) (cm : CmpAt prog w A.in1 .Gt P bt H0) (S : Addr) (nf : S ∉ fp) (k0 : ∀ b o, H0.get? b = some o → b ∉ wr ∧ b ≠ S) (k : Nat) : ∀ (j : Nat) (s : Shared) (vb : Value) (c : Nat), n - (j + 1) = k → j + 1 ≤ n → St (j + 1) s.heap → (∀ b o, H0.get? b = some o → s.heap.get? b = some o) → P (argBest bt j) vb → s.heap.get? S = some (mnBox #[vb, vb] c) →
    (∀ v h' tk, P (argBest bt (n - 1)) v → (∀ b o, b ∉ wr → b ≠ S → s.heap.get? b = some o → h'.get? b = some o) → R (.ok (.ret v)) { s with heap := h', toks := tk }) → codeAny (model prog w) A (.builtin "max.loop" (mnArgs I S)) R s := by
  have nw : S ∉ wr := fun z => nf (W.sub _ z)
  induction k with
  | zero =>
    intro j s vb c ek lj st kp pb eS hR
    refine codeAny_builtin F.entry_max_loop ?_
    rw [Around.under_plainId F.plain_max_loop _]
    show wpAny _ A.in1 (seqItems? (.ref S) >>= _) _ _ s
    refine wpAny_bind (wpAny_seqItems eS rfl ?_)
    show wpAny _ A.in1 (tryCatch (pyNext (.ref I)) _ >>= _) _ _ s
    have en : j + 1 = n := by omega
    rw [en] at st
    refine wpAny_bind (wpAny_tryCatch (W.done s _ _ st fun h2 t2 keep => ?_))
    have eS2 := keep S _ nw eS
    show wpAny _ A.in1 (updateSeq S (fun _ => #[]) >>= _) _ _ _
    refine wpAny_bind (wpAny_updateSeq eS2 rfl (wpAny_bind (wpAny_letGo (wpAny_pure ?_))))
    have ej : j = n - 1 := by omega
    rw [ej] at pb
    exact hR vb _ t2 pb fun b o z1 z2 z3 => (Heap.get?_update_other _ _ (Ne.symm z2)).trans (keep b o z1 z3)
  | succ k ih =>
    intro j s vb c ek lj st kp pb eS hR
    have lt : j + 1 < n := by omega
    refine codeAny_builtin F.entry_max_loop ?_
    rw [Around.under_plainId F.plain_max_loop _]
    show wpAny _ A.in1 (seqItems? (.ref S) >>= _) _ _ s
    refine wpAny_bind (wpAny_seqItems eS rfl ?_)
    show wpAny _ A.in1 (tryCatch (pyNext (.ref I)) _ >>= _) _ _ s
    refine wpAny_bind (wpAny_tryCatch (W.item (j + 1) s _ _ lt st fun v h2 t2 pv st2 keep => ?_))
    have eS2 := keep S _ nw eS
    have kp2 : ∀ b o, H0.get? b = some o → h2.get? b = some o := fun b o e => keep b o (k0 b o e).1 (kp b o e)
    show wpAny _ A.in1 (tryCatch (holding [v, v] (richCompare .Gt v vb >>= _)) _ >>= _) _ _ _
    refine wpAny_bind (wpAny_tryCatch (wpAny_holding (wpAny_bind (cm (j + 1) (argBest bt j) v vb _ _ _ kp2 pv pb ?_))))
    refine wpAny_bind (wpAny_holding (wpAny_truthy_bool ?_))
    refine wpAny_bind (wpAny_letGo (wpAny_pure ?_))
    by_cases hb : bt (j + 1) (argBest bt j) = true
    · rw [if_pos hb]
      refine wpAny_bind (wpAny_updateSeq eS2 rfl (wpAny_bind (wpAny_letGo ?_)))
      rw [mn_name]
      have stay : St (j + 1 + 1) (h2.update S (Obj.mapSeq fun _ => #[v, v])) := W.frame _ _ _ st2 fun b z o e => (Heap.get?_update_other _ _ (fun y : S = b => nf (by rw [y]; exact z))).trans e
      refine wpAny_pure ⟨plainId_quiet F.plain_max_loop _, ih (j + 1) _ v _ (by omega) lt stay (fun b o e => (Heap.get?_update_other _ _ (Ne.symm (k0 b o e).2)).trans (kp2 b o e)) (by unfold argBest; rw [if_pos hb]; exact pv) (Heap.get?_update_self _ eS2 rfl) fun v3 h3 t3 p3 k3 => ?_⟩
      exact hR v3 h3 t3 p3 fun b o z1 z2 z3 => k3 b o z1 z2 ((Heap.get?_update_other _ _ (Ne.symm z2)).trans (keep b o z1 z3))
    · rw [if_neg hb]
      refine wpAny_bind (wpAny_letGo ?_)
      rw [mn_name]
      refine wpAny_pure ⟨plainId_quiet F.plain_max_loop _, ih (j + 1) _ vb c (by omega) lt st2 kp2 (by unfold argBest; rw [if_neg hb]; exact pb) eS2 fun v3 h3 t3 p3 k3 => ?_⟩
      exact hR v3 h3 t3 p3 fun b o z1 z2 z3 => k3 b o z1 z2 (keep b o z1 z3)
theorem mn_first (W : Walks prog w A.in1 I fp wr n P St) (bt : Nat → Nat → Bool) (cm : CmpAt prog w A.in1 .Gt P bt H0) (S : Addr) (nf : S ∉ fp) (k0 : ∀ b o, H0.get? b = some o → b ∉ wr ∧ b ≠ S) (hn : 0 < n) {s : Shared} {c : Nat} (st : St 0 s.heap) (kp : ∀ b o, H0.get? b = some o → s.heap.get? b = some o) (eS : s.heap.get? S = some (mnBox #[] c))
    (hR : ∀ v h' tk, P (argBest bt (n - 1)) v → (∀ b o, b ∉ wr → b ≠ S → s.heap.get? b = some o → h'.get? b = some o) → R (.ok (.ret v)) { s with heap := h', toks := tk }) : codeAny (model prog w) A (.builtin "max.loop" (mnArgs I S)) R s := by
  have nw : S ∉ wr := fun z => nf (W.sub _ z)
  refine codeAny_builtin F.entry_max_loop ?_
  rw [Around.under_plainId F.plain_max_loop _]
  show wpAny _ A.in1 (seqItems? (.ref S) >>= _) _ _ s
  refine wpAny_bind (wpAny_seqItems eS rfl ?_)
  show wpAny _ A.in1 (tryCatch (pyNext (.ref I)) _ >>= _) _ _ s
  refine wpAny_bind (wpAny_tryCatch (W.item 0 s _ _ hn st fun v h2 t2 pv st2 keep => ?_))
  have eS2 := keep S _ nw eS
  show wpAny _ A.in1 (updateSeq S (fun _ => #[v, v]) >>= _) _ _ _
  refine wpAny_bind (wpAny_updateSeq eS2 rfl ?_)
  rw [mn_name]
  have stay : St (0 + 1) (h2.update S (Obj.mapSeq fun _ => #[v, v])) := W.frame _ _ _ st2 fun b z o e => (Heap.get?_update_other _ _ (fun y : S = b => nf (by rw [y]; exact z))).trans e
  refine wpAny_pure ⟨plainId_quiet F.plain_max_loop _, mn_loop W bt cm S nf k0 _ 0 _ v _ rfl hn stay (fun b o e => (Heap.get?_update_other _ _ (Ne.symm (k0 b o e).2)).trans (keep b o (k0 b o e).1 (kp b o e))) pv (Heap.get?_update_self _ eS2 rfl) fun v3 h3 t3 p3 k3 => ?_⟩
  exact hR v3 h3 t3 p3 fun b o z1 z2 z3 => k3 b o z1 z2 ((Heap.get?_update_other _ _ (Ne.symm z2)).trans (keep b o z1 z3))
/-- the best place of all, in the order turned about -/
theorem best_most {k : Nat → Int × Int} (n j : Nat) (h : j ≤ n) : SrtO.lexB (k (argBest (fun i j => SrtO.lexB (k j) (k i)) n)) (k j) = false := by
  have neg : ∀ p q : Int × Int, SrtO.lexB (-p.1, -p.2) (-q.1, -q.2) = SrtO.lexB q p := fun p q => by
    unfold SrtO.lexB
    simp only [Int.neg_inj, Int.neg_lt_neg_iff]
    by_cases e : p.1 = q.1
    · rw [if_pos e, if_pos e.symm]
    · rw [if_neg e, if_neg fun z => e z.symm]
  have := best_least (k := fun i => (-(k i).1, -(k i).2)) n j h
  simp only [neg] at this
  exact this
theorem duo_gt {A : Around} {s : Shared} {v u : Value} {p q : Int × Int} (hu : A.units < cLine) (h1 : IsDuo s.heap v p) (h2 : IsDuo s.heap u q) : Ob.RcOp .Gt A s v u (SrtO.lexB q p) := by
  obtain ⟨a, o, t, r, n, rfl, ho, hc, hd⟩ := h1
  obtain ⟨b, o', t', r', n', rfl, ho', hc', hd'⟩ := h2
  have R := Ob.RcOp.tuples_gt (A := A) (s := s) (l := a) (b := b) (e := fun j => if j = 0 then p.1 == q.1 else p.2 == q.2) (r := fun j => if j = 0 then decide (q.1 < p.1) else decide (q.2 < p.2)) ⟨o, ho, hc, n, hd⟩ ⟨o', ho', hc', n', hd'⟩ hu (fun j h1 h2 => by
    match j, h1, h2 with
    | 0, _, _ => exact SeqAt.EqAt.int_int _ _ _ _
    | 1, _, _ => exact SeqAt.EqAt.int_int _ _ _ _) (fun j h1 h2 _ => by
    match j, h1, h2 with
    | 0, _, _ => exact Ob.RcOp.gt_int _ _ _ _
    | 1, _, _ => exact Ob.RcOp.gt_int _ _ _ _)
  have e : SrtO.lexB q p = Ob.lexAt (fun j => if j = 0 then p.1 == q.1 else p.2 == q.2) (fun j => if j = 0 then decide (q.1 < p.1) else decide (q.2 < p.2)) (decide (2 < 2)) 0 2 := by
    rw [Ob.lexAt_succ, Ob.lexAt_succ, Ob.lexAt_zero]
    unfold SrtO.lexB
    by_cases c : p.1 = q.1
    · rw [if_pos c.symm, if_pos (by simp [c])]
      by_cases c2 : p.2 = q.2
      · rw [if_pos (by simp [c2])]
        simp [c2]
      · rw [if_neg (by simp [c2])]
        simp
    · rw [if_neg fun z => c z.symm, if_neg (by simp [c])]
      simp
  rw [e]
  exact R
theorem mn_call {l : Addr} {vs : List Value} {k : Value → Int × Int} {Q : Value → Shared → Prop} {E : Value → Shared → Prop} {s : Shared} (hh : A.handled = none) (hu : A.in1.units < cLine) (hl : s.heap.IsList l vs.toArray) (h0 : 0 < vs.length) (hp : ∀ v ∈ vs, IsDuo s.heap v (k v))
    (h : ∀ v h' tk, v ∈ vs → (∀ u ∈ vs, SrtO.lexB (k v) (k u) = false) → (∀ b o, s.heap.get? b = some o → h'.get? b = some o) → Q v { s with heap := h', toks := tk }) :
    wpAny (model prog w) A (call (.builtin "max") [.ref l]) Q E s := by
  refine call_function_tree F.kind_max F.plain_max F.entry_max (F.args_max1 _) ?_
  show wpAny _ A.in1 (Builtin.Builtins.bindParams "max" ["key", "default"] 0 ⟨[], []⟩ >>= _) _ _ s
  refine wpAny_bind (wpAny_of_eq (show Builtin.Builtins.bindParams "max" ["key", "default"] 0 ⟨[], []⟩ = pure [none, none] from rfl) ?_)
  refine wpAny_bind (wpAny_pure ?_)
  have hlt : l < s.heap.objs.size := by obtain ⟨_, e, _⟩ := hl; exact Heap.lt_size e
  refine wpAny_bind (wpAny_pyIter_list hl ?_)
  have W := Walks.list (prog := prog) (w := w) (A := A.in1) hh s.heap.objs.size l (Nat.ne_of_lt hlt) vs.toArray
  refine wpAny_bind (wpAny_newObj_type ?_)
  have nf : (s.heap.push { cls := .type "list_iterator", data := .fields #[.ref l, .int 0 0] }).objs.size ∉ [s.heap.objs.size, l] := fun z => by
    rw [Heap.size_push] at z
    rcases List.mem_cons.mp z with e | z
    · exact absurd e (Nat.succ_ne_self _)
    · have e := List.mem_singleton.mp z
      exact absurd hlt (by rw [← e]; exact Nat.not_lt.mpr (Nat.le_succ _))
  rw [mn_name]
  have kAll : ∀ b o, s.heap.get? b = some o → b ∉ [s.heap.objs.size] ∧ b ≠ (s.heap.push { cls := .type "list_iterator", data := .fields #[.ref l, .int 0 0] }).objs.size := fun b o e => by
    have lt := Heap.lt_size e
    refine ⟨fun z => ?_, fun z => ?_⟩
    · have e := List.mem_singleton.mp z
      rw [e] at lt
      exact Nat.lt_irrefl _ lt
    · rw [Heap.size_push] at z
      rw [z] at lt
      exact Nat.lt_irrefl _ (Nat.lt_trans (Nat.lt_succ_self _) lt)
  have ix : ∀ {i : Nat} {v : Value}, vs.toArray[i]? = some v → v ∈ vs ∧ vs[i]? = some v := fun {i v} e => by
    rw [List.getElem?_toArray] at e
    exact ⟨List.mem_of_getElem? e, e⟩
  have cm : CmpAt prog w A.in1 .Gt (fun i v => vs.toArray[i]? = some v) (fun i j => SrtO.lexB (k (vs.getD j .none)) (k (vs.getD i .none))) s.heap := fun i j vi vj s2 Q2 E2 kp pi pj q => by
    obtain ⟨mi, ei⟩ := ix pi
    obtain ⟨mj, ej⟩ := ix pj
    have gi : vs.getD i .none = vi := by rw [List.getD_eq_getElem?_getD, ei]; rfl
    have gj : vs.getD j .none = vj := by rw [List.getD_eq_getElem?_getD, ej]; rfl
    have up : ∀ {v}, v ∈ vs → IsDuo s2.heap v (k v) := fun m => by
      obtain ⟨a, o, t, u, n, e, ho, r⟩ := hp _ m
      exact ⟨a, o, t, u, n, e, kp _ _ ho, r⟩
    dsimp only at q
    rw [gi, gj] at q
    exact duo_gt (A := A.in1) hu (up mi) (up mj) _ _ _ _ q
  refine wpAny_pure ⟨plainId_quiet F.plain_max_loop _, mn_first (H0 := s.heap) W _ cm _ nf kAll (by rw [List.size_toArray]; exact h0) (W.frame _ _ _ (⟨⟨_, Heap.get?_push_size _ rfl, rfl, rfl⟩, hl.push _⟩) fun b z o y => Heap.get?_push_of_some _ y) (fun b o e => Heap.get?_push_of_some _ (Heap.get?_push_of_some _ e)) (Heap.get?_push_size _ rfl) fun v h' tk hv kk => ?_⟩
  obtain ⟨mv, ev⟩ := ix hv
  refine h v h' tk mv (fun u hu' => ?_) fun b o e => kk b o (kAll b o e).1 (kAll b o e).2 (Heap.get?_push_of_some _ (Heap.get?_push_of_some _ e))
  obtain ⟨j, hj, rfl⟩ := List.getElem_of_mem hu'
  have := best_most (k := fun i => k (vs.getD i .none)) (vs.toArray.size - 1) j (by rw [List.size_toArray]; omega)
  have gv : vs.getD (argBest (fun i j => SrtO.lexB (k (vs.getD j .none)) (k (vs.getD i .none))) (vs.toArray.size - 1)) .none = v := by rw [List.getD_eq_getElem?_getD, ev]; rfl
  have gj : vs.getD j .none = vs[j] := by rw [List.getD_eq_getElem?_getD, List.getElem?_eq_getElem hj]; rfl
  rw [gv, gj] at this
  exact this
end S5
namespace L2
open PySem PySem.Spec PyProof.Rows
def rMaxDuo (K : PySem.W.Frag) : List V → Hp → VK → Prop := fun vs H Q => ∃ (a : Addr) (xs : List V) (k : V → Int × Int), vs = [V.ref a] ∧ SqL K H a xs ∧ 0 < xs.length ∧ (∀ x ∈ xs, ∃ t, x = V.ref t ∧ H t = some (.tup [.int (k x).1, .int (k x).2])) ∧
  ∀ y ∈ xs, (∀ x ∈ xs, SrtO.lexB (k y) (k x) = false) → Q y H
section
variable {X : Cx}
theorem cr_maxDuo (hc : X.calm = true) (hu : X.A.units + 1 < cLine) : CallR X (.builtin "max") (rMaxDuo X.K) := by
  intro pins s σ H vs us Q I r h
  obtain ⟨a, xs, k, rfl, hs, h0, hx, q⟩ := h
  obtain ⟨its, rv, hl, hz⟩ := I.list hs
  obtain ⟨u, rfl, ru⟩ := vals1 r
  obtain rfl : u = Value.ref a := ru
  obtain ⟨e1, e2⟩ := refs_back rv fun x m => by
    obtain ⟨t, e, _⟩ := hx x m
    exact ⟨t, e⟩
  refine S5.mn_call (k := fun u => k (backV u)) (I.ok.hd hc) (by exact hu) hl.isList (by rw [← rv.length]; exact h0) (fun v hv => ?_) fun v h' tk hv hm kp => ?_
  · obtain ⟨t, rfl⟩ := e2 v hv
    have hm : V.ref t ∈ xs := by rw [e1]; exact List.mem_map.mpr ⟨_, hv, rfl⟩
    obtain ⟨t', e, ht⟩ := hx _ hm
    cases e
    obtain ⟨_, its2, r2, o, ho, hc, n, hd⟩ := I.hok _ _ ht
    obtain ⟨u1, u2, rfl, ri, rj⟩ := vals2 r2
    obtain ⟨t1, rfl⟩ := ri
    obtain ⟨t2, rfl⟩ := rj
    exact ⟨t, o, t1, t2, n, rfl, ho, hc, hd⟩
  · obtain ⟨t, rfl⟩ := e2 v hv
    have mx : V.ref t ∈ xs := by rw [e1]; exact List.mem_map.mpr ⟨_, hv, rfl⟩
    refine ⟨.ref t, H, I.kept kp, rfl, q _ mx fun x hx2 => ?_⟩
    rw [e1] at hx2
    obtain ⟨u, hu2, rfl⟩ := List.mem_map.mp hx2
    exact hm u hu2
end
end L2
namespace QL
open PySem PySem.Spec PyProof.Rows L2
def vMax2 : VL
  | [.lst xs], Q => ∃ ks : List (Int × Int), xs = ks.map duoD ∧ ks ≠ [] ∧ ∀ p ∈ ks, (∀ q ∈ ks, SrtO.lexB p q = false) → Q (duoD p)
  | _, _ => False
section
variable {X : Cx}
theorem qc_max2 (hc : X.calm = true) (hu : X.A.units + 1 < cLine) : CallR X (.builtin "max") (upVL X.K vMax2) := by
  intro pins s σ H xs us Q' I r ⟨F, ds, Q, sm, rl, h, g⟩
  unfold vMax2 at h
  split at h
  · obtain ⟨v, w, rfl, ⟨a, vs, rfl, h2, h3⟩, rfl⟩ := rl
    obtain ⟨ks, rfl, hne, h⟩ := h
    obtain ⟨ek, hr⟩ := repL_key (kf := kDuo F) (fun h => (rep_duo h).2) h3
    refine cr_maxDuo hc hu pins s σ H _ us Q' I r ⟨a, vs, kDuo F, rfl, .inl (.inl (sm _ _ h2)), ?_, fun x hx => ?_, fun y hy hm => ?_⟩
    · rcases vs with _ | ⟨v, vs⟩
      · exact (hne (by rw [ek]; rfl)).elim
      · exact Nat.succ_pos _
    · obtain ⟨t, e, ht⟩ := (rep_duo (hr x hx)).1
      exact ⟨t, e, sm _ _ ht⟩
    · refine g (duoD (kDuo F y)) y F H (Grow.refl sm) (hr y hy) (h _ (by rw [ek]; exact List.mem_map.mpr ⟨y, hy, rfl⟩) fun q hq => ?_)
      rw [ek] at hq
      obtain ⟨x, hx, rfl⟩ := List.mem_map.mp hq
      exact hm x hx
  · exact h.elim
end
theorem o_max2 {xs : List D} {P : D → Prop} : vMax2 [.lst xs] P = ∃ ks : List (Int × Int), xs = ks.map duoD ∧ ks ≠ [] ∧ ∀ p ∈ ks, (∀ q ∈ ks, SrtO.lexB p q = false) → P (duoD p) := rfl
/-! ### [x, y] in a list of lists of two ints -/
def lduoD (k : Int × Int) : D := .lst [.int k.1, .int k.2]
def vInL : V2
  | .lst [.int x, .int y], .lst xs, Q => ∃ ks : List (Int × Int), xs = ks.map lduoD ∧ Q (.bl (decide ((x, y) ∈ ks)))
  | _, _, _ => False
theorem toPs_lduo : ∀ ks : List (Int × Int), toPs (ks.map lduoD) = ks.map fun a => PyData.list (([a.1, a.2] : List Int).map PyData.int)
  | [] => rfl
  | k :: ks => by rw [List.map_cons, toPs, toPs_lduo ks]; rfl
theorem okPs_lduo : ∀ ks : List (Int × Int), okPs (ks.map lduoD) = true
  | [] => rfl
  | k :: ks => by rw [List.map_cons, okPs, okPs_lduo ks]; rfl
theorem shaped_lduo (ks : List (Int × Int)) : SeqAt.shaped (.list (ks.map fun a => PyData.list (([a.1, a.2] : List Int).map PyData.int))) = true := by
  have k1 : ∀ ns : List Int, PyData.canLayAll0 (ns.map PyData.int) = true := fun ns => by
    have := shaped_ints ns
    unfold SeqAt.shaped at this
    rw [Bool.and_eq_true, PyData.canLay0] at this
    exact this.1
  have k2 : ∀ ns : List Int, PyData.depthAll (ns.map PyData.int) = 0 := fun ns => by
    induction ns with
    | nil => rfl
    | cons a r ih => simp only [List.map, PyData.depthAll, PyData.depth, ih, Nat.max_self]
  have h1 : PyData.canLayAll0 (ks.map fun a => PyData.list (([a.1, a.2] : List Int).map PyData.int)) = true := by
    induction ks with
    | nil => rfl
    | cons a r ih =>
      rw [List.map_cons, PyData.canLayAll0, PyData.canLay0, k1, ih]
      rfl
  have h2 : PyData.depthAll (ks.map fun a => PyData.list (([a.1, a.2] : List Int).map PyData.int)) ≤ 1 := by
    clear h1
    induction ks with
    | nil => exact Nat.zero_le _
    | cons a r ih =>
      rw [List.map_cons, PyData.depthAll, PyData.depth, k2]
      exact Nat.max_le.mpr ⟨Nat.le_refl _, ih⟩
  unfold SeqAt.shaped
  rw [Bool.and_eq_true]
  exact ⟨by rw [PyData.canLay0]; exact h1, by rw [PyData.depth, decide_eq_true_eq]; omega⟩
theorem any_lduo {x y : Int} : ∀ ks : List (Int × Int), (toPs (ks.map lduoD)).any (fun z => PyData.eqv z (.list [.int x, .int y])) = decide ((x, y) ∈ ks)
  | [] => rfl
  | k :: ks => by
    rw [List.map_cons, toPs, List.any_cons, any_lduo ks]
    have e : PyData.eqv (toP (lduoD k)) (.list [.int x, .int y]) = decide ((x, y) = k) := by
      show PyData.eqv (.list (toPs ([k.1, k.2].map D.int))) (.list ([x, y].map PyData.int)) = _
      rw [toPs_ints, PyData.eqv, eqv_ints]
      refine decide_eq_decide.mpr ⟨fun h => ?_, fun h => ?_⟩
      · cases k
        injection h with h1 h2
        injection h2 with h2 _
        simp only at h1 h2
        rw [h1, h2]
      · rw [← h]
    rw [e, ← Bool.decide_or]
    exact decide_eq_decide.mpr List.mem_cons.symm
section
variable {X : Cx}
theorem qo_inL (hu : X.A.units + 65 < cLine) : OpR X (compareOp .In) (upV2 X.K vInL) := by
  intro pins s σ H x y v u Q' I rx ry ⟨F, d, e, Q, sm, r1, r2, h, g⟩
  unfold vInL at h
  split at h
  · rename_i a b xs
    obtain ⟨ks, rfl, q⟩ := h
    have o2 : okP (.lst (ks.map lduoD)) = true := okPs_lduo ks
    have o1 : okP (.lst [.int a, .int b]) = true := rfl
    refine op_inD hu pins s σ H _ _ v u Q' I rx ry ⟨.list [.int a, .int b], toPs (ks.map lduoD), dp_of sm _ _ o1 r1, dp_of sm _ _ o2 r2, shaped_ints [a, b], by rw [toPs_lduo]; exact shaped_lduo ks, ?_⟩
    rw [any_lduo]
    exact g.b sm q
  · exact h.elim
end
theorem o_inL {x y : Int} {xs : List D} {P : D → Prop} : vInL (.lst [.int x, .int y]) (.lst xs) P = ∃ ks : List (Int × Int), xs = ks.map lduoD ∧ P (.bl (decide ((x, y) ∈ ks))) := rfl
end QL
set_option Elab.async false
set_option linter.all false
set_option maxRecDepth 100000
set_option maxHeartbeats 4000000
namespace QL
open PySem PySem.Spec PyProof.Rows L2 LamX
/-! ### a law that makes lambdas -/
def spX (K : PySem.W.Frag) (T : Tbs) : Sp := fun vs H Q' _ => ∃ (a : Addr) (ns : List Int), vs = [V.ref a] ∧ SqL K H a (ns.map V.int) ∧ ns.length ≤ 63 ∧ Tabs T H ∧ ∀ H', Q' (.bl true) H'
section
variable {P : Program} {w : World} {K : PySem.W.Frag} {mg : Str → Option Value} {base : Heap}
theorem fnX {x qual : Str} {st : Stmt} {f c : Addr} {N : List Str} {sc : Str} {k : Nat} {T : Tbs} {kV doc pm ct oc : Value} {an od : Option Addr} {osl : Array (Option Value)}
    (lk : K.lookup f = some ⟨oc, od, .func (PySem.W.fnOf x qual (defArgs st) (defBody st) (defScope st) .none kV doc pm an (.ref c) ct), osl⟩) (hcd : PySem.W.codeIn K (.ref c) qual = true) (Sc : FnScope N [sc] (defScope st))
    (hbody : ∀ (A : Around) (outer : List Env) (s : Shared) (H : Hp) (E : XK), Room k (A.deeper (envOfC qual (defScope st) s.heap.objs.size f (.ref c))) →
      ∃ t, XSs' (cxOf (L2.CX P w) P w K mg base N qual (defScope st) f (.ref c) A outer s H E) T (defBody st) t ∧ ∀ ns, ns.length ≤ 63 → t { nx := fun _ => False, rt := fun d _ => d = .bl true } (envA N [.scr ns])) :
    FnOk P w K mg base (L2.CX P w) (k + 1) f (PySem.W.fnOf x qual (defArgs st) (defBody st) (defScope st) .none kV doc pm an (.ref c) ct) [sc] (spX K T) := by
  refine fn_of lk hcd Sc (fun vs H Q E ⟨a, ns, e, _⟩ => by rw [e]; rfl) fun A outer s H vs Q' E' hr ⟨a, ns, e, hS, hl, hT, q⟩ => ?_
  subst e
  obtain ⟨t, ht, hq⟩ := hbody A outer s H E' hr
  have R0 := er_start (N := N) (F := noT H) (H := H) (K := K) (ds := [.scr ns]) (vs := [.ref a]) noT_same ⟨_, _, rfl, ⟨a, rfl, sqL_noT hS⟩, rfl⟩
  have no : ∀ (i : Nat) (d : D), (envA N [.scr ns])[i]? ≠ some (.own d) := fun i d z => by
    unfold envA at z
    by_cases hi : i < 1
    · have : i = 0 := by omega
      subst this
      cases z
    · rw [List.getElem?_append_right (by show 1 ≤ i; omega), List.getElem?_replicate] at z
      split at z <;> cases z
  refine ⟨_, ht, envA N [.scr ns], noT H, _, ⟨⟨(fun b o h => nomatch h), noT_same, R0.len, fun i s' z => ?_, R0.sep, (fun a h => nomatch h), (fun b o h => nomatch h), fun b _ hb => by obtain ⟨o, h1, _⟩ := hb; cases h1⟩, hT, fun b o h => (noT_some h).2⟩,
    hq ns hl, fun _ _ _ _ _ _ z => z.elim, fun d v env' F' σ' H' s' R' rd z => ?_, fun _ _ _ _ _ _ z => z.elim, fun _ _ _ _ _ _ z => z.elim⟩
  · obtain ⟨o, h1, h2⟩ := R0.slots i s' z
    refine ⟨o, h1, ?_⟩
    cases s' with
    | un => trivial
    | val d => exact h2
    | own d => exact absurd z (no i d)
  · have z' : d = .bl true := z
    subst z'
    obtain rfl : v = .bl true := rd
    exact q H'
end
/-- what the facts give of the law -/
theorem lawX {l : PySem.W.OpenLaw} {w : World} {K : PySem.W.Frag} {mg : Str → Option Value} {fa c Pt : Addr} {h : Heap} {k : Nat} {x qual sc : Str} {st : Stmt} {kV doc pm ct oc ec : Value} {an od dc : Option Addr} {osl slc : Array (Option Value)} {vs : Array Value} {T : Tbs}
    (KX : K.In h) (own : OwnTab K fa h)
    (lk : K.lookup fa = some ⟨oc, od, .func (PySem.W.fnOf x qual (defArgs st) (defBody st) (defScope st) .none kV doc pm an (.ref c) ct), osl⟩)
    (lc : K.lookup c = some ⟨ec, dc, .fields vs, slc⟩) (h11 : vs[11]? = some (.ref Pt)) (hcd : PySem.W.codeHdIn K c Pt = true) (nT : K.lookup Pt = none) (hT : ∀ p ∈ T, p.1 = Pt)
    (hb : ∀ (s : Shared) (u : Value), BindsTo s (PySem.W.fnOf x qual (defArgs st) (defBody st) (defScope st) .none kV doc pm an (.ref c) ct) ⟨[u], []⟩ [(sc, u)])
    (F : ∀ base : Heap, K.In base → base.Ns mainGlobals mg → TabB base mg c Pt → FnOk l.prog w K mg base (L2.CX l.prog w) k fa (PySem.W.fnOf x qual (defArgs st) (defBody st) (defScope st) .none kV doc pm an (.ref c) ct) [sc] (spX K T)) :
    LawAtS l w K (L2.CX l.prog w) k 63 sc mg fa h := by
  have e := own c Pt _ _ ec dc vs slc lk rfl rfl lc h11
  refine ⟨_, [(c, Pt)], spX K T, fun p hp => ?_, fun p hp => ?_, fun p hp => ?_, hb, fun H a ns hl _ ht hS => ⟨a, ns, rfl, hS, hl, fun p hp => ?_, fun _ => rfl⟩, fun base KB NB TB => F base KB NB (TB (c, Pt) (List.mem_singleton.mpr rfl))⟩
  · rw [List.mem_singleton.mp hp]; exact e
  · rw [List.mem_singleton.mp hp]; exact nT
  · rw [List.mem_singleton.mp hp]; exact PySem.W.codeHd_of_K KX hcd
  · have := ht (c, Pt) (List.mem_singleton.mpr rfl)
    exact TabS.nil (by rw [hT p hp]; exact this)
end QL
namespace QL
open PySem PySem.Spec PyProof.Rows L2 LamX
theorem tk0 {X : Cx} {bx : Bx} : Takes X (WEx X.K bx EX0) := L2.takes0.imp fun _ _ _ _ ⟨_, _, _, _, _, z⟩ => z.elim
/-- the tables of a law that makes lambdas -/
abbrev tbs (x : Str) (sc : Scope) (P : Addr) : Tbs := [(P, (envOfC x sc 0 0 .none).qual ++ "<lambda>")]
end QL
/-! sums of floors, plain -/
namespace FS
def fsum (a b m : Int) : Nat → Int
  | 0 => 0
  | n + 1 => fsum a b m n + (a * n + b) / m
def tri : Nat → Int
  | 0 => 0
  | n + 1 => tri n + n
def sumN (g : Nat → Int) : Nat → Int
  | 0 => 0
  | n + 1 => sumN g n + g n
/-! the laws of k46 -/
end FS
namespace FS
end FS
set_option linter.all false
namespace Geo
/-- a row a x + b y ≤ c -/
structure Row where
  a : Rat
  b : Rat
  c : Rat
abbrev In (rows : List Row) (x y : Rat) : Prop := ∀ r ∈ rows, r.a * x + r.b * y ≤ r.c
abbrev Row.at (r : Row) (x y : Rat) : Rat := r.a * x + r.b * y
/-- determinant -/
abbrev det (r q : Row) : Rat := r.a * q.b - r.b * q.a
/-- a direction that goes on without end -/
abbrev Opn (rows : List Row) (u v : Rat) : Prop := ∀ r ∈ rows, r.a * u + r.b * v ≤ 0
/-- a corner: two rows that are not parallel are tight there -/
structure Cor (rows : List Row) (x y : Rat) : Prop where
  mem : In rows x y
  two : ∃ r ∈ rows, ∃ q ∈ rows, det r q ≠ 0 ∧ r.at x y = r.c ∧ q.at x y = q.c

theorem ex_min {α : Type} (g : α → Rat) (P : α → Prop) : ∀ (l : List α), (∃ x ∈ l, P x) → ∃ x ∈ l, P x ∧ ∀ y ∈ l, P y → g x ≤ g y
  | [], h => by obtain ⟨x, hx, _⟩ := h; cases hx
  | z :: l, h => by
    by_cases hl : ∃ x ∈ l, P x
    · obtain ⟨x, hx, px, mx⟩ := ex_min g P l hl
      by_cases hz : P z ∧ g z ≤ g x
      · refine ⟨z, List.mem_cons_self, hz.1, fun y hy py => ?_⟩
        rcases List.mem_cons.mp hy with rfl | hy
        · exact Rat.le_refl
        · exact Rat.le_trans hz.2 (mx y hy py)
      · refine ⟨x, List.mem_cons_of_mem _ hx, px, fun y hy py => ?_⟩
        rcases List.mem_cons.mp hy with rfl | hy
        · have : ¬ g y ≤ g x := fun z => hz ⟨py, z⟩
          grind
        · exact mx y hy py
    · obtain ⟨x, hx, px⟩ := h
      rcases List.mem_cons.mp hx with rfl | hx
      · refine ⟨x, List.mem_cons_self, px, fun y hy py => ?_⟩
        rcases List.mem_cons.mp hy with rfl | hy
        · exact Rat.le_refl
        · exact absurd ⟨y, hy, py⟩ hl
      · exact absurd ⟨x, hx, px⟩ hl

theorem div_le {a b c : Rat} (h : 0 < b) : a / b ≤ c ↔ a ≤ c * b := by
  have e : a / b * b = a := by grind
  constructor
  · intro k
    have := Rat.mul_le_mul_of_nonneg_right k (Rat.le_of_lt h)
    grind
  · intro k
    rcases Classical.em (a / b ≤ c) with g | g
    · exact g
    · have g' : c < a / b := by grind
      have := Rat.mul_lt_mul_of_pos_right g' h
      grind
theorem le_div {a b c : Rat} (h : 0 < b) : c ≤ a / b ↔ c * b ≤ a := by
  have e : a / b * b = a := by grind
  constructor
  · intro k
    have := Rat.mul_le_mul_of_nonneg_right k (Rat.le_of_lt h)
    grind
  · intro k
    rcases Classical.em (c ≤ a / b) with g | g
    · exact g
    · have g' : a / b < c := by grind
      have := Rat.mul_lt_mul_of_pos_right g' h
      grind
theorem nn {a b : Rat} (h : 0 ≤ a) (g : 0 ≤ b) : 0 ≤ a * b := Rat.mul_nonneg h g

/-- going on in a direction until a row ends it -/
theorem walk {rows : List Row} {x y u v : Rat} (hp : In rows x y) (hb : ∃ r ∈ rows, 0 < r.a * u + r.b * v) :
    ∃ s : Rat, 0 ≤ s ∧ In rows (x + s * u) (y + s * v) ∧ ∃ r ∈ rows, 0 < r.a * u + r.b * v ∧ r.at (x + s * u) (y + s * v) = r.c := by
  obtain ⟨r, hr, pr, mr⟩ := ex_min (fun r => (r.c - r.at x y) / (r.a * u + r.b * v)) (fun r => 0 < r.a * u + r.b * v) rows hb
  have hs := hp r hr
  refine ⟨(r.c - r.at x y) / (r.a * u + r.b * v), (le_div pr).mpr (by grind), fun q hq => ?_, r, hr, pr, ?_⟩
  · have hq2 := hp q hq
    generalize hS : (r.c - r.at x y) / (r.a * u + r.b * v) = s at *
    have hs0 : 0 ≤ s := by rw [← hS]; exact (le_div pr).mpr (by grind)
    by_cases pq : 0 < q.a * u + q.b * v
    · have h1 := (le_div pq).mp (mr q hq pq)
      grind
    · have h1 : 0 ≤ s * (- (q.a * u + q.b * v)) := nn hs0 (by grind)
      grind
  · have e : (r.c - r.at x y) / (r.a * u + r.b * v) * (r.a * u + r.b * v) = r.c - r.at x y := by grind
    generalize (r.c - r.at x y) / (r.a * u + r.b * v) = s at *
    grind
/-- there are two rows that are not parallel -/
abbrev Two (rows : List Row) : Prop := ∃ r ∈ rows, ∃ q ∈ rows, det r q ≠ 0
abbrev ev (f g x y : Rat) : Rat := f * x + g * y

/-! ### when nothing is left -/
/-- one line: pairs decide -/
theorem helly1 (l : List (Rat × Rat)) (h : ∀ p ∈ l, ∀ q ∈ l, ∃ t : Rat, p.1 * t ≤ p.2 ∧ q.1 * t ≤ q.2) : ∃ t : Rat, ∀ p ∈ l, p.1 * t ≤ p.2 := by
  have z : ∀ p ∈ l, p.1 = 0 → 0 ≤ p.2 := fun p hp e => by
    obtain ⟨t, h1, _⟩ := h p hp p hp
    rw [e] at h1
    grind
  by_cases up : ∃ p ∈ l, 0 < p.1
  · obtain ⟨p, hp, pp, mp⟩ := ex_min (fun p : Rat × Rat => p.2 / p.1) (fun p => 0 < p.1) l up
    have e : p.1 * (p.2 / p.1) = p.2 := by grind
    refine ⟨p.2 / p.1, fun q hq => ?_⟩
    obtain ⟨t, h1, h2⟩ := h p hp q hq
    by_cases hq0 : 0 < q.1
    · have := (div_le (a := p.2) (c := q.2 / q.1) pp).mp (mp q hq hq0)
      have e2 : q.1 * (q.2 / q.1) = q.2 := by grind
      have := mp q hq hq0
      have := Rat.mul_le_mul_of_nonneg_left this (Rat.le_of_lt hq0)
      grind
    · by_cases hq1 : q.1 = 0
      · have := z q hq hq1
        rw [hq1]
        grind
      · have ht : t ≤ p.2 / p.1 := (le_div pp).mpr (by grind)
        have : 0 ≤ (-q.1) * (p.2 / p.1 - t) := nn (by grind) (by grind)
        grind
  · by_cases dn : ∃ p ∈ l, p.1 < 0
    · obtain ⟨p, hp, pp, mp⟩ := ex_min (fun p : Rat × Rat => p.2 / (-p.1)) (fun p => p.1 < 0) l dn
      have e : (-p.1) * (p.2 / (-p.1)) = p.2 := by grind
      refine ⟨-(p.2 / (-p.1)), fun q hq => ?_⟩
      have hq0 : ¬ 0 < q.1 := fun y => up ⟨q, hq, y⟩
      by_cases hq1 : q.1 = 0
      · have := z q hq hq1
        rw [hq1]
        grind
      · have hq2 : q.1 < 0 := by grind
        have e2 : (-q.1) * (q.2 / (-q.1)) = q.2 := by grind
        have := mp q hq hq2
        have := Rat.mul_le_mul_of_nonneg_left this (show 0 ≤ -q.1 by grind)
        grind
    · refine ⟨0, fun q hq => ?_⟩
      have hq0 : ¬ 0 < q.1 := fun y => up ⟨q, hq, y⟩
      have hq1 : ¬ q.1 < 0 := fun y => dn ⟨q, hq, y⟩
      have := z q hq (by grind)
      have e : q.1 = 0 := by grind
      rw [e]
      grind
theorem sq_pos {a b : Rat} (h : a ≠ 0 ∨ b ≠ 0) : 0 < a * a + b * b := by
  have ha : 0 ≤ a * a := by
    by_cases g : 0 ≤ a
    · exact nn g g
    · have := nn (show 0 ≤ -a by grind) (show 0 ≤ -a by grind)
      grind
  have hb : 0 ≤ b * b := by
    by_cases g : 0 ≤ b
    · exact nn g g
    · have := nn (show 0 ≤ -b by grind) (show 0 ≤ -b by grind)
      grind
  rcases h with h | h
  · have : a * a ≠ 0 := by grind
    grind
  · have : b * b ≠ 0 := by grind
    grind
theorem mdc {a b : Rat} (h : 0 < b) : b * (a / b) = a := by grind
theorem leq {a b : Rat} (h : a = b) : a ≤ b := by rw [h]; exact Rat.le_refl
theorem alg1 {l m N T c d : Rat} (hl : 0 < l) (e : l * N * T = c) (w : 0 ≤ -m * c + l * d) : m * N * T ≤ d := by
  subst e
  rcases Classical.em (m * N * T ≤ d) with g | g
  · exact g
  · have := Rat.mul_pos hl (show 0 < m * N * T - d by grind)
    grind
theorem mdl {a b : Rat} (h : 0 < b) : b * (a / b) ≤ a := by rw [mdc h]; exact Rat.le_refl
def ab (x : Rat) : Rat := if 0 ≤ x then x else -x
theorem ab_nn (x : Rat) : 0 ≤ ab x := by unfold ab; split <;> grind
theorem ab_mul (l x : Rat) : ab (l * x) = ab l * ab x := by
  unfold ab
  by_cases h1 : 0 ≤ l <;> by_cases h2 : 0 ≤ x
  · rw [if_pos h1, if_pos h2, if_pos (nn h1 h2)]
  · rw [if_pos h1, if_neg h2]
    have := nn h1 (show 0 ≤ -x by grind)
    split <;> grind
  · rw [if_neg h1, if_pos h2]
    have := nn (show 0 ≤ -l by grind) h2
    split <;> grind
  · rw [if_neg h1, if_neg h2]
    have := nn (show 0 ≤ -l by grind) (show 0 ≤ -x by grind)
    split <;> grind
/-- a row that nothing keeps -/
abbrev W1 (r : Row) : Prop := r.a = 0 ∧ r.b = 0 ∧ r.c < 0
/-- two rows against each other -/
abbrev W2 (r q : Row) : Prop := det r q = 0 ∧ r.a * q.a + r.b * q.b < 0 ∧ (ab q.a + ab q.b) * r.c + (ab r.a + ab r.b) * q.c < 0
/-- three rows -/
abbrev W3 (r q s : Row) : Prop := (0 ≤ det q s ∧ 0 ≤ det s r ∧ 0 < det r q ∧ det q s * r.c + det s r * q.c + det r q * s.c < 0) ∨
  (det q s ≤ 0 ∧ det s r ≤ 0 ∧ det r q < 0 ∧ 0 < det q s * r.c + det s r * q.c + det r q * s.c)
theorem par_of {r q : Row} (h : r.a ≠ 0 ∨ r.b ≠ 0) (e : det r q = 0) : ∃ l, q.a = l * r.a ∧ q.b = l * r.b := by
  by_cases ha : r.a = 0
  · have hb : r.b ≠ 0 := h.resolve_left (fun z => z ha)
    refine ⟨q.b / r.b, ?_, by grind⟩
    have : r.b * q.a = 0 := by grind
    grind
  · refine ⟨q.a / r.a, by grind, ?_⟩
    have : r.a * (q.b - q.a / r.a * r.b) = 0 := by grind
    grind
/-- rows all along one direction -/
theorem flat {rows : List Row} (hf : ∀ r ∈ rows, ∀ q ∈ rows, det r q = 0) (hn : ¬ ∃ x y, In rows x y) : (∃ r ∈ rows, W1 r) ∨ ∃ r ∈ rows, ∃ q ∈ rows, W2 r q := by
  by_cases h1 : ∃ r ∈ rows, W1 r
  · exact .inl h1
  refine .inr ?_
  have z : ∀ r ∈ rows, r.a = 0 → r.b = 0 → 0 ≤ r.c := fun r hr e1 e2 => by
    rcases Classical.em (0 ≤ r.c) with g | g
    · exact g
    · exact absurd ⟨r, hr, e1, e2, by grind⟩ h1
  by_cases h0 : ∃ r ∈ rows, r.a ≠ 0 ∨ r.b ≠ 0
  rotate_left
  · exfalso
    refine hn ⟨0, 0, fun r hr => ?_⟩
    have e1 : r.a = 0 := by
      rcases Classical.em (r.a = 0) with g | g
      · exact g
      · exact absurd ⟨r, hr, .inl g⟩ h0
    have e2 : r.b = 0 := by
      rcases Classical.em (r.b = 0) with g | g
      · exact g
      · exact absurd ⟨r, hr, .inr g⟩ h0
    have := z r hr e1 e2
    grind
  obtain ⟨r0, hr0, n0⟩ := h0
  have hN := sq_pos n0
  generalize hNe : r0.a * r0.a + r0.b * r0.b = N at hN
  rcases Classical.em (∃ r ∈ rows, ∃ q ∈ rows, W2 r q) with g | g
  · exact g
  exfalso
  have lam : ∀ r ∈ rows, ∃ l, r.a = l * r0.a ∧ r.b = l * r0.b := fun r hr => par_of n0 (hf r0 hr0 r hr)
  have hS : 0 < ab r0.a + ab r0.b := by
    have h1 := ab_nn r0.a
    have h2 := ab_nn r0.b
    unfold ab at *
    rcases n0 with n | n
    · split at h1 <;> split at h2 <;> grind
    · split at h1 <;> split at h2 <;> grind
  obtain ⟨t, ht⟩ := helly1 (rows.map fun q => (q.a * r0.a + q.b * r0.b, q.c)) (by
    intro p1 hp1 q1 hq1
    obtain ⟨p, hp, rfl⟩ := List.mem_map.mp hp1
    obtain ⟨q, hq, rfl⟩ := List.mem_map.mp hq1
    obtain ⟨l, e1, e2⟩ := lam p hp
    obtain ⟨m, e3, e4⟩ := lam q hq
    have f1 : p.a * r0.a + p.b * r0.b = l * N := by rw [e1, e2]; grind
    have f2 : q.a * r0.a + q.b * r0.b = m * N := by rw [e3, e4]; grind
    show ∃ t, (p.a * r0.a + p.b * r0.b) * t ≤ p.c ∧ (q.a * r0.a + q.b * r0.b) * t ≤ q.c
    rw [f1, f2]
    have key : ∀ (p q : Row) (l m : Rat), p ∈ rows → q ∈ rows → p.a = l * r0.a → p.b = l * r0.b → q.a = m * r0.a → q.b = m * r0.b → 0 < l → ∃ t, l * N * t ≤ p.c ∧ m * N * t ≤ q.c := by
      intro p q l m hp hq e1 e2 e3 e4 hl
      by_cases hm : 0 ≤ m
      · by_cases hm0 : m = 0
        · have := z q hq (by rw [e3, hm0]; grind) (by rw [e4, hm0]; grind)
          refine ⟨p.c / (l * N), ?_, ?_⟩
          · exact mdl (Rat.mul_pos hl hN)
          · rw [hm0, Rat.zero_mul, Rat.zero_mul]; exact this
        · have k1 := Rat.mul_pos hl hN
          have k2 := Rat.mul_pos (show 0 < m by grind) hN
          have d1 : l * N * (p.c / (l * N)) = p.c := mdc k1
          have d2 : m * N * (q.c / (m * N)) = q.c := mdc k2
          by_cases hc : p.c / (l * N) ≤ q.c / (m * N)
          · have := Rat.mul_le_mul_of_nonneg_left hc (Rat.le_of_lt k2)
            rw [d2] at this
            exact ⟨p.c / (l * N), leq d1, this⟩
          · have := Rat.mul_le_mul_of_nonneg_left (show q.c / (m * N) ≤ p.c / (l * N) by grind) (Rat.le_of_lt k1)
            rw [d1] at this
            exact ⟨q.c / (m * N), this, leq d2⟩
      · have ng : ¬ W2 p q := fun w => g ⟨p, hp, q, hq, w⟩
        have k1 := Rat.mul_pos hl hN
        have k2 := Rat.mul_pos (show 0 < -m by grind) hN
        have d1 : l * N * (p.c / (l * N)) = p.c := mdc k1
        refine ⟨p.c / (l * N), leq d1, ?_⟩
        have w1 : det p q = 0 := by unfold det; rw [e1, e2, e3, e4]; grind
        have w2 : p.a * q.a + p.b * q.b < 0 := by
          have e : p.a * q.a + p.b * q.b = l * m * N := by rw [e1, e2, e3, e4]; grind
          have := Rat.mul_pos hl k2
          grind
        have w3 : 0 ≤ (ab q.a + ab q.b) * p.c + (ab p.a + ab p.b) * q.c := by
          rcases Classical.em (0 ≤ (ab q.a + ab q.b) * p.c + (ab p.a + ab p.b) * q.c) with g | g
          · exact g
          · exact absurd ⟨w1, w2, by grind⟩ ng
        rw [e1, e2, e3, e4, ab_mul, ab_mul, ab_mul, ab_mul, show ab l = l from if_pos (Rat.le_of_lt hl), show ab m = -m from if_neg (by grind)] at w3
        have w4 : 0 ≤ (-m) * p.c + l * q.c := by
          rcases Classical.em (0 ≤ (-m) * p.c + l * q.c) with g | g
          · exact g
          · have := Rat.mul_pos (show 0 < -((-m) * p.c + l * q.c) by grind) hS
            grind
        exact alg1 hl d1 w4
    by_cases hl : 0 < l
    · exact key p q l m hp hq e1 e2 e3 e4 hl
    · by_cases hm : 0 < m
      · obtain ⟨t, t1, t2⟩ := key q p m l hq hp e3 e4 e1 e2 hm
        exact ⟨t, t2, t1⟩
      · -- both go on to the other side
        have neg : ∀ (p : Row) (l : Rat), p ∈ rows → p.a = l * r0.a → p.b = l * r0.b → ¬ 0 < l → ∃ T, ∀ t, T ≤ t → l * N * t ≤ p.c := fun p l hp e1 e2 hl => by
          by_cases h0 : l = 0
          · have := z p hp (by rw [e1, h0]; grind) (by rw [e2, h0]; grind)
            exact ⟨0, fun t _ => by rw [h0]; grind⟩
          · have k := Rat.mul_pos (show 0 < -l by grind) hN
            refine ⟨p.c / (l * N), fun t ht => ?_⟩
            have := nn (Rat.le_of_lt k) (show 0 ≤ t - p.c / (l * N) by grind)
            have e : -l * N * (p.c / (-l * N)) = p.c := mdc k
            have e2 : p.c / (l * N) = -(p.c / (-l * N)) := by
              have hz : l * N ≠ 0 := by grind
              clear hn h1 z hf lam g hS
              grind
            generalize p.c / (-l * N) = T at *
            rw [e2] at this
            clear hn h1 z hf lam g hS
            grind
        obtain ⟨T1, k1⟩ := neg p l hp e1 e2 hl
        obtain ⟨T2, k2⟩ := neg q m hq e3 e4 hm
        by_cases h : T1 ≤ T2
        · exact ⟨T2, k1 _ h, k2 _ Rat.le_refl⟩
        · exact ⟨T1, k1 _ Rat.le_refl, k2 _ (by grind)⟩)
  exact hn ⟨t * r0.a, t * r0.b, fun q hq => by
    have := ht _ (List.mem_map.mpr ⟨q, hq, rfl⟩)
    grind⟩
/-! ### strips -/
theorem in_mix {rows : List Row} {x y x' y' l m : Rat} (h : In rows x y) (g : In rows x' y') (hl : 0 ≤ l) (hm : 0 ≤ m) (e : l + m = 1) : In rows (l * x + m * x') (l * y + m * y') := fun r hr => by
  have h1 := nn hl (show 0 ≤ r.c - r.at x y by have := h r hr; grind)
  have h2 := nn hm (show 0 ≤ r.c - r.at x' y' by have := g r hr; grind)
  have e2 : l * r.c + m * r.c = r.c := by rw [← Rat.add_mul, e, Rat.one_mul]
  grind
/-- two constraints of one number -/
theorem pair1 {a c a' c' : Rat} (h : a = 0 → 0 ≤ c) (h' : a' = 0 → 0 ≤ c') (k : 0 < a → a' < 0 → 0 ≤ c * (-a') + c' * a) (k' : a < 0 → 0 < a' → 0 ≤ c * a' + c' * (-a)) : ∃ t : Rat, a * t ≤ c ∧ a' * t ≤ c' := by
  by_cases ha : a = 0
  · by_cases ha' : a' = 0
    · have := h ha
      have := h' ha'
      exact ⟨0, by grind, by grind⟩
    · have := h ha
      have e : a' * (c' / a') = c' := by grind
      exact ⟨c' / a', by rw [ha]; grind, leq e⟩
  · by_cases ha' : a' = 0
    · have := h' ha'
      have e : a * (c / a) = c := by grind
      exact ⟨c / a, leq e, by rw [ha']; grind⟩
    · have e : a * (c / a) = c := by grind
      have e' : a' * (c' / a') = c' := by grind
      generalize c / a = s at e
      generalize c' / a' = s' at e'
      subst e
      subst e'
      by_cases hp : 0 < a
      · by_cases hp' : 0 < a'
        · by_cases hs : s ≤ s'
          · exact ⟨s, Rat.le_refl, Rat.mul_le_mul_of_nonneg_left hs (Rat.le_of_lt hp')⟩
          · exact ⟨s', Rat.mul_le_mul_of_nonneg_left (by grind) (Rat.le_of_lt hp), Rat.le_refl⟩
        · have hn : a' < 0 := by grind
          have := k hp hn
          refine ⟨s, Rat.le_refl, ?_⟩
          rcases Classical.em (a' * s ≤ a' * s') with g | g
          · exact g
          · have := Rat.mul_pos hp (show 0 < a' * s - a' * s' by grind)
            grind
      · have hn : a < 0 := by grind
        by_cases hp' : 0 < a'
        · have := k' hn hp'
          refine ⟨s', ?_, Rat.le_refl⟩
          rcases Classical.em (a * s' ≤ a * s) with g | g
          · exact g
          · have := Rat.mul_pos hp' (show 0 < a * s' - a * s by grind)
            grind
        · by_cases hs : s ≤ s'
          · have := Rat.mul_le_mul_of_nonneg_left hs (show 0 ≤ -a by grind)
            exact ⟨s', by grind, Rat.le_refl⟩
          · have := Rat.mul_le_mul_of_nonneg_left (show s' ≤ s by grind) (show 0 ≤ -a' by grind)
            exact ⟨s, Rat.le_refl, by grind⟩
/-- a longest one of all -/
theorem ex_most {α : Type} {P : α → Rat → Prop} : ∀ (l : List α), l ≠ [] → (∀ v ∈ l, ∃ m, P v m ∧ ∀ m', P v m' → m' ≤ m) → ∃ v ∈ l, ∃ m, P v m ∧ ∀ v' ∈ l, ∀ m', P v' m' → m' ≤ m
  | [], h, _ => absurd rfl h
  | v :: l, _, h => by
    obtain ⟨m, hm, mm⟩ := h v List.mem_cons_self
    by_cases hl : l = []
    · subst hl
      exact ⟨v, List.mem_cons_self, m, hm, fun v' hv' m' h' => by
        rw [List.mem_singleton.mp hv'] at h'
        exact mm m' h'⟩
    · obtain ⟨v2, hv2, m2, h2, mm2⟩ := ex_most l hl fun v hv => h v (List.mem_cons_of_mem _ hv)
      by_cases hc : m ≤ m2
      · exact ⟨v2, List.mem_cons_of_mem _ hv2, m2, h2, fun v' hv' m' h' => by
          rcases List.mem_cons.mp hv' with rfl | hv'
          · exact Rat.le_trans (mm m' h') hc
          · exact mm2 v' hv' m' h'⟩
      · exact ⟨v, List.mem_cons_self, m, hm, fun v' hv' m' h' => by
          rcases List.mem_cons.mp hv' with rfl | hv'
          · exact mm m' h'
          · exact Rat.le_trans (mm2 v' hv' m' h') (by grind)⟩
/-- no direction goes on without end -/
abbrev Bnd (rows : List Row) : Prop := ∀ d e, Opn rows d e → d = 0 ∧ e = 0
theorem bnd_row {rows : List Row} (hb : Bnd rows) {u v : Rat} (h : u ≠ 0 ∨ v ≠ 0) : ∃ r ∈ rows, 0 < r.a * u + r.b * v := by
  rcases Classical.em (∃ r ∈ rows, 0 < r.a * u + r.b * v) with g | g
  · exact g
  · obtain ⟨e1, e2⟩ := hb u v fun r hr => by
      have : ¬ 0 < r.a * u + r.b * v := fun z => g ⟨r, hr, z⟩
      grind
    rcases h with h | h
    · exact absurd e1 h
    · exact absurd e2 h
theorem top {rows : List Row} (hb : Bnd rows) {x y : Rat} (h : In rows x y) : ∃ y', y ≤ y' ∧ In rows x y' ∧ (∃ r ∈ rows, 0 < r.b ∧ r.at x y' = r.c) ∧ ∀ y2, In rows x y2 → y2 ≤ y' := by
  obtain ⟨s, hs, hi, r, hr, p, t⟩ := walk h (bnd_row hb (u := 0) (v := 1) (.inr (by grind)))
  have e1 : x + s * 0 = x := by grind
  have e2 : y + s * 1 = y + s := by grind
  rw [e1, e2] at hi t
  refine ⟨y + s, by grind, hi, ⟨r, hr, by grind, t⟩, fun y2 h2 => ?_⟩
  have := h2 r hr
  rcases Classical.em (y2 ≤ y + s) with g | g
  · exact g
  · have := Rat.mul_pos (show 0 < r.b by grind) (show 0 < y2 - (y + s) by grind)
    grind
theorem bottom {rows : List Row} (hb : Bnd rows) {x y : Rat} (h : In rows x y) : ∃ y', y' ≤ y ∧ In rows x y' ∧ (∃ r ∈ rows, r.b < 0 ∧ r.at x y' = r.c) ∧ ∀ y2, In rows x y2 → y' ≤ y2 := by
  obtain ⟨s, hs, hi, r, hr, p, t⟩ := walk h (bnd_row hb (u := 0) (v := -1) (.inr (by grind)))
  have e1 : x + s * 0 = x := by grind
  have e2 : y + s * -1 = y - s := by grind
  rw [e1, e2] at hi t
  refine ⟨y - s, by grind, hi, ⟨r, hr, by grind, t⟩, fun y2 h2 => ?_⟩
  have := h2 r hr
  rcases Classical.em (y - s ≤ y2) with g | g
  · exact g
  · have := Rat.mul_pos (show 0 < -r.b by grind) (show 0 < (y - s) - y2 by grind)
    grind
/-- two points above one another go along their rows until one of them is a corner -/
theorem chord1 {rows : List Row} (hb : Bnd rows) {x y1 y2 : Rat} (h1 : In rows x y1) (h2 : In rows x y2) {r1 r2 : Row} (m1 : r1 ∈ rows) (m2 : r2 ∈ rows) (p1 : 0 < r1.b) (p2 : r2.b < 0) (t1 : r1.at x y1 = r1.c) (t2 : r2.at x y2 = r2.c) :
    ∃ x' y1' y2', In rows x' y1' ∧ In rows x' y2' ∧ y1 - y2 ≤ y1' - y2' ∧ (Cor rows x' y1' ∨ Cor rows x' y2') := by
  obtain ⟨k1, e1⟩ : ∃ k, r1.a + r1.b * k = 0 := ⟨-r1.a / r1.b, by grind⟩
  obtain ⟨k2, e2⟩ : ∃ k, r2.a + r2.b * k = 0 := ⟨-r2.a / r2.b, by grind⟩
  obtain ⟨g, hg0, hg⟩ : ∃ g : Rat, g ≠ 0 ∧ 0 ≤ g * (k1 - k2) := by
    by_cases h : 0 ≤ k1 - k2
    · exact ⟨1, by grind, by grind⟩
    · exact ⟨-1, by grind, by grind⟩
  let f := fun (k y : Rat) (r : Row) => (⟨g * (r.a + r.b * k), 0, r.c - r.at x y⟩ : Row)
  have i0 : In (rows.map (f k1 y1) ++ rows.map (f k2 y2)) 0 0 := fun q hq => by
    rcases List.mem_append.mp hq with hq | hq
    · obtain ⟨r, hr, rfl⟩ := List.mem_map.mp hq
      have := h1 r hr
      show g * (r.a + r.b * k1) * 0 + 0 * 0 ≤ r.c - r.at x y1
      grind
    · obtain ⟨r, hr, rfl⟩ := List.mem_map.mp hq
      have := h2 r hr
      show g * (r.a + r.b * k2) * 0 + 0 * 0 ≤ r.c - r.at x y2
      grind
  have hx : ∃ q ∈ rows.map (f k1 y1) ++ rows.map (f k2 y2), 0 < q.a * 1 + q.b * 0 := by
    obtain ⟨r, hr, p⟩ := bnd_row hb (u := g) (v := g * k1) (.inl hg0)
    refine ⟨_, List.mem_append.mpr (.inl (List.mem_map.mpr ⟨r, hr, rfl⟩)), ?_⟩
    show 0 < g * (r.a + r.b * k1) * 1 + 0 * 0
    grind
  obtain ⟨s, hs, hi, q, hq, hp, ht⟩ := walk i0 hx
  have j1 : In rows (x + s * g) (y1 + s * g * k1) := fun r hr => by
    have := hi _ (List.mem_append.mpr (.inl (List.mem_map.mpr ⟨r, hr, rfl⟩)))
    have : g * (r.a + r.b * k1) * (0 + s * 1) + 0 * (0 + s * 0) ≤ r.c - r.at x y1 := this
    grind
  have j2 : In rows (x + s * g) (y2 + s * g * k2) := fun r hr => by
    have := hi _ (List.mem_append.mpr (.inr (List.mem_map.mpr ⟨r, hr, rfl⟩)))
    have : g * (r.a + r.b * k2) * (0 + s * 1) + 0 * (0 + s * 0) ≤ r.c - r.at x y2 := this
    grind
  refine ⟨x + s * g, y1 + s * g * k1, y2 + s * g * k2, j1, j2, by have := nn hs hg; grind, ?_⟩
  have dt : ∀ (r r1 : Row) (k : Rat), r1.a + r1.b * k = 0 → 0 < g * (r.a + r.b * k) → r1.b ≠ 0 → det r1 r ≠ 0 := fun r r1 k e p n z => by
    have e2 : r1.b * (r.a + r.b * k) = - det r1 r := by grind
    rw [z] at e2
    have e3 : r.a + r.b * k = 0 := by grind
    rw [e3] at p
    grind
  rcases List.mem_append.mp hq with hq | hq
  · obtain ⟨r, hr, rfl⟩ := List.mem_map.mp hq
    have hp' : 0 < g * (r.a + r.b * k1) * 1 + 0 * 0 := hp
    have ht' : g * (r.a + r.b * k1) * (0 + s * 1) + 0 * (0 + s * 0) = r.c - r.at x y1 := ht
    exact .inl ⟨j1, r1, m1, r, hr, dt r r1 k1 e1 (by grind) (by grind), by grind, by grind⟩
  · obtain ⟨r, hr, rfl⟩ := List.mem_map.mp hq
    have hp' : 0 < g * (r.a + r.b * k2) * 1 + 0 * 0 := hp
    have ht' : g * (r.a + r.b * k2) * (0 + s * 1) + 0 * (0 + s * 0) = r.c - r.at x y2 := ht
    exact .inr ⟨j2, r2, m2, r, hr, dt r r2 k2 e2 (by grind) (by grind), by grind, by grind⟩
theorem fl_le (x : Rat) : (x.floor : Rat) ≤ x := Rat.floor_le x
theorem lt_fl (x : Rat) : x < (x.floor : Rat) + 1 := by
  rcases Classical.em (x < (x.floor : Rat) + 1) with g | g
  · exact g
  · have h : ((x.floor + 1 : Int) : Rat) ≤ x := by
      rw [Rat.intCast_add]
      have : ((1 : Int) : Rat) = 1 := rfl
      rw [this]
      grind
    have := Rat.le_floor_iff.mpr h
    omega
/-- a whole number in a stretch of length 1 -/
theorem ex_whole {a b : Rat} (h : 1 ≤ b - a) : ∃ n : Int, a ≤ n ∧ (n : Rat) ≤ b := ⟨b.floor, by have := lt_fl b; grind, fl_le b⟩

/-- the slope between: all corners lie between two lines through the ends of the longest stretch -/
theorem slope {rows : List Row} {V : List (Rat × Rat)} (hV : ∀ v ∈ V, In rows v.1 v.2) {t y1 y2 : Rat} (h1 : In rows t y1) (h2 : In rows t y2) (top : ∀ y, In rows t y → y ≤ y1) (bot : ∀ y, In rows t y → y2 ≤ y)
    (best : ∀ x p q, In rows x p → In rows x q → p - q ≤ y1 - y2) : ∃ s : Rat, ∀ v ∈ V, v.2 ≤ y1 + s * (v.1 - t) ∧ y2 + s * (v.1 - t) ≤ v.2 := by
  -- the four ways in which two constraints meet
  have c1 : ∀ v ∈ V, ∀ u ∈ V, v.1 < t → t < u.1 → 0 ≤ (y1 - v.2) * (u.1 - t) + (y1 - u.2) * (t - v.1) := fun v hv u hu a b => by
    have hN : 0 < u.1 - v.1 := by grind
    obtain ⟨l, hl⟩ : ∃ l, l * (u.1 - v.1) = u.1 - t := ⟨(u.1 - t) / (u.1 - v.1), by grind⟩
    have l0 : 0 ≤ l := by
      rcases Classical.em (0 ≤ l) with g | g
      · exact g
      · have := Rat.mul_pos (show 0 < -l by grind) hN
        grind
    have l1 : 0 ≤ 1 - l := by
      rcases Classical.em (0 ≤ 1 - l) with g | g
      · exact g
      · have := Rat.mul_pos (show 0 < l - 1 by grind) hN
        grind
    have m := in_mix (hV v hv) (hV u hu) l0 l1 (by grind)
    rw [show l * v.1 + (1 - l) * u.1 = t by grind] at m
    have z := nn (Rat.le_of_lt hN) (show 0 ≤ y1 - (l * v.2 + (1 - l) * u.2) by have := top _ m; grind)
    have e : (u.1 - v.1) * (y1 - (l * v.2 + (1 - l) * u.2)) = (y1 - v.2) * (u.1 - t) + (y1 - u.2) * (t - v.1) := by grind
    rw [e] at z
    exact z
  have c2 : ∀ v ∈ V, ∀ u ∈ V, v.1 < t → t < u.1 → 0 ≤ (v.2 - y2) * (u.1 - t) + (u.2 - y2) * (t - v.1) := fun v hv u hu a b => by
    have hN : 0 < u.1 - v.1 := by grind
    obtain ⟨l, hl⟩ : ∃ l, l * (u.1 - v.1) = u.1 - t := ⟨(u.1 - t) / (u.1 - v.1), by grind⟩
    have l0 : 0 ≤ l := by
      rcases Classical.em (0 ≤ l) with g | g
      · exact g
      · have := Rat.mul_pos (show 0 < -l by grind) hN
        grind
    have l1 : 0 ≤ 1 - l := by
      rcases Classical.em (0 ≤ 1 - l) with g | g
      · exact g
      · have := Rat.mul_pos (show 0 < l - 1 by grind) hN
        grind
    have m := in_mix (hV v hv) (hV u hu) l0 l1 (by grind)
    rw [show l * v.1 + (1 - l) * u.1 = t by grind] at m
    have z := nn (Rat.le_of_lt hN) (show 0 ≤ (l * v.2 + (1 - l) * u.2) - y2 by have := bot _ m; grind)
    have e : (u.1 - v.1) * ((l * v.2 + (1 - l) * u.2) - y2) = (v.2 - y2) * (u.1 - t) + (u.2 - y2) * (t - v.1) := by grind
    rw [e] at z
    exact z
  -- on one side: e and f are how far v and u are away
  have c3 : ∀ (v u : Rat × Rat) (e f : Rat), In rows v.1 v.2 → In rows u.1 u.2 → 0 < e → 0 < f → (v.1 - t) * f = (u.1 - t) * e → 0 ≤ (y1 - v.2) * f + (u.2 - y2) * e := fun v u e f hv hu he hf hs => by
    by_cases hc : e ≤ f
    · obtain ⟨l, hl⟩ : ∃ l, l * f = e := ⟨e / f, by grind⟩
      have l0 : 0 ≤ l := by
        rcases Classical.em (0 ≤ l) with g | g
        · exact g
        · have := Rat.mul_pos (show 0 < -l by grind) hf
          grind
      have l1 : 0 ≤ 1 - l := by
        rcases Classical.em (0 ≤ 1 - l) with g | g
        · exact g
        · have := Rat.mul_pos (show 0 < l - 1 by grind) hf
          grind
      have m := in_mix h2 hu l1 l0 (by grind)
      have ev : v.1 = (1 - l) * t + l * u.1 := by
        have : f * (v.1 - ((1 - l) * t + l * u.1)) = 0 := by grind
        grind
      rw [← ev] at m
      have z := nn (Rat.le_of_lt hf) (show 0 ≤ (y1 - y2) - (v.2 - ((1 - l) * y2 + l * u.2)) by have := best _ _ _ hv m; grind)
      have e : f * ((y1 - y2) - (v.2 - ((1 - l) * y2 + l * u.2))) = (y1 - v.2) * f + (u.2 - y2) * e := by grind
      rw [e] at z
      exact z
    · obtain ⟨l, hl⟩ : ∃ l, l * e = f := ⟨f / e, by grind⟩
      have l0 : 0 ≤ l := by
        rcases Classical.em (0 ≤ l) with g | g
        · exact g
        · have := Rat.mul_pos (show 0 < -l by grind) he
          grind
      have l1 : 0 ≤ 1 - l := by
        rcases Classical.em (0 ≤ 1 - l) with g | g
        · exact g
        · have := Rat.mul_pos (show 0 < l - 1 by grind) he
          grind
      have m := in_mix h1 hv l1 l0 (by grind)
      have ev : u.1 = (1 - l) * t + l * v.1 := by
        have : e * (u.1 - ((1 - l) * t + l * v.1)) = 0 := by grind
        grind
      rw [← ev] at m
      have z := nn (Rat.le_of_lt he) (show 0 ≤ (y1 - y2) - (((1 - l) * y1 + l * v.2) - u.2) by have := best _ _ _ m hu; grind)
      have e : e * ((y1 - y2) - (((1 - l) * y1 + l * v.2) - u.2)) = (y1 - v.2) * f + (u.2 - y2) * e := by grind
      rw [e] at z
      exact z
  obtain ⟨s, hs⟩ := helly1 (V.map (fun v => (-(v.1 - t), y1 - v.2)) ++ V.map (fun v => (v.1 - t, v.2 - y2))) (by
    have at0 : ∀ v ∈ V, v.1 = t → v.2 ≤ y1 ∧ y2 ≤ v.2 := fun v hv e => by
      have := hV v hv
      rw [e] at this
      exact ⟨top _ this, bot _ this⟩
    intro p1 hp1 q1 hq1
    rcases List.mem_append.mp hp1 with hp1 | hp1 <;> rcases List.mem_append.mp hq1 with hq1 | hq1 <;> obtain ⟨p, hp, rfl⟩ := List.mem_map.mp hp1 <;> obtain ⟨q, hq, rfl⟩ := List.mem_map.mp hq1 <;> refine pair1 ?_ ?_ ?_ ?_
    · intro e; have := at0 p hp (by grind); grind
    · intro e; have := at0 q hq (by grind); grind
    · intro e f
      have := c1 p hp q hq (by grind) (by grind)
      grind
    · intro e f
      have := c1 q hq p hp (by grind) (by grind)
      grind
    · intro e; have := at0 p hp (by grind); grind
    · intro e; have := at0 q hq (by grind); grind
    · intro e f
      have := c3 p q (t - p.1) (t - q.1) (hV p hp) (hV q hq) (by grind) (by grind) (by grind)
      grind
    · intro e f
      have := c3 p q (p.1 - t) (q.1 - t) (hV p hp) (hV q hq) (by grind) (by grind) (by grind)
      grind
    · intro e; have := at0 p hp (by grind); grind
    · intro e; have := at0 q hq (by grind); grind
    · intro e f
      have := c3 q p (q.1 - t) (p.1 - t) (hV q hq) (hV p hp) (by grind) (by grind) (by grind)
      grind
    · intro e f
      have := c3 q p (t - q.1) (t - p.1) (hV q hq) (hV p hp) (by grind) (by grind) (by grind)
      grind
    · intro e; have := at0 p hp (by grind); grind
    · intro e; have := at0 q hq (by grind); grind
    · intro e f
      have := c2 q hq p hp (by grind) (by grind)
      grind
    · intro e f
      have := c2 p hp q hq (by grind) (by grind)
      grind)
  refine ⟨s, fun v hv => ?_⟩
  have k1 := hs _ (List.mem_append.mpr (.inl (List.mem_map.mpr ⟨v, hv, rfl⟩)))
  have k2 := hs _ (List.mem_append.mpr (.inr (List.mem_map.mpr ⟨v, hv, rfl⟩)))
  exact ⟨by grind, by grind⟩
theorem in_between {rows : List Row} {x p q y : Rat} (hp : In rows x p) (hq : In rows x q) (h1 : q ≤ y) (h2 : y ≤ p) : In rows x y := fun r hr => by
  by_cases h : 0 ≤ r.b
  · have := nn h (show 0 ≤ p - y by grind)
    have := hp r hr
    grind
  · have := nn (show 0 ≤ -r.b by grind) (show 0 ≤ y - q by grind)
    have := hq r hr
    grind
theorem half_mul {d e w : Rat} (h1 : -(1 / 2) ≤ d) (h2 : d ≤ 1 / 2) (h3 : -w ≤ e) (h4 : e ≤ w) : d * e ≤ w / 2 := by
  by_cases he : 0 ≤ e
  · have := Rat.mul_le_mul_of_nonneg_right h2 he
    grind
  · have := Rat.mul_le_mul_of_nonneg_right (show -d ≤ 1 / 2 by grind) (show 0 ≤ -e by grind)
    grind
/-- from the ends of a stretch towards a far point: a stretch of 1 at the next whole number -/
theorem towards {rows : List Row} {t y1 y2 x y T w : Rat} (h1 : In rows t y1) (h2 : In rows t y2) (h : In rows x y) (hl : w / 2 ≤ y1 - y2) (hw : 4 ≤ w) {e r : Rat} (he0 : 0 ≤ e) (he1 : e < 1) (hr : w / 2 ≤ r) (hT : (T - t) * r = e * (x - t)) : ∃ Y : Int, In rows T Y := by
  have r0 : 0 < r := by grind
  obtain ⟨l, hl'⟩ : ∃ l, l * r = e := ⟨e / r, by grind⟩
  have l0 : 0 ≤ l := by
    rcases Classical.em (0 ≤ l) with g | g
    · exact g
    · have := Rat.mul_pos (show 0 < -l by grind) r0
      grind
  have l1 : 0 ≤ 1 - l := by
    rcases Classical.em (0 ≤ 1 - l) with g | g
    · exact g
    · have := Rat.mul_pos (show 0 < l - 1 by grind) r0
      grind
  have m1 := in_mix h1 h l1 l0 (by grind)
  have m2 := in_mix h2 h l1 l0 (by grind)
  have ev : (1 - l) * t + l * x = T := by
    have : r * (T - ((1 - l) * t + l * x)) = 0 := by grind
    grind
  rw [ev] at m1 m2
  have k1 := nn l0 (show 0 ≤ r - w / 2 by grind)
  have k2 := nn l1 (show 0 ≤ (y1 - y2) - w / 2 by grind)
  obtain ⟨n, n1, n2⟩ := ex_whole (a := (1 - l) * y2 + l * y) (b := (1 - l) * y1 + l * y) (by grind)
  exact ⟨n, in_between m1 m2 n1 n2⟩
theorem cl_le (x : Rat) : x ≤ ((-(-x).floor : Int) : Rat) := by
  have := fl_le (-x)
  rw [Rat.intCast_neg]
  grind
theorem cl_lt (x : Rat) : ((-(-x).floor : Int) : Rat) < x + 1 := by
  have := lt_fl (-x)
  rw [Rat.intCast_neg]
  grind
/-- a region that is at least 4 wide in each of some directions has a whole point, on one of a few lines -/
theorem strip {rows : List Row} {V : List (Rat × Rat)} (hb : Bnd rows) (hV : ∀ v ∈ V, Cor rows v.1 v.2) (hC : ∀ x y, Cor rows x y → (x, y) ∈ V) (hne : V ≠ []) {w : Rat} (hw : ∀ v ∈ V, ∀ u ∈ V, v.1 - u.1 ≤ w) (hw2 : ∃ v ∈ V, ∃ u ∈ V, v.1 - u.1 = w) (h4 : 4 ≤ w)
    (hk : ∀ k : Int, ∃ v ∈ V, ∃ u ∈ V, w ≤ (v.2 - k * v.1) - (u.2 - k * u.1)) : ∃ v ∈ V, ∃ T Y : Int, (T = v.1.floor ∨ T = -(-v.1).floor) ∧ In rows T Y := by
  obtain ⟨v0, hv0, m, ⟨p0, q0, hp0, hq0, em⟩, best0⟩ := ex_most (P := fun v m => ∃ p q, In rows v.1 p ∧ In rows v.1 q ∧ m = p - q) V hne fun v hv => by
    obtain ⟨p, _, h1, _, h2⟩ := top hb (hV v hv).mem
    obtain ⟨q, _, h3, _, h4⟩ := bottom hb (hV v hv).mem
    exact ⟨p - q, ⟨p, q, h1, h3, rfl⟩, fun m' ⟨p', q', h5, h6, e⟩ => by
      have := h2 _ h5
      have := h4 _ h6
      grind⟩
  obtain ⟨y1, _, h1, _, top1⟩ := top hb hp0
  obtain ⟨y2, _, h2, _, bot2⟩ := bottom hb hp0
  have best : ∀ x p q, In rows x p → In rows x q → p - q ≤ y1 - y2 := fun x p q hp hq => by
    obtain ⟨p1, a1, a2, ⟨r1, a3, a4, a5⟩, _⟩ := top hb hp
    obtain ⟨q1, b1, b2, ⟨r2, b3, b4, b5⟩, _⟩ := bottom hb hq
    obtain ⟨x', p2, q2, c1, c2, c3, c4⟩ := chord1 hb a2 b2 a3 b3 a4 b4 a5 b5
    have : p2 - q2 ≤ m := by
      rcases c4 with c4 | c4
      · exact best0 _ (hC _ _ c4) _ ⟨p2, q2, c1, c2, rfl⟩
      · exact best0 _ (hC _ _ c4) _ ⟨p2, q2, c1, c2, rfl⟩
    have := top1 _ hp0
    have := bot2 _ hq0
    grind
  obtain ⟨s, hs⟩ := slope (V := V) (fun v hv => (hV v hv).mem) h1 h2 top1 bot2 best
  have k1 := fl_le (s + 1 / 2)
  have k2 := lt_fl (s + 1 / 2)
  have hl : w / 2 ≤ y1 - y2 := by
    obtain ⟨v, hv, u, hu, e⟩ := hk (s + 1 / 2).floor
    have a1 := (hs v hv).1
    have a2 := (hs u hu).2
    have b1 := hw v hv u hu
    have b2 := hw u hu v hv
    generalize ((s + 1 / 2).floor : Rat) = k at *
    have := half_mul (d := s - k) (e := v.1 - u.1) (w := w) (by grind) (by grind) (by grind) b1
    have ee : (v.2 - k * v.1) - (u.2 - k * u.1) = (v.2 - u.2) - k * (v.1 - u.1) := by grind
    rw [ee] at e
    have e3 : (s - k) * (v.1 - u.1) = s * (v.1 - v0.1) - s * (u.1 - v0.1) - k * (v.1 - u.1) := by grind
    grind
  obtain ⟨v, hv, u, hu, e⟩ := hw2
  by_cases side : w / 2 ≤ v.1 - v0.1
  · have c1 := cl_le v0.1
    have c2 := cl_lt v0.1
    refine ⟨v0, hv0, -(-v0.1).floor, ?_⟩
    obtain ⟨Y, hY⟩ := towards (T := ((-(-v0.1).floor : Int) : Rat)) h1 h2 (hV v hv).mem hl h4 (e := ((-(-v0.1).floor : Int) : Rat) - v0.1) (by grind) (by grind) side rfl
    exact ⟨Y, .inr rfl, hY⟩
  · have c1 := fl_le v0.1
    have c2 := lt_fl v0.1
    refine ⟨v0, hv0, v0.1.floor, ?_⟩
    obtain ⟨Y, hY⟩ := towards (T := (v0.1.floor : Rat)) h1 h2 (hV u hu).mem hl h4 (e := v0.1 - (v0.1.floor : Rat)) (r := v0.1 - u.1) (by grind) (by grind) (by grind) (by grind)
    exact ⟨Y, .inl rfl, hY⟩
end Geo
set_option linter.all false
namespace Geo
theorem mz {a x : Rat} (h : 0 < a) (e : a * x = 0) : x = 0 := by grind
/-! ### directions without end -/
/-- a direction beside a row, or against it -/
abbrev Side (r : Row) (d e : Rat) : Prop := (d = -r.b ∧ e = r.a) ∨ (d = r.b ∧ e = -r.a) ∨ (d = -r.a ∧ e = -r.b)
abbrev nz (r : Row) : Prop := r.a ≠ 0 ∨ r.b ≠ 0
/-- an open direction along the line of a row: a side of the row is open -/
theorem side_of {rows : List Row} {r : Row} (hr : r ∈ rows) (hz : nz r) {d e : Rat} (h : Opn rows d e) (hd : d ≠ 0 ∨ e ≠ 0) (ht : r.a * d + r.b * e = 0) : Opn rows (-r.b) r.a ∨ Opn rows r.b (-r.a) := by
  -- (d, e) = l (-b, a)
  have hN := sq_pos hz
  obtain ⟨l, hl⟩ : ∃ l, l * (r.a * r.a + r.b * r.b) = r.a * e - r.b * d := ⟨(r.a * e - r.b * d) / (r.a * r.a + r.b * r.b), by grind⟩
  have e1 : d = l * (-r.b) := by
    have := mz hN (show (r.a * r.a + r.b * r.b) * (d - l * (-r.b)) = 0 by grind)
    grind
  have e2 : e = l * r.a := by
    have := mz hN (show (r.a * r.a + r.b * r.b) * (e - l * r.a) = 0 by grind)
    grind
  have l0 : l ≠ 0 := fun z => by
    rw [z] at e1 e2
    rcases hd with h | h
    · exact h (by grind)
    · exact h (by grind)
  clear hl hd
  subst e1
  subst e2
  by_cases lp : 0 < l
  · refine .inl fun q hq => ?_
    have := h q hq
    rcases Classical.em (q.a * (-r.b) + q.b * r.a ≤ 0) with g | g
    · exact g
    · have := Rat.mul_pos lp (show 0 < q.a * (-r.b) + q.b * r.a by grind)
      grind
  · refine .inr fun q hq => ?_
    have := h q hq
    rcases Classical.em (q.a * r.b + q.b * (-r.a) ≤ 0) with g | g
    · exact g
    · have := Rat.mul_pos (show 0 < -l by grind) (show 0 < q.a * r.b + q.b * (-r.a) by grind)
      grind
/-- turning an open direction on towards another one until a row bars it -/
theorem turn_on {rows : List Row} {d e u v : Rat} (h : Opn rows d e) (hb : ∃ r ∈ rows, 0 < r.a * u + r.b * v) : ∃ t, 0 ≤ t ∧ Opn rows (d + t * u) (e + t * v) ∧ ∃ r ∈ rows, 0 < r.a * u + r.b * v ∧ r.a * (d + t * u) + r.b * (e + t * v) = 0 := by
  obtain ⟨t, t0, hi, q, hq, hp, ht⟩ := walk (rows := rows.map fun r => ⟨r.a, r.b, 0⟩) (x := d) (y := e) (u := u) (v := v) (fun q hq => by
    obtain ⟨r, hr, rfl⟩ := List.mem_map.mp hq
    exact h r hr) (by
    obtain ⟨r, hr, p⟩ := hb
    exact ⟨_, List.mem_map.mpr ⟨r, hr, rfl⟩, p⟩)
  obtain ⟨r, hr, rfl⟩ := List.mem_map.mp hq
  exact ⟨t, t0, fun r hr => hi _ (List.mem_map.mpr ⟨r, hr, rfl⟩), r, hr, hp, ht⟩
/-- if a further one is, off the line of the first one, one of the sides of rows is -/
theorem open_more {rows : List Row} (hz : ∃ r ∈ rows, nz r) {d e u v : Rat} (h : Opn rows d e) (g : Opn rows u v) (hd : d * v - e * u ≠ 0) : ∃ r ∈ rows, nz r ∧ ∃ p q, Side r p q ∧ Opn rows p q ∧ d * q - e * p ≠ 0 := by
  by_cases b : ∃ r ∈ rows, 0 < r.a * (-d) + r.b * (-e)
  · obtain ⟨t, t0, ho, r, hr, p, ht⟩ := turn_on g b
    have hnz : nz r := by
      by_cases ha : r.a = 0
      · by_cases hb : r.b = 0
        · rw [ha, hb] at p; grind
        · exact .inr hb
      · exact .inl ha
    have hn : u + t * (-d) ≠ 0 ∨ v + t * (-e) ≠ 0 := by
      by_cases h1 : u + t * (-d) = 0
      · by_cases h2 : v + t * (-e) = 0
        · exact absurd (by grind) hd
        · exact .inr h2
      · exact .inl h1
    rcases side_of hr hnz ho hn ht with k | k
    · exact ⟨r, hr, hnz, _, _, .inl ⟨rfl, rfl⟩, k, by grind⟩
    · exact ⟨r, hr, hnz, _, _, .inr (.inl ⟨rfl, rfl⟩), k, by grind⟩
  · obtain ⟨r, hr, hnz⟩ := hz
    have al : ∀ q ∈ rows, q.a * d + q.b * e = 0 := fun q hq => by
      have h1 : ¬ 0 < q.a * (-d) + q.b * (-e) := fun z => b ⟨q, hq, z⟩
      have h2 := h q hq
      grind
    have h1 := al r hr
    have h2 := g r hr
    have hN := sq_pos hnz
    refine ⟨r, hr, hnz, _, _, .inr (.inr ⟨rfl, rfl⟩), fun q hq => ?_, fun z => ?_⟩
    · -- q = l r with l ≥ 0
      have h3 := al q hq
      have h4 := g q hq
      have dn : d ≠ 0 ∨ e ≠ 0 := by
        by_cases a1 : d = 0
        · by_cases a2 : e = 0
          · rw [a1, a2] at hd; exact absurd (by grind) hd
          · exact .inr a2
        · exact .inl a1
      have dN := sq_pos dn
      have hp : det r q = 0 := mz dN (show (d * d + e * e) * det r q = 0 by grind)
      obtain ⟨l, e1, e2⟩ := par_of hnz hp
      have ru : r.a * u + r.b * v ≠ 0 := fun z => by
        have k1 : r.a * (d * v - e * u) = 0 := by grind
        have k2 : r.b * (d * v - e * u) = 0 := by grind
        rcases hnz with n | n
        · grind
        · grind
      have l0 : 0 ≤ l := by
        rcases Classical.em (0 ≤ l) with k | k
        · exact k
        · have := Rat.mul_pos (show 0 < -l by grind) (show 0 < -(r.a * u + r.b * v) by grind)
          rw [e1, e2] at h4
          grind
      have := nn l0 (Rat.le_of_lt hN)
      rw [e1, e2]
      grind
    · have k1 : (d * d + e * e) * (r.a * r.a + r.b * r.b) = 0 := by grind
      have dn : d ≠ 0 ∨ e ≠ 0 := by
        by_cases a1 : d = 0
        · by_cases a2 : e = 0
          · rw [a1, a2] at hd; exact absurd (by grind) hd
          · exact .inr a2
        · exact .inl a1
      have dN := sq_pos dn
      have := Rat.mul_pos dN hN
      grind
/-- between two open directions off one line every row falls -/
theorem between {rows : List Row} {d e u v : Rat} (h : Opn rows d e) (g : Opn rows u v) (hd : d * v - e * u ≠ 0) {r : Row} (hr : r ∈ rows) (hz : nz r) : r.a * (d + u) + r.b * (e + v) < 0 := by
  have h1 := h r hr
  have h2 := g r hr
  rcases Classical.em (r.a * (d + u) + r.b * (e + v) < 0) with k | k
  · exact k
  · have e1 : r.a * d + r.b * e = 0 := by grind
    have e2 : r.a * u + r.b * v = 0 := by grind
    have k1 : r.a * (d * v - e * u) = 0 := by grind
    have k2 : r.b * (d * v - e * u) = 0 := by grind
    rcases hz with n | n
    · grind
    · grind
end Geo
set_option linter.all false
namespace Geo
/-! ### rows and points of whole numbers -/
abbrev IR := Int × Int × Int
def toR (r : IR) : Row := ⟨r.1, r.2.1, r.2.2⟩
def RR (rows : List IR) : List Row := rows.map toR
def Has (rows : List IR) (x y : Int) : Prop := ∀ r ∈ rows, r.1 * x + r.2.1 * y ≤ r.2.2
abbrev idet (r q : IR) : Int := r.1 * q.2.1 - r.2.1 * q.1
/-- the point (x / d, y / d) keeps a row -/
abbrev Keep (r p : IR) : Prop := r.1 * p.1 + r.2.1 * p.2.1 ≤ r.2.2 * p.2.2
abbrev Tight (r p : IR) : Prop := r.1 * p.1 + r.2.1 * p.2.1 = r.2.2 * p.2.2
def Pnt (p : IR) : Rat × Rat := ((p.1 : Rat) / (p.2.2 : Rat), (p.2.1 : Rat) / (p.2.2 : Rat))

theorem ile {a b : Int} : ((a : Rat) ≤ (b : Rat)) ↔ a ≤ b := Rat.intCast_le_intCast
theorem ilt {a b : Int} : ((a : Rat) < (b : Rat)) ↔ a < b := Rat.intCast_lt_intCast
theorem ieq {a b : Int} : ((a : Rat) = (b : Rat)) ↔ a = b := Rat.intCast_inj
theorem has_in {rows : List IR} {x y : Int} : Has rows x y ↔ In (RR rows) x y := by
  constructor
  · intro h r hr
    obtain ⟨q, hq, rfl⟩ := List.mem_map.mp hr
    have := ile.mpr (h q hq)
    rw [Rat.intCast_add, Rat.intCast_mul, Rat.intCast_mul] at this
    exact this
  · intro h r hr
    have := h _ (List.mem_map.mpr ⟨r, hr, rfl⟩)
    apply ile.mp
    rw [Rat.intCast_add, Rat.intCast_mul, Rat.intCast_mul]
    exact this
theorem pnt_mul {p : IR} (h : 0 < p.2.2) : (Pnt p).1 * (p.2.2 : Rat) = p.1 ∧ (Pnt p).2 * (p.2.2 : Rat) = p.2.1 := by
  have : (0 : Rat) < (p.2.2 : Rat) := ilt.mpr h
  unfold Pnt
  exact ⟨by grind, by grind⟩
theorem keep_pnt {r p : IR} (h : 0 < p.2.2) : Keep r p ↔ (toR r).at (Pnt p).1 (Pnt p).2 ≤ (toR r).c := by
  have hd : (0 : Rat) < (p.2.2 : Rat) := ilt.mpr h
  obtain ⟨e1, e2⟩ := pnt_mul h
  unfold Keep
  rw [← ile, Rat.intCast_add, Rat.intCast_mul, Rat.intCast_mul, Rat.intCast_mul, ← e1, ← e2]
  show _ ↔ (r.1 : Rat) * (Pnt p).1 + (r.2.1 : Rat) * (Pnt p).2 ≤ (r.2.2 : Rat)
  generalize (Pnt p).1 = x
  generalize (Pnt p).2 = y
  generalize (p.2.2 : Rat) = d at *
  constructor
  · intro k
    rcases Classical.em ((r.1 : Rat) * x + (r.2.1 : Rat) * y ≤ (r.2.2 : Rat)) with g | g
    · exact g
    · have := Rat.mul_pos hd (show 0 < (r.1 : Rat) * x + (r.2.1 : Rat) * y - (r.2.2 : Rat) by grind)
      grind
  · intro k
    have := Rat.mul_le_mul_of_nonneg_right k (Rat.le_of_lt hd)
    grind
theorem tight_pnt {r p : IR} (h : 0 < p.2.2) : Tight r p ↔ (toR r).at (Pnt p).1 (Pnt p).2 = (toR r).c := by
  have hd : (0 : Rat) < (p.2.2 : Rat) := ilt.mpr h
  obtain ⟨e1, e2⟩ := pnt_mul h
  unfold Tight
  rw [← ieq, Rat.intCast_add, Rat.intCast_mul, Rat.intCast_mul, Rat.intCast_mul, ← e1, ← e2]
  show _ ↔ (r.1 : Rat) * (Pnt p).1 + (r.2.1 : Rat) * (Pnt p).2 = (r.2.2 : Rat)
  generalize (Pnt p).1 = x
  generalize (Pnt p).2 = y
  generalize (p.2.2 : Rat) = d at *
  constructor
  · intro k
    have : d * ((r.1 : Rat) * x + (r.2.1 : Rat) * y - (r.2.2 : Rat)) = 0 := by grind
    have := mz hd this
    grind
  · intro k
    rw [← k]
    grind
theorem idet_det {r q : IR} : ((idet r q : Int) : Rat) = det (toR r) (toR q) := by
  unfold idet
  rw [Rat.intCast_sub, Rat.intCast_mul, Rat.intCast_mul]
  rfl
theorem idet_ne {r q : IR} : idet r q ≠ 0 ↔ det (toR r) (toR q) ≠ 0 := by
  rw [← idet_det]
  constructor
  · intro h z
    exact h (ieq.mp z)
  · intro h z
    exact h (by rw [z]; rfl)
/-- a corner as the program has it -/
structure Crn (rows : List IR) (p : IR) : Prop where
  pos : 0 < p.2.2
  keep : ∀ r ∈ rows, Keep r p
  two : ∃ r ∈ rows, ∃ q ∈ rows, idet r q ≠ 0 ∧ Tight r p ∧ Tight q p
/-- all corners -/
structure Crns (rows V : List IR) : Prop where
  crn : ∀ p ∈ V, Crn rows p
  all : ∀ x y, Cor (RR rows) x y → ∃ p ∈ V, x = (Pnt p).1 ∧ y = (Pnt p).2
/-- where the lines of two rows meet -/
structure Meet (r q p : IR) : Prop where
  pos : 0 < p.2.2
  one : Tight r p
  two : Tight q p
theorem det_uniq {r q : Row} (h : det r q ≠ 0) {x y x' y' : Rat} (h1 : r.at x y = r.at x' y') (h2 : q.at x y = q.at x' y') : x = x' ∧ y = y' := by
  have e1 : det r q * (x - x') = 0 := by grind
  have e2 : det r q * (y - y') = 0 := by grind
  exact ⟨by grind, by grind⟩
/-- from what the loops leave -/
theorem crns_of {rows V : List IR} (h1 : ∀ p ∈ V, Crn rows p) (h2 : ∀ i j : Nat, j < i → ∀ r q, rows[i]? = some r → rows[j]? = some q → idet r q ≠ 0 → ∃ p, Meet r q p ∧ ((∀ s ∈ rows, Keep s p) → p ∈ V)) : Crns rows V := by
  refine ⟨h1, fun x y hc => ?_⟩
  obtain ⟨r', hr', q', hq', hd, t1, t2⟩ := hc.two
  obtain ⟨r, hr, rfl⟩ := List.mem_map.mp hr'
  obtain ⟨q, hq, rfl⟩ := List.mem_map.mp hq'
  obtain ⟨i, hi⟩ := List.getElem?_of_mem hr
  obtain ⟨j, hj⟩ := List.getElem?_of_mem hq
  have key : ∀ (i j : Nat) (r q : IR), j < i → rows[i]? = some r → rows[j]? = some q → det (toR r) (toR q) ≠ 0 → (toR r).at x y = (toR r).c → (toR q).at x y = (toR q).c → ∃ p ∈ V, x = (Pnt p).1 ∧ y = (Pnt p).2 := by
    intro i j r q lt e1 e2 d k1 k2
    obtain ⟨p, m, hp⟩ := h2 i j lt r q e1 e2 (idet_ne.mpr d)
    have u1 := (tight_pnt m.pos).mp m.one
    have u2 := (tight_pnt m.pos).mp m.two
    obtain ⟨rfl, rfl⟩ := det_uniq d (k1.trans u1.symm) (k2.trans u2.symm)
    exact ⟨p, hp fun s hs => (keep_pnt m.pos).mpr (hc.mem _ (List.mem_map.mpr ⟨s, hs, rfl⟩)), rfl, rfl⟩
  rcases Nat.lt_trichotomy i j with h | h | h
  · exact key j i q r h hj hi (fun z => hd (by grind)) t2 t1
  · subst h
    rw [hi] at hj
    cases hj
    exact absurd (by grind) hd
  · exact key i j r q h hi hj hd t1 t2
theorem pos_r {g k : Int} (hg : 0 < g) (h : 0 < g * k) : 0 < k := by
  rcases Int.lt_or_le 0 k with z | z
  · exact z
  · have := Int.mul_le_mul_of_nonneg_left z (Int.le_of_lt hg)
    omega
end Geo
set_option linter.all false
namespace Geo
/-! ### widths -/
abbrev P2 := Int × Int
def dot (v p : P2) : Int := v.1 * p.1 + v.2 * p.2
/-- how far points are apart in a direction -/
def wd (pts : List P2) (v : P2) : Int := (pts.map (dot v)).max?.getD 0 - (pts.map (dot v)).min?.getD 0
theorem max_ex {l : List Int} (h : l ≠ []) : ∃ m, l.max? = some m ∧ m ∈ l ∧ ∀ x ∈ l, x ≤ m := by
  cases e : l.max? with
  | none => rw [List.max?_eq_none_iff] at e; exact absurd e h
  | some m => exact ⟨m, rfl, List.max?_eq_some_iff.mp e⟩
theorem min_ex {l : List Int} (h : l ≠ []) : ∃ m, l.min? = some m ∧ m ∈ l ∧ ∀ x ∈ l, m ≤ x := by
  cases e : l.min? with
  | none => rw [List.min?_eq_none_iff] at e; exact absurd e h
  | some m => exact ⟨m, rfl, List.min?_eq_some_iff.mp e⟩
theorem wd_eq {pts : List P2} {v : P2} {M m : Int} (h1 : M ∈ pts.map (dot v)) (h2 : ∀ x ∈ pts.map (dot v), x ≤ M) (h3 : m ∈ pts.map (dot v)) (h4 : ∀ x ∈ pts.map (dot v), m ≤ x) : wd pts v = M - m := by
  unfold wd
  rw [List.max?_eq_some_iff.mpr ⟨h1, h2⟩, List.min?_eq_some_iff.mpr ⟨h3, h4⟩]
  rfl
theorem wd_le {pts : List P2} {v p q : P2} (hp : p ∈ pts) (hq : q ∈ pts) : dot v p - dot v q ≤ wd pts v := by
  have hne : pts.map (dot v) ≠ [] := fun z => by
    rw [List.map_eq_nil_iff] at z
    rw [z] at hp
    cases hp
  obtain ⟨M, e1, m1, g1⟩ := max_ex hne
  obtain ⟨m, e2, m2, g2⟩ := min_ex hne
  rw [wd_eq m1 g1 m2 g2]
  have := g1 _ (List.mem_map.mpr ⟨p, hp, rfl⟩)
  have := g2 _ (List.mem_map.mpr ⟨q, hq, rfl⟩)
  omega
theorem wd_ex {pts : List P2} (h : pts ≠ []) (v : P2) : ∃ p ∈ pts, ∃ q ∈ pts, dot v p - dot v q = wd pts v := by
  have hne : pts.map (dot v) ≠ [] := fun z => h (List.map_eq_nil_iff.mp z)
  obtain ⟨M, e1, m1, g1⟩ := max_ex hne
  obtain ⟨m, e2, m2, g2⟩ := min_ex hne
  rw [wd_eq m1 g1 m2 g2]
  obtain ⟨p, hp, rfl⟩ := List.mem_map.mp m1
  obtain ⟨q, hq, rfl⟩ := List.mem_map.mp m2
  exact ⟨p, hp, q, hq, rfl⟩
theorem wd_nn {pts : List P2} (h : pts ≠ []) (v : P2) : 0 ≤ wd pts v := by
  obtain ⟨p, hp⟩ := List.exists_mem_of_ne_nil pts h
  have := wd_le (v := v) hp hp
  omega
/-- v less so many times u -/
def less (v u : P2) (k : Int) : P2 := (v.1 - k * u.1, v.2 - k * u.2)
theorem dot_less {v u p : P2} {k : Int} : dot (less v u k) p = dot v p - k * dot u p := by
  unfold dot less
  grind
theorem dot_neg {v p : P2} : dot (-v.1, -v.2) p = - dot v p := by
  unfold dot
  grind
theorem wd_neg {pts : List P2} (h : pts ≠ []) (v : P2) : wd pts (-v.1, -v.2) = wd pts v := by
  obtain ⟨p, hp, q, hq, e⟩ := wd_ex h v
  obtain ⟨p', hp', q', hq', e'⟩ := wd_ex h (-v.1, -v.2)
  have h1 := wd_le (v := (-v.1, -v.2)) hq hp
  have h2 := wd_le (v := v) hq' hp'
  rw [dot_neg, dot_neg] at e' h1
  omega
theorem wd_far {pts : List P2} (h : pts ≠ []) (v u : P2) (k : Int) : (k.natAbs : Int) * wd pts u ≤ wd pts (less v u k) + wd pts v := by
  obtain ⟨p, hp, q, hq, e⟩ := wd_ex h u
  rcases Int.le_total 0 k with hk | hk
  · have h1 := wd_le (v := less v u k) hq hp
    have h2 := wd_le (v := v) hp hq
    rw [dot_less, dot_less] at h1
    rw [show ((k.natAbs : Int)) = k by omega, ← e]
    grind
  · have h1 := wd_le (v := less v u k) hp hq
    have h2 := wd_le (v := v) hq hp
    rw [dot_less, dot_less] at h1
    rw [show ((k.natAbs : Int)) = -k by omega, ← e]
    grind
/-- a function that bends upwards -/
abbrev Bends (g : Int → Int) : Prop := ∀ k, 2 * g k ≤ g (k - 1) + g (k + 1)
theorem bends_up {g : Int → Int} (h : Bends g) {m : Int} (hm : g m ≤ g (m + 1)) : ∀ n : Nat, g (m + 1 + n) ≤ g (m + 1 + n + 1) ∧ g m ≤ g (m + 1 + n)
  | 0 => by
    have := h (m + 1)
    rw [show m + 1 - 1 = m by omega] at this
    simp only [Int.natCast_zero, Int.add_zero] at *
    exact ⟨by omega, hm⟩
  | n + 1 => by
    obtain ⟨h1, h2⟩ := bends_up h hm n
    have := h (m + 1 + n + 1)
    rw [show m + 1 + (n : Int) + 1 - 1 = m + 1 + n by omega] at this
    rw [show m + 1 + ((n + 1 : Nat) : Int) = m + 1 + n + 1 by omega]
    exact ⟨by omega, by omega⟩
theorem bends_down {g : Int → Int} (h : Bends g) {m : Int} (hm : g (m + 1) < g m) : ∀ n : Nat, g (m + 1) < g (m - n) ∧ g (m - n) < g (m - n - 1)
  | 0 => by
    have := h m
    simp only [Int.natCast_zero, Int.sub_zero] at *
    exact ⟨hm, by omega⟩
  | n + 1 => by
    obtain ⟨h1, h2⟩ := bends_down h hm n
    have := h (m - n - 1)
    rw [show m - (n : Int) - 1 + 1 = m - n by omega] at this
    rw [show m - ((n + 1 : Nat) : Int) = m - n - 1 by omega]
    exact ⟨by omega, by omega⟩
theorem bends_ge {g : Int → Int} (h : Bends g) {m k : Int} (hm : g m ≤ g (m + 1)) (hk : m < k) : g m ≤ g k := by
  have := (bends_up h hm (k - m - 1).toNat).2
  rw [show m + 1 + ((k - m - 1).toNat : Int) = k by omega] at this
  exact this
theorem bends_lt {g : Int → Int} (h : Bends g) {m k : Int} (hm : g (m + 1) < g m) (hk : k ≤ m) : g (m + 1) < g k := by
  have := (bends_down h hm (m - k).toNat).1
  rw [show m - ((m - k).toNat : Int) = k by omega] at this
  exact this
/-! ### how great a direction gets -/
/-- from two ways that are not parallel -/
theorem cramer {v d e : P2} {s t : Int} (h1 : dot v d = s) (h2 : dot v e = t) : v.1 * (d.1 * e.2 - d.2 * e.1) = s * e.2 - t * d.2 ∧ v.2 * (d.1 * e.2 - d.2 * e.1) = t * d.1 - s * e.1 := by
  subst h1
  subst h2
  unfold dot
  exact ⟨by grind, by grind⟩
theorem le_mul_ne {a b c : Int} (hb : b ≠ 0) (h : a * b = c) : a.natAbs ≤ c.natAbs := by
  rw [← h, Int.natAbs_mul]
  exact Nat.le_mul_of_pos_right _ (by omega)
/-- of two directions of determinant 1 and a way: each part of the first one -/
theorem ways {u v d : P2} (h : u.1 * v.2 - u.2 * v.1 = 1) : d.1 = dot u d * v.2 - dot v d * u.2 ∧ d.2 = dot v d * u.1 - dot u d * v.1 := by
  unfold dot
  exact ⟨by grind, by grind⟩
theorem near_half {s t : Int} (hs : s ≠ 0) : ∃ k : Int, 2 * (t - k * s).natAbs ≤ s.natAbs := by
  have key : ∀ s : Int, 0 < s → ∃ k : Int, 2 * (t - k * s).natAbs ≤ s.natAbs := fun s hs => by
    refine ⟨(2 * t + s) / (2 * s), ?_⟩
    have h1 := Int.mul_ediv_add_emod (2 * t + s) (2 * s)
    have h2 := Int.emod_nonneg (2 * t + s) (show 2 * s ≠ 0 by omega)
    have h3 := Int.emod_lt_of_pos (2 * t + s) (show 0 < 2 * s by omega)
    have e : 2 * s * ((2 * t + s) / (2 * s)) = 2 * (((2 * t + s) / (2 * s)) * s) := by grind
    omega
  rcases Int.lt_or_lt_of_ne hs with h | h
  · obtain ⟨k, hk⟩ := key (-s) (by omega)
    refine ⟨-k, ?_⟩
    rw [show -k * s = k * -s by grind]
    omega
  · exact key s h
end Geo
set_option linter.all false
namespace Geo
/-! ### the strip over whole numbers -/
/-- a point a corner stands for, so many times -/
def sc (L : Int) (p : IR) : P2 := (p.1 * (L / p.2.2), p.2.1 * (L / p.2.2))
def rdot (v : P2) (x y : Rat) : Rat := v.1 * x + v.2 * y
/-- a row over X = u x and Y = v x -/
def trR (u v : P2) (r : Row) : Row := ⟨r.a * v.2 - r.b * v.1, u.1 * r.b - u.2 * r.a, r.c⟩
section
variable {u v : P2} {rows : List Row}
end
end Geo
set_option linter.all false
namespace Geo
/-! ### open directions of whole rows -/
def iOpn (rows : List IR) (d : P2) : Prop := ∀ r ∈ rows, r.1 * d.1 + r.2.1 * d.2 ≤ 0
abbrev inz (r : IR) : Prop := r.1 ≠ 0 ∨ r.2.1 ≠ 0
theorem iopn {rows : List IR} {d : P2} : iOpn rows d ↔ Opn (RR rows) d.1 d.2 := by
  constructor
  · intro h r hr
    obtain ⟨q, hq, rfl⟩ := List.mem_map.mp hr
    have := ile.mpr (h q hq)
    rw [Rat.intCast_add, Rat.intCast_mul, Rat.intCast_mul] at this
    exact this
  · intro h r hr
    have := h _ (List.mem_map.mpr ⟨r, hr, rfl⟩)
    apply ile.mp
    rw [Rat.intCast_add, Rat.intCast_mul, Rat.intCast_mul]
    exact this
/-- the sides of a row, without a common divisor -/
def iSide (r : IR) (d : P2) : Prop := let g : Int := Int.gcd r.1 r.2.1
  d = (0 - r.2.1 / g, r.1 / g) ∨ d = (r.2.1 / g, 0 - r.1 / g) ∨ d = (0 - r.1 / g, 0 - r.2.1 / g)
theorem gpos {a b : Int} (h : a ≠ 0 ∨ b ≠ 0) : 0 < (Int.gcd a b : Int) := by
  have : 0 < Int.gcd a b := Int.gcd_pos_iff.mpr h
  omega
theorem side_prim {r : IR} (hz : inz r) {d : P2} (h : iSide r d) : Int.gcd d.1 d.2 = 1 := by
  have gp := gpos hz
  have hg : 0 < Int.gcd r.1 r.2.1 := Int.gcd_pos_iff.mpr hz
  have e := Int.gcd_ediv_gcd_ediv_gcd hg
  unfold iSide at h
  rcases h with rfl | rfl | rfl
  · show Int.gcd (0 - r.2.1 / (Int.gcd r.1 r.2.1 : Int)) (r.1 / (Int.gcd r.1 r.2.1 : Int)) = 1
    rw [Int.zero_sub, Int.neg_gcd, Int.gcd_comm]; exact e
  · show Int.gcd (r.2.1 / (Int.gcd r.1 r.2.1 : Int)) (0 - r.1 / (Int.gcd r.1 r.2.1 : Int)) = 1
    rw [Int.zero_sub, Int.gcd_neg, Int.gcd_comm]; exact e
  · show Int.gcd (0 - r.1 / (Int.gcd r.1 r.2.1 : Int)) (0 - r.2.1 / (Int.gcd r.1 r.2.1 : Int)) = 1
    rw [Int.zero_sub, Int.zero_sub, Int.neg_gcd, Int.gcd_neg]; exact e
/-- the list of open sides -/
structure OD (rows : List IR) (V : List P2) : Prop where
  mem : ∀ d ∈ V, iOpn rows d ∧ ∃ r ∈ rows, inz r ∧ iSide r d
  all : ∀ r ∈ rows, inz r → ∀ d, iSide r d → iOpn rows d → d ∈ V
theorem nz_iff {r : IR} : nz (toR r) ↔ inz r := by
  have e : ∀ a : Int, ((a : Rat) ≠ 0) ↔ a ≠ 0 := fun a => by
    have : ((0 : Int) : Rat) = 0 := rfl
    rw [← this]
    exact not_congr ieq
  unfold nz inz
  exact or_congr (e _) (e _)
/-- a side of a row in fractions is one in whole numbers -/
theorem side_int {rows : List IR} {r : IR} (hr : r ∈ rows) (hz : inz r) {p q : Rat} (hs : Side (toR r) p q) (ho : Opn (RR rows) p q) : ∃ d : P2, iSide r d ∧ iOpn rows d ∧ ∃ g : Rat, 0 < g ∧ p = g * d.1 ∧ q = g * d.2 := by
  have hd : ∃ d : P2, iSide r d ∧ ∃ g : Int, 0 < g ∧ p = ((g * d.1 : Int) : Rat) ∧ q = ((g * d.2 : Int) : Rat) := by
    have gp := gpos hz
    have e1 : (Int.gcd r.1 r.2.1 : Int) * (r.1 / (Int.gcd r.1 r.2.1 : Int)) = r.1 := Int.mul_ediv_cancel' (Int.gcd_dvd_left ..)
    have e2 : (Int.gcd r.1 r.2.1 : Int) * (r.2.1 / (Int.gcd r.1 r.2.1 : Int)) = r.2.1 := Int.mul_ediv_cancel' (Int.gcd_dvd_right ..)
    have n : ∀ a b : Int, a * (0 - b) = -(a * b) := fun a b => by rw [Int.zero_sub, Int.mul_neg]
    rcases hs with ⟨rfl, rfl⟩ | ⟨rfl, rfl⟩ | ⟨rfl, rfl⟩
    · exact ⟨_, .inl rfl, _, gp, by rw [n, e2, Rat.intCast_neg]; rfl, by rw [e1]; rfl⟩
    · exact ⟨_, .inr (.inl rfl), _, gp, by rw [e2]; rfl, by rw [n, e1, Rat.intCast_neg]; rfl⟩
    · exact ⟨_, .inr (.inr rfl), _, gp, by rw [n, e1, Rat.intCast_neg]; rfl, by rw [n, e2, Rat.intCast_neg]; rfl⟩
  obtain ⟨d, hd, g, gp, e1, e2⟩ := hd
  have gp' : (0 : Rat) < (g : Rat) := ilt.mpr gp
  rw [Rat.intCast_mul] at e1 e2
  refine ⟨d, hd, iopn.mpr fun s hs => ?_, g, gp', e1, e2⟩
  have := ho s hs
  rw [e1, e2] at this
  rcases Classical.em (s.a * (d.1 : Rat) + s.b * (d.2 : Rat) ≤ 0) with k | k
  · exact k
  · have := Rat.mul_pos gp' (show 0 < s.a * (d.1 : Rat) + s.b * (d.2 : Rat) by grind)
    grind
section
variable {rows : List IR} {V : List P2}
theorem OD.ne (h : OD rows V) {d : P2} (hd : d ∈ V) : d.1 ≠ 0 ∨ d.2 ≠ 0 := by
  obtain ⟨_, r, hr, hz, hs⟩ := h.mem d hd
  have := side_prim hz hs
  by_cases h1 : d.1 = 0
  · by_cases h2 : d.2 = 0
    · rw [h1, h2] at this; simp at this
    · exact .inr h2
  · exact .inl h1
/-- all on one line: so is every open direction -/
theorem OD.line (h : OD rows V) {c : P2} (hc : c ∈ V) (hl : ∀ d ∈ V, c.1 * d.2 - c.2 * d.1 = 0) {d e : Rat} (ho : Opn (RR rows) d e) : (c.1 : Rat) * e - c.2 * d = 0 := by
  rcases Classical.em ((c.1 : Rat) * e - c.2 * d = 0) with g | g
  · exact g
  · exfalso
    obtain ⟨oc, r0, hr0, z0, _⟩ := h.mem c hc
    obtain ⟨r', hr', hn, p, q, hs, hk, hd⟩ := open_more ⟨_, List.mem_map.mpr ⟨r0, hr0, rfl⟩, nz_iff.mpr z0⟩ (iopn.mp oc) ho g
    obtain ⟨r, hr, rfl⟩ := List.mem_map.mp hr'
    have hz := nz_iff.mp hn
    obtain ⟨b, hb, ob, s, sp, e1, e2⟩ := side_int hr hz hs hk
    have := ieq.mpr (hl b (h.all r hr hz b hb ob))
    rw [Rat.intCast_sub, Rat.intCast_mul, Rat.intCast_mul] at this
    apply hd
    rw [e1, e2]
    have z : ((0 : Int) : Rat) = 0 := rfl
    rw [z] at this
    have e3 : (c.1 : Rat) * (s * ((b.2 : Int) : Rat)) - c.2 * (s * ((b.1 : Int) : Rat)) = s * ((c.1 : Rat) * ((b.2 : Int) : Rat) - c.2 * ((b.1 : Int) : Rat)) := by grind
    rw [e3, this]
    grind
end
end Geo
set_option linter.all false
namespace Geo
/-! ### the least times, by halving -/
structure Half (g : Int → Int) (many low high : Int) : Prop where
  l : -many ≤ low
  m : low ≤ high
  h : high ≤ many
  k : ∃ k, low ≤ k ∧ k ≤ high ∧ ∀ j, -many ≤ j → j ≤ many → g k ≤ g j
theorem Half.up {g : Int → Int} (hg : Bends g) {many low high mid : Int} (H : Half g many low high) (h1 : low ≤ mid) (h2 : mid < high) (c : g (mid + 1) < g mid) : Half g many (mid + 1) high := by
  obtain ⟨k, k1, k2, k3⟩ := H.k
  refine ⟨by have := H.l; omega, by omega, H.h, k, ?_, k2, k3⟩
  rcases Int.lt_or_le mid k with z | z
  · omega
  · have := bends_lt hg c z
    have := k3 (mid + 1) (by have := H.l; omega) (by have := H.h; omega)
    omega
theorem Half.down {g : Int → Int} (hg : Bends g) {many low high mid : Int} (H : Half g many low high) (h1 : low ≤ mid) (h2 : mid < high) (c : ¬ g (mid + 1) < g mid) : Half g many low mid := by
  obtain ⟨k, k1, k2, k3⟩ := H.k
  refine ⟨H.l, h1, by have := H.h; omega, ?_⟩
  rcases Int.lt_or_le mid k with z | z
  · have := bends_ge hg (by omega) z
    exact ⟨mid, h1, Int.le_refl _, fun j a b => Int.le_trans this (k3 j a b)⟩
  · exact ⟨k, k1, z, k3⟩
theorem ex_least (g : Int → Int) : ∀ (n : Nat) (a : Int), ∃ k, a ≤ k ∧ k ≤ a + n ∧ ∀ j, a ≤ j → j ≤ a + n → g k ≤ g j
  | 0, a => ⟨a, Int.le_refl _, by omega, fun j h1 h2 => by rw [show j = a by omega]; exact Int.le_refl _⟩
  | n + 1, a => by
    obtain ⟨k, k1, k2, k3⟩ := ex_least g n a
    by_cases h : g k ≤ g (a + n + 1)
    · refine ⟨k, k1, by omega, fun j j1 j2 => ?_⟩
      by_cases e : j = a + n + 1
      · rw [e]; exact h
      · exact k3 j j1 (by omega)
    · refine ⟨a + n + 1, by omega, by omega, fun j j1 j2 => ?_⟩
      by_cases e : j = a + n + 1
      · rw [e]; exact Int.le_refl _
      · have := k3 j j1 (by omega)
        omega
theorem Half.start (g : Int → Int) {many : Int} (h : 0 ≤ many) : Half g many (0 - many) many := by
  obtain ⟨k, k1, k2, k3⟩ := ex_least g (2 * many).toNat (-many)
  exact ⟨by omega, by omega, Int.le_refl _, k, by omega, by omega, fun j a b => k3 j a (by omega)⟩
theorem Half.fin {pts : List P2} (hne : pts ≠ []) {v u : P2} (hu : 0 < wd pts u) {low high : Int} (H : Half (fun k => wd pts (less v u k)) (2 * (wd pts v / wd pts u) + 2) low high) (e : ¬ low < high) (j : Int) : wd pts (less v u low) ≤ wd pts (less v u j) := by
  obtain ⟨k, k1, k2, k3⟩ := H.k
  have ek : k = low := by have := H.m; omega
  subst ek
  have q0 : 0 ≤ wd pts v / wd pts u := Int.ediv_nonneg (wd_nn hne v) (Int.le_of_lt hu)
  by_cases hj : -(2 * (wd pts v / wd pts u) + 2) ≤ j ∧ j ≤ 2 * (wd pts v / wd pts u) + 2
  · exact k3 j hj.1 hj.2
  · have h0 := k3 0 (by omega) (by omega)
    have e0 : less v u 0 = v := by unfold less; simp
    simp only [e0] at h0
    have far := wd_far hne v u j
    have hn : 2 * (wd pts v / wd pts u) + 3 ≤ (j.natAbs : Int) := by omega
    have d1 := Int.mul_ediv_add_emod (wd pts v) (wd pts u)
    have d2 := Int.emod_lt_of_pos (wd pts v) hu
    have := Int.mul_le_mul_of_nonneg_right hn (Int.le_of_lt hu)
    have e : (2 * (wd pts v / wd pts u) + 3) * wd pts u = 2 * (wd pts u * (wd pts v / wd pts u)) + 3 * wd pts u := by grind
    show wd pts (less v u k) ≤ _
    omega
/-! ### how great the directions of a basis get -/
/-- the way from one corner to another one, times both denominators -/
def way (p q : IR) : P2 := (q.1 * p.2.2 - p.1 * q.2.2, q.2.1 * p.2.2 - p.2.1 * q.2.2)
theorem dot_way {L : Int} {p q : IR} (hp : p.2.2 ∣ L) (hq : q.2.2 ∣ L) (v : P2) : dot v (way p q) * L = (dot v (sc L q) - dot v (sc L p)) * (p.2.2 * q.2.2) := by
  obtain ⟨a, ha⟩ := hp
  obtain ⟨b, hb⟩ := hq
  by_cases h1 : p.2.2 = 0
  · rw [h1, Int.zero_mul] at ha
    rw [h1, ha]; simp
  by_cases h2 : q.2.2 = 0
  · rw [h2, Int.zero_mul] at hb
    rw [h2, hb]; simp
  unfold dot way sc
  rw [show L / q.2.2 = b by rw [hb]; exact Int.mul_ediv_cancel_left _ h2, show L / p.2.2 = a by rw [ha]; exact Int.mul_ediv_cancel_left _ h1]
  have e1 : q.2.2 * b = p.2.2 * a := by rw [← ha, ← hb]
  rw [ha]
  grind
structure Vok (N : Nat) (L : Int) (V : List IR) : Prop where
  ne : V ≠ []
  pos : 0 < L
  sm : ∀ p ∈ V, p.1.natAbs < 2 ^ N ∧ p.2.1.natAbs < 2 ^ N ∧ 0 < p.2.2 ∧ p.2.2.natAbs < 2 ^ N
  dv : ∀ p ∈ V, p.2.2 ∣ L
/-- all corners on one line -/
def Deg (V : List IR) : Prop := ∀ p ∈ V, ∀ q ∈ V, ∀ r ∈ V, (way p q).1 * (way p r).2 - (way p q).2 * (way p r).1 = 0
theorem abs_lt {a b : Int} {n : Nat} (ha : a.natAbs < 2 ^ n) (hb : b.natAbs < 2 ^ n) : (a - b).natAbs < 2 ^ (n + 1) := by
  rw [Nat.pow_succ]
  generalize 2 ^ n = k at *
  omega
theorem mul_lt {a b : Int} {n m : Nat} (ha : a.natAbs < 2 ^ n) (hb : b.natAbs < 2 ^ m) : (a * b).natAbs < 2 ^ (n + m) := by
  rw [Int.natAbs_mul, Nat.pow_add]
  exact Nat.mul_lt_mul'' ha hb
theorem way_lt {N : Nat} {L : Int} {V : List IR} (h : Vok N L V) {p q : IR} (hp : p ∈ V) (hq : q ∈ V) : (way p q).1.natAbs < 2 ^ (N + N + 1) ∧ (way p q).2.natAbs < 2 ^ (N + N + 1) := by
  obtain ⟨a1, a2, a3, a4⟩ := h.sm p hp
  obtain ⟨b1, b2, b3, b4⟩ := h.sm q hq
  exact ⟨abs_lt (mul_lt b1 a4) (mul_lt a1 b4), abs_lt (mul_lt b2 a4) (mul_lt a2 b4)⟩
theorem dotw_lt {N : Nat} {L : Int} {V : List IR} (h : Vok N L V) {v : P2} (hv : wd (V.map (sc L)) v ≤ 2 ^ (N + 1) * L) {p q : IR} (hp : p ∈ V) (hq : q ∈ V) : (dot v (way p q)).natAbs < 2 ^ (3 * N + 2) := by
  obtain ⟨a1, a2, a3, a4⟩ := h.sm p hp
  obtain ⟨b1, b2, b3, b4⟩ := h.sm q hq
  have e := dot_way (h.dv p hp) (h.dv q hq) v
  have h1 := wd_le (v := v) (List.mem_map.mpr ⟨q, hq, rfl⟩) (List.mem_map.mpr ⟨p, hp, rfl⟩ : sc L p ∈ V.map (sc L))
  have h2 := wd_le (v := v) (List.mem_map.mpr ⟨p, hp, rfl⟩) (List.mem_map.mpr ⟨q, hq, rfl⟩ : sc L q ∈ V.map (sc L))
  have hL := h.pos
  have h3 : (dot v (sc L q) - dot v (sc L p)).natAbs ≤ 2 ^ (N + 1) * L.natAbs := by
    have e2 : ((2 ^ (N + 1) * L.natAbs : Nat) : Int) = 2 ^ (N + 1) * L := by
      rw [Int.natCast_mul, Int.natCast_pow, Int.natAbs_of_nonneg (Int.le_of_lt hL)]
      rfl
    generalize (2 : Int) ^ (N + 1) * L = w at *
    generalize 2 ^ (N + 1) * L.natAbs = w' at *
    omega
  have h4 := mul_lt a4 b4
  have h5 : (dot v (way p q)).natAbs * L.natAbs < 2 ^ (N + 1) * L.natAbs * 2 ^ (N + N) := by
    rw [← Int.natAbs_mul, e, Int.natAbs_mul]
    refine Nat.lt_of_le_of_lt (Nat.mul_le_mul_right _ h3) ?_
    refine Nat.mul_lt_mul_of_pos_left h4 (Nat.mul_pos (Nat.two_pow_pos _) (by omega))
  have h6 : (dot v (way p q)).natAbs < 2 ^ (N + 1) * 2 ^ (N + N) := by
    refine Nat.lt_of_mul_lt_mul_right (a := L.natAbs) ?_
    refine Nat.lt_of_lt_of_eq h5 ?_
    ac_rfl
  refine Nat.lt_of_lt_of_le h6 ?_
  rw [← Nat.pow_add]
  exact Nat.pow_le_pow_right (by decide) (by omega)
theorem nondeg {N : Nat} {L : Int} {V : List IR} (h : Vok N L V) (hd : ¬ Deg V) {v : P2} (hv : wd (V.map (sc L)) v ≤ 2 ^ (N + 1) * L) : v.1.natAbs < 2 ^ (5 * N + 4) ∧ v.2.natAbs < 2 ^ (5 * N + 4) := by
  obtain ⟨p, hp, q, hq, r, hr, hn⟩ : ∃ p ∈ V, ∃ q ∈ V, ∃ r ∈ V, (way p q).1 * (way p r).2 - (way p q).2 * (way p r).1 ≠ 0 := by
    rcases Classical.em (∃ p ∈ V, ∃ q ∈ V, ∃ r ∈ V, (way p q).1 * (way p r).2 - (way p q).2 * (way p r).1 ≠ 0) with g | g
    · exact g
    · refine absurd (fun p hp q hq r hr => ?_) hd
      rcases Classical.em ((way p q).1 * (way p r).2 - (way p q).2 * (way p r).1 = 0) with k | k
      · exact k
      · exact absurd ⟨p, hp, q, hq, r, hr, k⟩ g
  obtain ⟨c1, c2⟩ := cramer (v := v) (d := way p q) (e := way p r) rfl rfl
  have s1 := dotw_lt h hv hp hq
  have s2 := dotw_lt h hv hp hr
  have w1 := way_lt h hp hq
  have w2 := way_lt h hp hr
  have e : 3 * N + 2 + (N + N + 1) + 1 = 5 * N + 4 := by omega
  have k1 := abs_lt (mul_lt s1 w2.2) (mul_lt s2 w1.2)
  have k2 := abs_lt (mul_lt s2 w1.1) (mul_lt s1 w2.1)
  rw [e] at k1 k2
  exact ⟨Nat.lt_of_le_of_lt (le_mul_ne hn c1) k1, Nat.lt_of_le_of_lt (le_mul_ne hn c2) k2⟩
/-- on one line widths go along -/
theorem deg_wd {N : Nat} {L : Int} {V : List IR} (h : Vok N L V) (hd : Deg V) {p q : IR} (hp : p ∈ V) (hq : q ∈ V) (u v : P2) : wd (V.map (sc L)) u * (dot v (way p q)).natAbs ≤ wd (V.map (sc L)) v * (dot u (way p q)).natAbs := by
  obtain ⟨a, ha, b, hb, e⟩ := wd_ex (fun z => h.ne (List.map_eq_nil_iff.mp z)) u
  obtain ⟨r, hr, rfl⟩ := List.mem_map.mp ha
  obtain ⟨s, hs, rfl⟩ := List.mem_map.mp hb
  -- the way from s to r is along that from p to q
  have par : (sc L r).1 - (sc L s).1 = (sc L r).1 - (sc L s).1 := rfl
  have hpd := (h.sm p hp).2.2.1
  have hqd := (h.sm q hq).2.2.1
  have hrd := (h.sm r hr).2.2.1
  have hsd := (h.sm s hs).2.2.1
  have key : ∀ x ∈ V, (way p q).1 * ((sc L x).2 - (sc L p).2) - (way p q).2 * ((sc L x).1 - (sc L p).1) = 0 := fun x hx => by
    have hxd := (h.sm x hx).2.2.1
    have d1 := dot_way (h.dv p hp) (h.dv x hx) (1, 0)
    have d2 := dot_way (h.dv p hp) (h.dv x hx) (0, 1)
    unfold dot at d1 d2
    simp only [Int.one_mul, Int.zero_mul, Int.add_zero, Int.zero_add] at d1 d2
    have hz := hd p hp q hq x hx
    have e3 : (way p q).1 * ((sc L x).2 - (sc L p).2) - (way p q).2 * ((sc L x).1 - (sc L p).1) = 0 := by
      have hne : p.2.2 * x.2.2 ≠ 0 := Int.mul_ne_zero (by omega) (by omega)
      refine Int.eq_of_mul_eq_mul_right hne ?_
      have e4 : ((way p q).1 * ((sc L x).2 - (sc L p).2) - (way p q).2 * ((sc L x).1 - (sc L p).1)) * (p.2.2 * x.2.2) = ((way p q).1 * (way p x).2 - (way p q).2 * (way p x).1) * L := by grind
      rw [e4, hz]
      simp
    exact e3
  have k1 := key r hr
  have k2 := key s hs
  have lin : ∀ z : P2, dot z (sc L r) - dot z (sc L s) = z.1 * ((sc L r).1 - (sc L s).1) + z.2 * ((sc L r).2 - (sc L s).2) := fun z => by unfold dot; grind
  have cross : (dot u (sc L r) - dot u (sc L s)) * dot v (way p q) = (dot v (sc L r) - dot v (sc L s)) * dot u (way p q) := by
    rw [lin, lin]
    unfold dot
    grind
  have hw := wd_le (v := v) (List.mem_map.mpr ⟨r, hr, rfl⟩) (List.mem_map.mpr ⟨s, hs, rfl⟩ : sc L s ∈ V.map (sc L))
  have hw2 := wd_le (v := v) (List.mem_map.mpr ⟨s, hs, rfl⟩) (List.mem_map.mpr ⟨r, hr, rfl⟩ : sc L r ∈ V.map (sc L))
  have un := wd_nn (pts := V.map (sc L)) (fun z => h.ne (List.map_eq_nil_iff.mp z)) u
  rw [e] at cross
  have c2 := congrArg Int.natAbs cross
  rw [Int.natAbs_mul, Int.natAbs_mul] at c2
  have c3 : ((wd (V.map (sc L)) u).natAbs : Int) = wd (V.map (sc L)) u := Int.natAbs_of_nonneg un
  have c4 : wd (V.map (sc L)) u * (dot v (way p q)).natAbs = (((dot v (sc L r) - dot v (sc L s)).natAbs * (dot u (way p q)).natAbs : Nat) : Int) := by
    rw [← c2, Int.natCast_mul, c3]
  rw [c4, Int.natCast_mul]
  refine Int.mul_le_mul_of_nonneg_right ?_ (by omega)
  omega
/-- the invariant of a basis -/
structure Bas (N : Nat) (L : Int) (V : List IR) (u v : P2) : Prop where
  det : u.1 * v.2 - u.2 * v.1 = 1
  wu : wd (V.map (sc L)) u ≤ 2 ^ (N + 1) * L
  wv : wd (V.map (sc L)) v ≤ 2 ^ (N + 1) * L
  deg : Deg V → u.1.natAbs ≤ 2 ^ (N + N + 2) ∧ u.2.natAbs ≤ 2 ^ (N + N + 2) ∧ v.1.natAbs ≤ 2 ^ (N + N + 2) ∧ v.2.natAbs ≤ 2 ^ (N + N + 2)
theorem Bas.sm {N : Nat} {L : Int} {V : List IR} {u v : P2} (h : Vok N L V) (b : Bas N L V u v) : u.1.natAbs < 2 ^ (5 * N + 4) ∧ u.2.natAbs < 2 ^ (5 * N + 4) ∧ v.1.natAbs < 2 ^ (5 * N + 4) ∧ v.2.natAbs < 2 ^ (5 * N + 4) := by
  by_cases hd : Deg V
  · obtain ⟨h1, h2, h3, h4⟩ := b.deg hd
    have hl : 2 ^ (N + N + 2) < 2 ^ (5 * N + 4) := Nat.pow_lt_pow_right (by decide) (by omega)
    exact ⟨Nat.lt_of_le_of_lt h1 hl, Nat.lt_of_le_of_lt h2 hl, Nat.lt_of_le_of_lt h3 hl, Nat.lt_of_le_of_lt h4 hl⟩
  · have h1 := nondeg h hd b.wu
    have h2 := nondeg h hd b.wv
    exact ⟨h1.1, h1.2, h2.1, h2.2⟩
theorem wd_start {N : Nat} {L : Int} {V : List IR} (h : Vok N L V) {v : P2} (hv : v = (1, 0) ∨ v = (0, 1)) : wd (V.map (sc L)) v ≤ 2 ^ (N + 1) * L := by
  obtain ⟨a, ha, b, hb, e⟩ := wd_ex (pts := V.map (sc L)) (fun z => h.ne (List.map_eq_nil_iff.mp z)) v
  obtain ⟨r, hr, rfl⟩ := List.mem_map.mp ha
  obtain ⟨s, hs, rfl⟩ := List.mem_map.mp hb
  have one : ∀ p ∈ V, ∀ x : Int, x.natAbs < 2 ^ N → (x * (L / p.2.2)).natAbs ≤ 2 ^ N * L.natAbs := fun p hp x hx => by
    obtain ⟨k, hk⟩ := h.dv p hp
    have hpd := (h.sm p hp).2.2.1
    rw [show L / p.2.2 = k by rw [hk]; exact Int.mul_ediv_cancel_left _ (by omega), Int.natAbs_mul]
    refine Nat.mul_le_mul (Nat.le_of_lt hx) ?_
    rw [hk, Int.natAbs_mul]
    exact Nat.le_mul_of_pos_left _ (by omega)
  have hL := h.pos
  have e2 : ((2 ^ N * L.natAbs : Nat) : Int) = 2 ^ N * L := by
    rw [Int.natCast_mul, Int.natCast_pow, Int.natAbs_of_nonneg (Int.le_of_lt hL)]
    rfl
  have e3 : (2 : Int) ^ (N + 1) * L = 2 * (2 ^ N * L) := by rw [Int.pow_succ]; grind
  rw [← e, e3, ← e2]
  rcases hv with rfl | rfl
  · have h1 := one r hr r.1 (h.sm r hr).1
    have h2 := one s hs s.1 (h.sm s hs).1
    unfold dot sc
    simp only [Int.one_mul, Int.zero_mul, Int.add_zero]
    omega
  · have h1 := one r hr r.2.1 (h.sm r hr).2.1
    have h2 := one s hs s.2.1 (h.sm s hs).2.1
    unfold dot sc
    simp only [Int.one_mul, Int.zero_mul, Int.zero_add]
    omega
theorem Bas.start {N : Nat} {L : Int} {V : List IR} (h : Vok N L V) : Bas N L V (1, 0) (0, 1) where
  det := by decide
  wu := wd_start h (.inl rfl)
  wv := wd_start h (.inr rfl)
  deg := fun _ => by
    have : 1 ≤ 2 ^ (N + N + 2) := Nat.one_le_two_pow
    exact ⟨this, by simp, by simp, this⟩
/-- the least wide one of other less times one -/
theorem Bas.late {N : Nat} {L : Int} {V : List IR} {u v : P2} (h : Vok N L V) (b : Bas N L V u v) (hu : 0 < wd (V.map (sc L)) u) {k : Int} (hk : ∀ j, wd (V.map (sc L)) (less v u k) ≤ wd (V.map (sc L)) (less v u j)) : Bas N L V u (less v u k) where
  det := by
    have := b.det
    unfold less
    grind
  wu := b.wu
  wv := by
    have := hk 0
    have e0 : less v u 0 = v := by unfold less; simp
    rw [e0] at this
    exact Int.le_trans this b.wv
  deg := fun hd => by
    obtain ⟨g1, g2, g3, g4⟩ := b.deg hd
    refine ⟨g1, g2, ?_⟩
    have hpt : V.map (sc L) ≠ [] := fun z => h.ne (List.map_eq_nil_iff.mp z)
    -- a pair that u parts
    obtain ⟨p, hp, q, hq, hn⟩ : ∃ p ∈ V, ∃ q ∈ V, dot u (way p q) ≠ 0 := by
      obtain ⟨a, ha, c, hc, e⟩ := wd_ex hpt u
      obtain ⟨r, hr, rfl⟩ := List.mem_map.mp ha
      obtain ⟨s, hs, rfl⟩ := List.mem_map.mp hc
      refine ⟨s, hs, r, hr, fun z => ?_⟩
      have := dot_way (h.dv s hs) (h.dv r hr) u
      rw [z, Int.zero_mul, e] at this
      have hne : wd (V.map (sc L)) u * (s.2.2 * r.2.2) ≠ 0 := Int.mul_ne_zero (by omega) (Int.mul_ne_zero (by have := (h.sm s hs).2.2.1; omega) (by have := (h.sm r hr).2.2.1; omega))
      exact hne this.symm
    obtain ⟨j, hj⟩ := near_half (t := dot v (way p q)) hn
    have half : 2 * (dot (less v u k) (way p q)).natAbs ≤ (dot u (way p q)).natAbs := by
      have h1 := deg_wd h hd hp hq u (less v u k)
      have h2 := deg_wd h hd hp hq (less v u j) u
      have h3 := hk j
      have e : dot (less v u j) (way p q) = dot v (way p q) - j * dot u (way p q) := dot_less
      rw [← e] at hj
      have h4 := Int.mul_le_mul_of_nonneg_right h3 (show (0 : Int) ≤ (dot u (way p q)).natAbs by omega)
      have h5 : wd (V.map (sc L)) u * ((dot (less v u k) (way p q)).natAbs : Int) ≤ wd (V.map (sc L)) u * ((dot (less v u j) (way p q)).natAbs : Int) := Int.le_trans h1 (Int.le_trans h4 h2)
      have h6 : ((dot (less v u k) (way p q)).natAbs : Int) ≤ ((dot (less v u j) (way p q)).natAbs : Int) := Int.le_of_mul_le_mul_left h5 hu
      omega
    have det : u.1 * (less v u k).2 - u.2 * (less v u k).1 = 1 := by
      have := b.det
      unfold less
      grind
    obtain ⟨w1, w2⟩ := ways (d := way p q) det
    obtain ⟨l1, l2⟩ := way_lt h hp hq
    have bound : ∀ x y z : Int, z.natAbs < 2 ^ (N + N + 1) → y.natAbs ≤ 2 ^ (N + N + 2) → (z = dot u (way p q) * x - dot (less v u k) (way p q) * y ∨ z = dot (less v u k) (way p q) * y - dot u (way p q) * x) → x.natAbs ≤ 2 ^ (N + N + 2) := fun x y z hz hy e => by
      have a1 : (dot u (way p q)).natAbs * x.natAbs ≤ z.natAbs + (dot (less v u k) (way p q)).natAbs * y.natAbs := by
        rw [← Int.natAbs_mul, ← Int.natAbs_mul]
        omega
      have a2 : 2 * ((dot (less v u k) (way p q)).natAbs * y.natAbs) ≤ (dot u (way p q)).natAbs * 2 ^ (N + N + 2) := by
        rw [← Nat.mul_assoc]
        exact Nat.mul_le_mul half hy
      have a3 : 1 ≤ (dot u (way p q)).natAbs := by omega
      have a4 : 2 ^ (N + N + 1) ≤ (dot u (way p q)).natAbs * 2 ^ (N + N + 1) := Nat.le_mul_of_pos_left _ (by omega)
      have a5 : 2 ^ (N + N + 2) = 2 * 2 ^ (N + N + 1) := by rw [Nat.pow_succ, Nat.mul_comm]
      rw [a5] at a2 ⊢
      have a6 : (dot u (way p q)).natAbs * (2 * 2 ^ (N + N + 1)) = 2 * ((dot u (way p q)).natAbs * 2 ^ (N + N + 1)) := by ac_rfl
      have a7 : (dot u (way p q)).natAbs * x.natAbs ≤ (dot u (way p q)).natAbs * (2 * 2 ^ (N + N + 1)) := by omega
      exact Nat.le_of_mul_le_mul_left a7 (by omega)
    exact ⟨bound _ u.1 _ l2 g1 (.inr w2), bound _ u.2 _ l1 g2 (.inl w1)⟩
theorem Bas.turn {N : Nat} {L : Int} {V : List IR} {u v : P2} (h : Vok N L V) (b : Bas N L V u v) : Bas N L V v (0 - u.1, 0 - u.2) where
  det := by
    have := b.det
    show v.1 * (0 - u.2) - v.2 * (0 - u.1) = 1
    grind
  wu := b.wv
  wv := by
    have := wd_neg (pts := V.map (sc L)) (fun z => h.ne (List.map_eq_nil_iff.mp z)) u
    rw [show (0 - u.1, 0 - u.2) = (-u.1, -u.2) by rw [Int.zero_sub, Int.zero_sub], this]
    exact b.wu
  deg := fun hd => by
    obtain ⟨g1, g2, g3, g4⟩ := b.deg hd
    refine ⟨g3, g4, ?_, ?_⟩
    · show (0 - u.1).natAbs ≤ _; omega
    · show (0 - u.2).natAbs ≤ _; omega
end Geo
set_option linter.all false
namespace Geo
/-! ### bounds of a direction on a region -/
def Bdd (rows : List IR) (f : P2) : Prop := ∀ d e, Opn (RR rows) d e → rdot f d e = 0
structure BdI (rows : List IR) (f : P2) (lo hi : Int) : Prop where
  ne : ∃ x y, In (RR rows) x y
  bd : Bdd rows f
  lo1 : ∀ x y, In (RR rows) x y → (lo : Rat) - 1 < rdot f x y
  lo2 : ∃ x y, In (RR rows) x y ∧ rdot f x y ≤ lo
  hi1 : ∀ x y, In (RR rows) x y → rdot f x y < (hi : Rat) + 1
  hi2 : ∃ x y, In (RR rows) x y ∧ (hi : Rat) ≤ rdot f x y
theorem rdot_int (f : P2) (x y : Int) : rdot f (x : Rat) (y : Rat) = ((f.1 * x + f.2 * y : Int) : Rat) := by
  unfold rdot
  rw [Rat.intCast_add, Rat.intCast_mul, Rat.intCast_mul]
theorem lt_one {a b : Int} (h : (a : Rat) - 1 < (b : Rat)) : a ≤ b := by
  have o : ((1 : Int) : Rat) = 1 := rfl
  rw [← o, ← Rat.intCast_sub, ilt] at h
  omega
theorem lt_one' {a b : Int} (h : (a : Rat) < (b : Rat) + 1) : a ≤ b := by
  have o : ((1 : Int) : Rat) = 1 := rfl
  rw [← o, ← Rat.intCast_add, ilt] at h
  omega
theorem BdI.whole {rows : List IR} {f : P2} {lo hi : Int} (h : BdI rows f lo hi) {x y : Int} (k : Has rows x y) : lo ≤ f.1 * x + f.2 * y ∧ f.1 * x + f.2 * y ≤ hi := by
  have hin := has_in.mp k
  have h1 := h.lo1 _ _ hin
  have h2 := h.hi1 _ _ hin
  rw [rdot_int] at h1 h2
  exact ⟨lt_one h1, lt_one' h2⟩
/-- on each whole line between there is a point -/
theorem mix {rows : List Row} {x y x2 y2 : Rat} (h1 : In rows x y) (h2 : In rows x2 y2) {t : Rat} (t0 : 0 ≤ t) (t1 : t ≤ 1) : In rows (x + t * (x2 - x)) (y + t * (y2 - y)) := fun r hr => by
  have a := Rat.mul_nonneg (show 0 ≤ 1 - t by grind) (show 0 ≤ r.c - (r.a * x + r.b * y) by have := h1 r hr; grind)
  have b := Rat.mul_nonneg t0 (show 0 ≤ r.c - (r.a * x2 + r.b * y2) by have := h2 r hr; grind)
  grind
theorem BdI.line {rows : List IR} {f : P2} {lo hi : Int} (h : BdI rows f lo hi) {T : Int} (h1 : lo ≤ T) (h2 : T ≤ hi) : ∃ x y, In (RR rows) x y ∧ rdot f x y = T := by
  obtain ⟨x, y, i1, l1⟩ := h.lo2
  obtain ⟨x2, y2, i2, l2⟩ := h.hi2
  have g1 : rdot f x y ≤ (T : Rat) := by
    have := ile.mpr h1
    grind
  have g2 : (T : Rat) ≤ rdot f x2 y2 := by
    have := ile.mpr h2
    grind
  rcases Classical.em (rdot f x y = (T : Rat)) with e | e
  · exact ⟨x, y, i1, e⟩
  · have hd : 0 < rdot f x2 y2 - rdot f x y := by grind
    obtain ⟨t, ht⟩ : ∃ t, t * (rdot f x2 y2 - rdot f x y) = T - rdot f x y := ⟨(T - rdot f x y) / (rdot f x2 y2 - rdot f x y), by grind⟩
    have t0 : 0 ≤ t := by
      rcases Classical.em (0 ≤ t) with k | k
      · exact k
      · have := Rat.mul_pos (show 0 < -t by grind) hd
        grind
    have t1 : t ≤ 1 := by
      rcases Classical.em (t ≤ 1) with k | k
      · exact k
      · have := Rat.mul_pos (show 0 < t - 1 by grind) hd
        grind
    refine ⟨_, _, mix i1 i2 t0 t1, ?_⟩
    unfold rdot at *
    grind
/-! ### a region whose rows are all along one direction -/
/-- row r is t times f -/
def Alg (f : P2) (r : IR) (t : Int) : Prop := r.1 = t * f.1 ∧ r.2.1 = t * f.2
theorem alg_uniq {f : P2} {r : IR} {t s : Int} (hf : f.1 ≠ 0 ∨ f.2 ≠ 0) (h : Alg f r t) (k : Alg f r s) : t = s := by
  rcases hf with z | z
  · exact Int.eq_of_mul_eq_mul_right z (h.1.symm.trans k.1)
  · exact Int.eq_of_mul_eq_mul_right z (h.2.symm.trans k.2)
def UpB (f : P2) (pre : List IR) : Option (Int × Int) → Prop
  | none => ∀ r ∈ pre, ∀ t, Alg f r t → t ≤ 0
  | some p => 0 < p.2 ∧ (∃ r ∈ pre, Alg f r p.2 ∧ r.2.2 = p.1) ∧ ∀ r ∈ pre, ∀ t, Alg f r t → 0 < t → p.1 * t ≤ r.2.2 * p.2
def DnB (f : P2) (pre : List IR) : Option (Int × Int) → Prop
  | none => ∀ r ∈ pre, ∀ t, Alg f r t → 0 ≤ t
  | some p => 0 < p.2 ∧ (∃ r ∈ pre, Alg f r (-p.2) ∧ r.2.2 = -p.1) ∧ ∀ r ∈ pre, ∀ t, Alg f r t → t < 0 → (-r.2.2) * p.2 ≤ p.1 * (-t)
theorem fr_trans {a b c d e f : Int} (hb : 0 < b) (hd : 0 < d) (hf : 0 < f) (h1 : a * d ≤ c * b) (h2 : c * f ≤ e * d) : a * f ≤ e * b := by
  have k1 := Int.mul_le_mul_of_nonneg_right h1 (Int.le_of_lt hf)
  have k2 := Int.mul_le_mul_of_nonneg_right h2 (Int.le_of_lt hb)
  refine Int.le_of_mul_le_mul_right (a := d) ?_ hd
  have e1 : a * f * d = a * d * f := by grind
  have e2 : e * b * d = e * d * b := by grind
  have e3 : c * b * f = c * f * b := by grind
  omega
section
variable {f : P2} {pre pre' : List IR} {r : IR} {t : Int} {p : Int × Int}
theorem UpB.skip {o : Option (Int × Int)} (h : UpB f pre o) (hm : ∀ q, q ∈ pre' ↔ q ∈ pre ∨ q = r) (hn : ∀ t, Alg f r t → t ≤ 0) : UpB f pre' o := by
  cases o with
  | none =>
    intro q hq
    rcases (hm q).mp hq with k | rfl
    · exact h q k
    · exact hn
  | some p =>
    obtain ⟨h1, ⟨q, hq, e⟩, h3⟩ := h
    refine ⟨h1, ⟨q, (hm q).mpr (.inl hq), e⟩, fun s hs t a z => ?_⟩
    rcases (hm s).mp hs with k | rfl
    · exact h3 s k t a z
    · have := hn t a
      omega
theorem DnB.skip {o : Option (Int × Int)} (h : DnB f pre o) (hm : ∀ q, q ∈ pre' ↔ q ∈ pre ∨ q = r) (hn : ∀ t, Alg f r t → 0 ≤ t) : DnB f pre' o := by
  cases o with
  | none =>
    intro q hq
    rcases (hm q).mp hq with k | rfl
    · exact h q k
    · exact hn
  | some p =>
    obtain ⟨h1, ⟨q, hq, e⟩, h3⟩ := h
    refine ⟨h1, ⟨q, (hm q).mpr (.inl hq), e⟩, fun s hs t a z => ?_⟩
    rcases (hm s).mp hs with k | rfl
    · exact h3 s k t a z
    · have := hn t a
      omega
variable (hf : f.1 ≠ 0 ∨ f.2 ≠ 0)
include hf
theorem UpB.one (h : UpB f pre none) (hm : ∀ q, q ∈ pre' ↔ q ∈ pre ∨ q = r) (ha : Alg f r t) (ht : 0 < t) : UpB f pre' (some (r.2.2, t)) :=
  ⟨ht, ⟨r, (hm r).mpr (.inr rfl), ha, rfl⟩, fun s hs u a z => by
    rcases (hm s).mp hs with k | rfl
    · have := h s k u a
      omega
    · rw [alg_uniq hf a ha]
      exact Int.le_refl _⟩
theorem DnB.one (h : DnB f pre none) (hm : ∀ q, q ∈ pre' ↔ q ∈ pre ∨ q = r) (ha : Alg f r t) (ht : t < 0) : DnB f pre' (some (0 - r.2.2, 0 - t)) :=
  ⟨by show 0 < 0 - t; omega, ⟨r, (hm r).mpr (.inr rfl), by rw [show -(0 - r.2.2, 0 - t).2 = t by show -(0 - t) = t; omega]; exact ha, by show r.2.2 = -(0 - r.2.2); omega⟩, fun s hs u a z => by
    rcases (hm s).mp hs with k | rfl
    · have := h s k u a
      omega
    · rw [alg_uniq hf a ha]
      show (-s.2.2) * (0 - t) ≤ (0 - s.2.2) * (-t)
      rw [show (0 - t) = -t by omega, show 0 - s.2.2 = -s.2.2 by omega]
      exact Int.le_refl _⟩
theorem UpB.less (h : UpB f pre (some p)) (hm : ∀ q, q ∈ pre' ↔ q ∈ pre ∨ q = r) (ha : Alg f r t) (ht : 0 < t) (hl : r.2.2 * p.2 < p.1 * t) : UpB f pre' (some (r.2.2, t)) := by
  obtain ⟨h1, h2, h3⟩ := h
  refine ⟨ht, ⟨r, (hm r).mpr (.inr rfl), ha, rfl⟩, fun s hs u a z => ?_⟩
  rcases (hm s).mp hs with k | rfl
  · exact fr_trans ht h1 z (Int.le_of_lt hl) (h3 s k u a z)
  · rw [alg_uniq hf a ha]
    exact Int.le_refl _
theorem UpB.keep (h : UpB f pre (some p)) (hm : ∀ q, q ∈ pre' ↔ q ∈ pre ∨ q = r) (ha : Alg f r t) (ht : 0 < t) (hl : ¬ r.2.2 * p.2 < p.1 * t) : UpB f pre' (some p) := by
  obtain ⟨h1, ⟨q, hq, e⟩, h3⟩ := h
  refine ⟨h1, ⟨q, (hm q).mpr (.inl hq), e⟩, fun s hs u a z => ?_⟩
  rcases (hm s).mp hs with k | rfl
  · exact h3 s k u a z
  · rw [alg_uniq hf a ha]
    omega
theorem DnB.less (h : DnB f pre (some p)) (hm : ∀ q, q ∈ pre' ↔ q ∈ pre ∨ q = r) (ha : Alg f r t) (ht : t < 0) (hl : p.1 * (0 - t) < (0 - r.2.2) * p.2) : DnB f pre' (some (0 - r.2.2, 0 - t)) := by
  obtain ⟨h1, h2, h3⟩ := h
  refine ⟨by show 0 < 0 - t; omega, ⟨r, (hm r).mpr (.inr rfl), by rw [show -(0 - r.2.2, 0 - t).2 = t by show -(0 - t) = t; omega]; exact ha, by show r.2.2 = -(0 - r.2.2); omega⟩, fun s hs u a z => ?_⟩
  rcases (hm s).mp hs with k | rfl
  · have := h3 s k u a z
    exact fr_trans (show 0 < -u by omega) h1 (show 0 < 0 - t by omega) this (Int.le_of_lt hl)
  · rw [alg_uniq hf a ha]
    show (-s.2.2) * (0 - t) ≤ (0 - s.2.2) * (-t)
    rw [show (0 - t) = -t by omega, show 0 - s.2.2 = -s.2.2 by omega]
    exact Int.le_refl _
theorem DnB.keep (h : DnB f pre (some p)) (hm : ∀ q, q ∈ pre' ↔ q ∈ pre ∨ q = r) (ha : Alg f r t) (ht : t < 0) (hl : ¬ p.1 * (0 - t) < (0 - r.2.2) * p.2) : DnB f pre' (some p) := by
  obtain ⟨h1, ⟨q, hq, e⟩, h3⟩ := h
  refine ⟨h1, ⟨q, (hm q).mpr (.inl hq), e⟩, fun s hs u a z => ?_⟩
  rcases (hm s).mp hs with k | rfl
  · exact h3 s k u a z
  · rw [alg_uniq hf a ha, show -s.2.2 = 0 - s.2.2 by omega, show -t = 0 - t by omega]
    omega
end
/-- rows that are all along f, or 0 -/
structure Along (rows : List IR) (f : P2) : Prop where
  all : ∀ r ∈ rows, ∃ t, Alg f r t ∧ (t = 0 → 0 ≤ r.2.2)
end Geo
set_option linter.all false
namespace Geo
/-! ### points on lines of a basis -/
end Geo
set_option linter.all false
namespace Geo
/-! ### the least whole value of a direction -/
theorem nat_ne {a b : Rat} (h : a ≠ 0 ∨ b ≠ 0) : 0 < a * a + b * b := sq_pos h
theorem nz_of {r : Row} {u v : Rat} (p : 0 < r.a * u + r.b * v) : nz r := by
  by_cases ha : r.a = 0
  · refine .inr fun hb => ?_
    rw [ha, hb] at p
    grind
  · exact .inl ha
theorem ev_turn {f g d e u v t : Rat} (h0 : ev f g u v = 0) (hf : ev f g d e < 0) : ev f g (d + t * u) (e + t * v) < 0 := by
  unfold ev at *
  have : t * (f * u + g * v) = 0 := by rw [h0]; grind
  grind
theorem par_mul {a b f g d e : Rat} (h : a * g = b * f) : (f * f + g * g) * (a * d + b * e) = (a * f + b * g) * (f * d + g * e) := by grind
theorem par_mul2 {a b f g p q : Rat} (h : a * g = b * f) (k : p * g = q * f) : (f * f + g * g) * (a * p + b * q) = (a * f + b * g) * (p * f + q * g) := by grind
theorem le_of_pos {s x : Rat} (hs : 0 < s) (h : 0 ≤ s * x) : 0 ≤ x := by
  rcases Classical.em (0 ≤ x) with k | k
  · exact k
  · have := Rat.mul_pos hs (show 0 < -x by grind)
    grind
/-- an open direction on which f goes down: one beside a row is such -/
theorem side_dn {rows : List Row} (hz : ∃ r ∈ rows, nz r) {f g d e : Rat} (ho : Opn rows d e) (hf : ev f g d e < 0) : ∃ r ∈ rows, nz r ∧ ∃ p q, Side r p q ∧ Opn rows p q ∧ ev f g p q < 0 := by
  have one : ∀ {r : Row}, r ∈ rows → nz r → ∀ {d e : Rat}, Opn rows d e → ev f g d e < 0 → r.a * d + r.b * e = 0 → ∃ r ∈ rows, nz r ∧ ∃ p q, Side r p q ∧ Opn rows p q ∧ ev f g p q < 0 := by
    intro r hr nzr d e ho hf ht
    have N := nat_ne nzr
    obtain ⟨s, e1, e2⟩ : ∃ s : Rat, d = s * (-r.b) ∧ e = s * r.a := ⟨(r.a * e - r.b * d) / (r.a * r.a + r.b * r.b), by
      have : (r.a * r.a + r.b * r.b) * d = (r.a * e - r.b * d) * (-r.b) := by grind
      have k : (r.a * r.a + r.b * r.b) * ((r.a * e - r.b * d) / (r.a * r.a + r.b * r.b)) = (r.a * e - r.b * d) := mdc N
      generalize (r.a * e - r.b * d) / (r.a * r.a + r.b * r.b) = z at *
      have h0 : (r.a * r.a + r.b * r.b) * (d - z * (-r.b)) = 0 := by grind
      have := mz N h0
      grind, by
      have : (r.a * r.a + r.b * r.b) * e = (r.a * e - r.b * d) * r.a := by grind
      have k : (r.a * r.a + r.b * r.b) * ((r.a * e - r.b * d) / (r.a * r.a + r.b * r.b)) = (r.a * e - r.b * d) := mdc N
      generalize (r.a * e - r.b * d) / (r.a * r.a + r.b * r.b) = z at *
      have h0 : (r.a * r.a + r.b * r.b) * (e - z * r.a) = 0 := by grind
      have := mz N h0
      grind⟩
    have sne : s ≠ 0 := fun z => by
      rw [z, Rat.zero_mul] at e1 e2
      unfold ev at hf
      rw [e1, e2] at hf
      grind
    rcases Classical.em (0 < s) with hs | hs
    · refine ⟨r, hr, nzr, -r.b, r.a, .inl ⟨rfl, rfl⟩, fun q hq => ?_, ?_⟩
      · have h1 := ho q hq
        rw [e1, e2] at h1
        have h2 : s * (q.a * (-r.b) + q.b * r.a) ≤ 0 := by grind
        rcases Classical.em (q.a * (-r.b) + q.b * r.a ≤ 0) with k | k
        · exact k
        · have := Rat.mul_pos hs (show 0 < q.a * (-r.b) + q.b * r.a by grind)
          grind
      · have h2 : s * ev f g (-r.b) r.a < 0 := by
          have h0 : ev f g d e = s * ev f g (-r.b) r.a := by unfold ev; rw [e1, e2]; grind
          rw [← h0]; exact hf
        rcases Classical.em (ev f g (-r.b) r.a < 0) with k | k
        · exact k
        · have := Rat.mul_nonneg (show 0 ≤ s by grind) (show 0 ≤ ev f g (-r.b) r.a by grind)
          grind
    · have hs' : 0 < -s := by grind
      refine ⟨r, hr, nzr, r.b, -r.a, .inr (.inl ⟨rfl, rfl⟩), fun q hq => ?_, ?_⟩
      · have h1 := ho q hq
        rw [e1, e2] at h1
        have h2 : (-s) * (q.a * r.b + q.b * (-r.a)) ≤ 0 := by grind
        rcases Classical.em (q.a * r.b + q.b * (-r.a) ≤ 0) with k | k
        · exact k
        · have := Rat.mul_pos hs' (show 0 < q.a * r.b + q.b * (-r.a) by grind)
          grind
      · have h2 : (-s) * ev f g r.b (-r.a) < 0 := by
          have h0 : ev f g d e = (-s) * ev f g r.b (-r.a) := by unfold ev; rw [e1, e2]; grind
          rw [← h0]; exact hf
        rcases Classical.em (ev f g r.b (-r.a) < 0) with k | k
        · exact k
        · have := Rat.mul_nonneg (show 0 ≤ -s by grind) (show 0 ≤ ev f g r.b (-r.a) by grind)
          grind
  have turn : ∀ {u v : Rat}, ev f g u v = 0 → (∃ r ∈ rows, 0 < r.a * u + r.b * v) → ∃ r ∈ rows, nz r ∧ ∃ p q, Side r p q ∧ Opn rows p q ∧ ev f g p q < 0 := by
    intro u v h0 hb
    obtain ⟨t, t0, ho', r, hr, p, ht⟩ := turn_on ho hb
    exact one hr (nz_of p) ho' (ev_turn h0 hf) ht
  by_cases b1 : ∃ r ∈ rows, 0 < r.a * (-g) + r.b * f
  · exact turn (by unfold ev; grind) b1
  by_cases b2 : ∃ r ∈ rows, 0 < r.a * g + r.b * (-f)
  · exact turn (by unfold ev; grind) b2
  have par : ∀ r ∈ rows, r.a * g = r.b * f := fun r hr => by
    have h1 : ¬ 0 < r.a * (-g) + r.b * f := fun z => b1 ⟨r, hr, z⟩
    have h2 : ¬ 0 < r.a * g + r.b * (-f) := fun z => b2 ⟨r, hr, z⟩
    grind
  clear one turn b1 b2
  have fne : f ≠ 0 ∨ g ≠ 0 := by
    by_cases h : f = 0
    · refine .inr fun h2 => ?_
      unfold ev at hf
      rw [h, h2] at hf
      clear par ho hz
      grind
    · exact .inl h
  have N := nat_ne fne
  have nn_ : ∀ r ∈ rows, 0 ≤ r.a * f + r.b * g := fun r hr => by
    have h1 := par_mul (d := d) (e := e) (par r hr)
    have h2 := ho r hr
    have h3 := Rat.mul_nonneg (Rat.le_of_lt N) (show 0 ≤ -(r.a * d + r.b * e) by clear par ho hz; grind)
    have hf' : 0 < -(f * d + g * e) := by unfold ev at hf; clear par ho hz; grind
    refine le_of_pos hf' ?_
    clear par ho hz
    grind
  obtain ⟨r, hr, nzr⟩ := hz
  have pr := par r hr
  have rp : 0 < r.a * f + r.b * g := by
    have h1 := nn_ r hr
    rcases Classical.em (r.a * f + r.b * g = 0) with k | k
    · exfalso
      have h2 : (f * f + g * g) * r.a = (r.a * f + r.b * g) * f := by clear par ho nn_ nzr; grind
      have h3 : (f * f + g * g) * r.b = (r.a * f + r.b * g) * g := by clear par ho nn_ nzr; grind
      rw [k, Rat.zero_mul] at h2 h3
      rcases nzr with z | z
      · exact z (mz N h2)
      · exact z (mz N h3)
    · clear par ho nn_ nzr
      grind
  refine ⟨r, hr, nzr, -r.a, -r.b, .inr (.inr ⟨rfl, rfl⟩), fun q hq => ?_, by unfold ev; clear par ho nn_ nzr; grind⟩
  have h1 := Rat.mul_nonneg (nn_ q hq) (Rat.le_of_lt rp)
  have e1 := par_mul2 (par q hq) pr
  have := le_of_pos N (show 0 ≤ (f * f + g * g) * (q.a * r.a + q.b * r.b) by rw [e1]; exact h1)
  clear par ho nn_ nzr
  grind
/-- .. in whole numbers -/
theorem iside_dn {rows : List IR} (hz : ∃ r ∈ rows, inz r) {f : P2} {d e : Rat} (ho : Opn (RR rows) d e) (hf : rdot f d e < 0) : ∃ r ∈ rows, inz r ∧ ∃ p : P2, iSide r p ∧ iOpn rows p ∧ f.1 * p.1 + f.2 * p.2 < 0 := by
  obtain ⟨r', hr', nzr, p, q, sd, op, lt⟩ := side_dn (rows := RR rows) (by
    obtain ⟨r, hr, z⟩ := hz
    exact ⟨toR r, List.mem_map.mpr ⟨r, hr, rfl⟩, nz_iff.mpr z⟩) (f := (f.1 : Rat)) (g := (f.2 : Rat)) ho hf
  obtain ⟨r, hr, rfl⟩ := List.mem_map.mp hr'
  have z := nz_iff.mp nzr
  obtain ⟨P, h1, h2, g, g0, e1, e2⟩ := side_int hr z sd op
  refine ⟨r, hr, z, P, h1, h2, ?_⟩
  apply ilt.mp
  have o : ((0 : Int) : Rat) = 0 := rfl
  rw [Rat.intCast_add, Rat.intCast_mul, Rat.intCast_mul, o]
  rw [e1, e2] at lt
  have k : g * ((f.1 : Rat) * P.1 + f.2 * P.2) < 0 := by unfold ev at lt; grind
  rcases Classical.em ((f.1 : Rat) * P.1 + f.2 * P.2 < 0) with c | c
  · exact c
  · have := Rat.mul_nonneg (Rat.le_of_lt g0) (show 0 ≤ (f.1 : Rat) * P.1 + f.2 * P.2 by grind)
    grind
/-- f goes down without end on no way -/
def Dn (rows : List IR) (f : P2) : Prop := ∀ d e, Opn (RR rows) d e → 0 ≤ rdot f d e
theorem dn_of {rows : List IR} {f : P2} (hz : ∃ r ∈ rows, inz r) (h : ∀ r ∈ rows, inz r → ∀ p : P2, iSide r p → iOpn rows p → 0 ≤ f.1 * p.1 + f.2 * p.2) : Dn rows f := fun d e ho => by
  rcases Classical.em (0 ≤ rdot f d e) with k | k
  · exact k
  · obtain ⟨r, hr, z, p, sd, op, lt⟩ := iside_dn hz ho (show rdot f d e < 0 by grind)
    have := h r hr z p sd op
    omega
theorem OD.dn {rows : List IR} {V : List P2} (od : OD rows V) (hz : ∃ r ∈ rows, inz r) {f : P2} (h : ∀ p ∈ V, 0 ≤ f.1 * p.1 + f.2 * p.2) : Dn rows f := dn_of hz fun r hr z p sd op => h p (od.all r hr z p sd op)
/-! how great the least value can be -/
structure Szs (rows : List IR) (A C : Int) : Prop where
  a : ∀ r ∈ rows, (-A ≤ r.1 ∧ r.1 ≤ A) ∧ -A ≤ r.2.1 ∧ r.2.1 ≤ A
  c : ∀ r ∈ rows, -C ≤ r.2.2 ∧ r.2.2 ≤ C
theorem Szs.up {rows : List IR} {A C C' : Int} (sz : Szs rows A C) (h : C ≤ C') : Szs rows A C' := ⟨sz.a, fun r hr => by have := sz.c r hr; omega⟩
end Geo
set_option linter.all false
namespace Geo
/-! ### how many whole points -/
def CntQ (P : Int → Int → Prop) (n : Nat) : Prop := ∃ L : List P2, L.Nodup ∧ (∀ p : P2, p ∈ L ↔ P p.1 p.2) ∧ L.length = n
section
variable {P Q : Int → Int → Prop} {n m : Nat}
theorem CntQ.congr (e : ∀ x y, P x y ↔ Q x y) (h : CntQ P n) : CntQ Q n := by
  obtain ⟨L, n1, m1, l1⟩ := h
  exact ⟨L, n1, fun p => (m1 p).trans (e _ _), l1⟩
theorem CntQ.zero (h : ∀ x y, ¬ P x y) : CntQ P 0 := ⟨[], List.nodup_nil, fun p => ⟨fun z => (by cases z), fun z => (h _ _ z).elim⟩, rfl⟩
/-- a sum over columns -/
def csum (f : Int → Int) (a : Int) : Nat → Int
  | 0 => 0
  | n + 1 => csum f a n + f (a + (n : Nat))
end
/-! rows that bound most, between corners -/
/-- turned over: y for -y -/
def fl (r : Row) : Row := ⟨r.a, -r.b, r.c⟩
def UpT (rows : List IR) (r : IR) (N D : Int) : Prop := r ∈ rows ∧ 0 < r.2.1 ∧ ∀ q ∈ rows, 0 < q.2.1 → (r.2.2 * D - r.1 * N) * q.2.1 ≤ (q.2.2 * D - q.1 * N) * r.2.1
def DnT (rows : List IR) (r : IR) (N D : Int) : Prop := r ∈ rows ∧ r.2.1 < 0 ∧ ∀ q ∈ rows, q.2.1 < 0 → (r.2.2 * D - r.1 * N) * (0 - q.2.1) ≤ (q.2.2 * D - q.1 * N) * (0 - r.2.1)
section
variable {rows V : List IR} {L one other : Int} {r : IR}
theorem rz : ((0 : Int) : Rat) = 0 := rfl
end
/-! stretches between corners -/
section
variable {rows V : List IR} {L one other : Int}
end
/-! few corners -/
end Geo
set_option Elab.async false
set_option linter.all false
set_option maxRecDepth 100000
set_option maxHeartbeats 4000000
set_option exponentiation.threshold 300
namespace LawW
open PySem PySem.Spec PyProof.Rows L2 QL
def topS (i : Nat) : Stmt := PySem.Challenge.pw_pointorstrip_k80_whole_composing.main.body.getD i (.Pass ⟨0, 0, 0, 0⟩)
abbrev s_TooLarge___init__ : Stmt := inClass (topS 4) 0
theorem sc_TooLarge___init__ : FnScope ["self", "number"] ["self", "number"] (defScope s_TooLarge___init__) := ⟨rfl, rfl, rfl, by decide +kernel, rfl, by decide +kernel, by decide +kernel⟩
abbrev s_is_number : Stmt := topS 6
theorem sc_is_number : FnScope ["value"] ["value"] (defScope s_is_number) := ⟨rfl, rfl, rfl, by decide +kernel, rfl, by decide +kernel, by decide +kernel⟩
abbrev s_Line___init__ : Stmt := inClass (topS 8) 0
theorem sc_Line___init__ : FnScope ["self", "a", "b", "m", "value"] ["self", "a", "b", "m"] (defScope s_Line___init__) := ⟨rfl, rfl, rfl, by decide +kernel, rfl, by decide +kernel, by decide +kernel⟩
abbrev s_Line___eq__ : Stmt := inClass (topS 8) 1
theorem sc_Line___eq__ : FnScope ["self", "other"] ["self", "other"] (defScope s_Line___eq__) := ⟨rfl, rfl, rfl, by decide +kernel, rfl, by decide +kernel, by decide +kernel⟩
abbrev s_Line_at : Stmt := inClass (topS 8) 3
theorem sc_Line_at : FnScope ["self", "x"] ["self", "x"] (defScope s_Line_at) := ⟨rfl, rfl, rfl, by decide +kernel, rfl, by decide +kernel, by decide +kernel⟩
abbrev s_Composed___init__ : Stmt := inClass (topS 11) 0
theorem sc_Composed___init__ : FnScope ["self", "line"] ["self", "line"] (defScope s_Composed___init__) := ⟨rfl, rfl, rfl, by decide +kernel, rfl, by decide +kernel, by decide +kernel⟩
abbrev s_Composed___bool__ : Stmt := inClass (topS 11) 1
theorem sc_Composed___bool__ : FnScope ["self"] ["self"] (defScope s_Composed___bool__) := ⟨rfl, rfl, rfl, by decide +kernel, rfl, by decide +kernel, by decide +kernel⟩
abbrev s_Composed_shows : Stmt := inClass (topS 11) 3
theorem sc_Composed_shows : FnScope ["self", "one", "other", "a", "m", "x"] ["self", "one", "other"] (defScope s_Composed_shows) := ⟨rfl, rfl, rfl, by decide +kernel, rfl, by decide +kernel, by decide +kernel⟩
abbrev s_Broken___init__ : Stmt := inClass (topS 12) 0
theorem sc_Broken___init__ : FnScope ["self", "x", "y"] ["self", "x", "y"] (defScope s_Broken___init__) := ⟨rfl, rfl, rfl, by decide +kernel, rfl, by decide +kernel, by decide +kernel⟩
abbrev s_Broken___bool__ : Stmt := inClass (topS 12) 1
theorem sc_Broken___bool__ : FnScope ["self"] ["self"] (defScope s_Broken___bool__) := ⟨rfl, rfl, rfl, by decide +kernel, rfl, by decide +kernel, by decide +kernel⟩
abbrev s_Broken_shows : Stmt := inClass (topS 12) 3
theorem sc_Broken_shows : FnScope ["self", "one", "other"] ["self", "one", "other"] (defScope s_Broken_shows) := ⟨rfl, rfl, rfl, by decide +kernel, rfl, by decide +kernel, by decide +kernel⟩
abbrev s_slope_of : Stmt := topS 13
theorem sc_slope_of : FnScope ["one", "other"] ["one", "other"] (defScope s_slope_of) := ⟨rfl, rfl, rfl, by decide +kernel, rfl, by decide +kernel, by decide +kernel⟩
abbrev s_both_at : Stmt := topS 14
theorem sc_both_at : FnScope ["one", "other", "x"] ["one", "other", "x"] (defScope s_both_at) := ⟨rfl, rfl, rfl, by decide +kernel, rfl, by decide +kernel, by decide +kernel⟩
abbrev s_needed : Stmt := topS 15
theorem sc_needed : FnScope ["one", "other", "x", "a", "m"] ["one", "other", "x"] (defScope s_needed) := ⟨rfl, rfl, rfl, by decide +kernel, rfl, by decide +kernel, by decide +kernel⟩
abbrev s_room : Stmt := topS 16
theorem sc_room : FnScope ["one", "other", "x"] ["one", "other", "x"] (defScope s_room) := ⟨rfl, rfl, rfl, by decide +kernel, rfl, by decide +kernel, by decide +kernel⟩
abbrev s_least_room : Stmt := topS 17
theorem sc_least_room : FnScope ["one", "other", "x"] ["one", "other"] (defScope s_least_room) := ⟨rfl, rfl, rfl, by decide +kernel, rfl, by decide +kernel, by decide +kernel⟩
abbrev s_check_period : Stmt := topS 18
theorem sc_check_period : FnScope ["one", "other"] ["one", "other"] (defScope s_check_period) := ⟨rfl, rfl, rfl, by decide +kernel, rfl, by decide +kernel, by decide +kernel⟩
abbrev s_compose : Stmt := topS 19
theorem sc_compose : FnScope ["one", "other", "a", "m", "asked", "x", "most", "least"] ["one", "other"] (defScope s_compose) := ⟨rfl, rfl, rfl, by decide +kernel, rfl, by decide +kernel, by decide +kernel⟩
abbrev s_nested : Stmt := topS 20
theorem sc_nested : FnScope ["lines", "found", "line", "told"] ["lines"] (defScope s_nested) := ⟨rfl, rfl, rfl, by decide +kernel, rfl, by decide +kernel, by decide +kernel⟩
abbrev s__law_number : Stmt := topS 22
theorem sc__law_number : FnScope ["script", "index", "cell", "turn", "rest", "step", "blend"] ["script", "index"] (defScope s__law_number) := ⟨rfl, rfl, rfl, by decide +kernel, rfl, by decide +kernel, by decide +kernel⟩
abbrev s__law_take : Stmt := topS 23
theorem sc__law_take : FnScope ["draw", "many"] ["draw", "many"] (defScope s__law_take) := ⟨rfl, rfl, rfl, by decide +kernel, rfl, by decide +kernel, by decide +kernel⟩
abbrev s__law_pick : Stmt := topS 24
theorem sc__law_pick : FnScope ["draw", "items"] ["draw", "items"] (defScope s__law_pick) := ⟨rfl, rfl, rfl, by decide +kernel, rfl, by decide +kernel, by decide +kernel⟩
abbrev s__law_long : Stmt := topS 25
theorem sc__law_long : FnScope ["draw", "figures", "found", "turn"] ["draw", "figures"] (defScope s__law_long) := ⟨rfl, rfl, rfl, by decide +kernel, rfl, by decide +kernel, by decide +kernel⟩
abbrev s__law_at : Stmt := topS 26
theorem sc__law_at : FnScope ["line", "x"] ["line", "x"] (defScope s__law_at) := ⟨rfl, rfl, rfl, by decide +kernel, rfl, by decide +kernel, by decide +kernel⟩
abbrev s__law_short_line : Stmt := topS 27
theorem sc__law_short_line : FnScope ["draw"] ["draw"] (defScope s__law_short_line) := ⟨rfl, rfl, rfl, by decide +kernel, rfl, by decide +kernel, by decide +kernel⟩
abbrev s__law_needed : Stmt := topS 28
theorem sc__law_needed : FnScope ["one", "other", "x", "m"] ["one", "other", "x"] (defScope s__law_needed) := ⟨rfl, rfl, rfl, by decide +kernel, rfl, by decide +kernel, by decide +kernel⟩
abbrev s__law_is_right : Stmt := topS 29
theorem sc__law_is_right : FnScope ["one", "other", "told", "m", "asked", "x"] ["one", "other", "told"] (defScope s__law_is_right) := ⟨rfl, rfl, rfl, by decide +kernel, rfl, by decide +kernel, by decide +kernel⟩
abbrev s__law_fault : Stmt := topS 30
theorem sc__law_fault : FnScope ["deed", "fault"] ["deed"] (defScope s__law_fault) := ⟨rfl, rfl, rfl, by decide +kernel, rfl, by decide +kernel, by decide +kernel⟩
abbrev s_law : Stmt := topS 31
theorem sc_law : FnScope ["script", "draw", "again", "one", "other", "first", "last", "told", "late", "turn", "x", "m", "rows", "b", "some", "whole", "a", "due", "value", "lines", "found", "many"] ["script"] (defScope s_law) := ⟨rfl, rfl, rfl, by decide +kernel, rfl, by decide +kernel, by decide +kernel⟩
set_option genInjectivity false in
structure Ad where
  c_Line : Addr
  c_Composed : Addr
  c_Broken : Addr
  c_TooLarge : Addr
  f_TooLarge___init__ : Addr
  d_TooLarge___init__ : FuncData
  f_is_number : Addr
  d_is_number : FuncData
  f_Line___init__ : Addr
  d_Line___init__ : FuncData
  f_Line___eq__ : Addr
  d_Line___eq__ : FuncData
  f_Line_at : Addr
  d_Line_at : FuncData
  f_Composed___init__ : Addr
  d_Composed___init__ : FuncData
  f_Composed___bool__ : Addr
  d_Composed___bool__ : FuncData
  f_Composed_shows : Addr
  d_Composed_shows : FuncData
  f_Broken___init__ : Addr
  d_Broken___init__ : FuncData
  f_Broken___bool__ : Addr
  d_Broken___bool__ : FuncData
  f_Broken_shows : Addr
  d_Broken_shows : FuncData
  f_slope_of : Addr
  d_slope_of : FuncData
  f_both_at : Addr
  d_both_at : FuncData
  f_needed : Addr
  d_needed : FuncData
  f_room : Addr
  d_room : FuncData
  f_least_room : Addr
  d_least_room : FuncData
  f_check_period : Addr
  d_check_period : FuncData
  f_compose : Addr
  d_compose : FuncData
  f_nested : Addr
  d_nested : FuncData
  f__law_number : Addr
  d__law_number : FuncData
  f__law_take : Addr
  d__law_take : FuncData
  f__law_pick : Addr
  d__law_pick : FuncData
  f__law_long : Addr
  d__law_long : FuncData
  f__law_at : Addr
  d__law_at : FuncData
  f__law_short_line : Addr
  d__law_short_line : FuncData
  f__law_needed : Addr
  d__law_needed : FuncData
  f__law_is_right : Addr
  d__law_is_right : FuncData
  f__law_fault : Addr
  d__law_fault : FuncData
  f_law : Addr
  d_law : FuncData
abbrev oLine (ad : Ad) (x0 x1 x2 : D) : D := .obj ad.c_Line ["a", "b", "m"] [x0, x1, x2]
abbrev oComposed (ad : Ad) (x0 : D) : D := .obj ad.c_Composed ["line"] [x0]
abbrev oBroken (ad : Ad) (x0 x1 : D) : D := .obj ad.c_Broken ["x", "y"] [x0, x1]
def At_a (ad : Ad) (C : Addr) : Prop := C = ad.c_Line
theorem at_Line_a {ad : Ad} : At_a ad ad.c_Line = True := eq_true (rfl)
theorem fq_Line_a {ad : Ad} {x0 x1 x2 : D} {P : D → Prop} : fldQ (At_a ad) "a" (oLine ad x0 x1 x2) P = P x0 := fldQ_hit (rfl) (fld_hit)
def At_b (ad : Ad) (C : Addr) : Prop := C = ad.c_Line
theorem at_Line_b {ad : Ad} : At_b ad ad.c_Line = True := eq_true (rfl)
theorem fq_Line_b {ad : Ad} {x0 x1 x2 : D} {P : D → Prop} : fldQ (At_b ad) "b" (oLine ad x0 x1 x2) P = P x1 := fldQ_hit (rfl) ((fld_miss (by decide +kernel)).trans (fld_hit))
def At_line (ad : Ad) (C : Addr) : Prop := C = ad.c_Composed
theorem at_Composed_line {ad : Ad} : At_line ad ad.c_Composed = True := eq_true (rfl)
theorem fq_Composed_line {ad : Ad} {x0 : D} {P : D → Prop} : fldQ (At_line ad) "line" (oComposed ad x0) P = P x0 := fldQ_hit (rfl) (fld_hit)
def At_m (ad : Ad) (C : Addr) : Prop := C = ad.c_Line
theorem at_Line_m {ad : Ad} : At_m ad ad.c_Line = True := eq_true (rfl)
theorem fq_Line_m {ad : Ad} {x0 x1 x2 : D} {P : D → Prop} : fldQ (At_m ad) "m" (oLine ad x0 x1 x2) P = P x2 := fldQ_hit (rfl) ((fld_miss (by decide +kernel)).trans ((fld_miss (by decide +kernel)).trans (fld_hit)))
def At_x (ad : Ad) (C : Addr) : Prop := C = ad.c_Broken
theorem at_Broken_x {ad : Ad} : At_x ad ad.c_Broken = True := eq_true (rfl)
theorem fq_Broken_x {ad : Ad} {x0 x1 : D} {P : D → Prop} : fldQ (At_x ad) "x" (oBroken ad x0 x1) P = P x0 := fldQ_hit (rfl) (fld_hit)
def At_y (ad : Ad) (C : Addr) : Prop := C = ad.c_Broken
theorem at_Broken_y {ad : Ad} : At_y ad ad.c_Broken = True := eq_true (rfl)
theorem fq_Broken_y {ad : Ad} {x0 x1 : D} {P : D → Prop} : fldQ (At_y ad) "y" (oBroken ad x0 x1) P = P x1 := fldQ_hit (rfl) ((fld_miss (by decide +kernel)).trans (fld_hit))
theorem pn_Line_a : putN "a" ([] : List Str) = (["a"] : List Str) := by decide +kernel
theorem px_Line_a { z : D} : putX "a" z ([] : List Str) [] = [z] := by
  rfl
theorem pn_Line_b : putN "b" (["a"] : List Str) = (["a", "b"] : List Str) := by decide +kernel
theorem px_Line_b {x0 z : D} : putX "b" z (["a"] : List Str) [x0] = [x0, z] := by
  rw [px_miss (by decide +kernel)]
  rfl
theorem pn_Line_m : putN "m" (["a", "b"] : List Str) = (["a", "b", "m"] : List Str) := by decide +kernel
theorem px_Line_m {x0 x1 z : D} : putX "m" z (["a", "b"] : List Str) [x0, x1] = [x0, x1, z] := by
  rw [px_miss (by decide +kernel), px_miss (by decide +kernel)]
  rfl
theorem pn_Composed_line : putN "line" ([] : List Str) = (["line"] : List Str) := by decide +kernel
theorem px_Composed_line { z : D} : putX "line" z ([] : List Str) [] = [z] := by
  rfl
theorem pn_Broken_x : putN "x" ([] : List Str) = (["x"] : List Str) := by decide +kernel
theorem px_Broken_x { z : D} : putX "x" z ([] : List Str) [] = [z] := by
  rfl
theorem pn_Broken_y : putN "y" (["x"] : List Str) = (["x", "y"] : List Str) := by decide +kernel
theorem px_Broken_y {x0 z : D} : putX "y" z (["x"] : List Str) [x0] = [x0, z] := by
  rw [px_miss (by decide +kernel)]
  rfl
theorem oq_Line_at {ad : Ad} {x0 x1 x2 : D} {R : Prop} : objQ ad.c_Line "at" (oLine ad x0 x1 x2) R = R := objQ_hit ((fld_miss (by decide +kernel)).trans ((fld_miss (by decide +kernel)).trans ((fld_miss (by decide +kernel)).trans (rfl))))
theorem oq_Composed_shows {ad : Ad} {x0 : D} {R : Prop} : objQ ad.c_Composed "shows" (oComposed ad x0) R = R := objQ_hit ((fld_miss (by decide +kernel)).trans (rfl))
theorem oq_Broken_shows {ad : Ad} {x0 x1 : D} {R : Prop} : objQ ad.c_Broken "shows" (oBroken ad x0 x1) R = R := objQ_hit ((fld_miss (by decide +kernel)).trans ((fld_miss (by decide +kernel)).trans (rfl)))
structure Tx (K : PySem.W.Frag) (mg : Str → Option Value) (ad : Ad) : Prop where
  n_bool : mg "bool" = none
  n_int : mg "int" = none
  n_isinstance : mg "isinstance" = none
  n_len : mg "len" = none
  n_max : mg "max" = none
  n_min : mg "min" = none
  n_range : mg "range" = none
  g_MOST_PERIOD : ∃ t, mg "MOST_PERIOD" = some (.int 3000 t)
  g_Line : mg "Line" = some (.ref ad.c_Line)
  cl_Line : Cls K ad.c_Line
  na_Line_a : NoAttr K ad.c_Line "a"
  na_Line_b : NoAttr K ad.c_Line "b"
  na_Line_m : NoAttr K ad.c_Line "m"
  mk_Line : Mk K ad.c_Line ad.f_Line___init__
  isc_Line : IsC K ad.c_Line
  i_Line_Line : PySem.W.kitOne K (.ref ad.c_Line) (.ref ad.c_Line) = some true
  i_Line_Broken : PySem.W.kitOne K (.ref ad.c_Line) (.ref ad.c_Broken) = some false
  i_Line_Composed : PySem.W.kitOne K (.ref ad.c_Line) (.ref ad.c_Composed) = some false
  g_Composed : mg "Composed" = some (.ref ad.c_Composed)
  cl_Composed : Cls K ad.c_Composed
  na_Composed_line : NoAttr K ad.c_Composed "line"
  mk_Composed : Mk K ad.c_Composed ad.f_Composed___init__
  isc_Composed : IsC K ad.c_Composed
  i_Composed_Line : PySem.W.kitOne K (.ref ad.c_Composed) (.ref ad.c_Line) = some false
  i_Composed_Broken : PySem.W.kitOne K (.ref ad.c_Composed) (.ref ad.c_Broken) = some false
  i_Composed_Composed : PySem.W.kitOne K (.ref ad.c_Composed) (.ref ad.c_Composed) = some true
  g_Broken : mg "Broken" = some (.ref ad.c_Broken)
  cl_Broken : Cls K ad.c_Broken
  na_Broken_x : NoAttr K ad.c_Broken "x"
  na_Broken_y : NoAttr K ad.c_Broken "y"
  mk_Broken : Mk K ad.c_Broken ad.f_Broken___init__
  isc_Broken : IsC K ad.c_Broken
  i_Broken_Line : PySem.W.kitOne K (.ref ad.c_Broken) (.ref ad.c_Line) = some false
  i_Broken_Broken : PySem.W.kitOne K (.ref ad.c_Broken) (.ref ad.c_Broken) = some true
  i_Broken_Composed : PySem.W.kitOne K (.ref ad.c_Broken) (.ref ad.c_Composed) = some false
  g_TooLarge : mg "TooLarge" = some (.ref ad.c_TooLarge)
  ox_TooLarge : OexC K ad.c_TooLarge
  ix_TooLarge : PySem.W.findIn K (.ref ad.c_TooLarge) "__init__" = some (some (.ref ad.f_TooLarge___init__))
  jx_TooLarge : PySem.W.typeIn K (.ref ad.f_TooLarge___init__) = some (.type "function")
  xf_TooLarge : XfC K ad.c_TooLarge
  no_TooLarge_number : PySem.W.findIn K (.ref ad.c_TooLarge) "number" = some none
  xm_TooLarge_TooLarge : PySem.W.exmOne K (.ref ad.c_TooLarge) (.ref ad.c_TooLarge) = some true
  q_Line : EqC K ad.c_Line ad.f_Line___eq__
  nf_Line_Line : PySem.W.notFirst K ad.c_Line (.ref ad.c_Line) = true
  me_Line_at : Meth K ad.c_Line "at" ad.f_Line_at
  me_Composed___bool__ : Meth K ad.c_Composed "__bool__" ad.f_Composed___bool__
  me_Composed_shows : Meth K ad.c_Composed "shows" ad.f_Composed_shows
  me_Broken___bool__ : Meth K ad.c_Broken "__bool__" ad.f_Broken___bool__
  me_Broken_shows : Meth K ad.c_Broken "shows" ad.f_Broken_shows
  F_TooLarge___init__ : Fun K "__init__" "TooLarge.__init__" s_TooLarge___init__ ad.f_TooLarge___init__ ad.d_TooLarge___init__
  b_TooLarge___init__ : Binds K ad.d_TooLarge___init__ ["self", "number"] []
  k_TooLarge___init__ : PySem.W.keepIn K (.ref ad.f_TooLarge___init__) = true
  F_is_number : Fun K "is_number" "is_number" s_is_number ad.f_is_number ad.d_is_number
  b_is_number : Binds K ad.d_is_number ["value"] []
  k_is_number : PySem.W.keepIn K (.ref ad.f_is_number) = true
  g_is_number : mg "is_number" = some (.ref ad.f_is_number)
  F_Line___init__ : Fun K "__init__" "Line.__init__" s_Line___init__ ad.f_Line___init__ ad.d_Line___init__
  b_Line___init__ : Binds K ad.d_Line___init__ ["self", "a", "b", "m"] []
  k_Line___init__ : PySem.W.keepIn K (.ref ad.f_Line___init__) = true
  F_Line___eq__ : Fun K "__eq__" "Line.__eq__" s_Line___eq__ ad.f_Line___eq__ ad.d_Line___eq__
  b_Line___eq__ : Binds K ad.d_Line___eq__ ["self", "other"] []
  k_Line___eq__ : PySem.W.keepIn K (.ref ad.f_Line___eq__) = true
  F_Line_at : Fun K "at" "Line.at" s_Line_at ad.f_Line_at ad.d_Line_at
  b_Line_at : Binds K ad.d_Line_at ["self", "x"] []
  k_Line_at : PySem.W.keepIn K (.ref ad.f_Line_at) = true
  F_Composed___init__ : Fun K "__init__" "Composed.__init__" s_Composed___init__ ad.f_Composed___init__ ad.d_Composed___init__
  b_Composed___init__ : Binds K ad.d_Composed___init__ ["self", "line"] []
  k_Composed___init__ : PySem.W.keepIn K (.ref ad.f_Composed___init__) = true
  F_Composed___bool__ : Fun K "__bool__" "Composed.__bool__" s_Composed___bool__ ad.f_Composed___bool__ ad.d_Composed___bool__
  b_Composed___bool__ : Binds K ad.d_Composed___bool__ ["self"] []
  k_Composed___bool__ : PySem.W.keepIn K (.ref ad.f_Composed___bool__) = true
  F_Composed_shows : Fun K "shows" "Composed.shows" s_Composed_shows ad.f_Composed_shows ad.d_Composed_shows
  b_Composed_shows : Binds K ad.d_Composed_shows ["self", "one", "other"] []
  k_Composed_shows : PySem.W.keepIn K (.ref ad.f_Composed_shows) = true
  F_Broken___init__ : Fun K "__init__" "Broken.__init__" s_Broken___init__ ad.f_Broken___init__ ad.d_Broken___init__
  b_Broken___init__ : Binds K ad.d_Broken___init__ ["self", "x", "y"] []
  k_Broken___init__ : PySem.W.keepIn K (.ref ad.f_Broken___init__) = true
  F_Broken___bool__ : Fun K "__bool__" "Broken.__bool__" s_Broken___bool__ ad.f_Broken___bool__ ad.d_Broken___bool__
  b_Broken___bool__ : Binds K ad.d_Broken___bool__ ["self"] []
  k_Broken___bool__ : PySem.W.keepIn K (.ref ad.f_Broken___bool__) = true
  F_Broken_shows : Fun K "shows" "Broken.shows" s_Broken_shows ad.f_Broken_shows ad.d_Broken_shows
  b_Broken_shows : Binds K ad.d_Broken_shows ["self", "one", "other"] []
  k_Broken_shows : PySem.W.keepIn K (.ref ad.f_Broken_shows) = true
  F_slope_of : Fun K "slope_of" "slope_of" s_slope_of ad.f_slope_of ad.d_slope_of
  b_slope_of : Binds K ad.d_slope_of ["one", "other"] []
  k_slope_of : PySem.W.keepIn K (.ref ad.f_slope_of) = true
  g_slope_of : mg "slope_of" = some (.ref ad.f_slope_of)
  F_both_at : Fun K "both_at" "both_at" s_both_at ad.f_both_at ad.d_both_at
  b_both_at : Binds K ad.d_both_at ["one", "other", "x"] []
  k_both_at : PySem.W.keepIn K (.ref ad.f_both_at) = true
  g_both_at : mg "both_at" = some (.ref ad.f_both_at)
  F_needed : Fun K "needed" "needed" s_needed ad.f_needed ad.d_needed
  b_needed : Binds K ad.d_needed ["one", "other", "x"] []
  k_needed : PySem.W.keepIn K (.ref ad.f_needed) = true
  g_needed : mg "needed" = some (.ref ad.f_needed)
  F_room : Fun K "room" "room" s_room ad.f_room ad.d_room
  b_room : Binds K ad.d_room ["one", "other", "x"] []
  k_room : PySem.W.keepIn K (.ref ad.f_room) = true
  g_room : mg "room" = some (.ref ad.f_room)
  F_least_room : Fun K "least_room" "least_room" s_least_room ad.f_least_room ad.d_least_room
  b_least_room : Binds K ad.d_least_room ["one", "other"] []
  k_least_room : PySem.W.keepIn K (.ref ad.f_least_room) = true
  g_least_room : mg "least_room" = some (.ref ad.f_least_room)
  F_check_period : Fun K "check_period" "check_period" s_check_period ad.f_check_period ad.d_check_period
  b_check_period : Binds K ad.d_check_period ["one", "other"] []
  k_check_period : PySem.W.keepIn K (.ref ad.f_check_period) = true
  g_check_period : mg "check_period" = some (.ref ad.f_check_period)
  F_compose : Fun K "compose" "compose" s_compose ad.f_compose ad.d_compose
  b_compose : Binds K ad.d_compose ["one", "other"] []
  k_compose : PySem.W.keepIn K (.ref ad.f_compose) = true
  g_compose : mg "compose" = some (.ref ad.f_compose)
  F_nested : Fun K "nested" "nested" s_nested ad.f_nested ad.d_nested
  b_nested : Binds K ad.d_nested ["lines"] []
  k_nested : PySem.W.keepIn K (.ref ad.f_nested) = true
  g_nested : mg "nested" = some (.ref ad.f_nested)
  F__law_number : Fun K "_law_number" "_law_number" s__law_number ad.f__law_number ad.d__law_number
  b__law_number : Binds K ad.d__law_number ["script", "index"] []
  k__law_number : PySem.W.keepIn K (.ref ad.f__law_number) = true
  g__law_number : mg "_law_number" = some (.ref ad.f__law_number)
  F__law_take : Fun K "_law_take" "_law_take" s__law_take ad.f__law_take ad.d__law_take
  b__law_take : Binds K ad.d__law_take ["draw", "many"] []
  k__law_take : PySem.W.keepIn K (.ref ad.f__law_take) = true
  g__law_take : mg "_law_take" = some (.ref ad.f__law_take)
  F__law_pick : Fun K "_law_pick" "_law_pick" s__law_pick ad.f__law_pick ad.d__law_pick
  b__law_pick : Binds K ad.d__law_pick ["draw", "items"] []
  k__law_pick : PySem.W.keepIn K (.ref ad.f__law_pick) = true
  g__law_pick : mg "_law_pick" = some (.ref ad.f__law_pick)
  F__law_long : Fun K "_law_long" "_law_long" s__law_long ad.f__law_long ad.d__law_long
  b__law_long : Binds K ad.d__law_long ["draw", "figures"] []
  k__law_long : PySem.W.keepIn K (.ref ad.f__law_long) = true
  g__law_long : mg "_law_long" = some (.ref ad.f__law_long)
  F__law_at : Fun K "_law_at" "_law_at" s__law_at ad.f__law_at ad.d__law_at
  b__law_at : Binds K ad.d__law_at ["line", "x"] []
  k__law_at : PySem.W.keepIn K (.ref ad.f__law_at) = true
  g__law_at : mg "_law_at" = some (.ref ad.f__law_at)
  F__law_short_line : Fun K "_law_short_line" "_law_short_line" s__law_short_line ad.f__law_short_line ad.d__law_short_line
  b__law_short_line : Binds K ad.d__law_short_line ["draw"] []
  k__law_short_line : PySem.W.keepIn K (.ref ad.f__law_short_line) = true
  g__law_short_line : mg "_law_short_line" = some (.ref ad.f__law_short_line)
  F__law_needed : Fun K "_law_needed" "_law_needed" s__law_needed ad.f__law_needed ad.d__law_needed
  b__law_needed : Binds K ad.d__law_needed ["one", "other", "x"] []
  k__law_needed : PySem.W.keepIn K (.ref ad.f__law_needed) = true
  g__law_needed : mg "_law_needed" = some (.ref ad.f__law_needed)
  F__law_is_right : Fun K "_law_is_right" "_law_is_right" s__law_is_right ad.f__law_is_right ad.d__law_is_right
  b__law_is_right : Binds K ad.d__law_is_right ["one", "other", "told"] []
  k__law_is_right : PySem.W.keepIn K (.ref ad.f__law_is_right) = true
  g__law_is_right : mg "_law_is_right" = some (.ref ad.f__law_is_right)
  F__law_fault : Fun K "_law_fault" "_law_fault" s__law_fault ad.f__law_fault ad.d__law_fault
  b__law_fault : Binds K ad.d__law_fault ["deed"] []
  k__law_fault : PySem.W.keepIn K (.ref ad.f__law_fault) = true
  g__law_fault : mg "_law_fault" = some (.ref ad.f__law_fault)
  F_law : Fun K "law" "law" s_law ad.f_law ad.d_law
  b_law : Binds K ad.d_law ["script"] []
  k_law : PySem.W.keepIn K (.ref ad.f_law) = true
  g_law : mg "law" = some (.ref ad.f_law)
variable {P : Program} {w : World} {K : PySem.W.Frag} {mg : Str → Option Value} {base : Heap} {ad : Ad}
theorem hf_a (T : Tx K mg ad) : HasF K (At_a ad) "a" := fun C h => by
  rcases h with rfl
  · exact ⟨T.cl_Line, T.na_Line_a⟩
theorem hf_b (T : Tx K mg ad) : HasF K (At_b ad) "b" := fun C h => by
  rcases h with rfl
  · exact ⟨T.cl_Line, T.na_Line_b⟩
theorem hf_line (T : Tx K mg ad) : HasF K (At_line ad) "line" := fun C h => by
  rcases h with rfl
  · exact ⟨T.cl_Composed, T.na_Composed_line⟩
theorem hf_m (T : Tx K mg ad) : HasF K (At_m ad) "m" := fun C h => by
  rcases h with rfl
  · exact ⟨T.cl_Line, T.na_Line_m⟩
theorem hf_x (T : Tx K mg ad) : HasF K (At_x ad) "x" := fun C h => by
  rcases h with rfl
  · exact ⟨T.cl_Broken, T.na_Broken_x⟩
theorem hf_y (T : Tx K mg ad) : HasF K (At_y ad) "y" := fun C h => by
  rcases h with rfl
  · exact ⟨T.cl_Broken, T.na_Broken_y⟩
def Ax_number (ad : Ad) (C : Addr) : Prop := C = ad.c_TooLarge
theorem hx_number (T : Tx K mg ad) : HasX K (Ax_number ad) "number" := fun C h => by
  rcases h with rfl
  · exact ⟨T.xf_TooLarge, T.no_TooLarge_number⟩
theorem ax_TooLarge_number {ad : Ad} : Ax_number ad ad.c_TooLarge = True := eq_true (rfl)
def Drw (d : D) : Prop := ∃ (ns : List Int) (k : Int), ns.length ≤ 63 ∧ d = .lst [.scr ns, .int k]
def S_number : FA := fun ds Q _ => match ds with
  | [.scr ns, .int _] => ns.length ≤ 63 ∧ ∀ r, Q (.int r)
  | _ => False
def M_take : FB := fun d0 ds Q _ => match ds with
  | [.int many] => Drw d0 ∧ 0 < many ∧ ∀ r d', 0 ≤ r → r < many → Drw d' → Q (.int r) d'
  | _ => False
def M_pick : FB := fun d0 ds Q _ => match ds with
  | [.lst xs] => Drw d0 ∧ (0 < xs.length ∧ xs.length ≤ 1000) ∧ ∀ r d', r ∈ xs → Drw d' → Q r d'
  | _ => False
def M_long : FB := fun d0 ds Q _ => match ds with
  | [.int f] => Drw d0 ∧ (0 ≤ f ∧ f ≤ 1000) ∧ ∀ r d', r.natAbs < 10 ^ f.toNat → Drw d' → Q (.int r) d'
  | _ => False
def S_law : FA := fun ds Q _ => ∃ ns, ds = [.scr ns] ∧ ns.length ≤ 63 ∧ Q (.bl true)
def S_num : FA := fun ds Q _ => match ds with
  | [d] => ∃ i, d = .int i ∧ Q (.bl true)
  | _ => False
def Sm (n : Nat) (i : Int) : Prop := i.natAbs < 2 ^ n
theorem u_number {ns : List Int} {i : Int} {Q E : D → Prop} : S_number [.scr ns, .int i] Q E = (ns.length ≤ 63 ∧ ∀ r, Q (.int r)) := rfl
theorem u_take {d0 : D} {i : Int} {Q E : D → D → Prop} : M_take d0 [.int i] Q E = (Drw d0 ∧ 0 < i ∧ ∀ r d', 0 ≤ r → r < i → Drw d' → Q (.int r) d') := rfl
theorem u_pick {d0 : D} {xs : List D} {Q E : D → D → Prop} : M_pick d0 [.lst xs] Q E = (Drw d0 ∧ (0 < xs.length ∧ xs.length ≤ 1000) ∧ ∀ r d', r ∈ xs → Drw d' → Q r d') := rfl
theorem u_long {d0 : D} {f : Int} {Q E : D → D → Prop} : M_long d0 [.int f] Q E = (Drw d0 ∧ (0 ≤ f ∧ f ≤ 1000) ∧ ∀ r d', r.natAbs < 10 ^ f.toNat → Drw d' → Q (.int r) d') := rfl
theorem u_numI {i : Int} {Q E : D → Prop} : S_num [.int i] Q E = Q (.bl true) := propext ⟨fun ⟨_, _, q⟩ => q, fun q => ⟨_, rfl, q⟩⟩
def rowD (r : Geo.IR) : D := .tup [.int r.1, .int r.2.1, .int r.2.2]
abbrev rowsD (rows : List Geo.IR) : D := .tup (rows.map rowD)
abbrev rowsL (rows : List Geo.IR) : D := .lst (rows.map rowD)
structure BZ (a b g x y : Int) : Prop where
  gcd : g = Int.gcd a b
  eq : a * x + b * y = g
  sx : x.natAbs ≤ max 1 b.natAbs
  sy : y.natAbs ≤ max 1 a.natAbs
def S_bezout : FA := fun ds Q _ => match ds with
  | [.int a, .int b] => (Sm 8990 a ∧ Sm 8990 b) ∧ ∀ g x y, BZ a b g x y → Q (.tup [.int g, .int x, .int y])
  | _ => False
def S_turned : FA := fun ds Q _ => match ds with
  | [.tup (.int a :: .int b :: _), .tup (.int c :: .int d :: _)] => (MOk a d ∧ MOk b c) ∧ Q (.int (a * d - b * c))
  | _ => False
def S_keeps : FA := fun ds Q _ => match ds with
  | [.tup [.int a, .int b, .int c], .tup [.int x, .int y, .int d]] => (MOk a x ∧ MOk b y ∧ MOk c d) ∧ Q (.bl (decide (a * x + b * y ≤ c * d)))
  | _ => False
def S_above : FA := fun ds Q _ => match ds with
  | [.int a, .int b] => DOk b ∧ Q (.int (0 - (0 - a) / b))
  | _ => False
theorem Sm.le {n : Nat} {i j : Int} (h : Sm n j) (k : i.natAbs ≤ j.natAbs) : Sm n i := Nat.lt_of_le_of_lt k h
theorem Sm.up {n m : Nat} {i : Int} (h : Sm n i) (k : n ≤ m) : Sm m i := bd_mono h k
theorem sm_mul {n m : Nat} {i j : Int} (h : Sm n i) (k : Sm m j) : Sm (n + m) (i * j) := bd_mul h k
theorem sm_add {n m : Nat} {i j : Int} (h : Sm n i) (k : Sm m j) : Sm (max n m + 1) (i + j) := bd_add h k
theorem sm_sub {n m : Nat} {i j : Int} (h : Sm n i) (k : Sm m j) : Sm (max n m + 1) (i - j) := bd_sub h k
def S_wdiv : FA := fun ds Q _ => match ds with
  | [.int a, .int b] => (Sm 8990 a ∧ Sm 8990 b ∧ (a ≠ 0 ∨ b ≠ 0)) ∧ Q (.tup [.int (a / Int.gcd a b), .int (b / Int.gcd a b)])
  | _ => False
/-- a point that corner makes: its parts are no longer than these -/
structure MeetB (r q p : Geo.IR) : Prop where
  m : Geo.Meet r q p
  x : p.1.natAbs ≤ (r.2.2 * q.2.1 - q.2.2 * r.2.1).natAbs
  y : p.2.1.natAbs ≤ (r.1 * q.2.2 - q.1 * r.2.2).natAbs
  d : p.2.2.natAbs ≤ (Geo.idet r q).natAbs
def SmR (n : Nat) (r : Geo.IR) : Prop := Sm n r.1 ∧ Sm n r.2.1 ∧ Sm n r.2.2
def S_corner : FA := fun ds Q _ => match ds with
  | [.tup [.int a, .int b, .int c], .tup [.int d, .int e, .int f]] => (SmR 400 (a, b, c) ∧ SmR 400 (d, e, f)) ∧ (Geo.idet (a, b, c) (d, e, f) = 0 → Q .non) ∧ (Geo.idet (a, b, c) (d, e, f) ≠ 0 → ∀ p : Geo.IR, MeetB (a, b, c) (d, e, f) p → Q (rowD p))
  | _ => False
theorem gcd_pos {a b : Int} (h : a ≠ 0 ∨ b ≠ 0) : 0 < (Int.gcd a b : Int) := by
  have : 0 < Int.gcd a b := Int.gcd_pos_iff.mpr h
  omega
/-! a row as a datum -/
theorem k_rowT {p : Geo.IR} {gs : RGs} {env : List Slot} {P : List Slot → Prop} : rgT 3 gs (rowD p) env P = gs [.int p.1, .int p.2.1, .int p.2.2] env P := propext ⟨fun h => h.2, fun h => ⟨rfl, h⟩⟩
theorem k_row0 {p : Geo.IR} {P : D → Prop} : vIx (rowD p) (.int 0) P = P (.int p.1) := e_ix0
theorem k_row1 {p : Geo.IR} {P : D → Prop} : vIx (rowD p) (.int 1) P = P (.int p.2.1) := e_ix1
theorem k_row2 {p : Geo.IR} {P : D → Prop} : vIx (rowD p) (.int 2) P = P (.int p.2.2) := e_ix2
theorem k_rowN {p : Geo.IR} {P : D → Prop} : vNotN (rowD p) .non P = P (.bl true) := rfl
theorem k_rowI {p : Geo.IR} {P : D → Prop} : vIsN (rowD p) .non P = P (.bl false) := rfl
theorem if_ff' {a b : Prop} : (if false = true then a else b) = b := if_neg (by decide)
theorem if_tt' {a b : Prop} : (if true = true then a else b) = a := if_pos rfl
/-! corners -/
def bt (r : Geo.IR) : Nat := max r.1.natAbs.log2 r.2.1.natAbs.log2 + 1
def wt (rows : List Geo.IR) : Nat := (rows.map bt).sum
def SmRs (n : Nat) (rows : List Geo.IR) : Prop := ∀ r ∈ rows, SmR n r
/-- the rows are of a size that can be gone through -/
structure Fit (rows : List Geo.IR) : Prop where
  len : rows.length ≤ 80
  sm : SmRs 400 rows
  wt : rows.length * (wt rows + rows.length) ≤ 8000
def prodD (V : List Geo.IR) : Nat := (V.map fun p => p.2.2.natAbs).prod
structure CrnsB (rows V : List Geo.IR) : Prop where
  crns : Geo.Crns rows V
  meet : ∀ p ∈ V, ∃ r ∈ rows, ∃ q ∈ rows, Geo.idet r q ≠ 0 ∧ MeetB r q p
  prod : prodD V ≤ 2 ^ 8000
  len : V.length ≤ 7000
def S_corners : FA := fun ds Q _ => match ds with
  | [.tup xs] => ∃ rows : List Geo.IR, xs = rows.map rowD ∧ Fit rows ∧ ∀ V, CrnsB rows V → Q (.lst (V.map rowD))
  | _ => False
abbrev keyP (p : Geo.IR) : List Int := [p.1, p.2.1, p.2.2]
theorem prod_snoc {V : List Geo.IR} {p : Geo.IR} : prodD (V ++ [p]) = prodD V * p.2.2.natAbs := by
  unfold prodD
  simp [List.prod_append]
theorem wt_take {rows : List Geo.IR} {i : Nat} {r : Geo.IR} (h : rows[i]? = some r) : wt (rows.take (i + 1)) = wt (rows.take i) + bt r := by
  unfold wt
  rw [List.take_add_one, h, List.map_append, List.sum_append]
  simp
/-- what stands behind i rows, and j more -/
structure Cnt (rows V : List Geo.IR) (i j : Nat) (b : Nat) : Prop where
  crn : ∀ p ∈ V, Geo.Crn rows p
  meet : ∀ p ∈ V, ∃ r ∈ rows, ∃ q ∈ rows, Geo.idet r q ≠ 0 ∧ MeetB r q p
  prod : prodD V ≤ 2 ^ (i * (wt (rows.take i) + i) + (j * b + wt (rows.take j) + j))
  len : V.length ≤ i * i + j
  all : ∀ i' j' : Nat, j' < i' → i' < i ∨ (i' = i ∧ j' < j) → ∀ r q, rows[i']? = some r → rows[j']? = some q → Geo.idet r q ≠ 0 → ∃ p, Geo.Meet r q p ∧ ((∀ s ∈ rows, Geo.Keep s p) → p ∈ V)
theorem Cnt.start {rows : List Geo.IR} : Cnt rows [] 0 0 0 where
  crn := fun p hp => by cases hp
  meet := fun p hp => by cases hp
  prod := Nat.one_le_two_pow
  len := by decide
  all := fun i' j' lt c => by omega
theorem Cnt.next {rows V : List Geo.IR} {i : Nat} {r : Geo.IR} (h : Cnt rows V i i (bt r)) (hi : rows[i]? = some r) (b : Nat) : Cnt rows V (i + 1) 0 b where
  crn := h.crn
  meet := h.meet
  prod := by
    refine Nat.le_trans h.prod (Nat.pow_le_pow_right (by decide) ?_)
    rw [wt_take hi, List.take_zero]
    show _ ≤ (i + 1) * (wt (rows.take i) + bt r + (i + 1)) + (0 * b + 0 + 0)
    grind
  len := by have := h.len; grind
  all := fun i' j' lt c => h.all i' j' lt (by omega)
theorem Cnt.skip {rows V : List Geo.IR} {i j b : Nat} (h : Cnt rows V i j b) {r q : Geo.IR} (hi : rows[i]? = some r) (hj : rows[j]? = some q) (ok : Geo.idet r q ≠ 0 → ∃ p, Geo.Meet r q p ∧ ((∀ s ∈ rows, Geo.Keep s p) → p ∈ V)) : Cnt rows V i (j + 1) b where
  crn := h.crn
  meet := h.meet
  prod := by
    refine Nat.le_trans h.prod (Nat.pow_le_pow_right (by decide) ?_)
    rw [wt_take hj]
    grind
  len := by have := h.len; omega
  all := fun i' j' lt c r' q' e1 e2 hd => by
    by_cases k : i' = i ∧ j' = j
    · obtain ⟨rfl, rfl⟩ := k
      rw [hi] at e1
      rw [hj] at e2
      cases e1
      cases e2
      exact ok hd
    · exact h.all i' j' lt (by omega) r' q' e1 e2 hd
theorem Cnt.fin {rows V : List Geo.IR} {b : Nat} (h : Cnt rows V rows.length 0 b) (f : Fit rows) : CrnsB rows V where
  crns := Geo.crns_of h.crn fun i j lt r q e1 e2 hd => h.all i j lt (.inl (List.getElem?_eq_some_iff.mp e1).1) r q e1 e2 hd
  meet := h.meet
  prod := by
    refine Nat.le_trans h.prod (Nat.pow_le_pow_right (by decide) ?_)
    rw [List.take_length, List.take_zero]
    have := f.wt
    show _ + (0 * b + 0 + 0) ≤ _
    omega
  len := by
    have := h.len
    have := Nat.mul_le_mul f.len f.len
    omega
/-! directions -/
abbrev prD (p : Geo.P2) : D := .tup [.int p.1, .int p.2]
abbrev keyQ (p : Geo.P2) : List Int := [p.1, p.2]
def SmP (n : Nat) (p : Geo.P2) : Prop := Sm n p.1 ∧ Sm n p.2
instance {rows : List Geo.IR} {d : Geo.P2} : Decidable (Geo.iOpn rows d) := inferInstanceAs (Decidable (∀ r ∈ rows, r.1 * d.1 + r.2.1 * d.2 ≤ 0))
def S_is_open : FA := fun ds Q _ => match ds with
  | [.tup xs, .tup [.int x, .int y]] => ∃ rows : List Geo.IR, xs = rows.map rowD ∧ (rows.length ≤ 80 ∧ SmRs 400 rows ∧ SmP 5000 (x, y)) ∧ Q (.bl (decide (Geo.iOpn rows (x, y))))
  | _ => False
/-- the open sides, as the program has them -/
structure ODB (rows : List Geo.IR) (V : List Geo.P2) : Prop where
  od : Geo.OD rows V
  len : V.length ≤ 240
  sm : ∀ d ∈ V, SmP 401 d
def S_opens : FA := fun ds Q _ => match ds with
  | [.tup xs] => ∃ rows : List Geo.IR, xs = rows.map rowD ∧ (rows.length ≤ 80 ∧ SmRs 400 rows) ∧ ∀ V, ODB rows V → Q (.lst (V.map prD))
  | _ => False
abbrev tw (a b : Geo.P2) : Int := a.1 * b.2 - a.2 * b.1
def S_is_wide : FA := fun ds Q _ => match ds with
  | [.lst xs] => ∃ (d : Geo.P2) (V : List Geo.P2), xs = (d :: V).map prD ∧ (V.length ≤ 240 ∧ SmP 401 d ∧ ∀ o ∈ V, SmP 401 o) ∧ Q (.bl (V.any fun o => decide (d.1 * o.2 - d.2 * o.1 ≠ 0)))
  | _ => False
def S_beside : FA := fun ds Q _ => match ds with
  | [.tup [.int a, .int b]] => SmP 8990 (a, b) ∧ ∀ g x y, BZ a b g x y → Q (.tup [.int (0 - y), .int x])
  | _ => False
def S_place : FA := fun ds Q _ => match ds with
  | [.tup [.tup [.int a, .int b], .tup [.int c, .int d]], .int f, .int s] => (MOk f d ∧ MOk s b ∧ MOk s a ∧ MOk f c) ∧ Q (.tup [.int (f * d - s * b), .int (s * a - f * c)])
  | _ => False
/-- a row on a line of a basis -/
def tms (u : Geo.P2) (r : Geo.IR) : Int := u.1 * r.2.1 - u.2 * r.1
def rst (v : Geo.P2) (f : Int) (r : Geo.IR) : Int := r.2.2 - (r.1 * v.2 - r.2.1 * v.1) * f
def OnL (rows : List Geo.IR) (u v : Geo.P2) (f s : Int) : Prop := ∀ r ∈ rows, tms u r * s ≤ rst v f r
structure Sec (rows : List Geo.IR) (u v : Geo.P2) (f s : Int) : Prop where
  ok : OnL rows u v f s
  lo : (∃ r ∈ rows, tms u r < 0) → ∀ s', OnL rows u v f s' → s ≤ s'
  hi : (∀ r ∈ rows, 0 ≤ tms u r) → (∃ r ∈ rows, 0 < tms u r) → ∀ s', OnL rows u v f s' → s' ≤ s
  no : (∀ r ∈ rows, tms u r = 0) → s = 0
  sm : Sm 14000 s
def S_whole_on : FA := fun ds Q _ => match ds with
  | [.tup xs, .tup [.tup [.int a, .int b], .tup [.int c, .int d]], .int f] => ∃ rows : List Geo.IR, xs = rows.map rowD ∧ (rows.length ≤ 80 ∧ SmRs 400 rows ∧ SmP 4100 (a, b) ∧ SmP 4100 (c, d) ∧ Sm 9000 f) ∧
      ((∀ s, ¬ OnL rows (a, b) (c, d) f s) → Q .non) ∧ ∀ s, Sec rows (a, b) (c, d) f s → Q (.tup [.int (f * d - s * b), .int (s * a - f * c)])
  | _ => False
/-- sides found so far -/
structure Odn (rows : List Geo.IR) (P : Geo.P2 → Prop) (V : List Geo.P2) (n : Nat) : Prop where
  mem : ∀ d ∈ V, Geo.iOpn rows d ∧ ∃ r ∈ rows, Geo.inz r ∧ Geo.iSide r d
  all : ∀ d, P d → Geo.iOpn rows d → d ∈ V
  len : V.length ≤ n
theorem Odn.no {rows : List Geo.IR} {P P' : Geo.P2 → Prop} {V : List Geo.P2} {n : Nat} (h : Odn rows P V n) (k : ∀ d, P' d → Geo.iOpn rows d → P d) : Odn rows P' V n := ⟨h.mem, fun d hd ho => h.all d (k d hd ho) ho, h.len⟩
theorem side_sm {r : Geo.IR} {n : Nat} (hs : SmR n r) {d : Geo.P2} (h : Geo.iSide r d) : SmP n d := by
  have key : ∀ x : Int, Sm n x → ∀ g : Int, (0 ≤ g) → Sm n (x / g) ∧ Sm n (0 - x / g) := fun x hx g hg => by
    have : (x / g).natAbs ≤ x.natAbs := Int.natAbs_ediv_le_natAbs x g
    exact ⟨Sm.le hx this, Sm.le hx (by omega)⟩
  have k1 := key r.1 hs.1 (Int.gcd r.1 r.2.1) (by omega)
  have k2 := key r.2.1 hs.2.1 (Int.gcd r.1 r.2.1) (by omega)
  rcases h with rfl | rfl | rfl
  · exact ⟨k2.2, k1.1⟩
  · exact ⟨k2.1, k1.2⟩
  · exact ⟨k1.2, k2.2⟩
theorem Odn.fin {rows : List Geo.IR} {V : List Geo.P2} {n : Nat} (h : Odn rows (fun d => ∃ r ∈ rows, Geo.inz r ∧ Geo.iSide r d) V n) (hs : SmRs 400 rows) (hn : n ≤ 240) : ODB rows V where
  od := ⟨h.mem, fun r hr hz d hd ho => h.all d ⟨r, hr, hz, hd⟩ ho⟩
  len := Nat.le_trans h.len hn
  sm := fun d hd => by
    obtain ⟨_, r, hr, hz, hi⟩ := h.mem d hd
    have := side_sm (hs r hr) hi
    exact ⟨this.1.up (by decide), this.2.up (by decide)⟩
theorem mem_take_succ {α : Type} {xs : List α} {i : Nat} {r q : α} (h : xs[i]? = some r) : q ∈ xs.take (i + 1) ↔ q ∈ xs.take i ∨ q = r := by
  rw [List.take_add_one, h]
  simp
theorem sz2 : (0 + 1 + 1 ≤ sizeLine) = True := eq_true (by decide)
theorem sz3 : (0 + 1 + 1 + 1 ≤ sizeLine) = True := eq_true (by decide)
def oD : Option Int → D
  | none => .non
  | some i => .int i
/-- the bound from below, of some rows -/
def LoB (u v : Geo.P2) (f : Int) (pre : List Geo.IR) : Option Int → Prop
  | none => ∀ r ∈ pre, ¬ tms u r < 0
  | some l => (∃ r ∈ pre, tms u r < 0) ∧ Sm 13900 l ∧ ∀ s, l ≤ s ↔ ∀ r ∈ pre, tms u r < 0 → tms u r * s ≤ rst v f r
def HiB (u v : Geo.P2) (f : Int) (pre : List Geo.IR) : Option Int → Prop
  | none => ∀ r ∈ pre, ¬ 0 < tms u r
  | some l => (∃ r ∈ pre, 0 < tms u r) ∧ Sm 13900 l ∧ ∀ s, s ≤ l ↔ ∀ r ∈ pre, 0 < tms u r → tms u r * s ≤ rst v f r
section
variable {u v : Geo.P2} {f : Int} {rows : List Geo.IR} {i : Nat} {r : Geo.IR}
theorem LoB.skip {lo : Option Int} (h : LoB u v f (rows.take i) lo) (hi : rows[i]? = some r) (ht : ¬ tms u r < 0) : LoB u v f (rows.take (i + 1)) lo := by
  cases lo with
  | none =>
    intro q hq
    rcases (mem_take_succ hi).mp hq with hq | rfl
    · exact h q hq
    · exact ht
  | some l =>
    obtain ⟨⟨q, hq, tq⟩, sm, k⟩ := h
    refine ⟨⟨q, (mem_take_succ hi).mpr (.inl hq), tq⟩, sm, fun s => ?_⟩
    rw [k s]
    constructor
    · intro g q hq tq
      rcases (mem_take_succ hi).mp hq with hq | rfl
      · exact g q hq tq
      · exact absurd tq ht
    · exact fun g q hq tq => g q ((mem_take_succ hi).mpr (.inl hq)) tq
theorem HiB.skip {lo : Option Int} (h : HiB u v f (rows.take i) lo) (hi : rows[i]? = some r) (ht : ¬ 0 < tms u r) : HiB u v f (rows.take (i + 1)) lo := by
  cases lo with
  | none =>
    intro q hq
    rcases (mem_take_succ hi).mp hq with hq | rfl
    · exact h q hq
    · exact ht
  | some l =>
    obtain ⟨⟨q, hq, tq⟩, sm, k⟩ := h
    refine ⟨⟨q, (mem_take_succ hi).mpr (.inl hq), tq⟩, sm, fun s => ?_⟩
    rw [k s]
    constructor
    · intro g q hq tq
      rcases (mem_take_succ hi).mp hq with hq | rfl
      · exact g q hq tq
      · exact absurd tq ht
    · exact fun g q hq tq => g q ((mem_take_succ hi).mpr (.inl hq)) tq
theorem LoB.one {l : Int} (h : LoB u v f (rows.take i) none) (hi : rows[i]? = some r) (ht : tms u r < 0) (sl : Sm 13900 l) (hl : ∀ s, l ≤ s ↔ tms u r * s ≤ rst v f r) : LoB u v f (rows.take (i + 1)) (some l) :=
  ⟨⟨r, (mem_take_succ hi).mpr (.inr rfl), ht⟩, sl, fun s => by
    rw [hl s]
    constructor
    · intro g q hq tq
      rcases (mem_take_succ hi).mp hq with hq | rfl
      · exact absurd tq (h q hq)
      · exact g
    · exact fun g => g r ((mem_take_succ hi).mpr (.inr rfl)) ht⟩
theorem HiB.one {l : Int} (h : HiB u v f (rows.take i) none) (hi : rows[i]? = some r) (ht : 0 < tms u r) (sl : Sm 13900 l) (hl : ∀ s, s ≤ l ↔ tms u r * s ≤ rst v f r) : HiB u v f (rows.take (i + 1)) (some l) :=
  ⟨⟨r, (mem_take_succ hi).mpr (.inr rfl), ht⟩, sl, fun s => by
    rw [hl s]
    constructor
    · intro g q hq tq
      rcases (mem_take_succ hi).mp hq with hq | rfl
      · exact absurd tq (h q hq)
      · exact g
    · exact fun g => g r ((mem_take_succ hi).mpr (.inr rfl)) ht⟩
theorem LoB.more {l0 l m : Int} (h : LoB u v f (rows.take i) (some l0)) (hi : rows[i]? = some r) (ht : tms u r < 0) (sl : Sm 13900 l) (hl : ∀ s, l ≤ s ↔ tms u r * s ≤ rst v f r) (hm : (m = l0 ∧ l ≤ l0) ∨ (m = l ∧ l0 ≤ l)) : LoB u v f (rows.take (i + 1)) (some m) := by
  obtain ⟨_, sm, k⟩ := h
  refine ⟨⟨r, (mem_take_succ hi).mpr (.inr rfl), ht⟩, by rcases hm with ⟨rfl, _⟩ | ⟨rfl, _⟩ <;> assumption, fun s => ?_⟩
  have e : m ≤ s ↔ l0 ≤ s ∧ l ≤ s := by omega
  rw [e, k s, hl s]
  constructor
  · rintro ⟨g1, g2⟩ q hq tq
    rcases (mem_take_succ hi).mp hq with hq | rfl
    · exact g1 q hq tq
    · exact g2
  · exact fun g => ⟨fun q hq tq => g q ((mem_take_succ hi).mpr (.inl hq)) tq, g r ((mem_take_succ hi).mpr (.inr rfl)) ht⟩
theorem HiB.more {l0 l m : Int} (h : HiB u v f (rows.take i) (some l0)) (hi : rows[i]? = some r) (ht : 0 < tms u r) (sl : Sm 13900 l) (hl : ∀ s, s ≤ l ↔ tms u r * s ≤ rst v f r) (hm : (m = l0 ∧ l0 ≤ l) ∨ (m = l ∧ l ≤ l0)) : HiB u v f (rows.take (i + 1)) (some m) := by
  obtain ⟨_, sm, k⟩ := h
  refine ⟨⟨r, (mem_take_succ hi).mpr (.inr rfl), ht⟩, by rcases hm with ⟨rfl, _⟩ | ⟨rfl, _⟩ <;> assumption, fun s => ?_⟩
  have e : s ≤ m ↔ s ≤ l0 ∧ s ≤ l := by omega
  rw [e, k s, hl s]
  constructor
  · rintro ⟨g1, g2⟩ q hq tq
    rcases (mem_take_succ hi).mp hq with hq | rfl
    · exact g1 q hq tq
    · exact g2
  · exact fun g => ⟨fun q hq tq => g q ((mem_take_succ hi).mpr (.inl hq)) tq, g r ((mem_take_succ hi).mpr (.inr rfl)) ht⟩
end
/-! widths -/
/-- corners of a size that can be joined -/
structure VB (V : List Geo.IR) : Prop where
  pos : ∀ p ∈ V, 0 < p.2.2
  sm : ∀ p ∈ V, SmR 801 p
  prod : prodD V ≤ 2 ^ 8000
  len : V.length ≤ 7000
theorem CrnsB.vb {rows V : List Geo.IR} (h : CrnsB rows V) (f : Fit rows) : VB V where
  pos := fun p hp => (h.crns.crn p hp).pos
  sm := fun p hp => by
    obtain ⟨r, hr, q, hq, hd, m⟩ := h.meet p hp
    have sr := f.sm r hr
    have sq := f.sm q hq
    have S8 : ∀ {x y z w : Int}, Sm 400 x → Sm 400 y → Sm 400 z → Sm 400 w → Sm 801 (x * y - z * w) := fun h1 h2 h3 h4 => Sm.up (sm_sub (sm_mul h1 h2) (sm_mul h3 h4)) (by decide)
    exact ⟨Sm.le (S8 sr.2.2 sq.2.1 sq.2.2 sr.2.1) m.x, Sm.le (S8 sr.1 sq.2.2 sq.1 sr.2.2) m.y, Sm.le (S8 sr.1 sq.2.1 sr.2.1 sq.1) m.d⟩
  prod := h.prod
  len := h.len
structure JT (V : List Geo.IR) (L : Int) : Prop where
  pos : 0 < L
  dv : ∀ p ∈ V, p.2.2 ∣ L
  sm : L.natAbs ≤ prodD V
theorem lt_of_pow {n : Nat} {x : Int} {m : Nat} (h : x.natAbs ≤ m) (k : m ≤ 2 ^ n) : Sm (n + 1) x := by
  have : 2 ^ n < 2 ^ (n + 1) := Nat.pow_lt_pow_right (by decide) (Nat.lt_succ_self n)
  exact Nat.lt_of_le_of_lt (Nat.le_trans h k) this
theorem JT.sml {V : List Geo.IR} {L : Int} (h : JT V L) (b : VB V) : Sm 8001 L := lt_of_pow h.sm b.prod
def S_joint : FA := fun ds Q _ => match ds with
  | [.lst xs] => ∃ V : List Geo.IR, xs = V.map rowD ∧ VB V ∧ ∀ L, JT V L → Q (.tup [.int L, .lst ((V.map (Geo.sc L)).map prD)])
  | _ => False
/-- points of a size that widths are taken of -/
structure PB (pts : List Geo.P2) : Prop where
  ne : pts ≠ []
  sm : ∀ p ∈ pts, SmP 8900 p
  len : pts.length ≤ 7000
theorem VB.pb {V : List Geo.IR} {L : Int} (b : VB V) (h : JT V L) (ne : V ≠ []) : PB (V.map (Geo.sc L)) where
  ne := fun z => ne (List.map_eq_nil_iff.mp z)
  sm := fun p hp => by
    obtain ⟨q, hq, rfl⟩ := List.mem_map.mp hp
    have s1 := (b.sm q hq)
    have s2 : Sm 8001 (L / q.2.2) := Sm.le (h.sml b) (Int.natAbs_ediv_le_natAbs _ _)
    exact ⟨(sm_mul s1.1 s2).up (by decide), (sm_mul s1.2.1 s2).up (by decide)⟩
  len := by rw [List.length_map]; exact b.len
def S_width : FA := fun ds Q _ => match ds with
  | [.lst xs, .tup [.int x, .int y]] => ∃ pts : List Geo.P2, xs = pts.map prD ∧ (PB pts ∧ SmP 14000 (x, y)) ∧ Q (.int (Geo.wd pts (x, y)))
  | _ => False
def S_less : FA := fun ds Q _ => match ds with
  | [.tup [.int a, .int b], .tup [.int c, .int d], .int k] => (MOk k c ∧ MOk k d) ∧ Q (prD (Geo.less (a, b) (c, d) k))
  | _ => False
/-- how often less leaves least -/
structure LT (pts : List Geo.P2) (u v : Geo.P2) (k : Int) : Prop where
  min : ∀ j, Geo.wd pts (Geo.less v u k) ≤ Geo.wd pts (Geo.less v u j)
  sm : Sm 8850 k
def S_least_times : FA := fun ds Q _ => match ds with
  | [.lst xs, .tup [.int a, .int b], .tup [.int c, .int d]] => ∃ pts : List Geo.P2, xs = pts.map prD ∧ (PB pts ∧ SmP 4100 (a, b) ∧ SmP 4100 (c, d) ∧ 0 < Geo.wd pts (a, b) ∧ Sm 8840 (Geo.wd pts (a, b)) ∧ Sm 8840 (Geo.wd pts (c, d))) ∧ ∀ k, LT pts (a, b) (c, d) k → Q (.int k)
  | _ => False
/-- what thin_basis tells -/
structure TB (L : Int) (V : List Geo.IR) (u v : Geo.P2) : Prop where
  bas : ∀ N, Geo.Vok N L V → Geo.Bas N L V u v
  thin : Geo.wd (V.map (Geo.sc L)) u < 4 * L ∨ (4 * L ≤ Geo.wd (V.map (Geo.sc L)) u ∧ ∀ k, Geo.wd (V.map (Geo.sc L)) u ≤ Geo.wd (V.map (Geo.sc L)) (Geo.less v u k))
def S_thin_basis : FA := fun ds Q _ => match ds with
  | [.lst xs, .int L] => ∃ V : List Geo.IR, xs = (V.map (Geo.sc L)).map prD ∧ (VB V ∧ V ≠ [] ∧ JT V L) ∧ ∀ u v, TB L V u v → Q (.tup [prD u, prD v])
  | _ => False
theorem lcm_step {L d g : Int} (hL : 0 < L) (hd : 0 < d) (hg : g = Int.gcd L d) : 0 < L / g * d ∧ L ∣ L / g * d ∧ d ∣ L / g * d ∧ (L / g * d).natAbs ≤ L.natAbs * d.natAbs := by
  have g0 : 0 < g := by rw [hg]; exact gcd_pos (.inr (by omega))
  obtain ⟨a, ha⟩ : g ∣ L := by rw [hg]; exact Int.gcd_dvd_left ..
  obtain ⟨b, hb⟩ : g ∣ d := by rw [hg]; exact Int.gcd_dvd_right ..
  have e : L / g = a := by rw [ha]; exact Int.mul_ediv_cancel_left _ (by omega)
  have ap : 0 < a := Geo.pos_r g0 (by omega)
  rw [e]
  refine ⟨Int.mul_pos ap hd, ⟨b, ?_⟩, ⟨a, Int.mul_comm ..⟩, ?_⟩
  · rw [ha, hb]; grind
  · rw [Int.natAbs_mul]
    refine Nat.mul_le_mul_right _ ?_
    rw [ha, Int.natAbs_mul]
    exact Nat.le_mul_of_pos_left _ (by omega)
/-- joined so far -/
structure JTn (V : List Geo.IR) (i : Nat) (L : Int) : Prop where
  pos : 0 < L
  dv : ∀ p ∈ V.take i, p.2.2 ∣ L
  sm : L.natAbs ≤ prodD (V.take i)
theorem JTn.next {V : List Geo.IR} {i : Nat} {L g : Int} {p : Geo.IR} (h : JTn V i L) (hi : V[i]? = some p) (hp : 0 < p.2.2) (hg : g = Int.gcd L p.2.2) : JTn V (i + 1) (L / g * p.2.2) := by
  obtain ⟨h1, h2, h3, h4⟩ := lcm_step h.pos hp hg
  refine ⟨h1, fun q hq => ?_, ?_⟩
  · rcases (mem_take_succ hi).mp hq with hq | rfl
    · exact Int.dvd_trans (h.dv q hq) h2
    · exact h3
  · refine Nat.le_trans h4 ?_
    rw [List.take_add_one, hi]
    show _ ≤ prodD (V.take i ++ [p])
    rw [prod_snoc]
    exact Nat.mul_le_mul_right _ h.sm
/-! weights -/
theorem k_rowsE {rows : List Geo.IR} {P : D → Prop} : vEq (.lst (rows.map rowD)) (.lst []) P = P (.bl rows.isEmpty) := k_eqN (key := keyP) fun _ => rfl
theorem k_rowsNe {rows : List Geo.IR} {P : D → Prop} : vNe (.lst (rows.map rowD)) (.lst []) P = P (.bl (!rows.isEmpty)) := k_neN (key := keyP) fun _ => rfl
def Flat (rows : List Geo.IR) : Prop := ∀ r ∈ rows, ∀ q ∈ rows, Geo.idet r q = 0
def S_is_flat : FA := fun ds Q _ => match ds with
  | [.tup xs] => ∃ rows : List Geo.IR, xs = rows.map rowD ∧ (rows.length ≤ 80 ∧ SmRs 400 rows) ∧ ∀ b : Bool, (b = true ↔ Flat rows) → Q (.bl b)
  | _ => False
/-- the number at a place of some told ones -/
def wAt : List (Int × Int) → Int → Int
  | [], _ => 0
  | (k, w) :: l, i => if k = i then w else wAt l i
def wOf (n : Nat) (l : List (Int × Int)) : List Int := (List.range n).map fun i => wAt l (i : Nat)
def S_weighted : FA := fun ds Q _ => match ds with
  | [.int n, .dic ks xs] => ∃ (m : Nat) (l : List (Int × Int)), n = m ∧ ks = l.map (fun p => (Sum.inl p.1 : Key)) ∧ xs = l.map (fun p => D.int p.2) ∧ (m ≤ 80 ∧ l.length ≤ 3) ∧ Q (.tup ((wOf m l).map D.int))
  | _ => False
/-- a sum over a list with numbers of its places -/
def wsum (g : Geo.IR → Int) : List Int → List Geo.IR → Int
  | w :: W, r :: rows => w * g r + wsum g W rows
  | _, _ => 0
structure EW (rows : List Geo.IR) (W : List Int) : Prop where
  len : W.length = rows.length
  nn : ∀ w ∈ W, 0 ≤ w
  few : (W.filter fun w => decide (0 < w)).length ≤ 3
  s0 : wsum (fun r => r.1) W rows = 0
  s1 : wsum (fun r => r.2.1) W rows = 0
  s2 : wsum (fun r => r.2.2) W rows < 0
  sm : ∀ w ∈ W, Sm 810 w
def Pc (r q s : Geo.IR) : Prop := (0 ≤ Geo.idet q s ∧ 0 ≤ Geo.idet s r ∧ 0 ≤ Geo.idet r q ∧ Geo.idet q s * r.2.2 + Geo.idet s r * q.2.2 + Geo.idet r q * s.2.2 < 0) ∨
  (Geo.idet q s ≤ 0 ∧ Geo.idet s r ≤ 0 ∧ Geo.idet r q ≤ 0 ∧ 0 < Geo.idet q s * r.2.2 + Geo.idet s r * q.2.2 + Geo.idet r q * s.2.2)
def Pw (r q : Geo.IR) : Prop := Geo.idet r q = 0 ∧ r.1 * q.1 + r.2.1 * q.2.1 < 0 ∧ ((q.1.natAbs : Int) + q.2.1.natAbs) * r.2.2 + ((r.1.natAbs : Int) + r.2.1.natAbs) * q.2.2 < 0
def S_pair_weights : FA := fun ds Q _ => match ds with
  | [.tup xs] => ∃ rows : List Geo.IR, xs = rows.map rowD ∧ (rows.length ≤ 80 ∧ SmRs 400 rows) ∧ (∀ W, EW rows W → Q (.tup (W.map D.int))) ∧ ((∀ r ∈ rows, ∀ q ∈ rows, ¬ Pw r q) → Q .non)
  | _ => False
def S_triple_weights : FA := fun ds Q _ => match ds with
  | [.tup xs] => ∃ rows : List Geo.IR, xs = rows.map rowD ∧ (rows.length ≤ 80 ∧ SmRs 400 rows) ∧ (∀ W, EW rows W → Q (.tup (W.map D.int))) ∧ ((∀ r ∈ rows, ∀ q ∈ rows, ¬ Pw r q) → (∀ r ∈ rows, ∀ q ∈ rows, ∀ s ∈ rows, ¬ Pc r q s) → Q .non)
  | _ => False
def NeR (rows : List Geo.IR) : Prop := ∃ x y : Rat, Geo.In (Geo.RR rows) x y
def S_empty_weights : FA := fun ds Q _ => match ds with
  | [.tup xs] => ∃ rows : List Geo.IR, xs = rows.map rowD ∧ Fit rows ∧ (∀ W, EW rows W → Q (.tup (W.map D.int))) ∧ (NeR rows → Q .non)
  | _ => False
/-! the law of these weights -/
/-! k80: one line behind another -/
abbrev lnD (ad : Ad) (L : Geo.IR) : D := oLine ad (.int L.1) (.int L.2.1) (.int L.2.2)
def atL (L : Geo.IR) (x : Int) : Int := (L.1 * x + L.2.1) / L.2.2
def LnOk (L : Geo.IR) : Prop := SmR 100 L ∧ 1 ≤ L.2.2
def nd (l k : Geo.IR) (x : Int) : Int := atL k (atL l x) * (l.2.2 * k.2.2) - l.1 * k.1 * x
def M_Line (ad : Ad) : FB := fun d0 ds Q _ => match ds with
  | [.int a, .int b, .int m] => d0 = .obj ad.c_Line [] [] ∧ 1 ≤ m ∧ Q .non (lnD ad (a, b, m))
  | _ => False
theorem use_Line {ad : Ad} {a b m : Int} {Q E : D → D → Prop} (h : 1 ≤ m) (q : Q .non (lnD ad (a, b, m))) : M_Line ad (.obj ad.c_Line [] []) [.int a, .int b, .int m] Q E := ⟨rfl, h, q⟩
def M_Comp (ad : Ad) : FB := fun d0 ds Q _ => match ds with
  | [d] => d0 = .obj ad.c_Composed [] [] ∧ Q .non (oComposed ad d)
  | _ => False
theorem u_Comp {ad : Ad} {d : D} {Q E : D → D → Prop} : M_Comp ad (.obj ad.c_Composed [] []) [d] Q E = Q .non (oComposed ad d) := propext ⟨fun h => h.2, fun h => ⟨rfl, h⟩⟩
def M_Brok (ad : Ad) : FB := fun d0 ds Q _ => match ds with
  | [a, b] => d0 = .obj ad.c_Broken [] [] ∧ Q .non (oBroken ad a b)
  | _ => False
theorem u_Brok {ad : Ad} {a b : D} {Q E : D → D → Prop} : M_Brok ad (.obj ad.c_Broken [] []) [a, b] Q E = Q .non (oBroken ad a b) := propext ⟨fun h => h.2, fun h => ⟨rfl, h⟩⟩
def S_at (ad : Ad) : FA := fun ds Q _ => match ds with
  | [d, .int x] => ∃ L : Geo.IR, d = lnD ad L ∧ (LnOk L ∧ Sm 900 x) ∧ Q (.int (atL L x))
  | _ => False
theorem use_at {ad : Ad} {L : Geo.IR} {x : Int} {Q E : D → Prop} (h : LnOk L ∧ Sm 900 x) (q : Q (.int (atL L x))) : S_at ad [lnD ad L, .int x] Q E := ⟨L, rfl, h, q⟩
def S_Leq (ad : Ad) : FA := fun ds Q _ => match ds with
  | [d, e] => ∃ L M : Geo.IR, d = lnD ad L ∧ e = lnD ad M ∧ Q (.bl (decide (L = M)))
  | _ => False
def S_slope (ad : Ad) : FA := fun ds Q _ => match ds with
  | [d, e] => ∃ L M : Geo.IR, d = lnD ad L ∧ e = lnD ad M ∧ (LnOk L ∧ LnOk M) ∧ Q (.tup [.int (L.1 * M.1), .int (L.2.2 * M.2.2)])
  | _ => False
theorem use_slope {ad : Ad} {L M : Geo.IR} {Q E : D → Prop} (h : LnOk L ∧ LnOk M) (q : Q (.tup [.int (L.1 * M.1), .int (L.2.2 * M.2.2)])) : S_slope ad [lnD ad L, lnD ad M] Q E := ⟨L, M, rfl, rfl, h, q⟩
def S_two (ad : Ad) (f : Geo.IR → Geo.IR → Int → Int) : FA := fun ds Q _ => match ds with
  | [d, e, .int x] => ∃ L M : Geo.IR, d = lnD ad L ∧ e = lnD ad M ∧ (LnOk L ∧ LnOk M ∧ Sm 200 x) ∧ Q (.int (f L M x))
  | _ => False
theorem use_two {ad : Ad} {f : Geo.IR → Geo.IR → Int → Int} {L M : Geo.IR} {x : Int} {Q E : D → Prop} (h : LnOk L ∧ LnOk M ∧ Sm 200 x) (q : Q (.int (f L M x))) : S_two ad f [lnD ad L, lnD ad M, .int x] Q E := ⟨L, M, rfl, rfl, h, q⟩
def both (l k : Geo.IR) (x : Int) : Int := atL k (atL l x)
def rm (l k : Geo.IR) (x : Int) : Int := nd l k x + l.2.2 * k.2.2 - 1
/-- the greatest and the least over a period -/
def IsMx (l k : Geo.IR) (M : Int) : Prop := (∃ x, 0 ≤ x ∧ x < l.2.2 * k.2.2 ∧ nd l k x = M) ∧ ∀ x, 0 ≤ x → x < l.2.2 * k.2.2 → nd l k x ≤ M
def IsMn (l k : Geo.IR) (M : Int) : Prop := (∃ x, 0 ≤ x ∧ x < l.2.2 * k.2.2 ∧ nd l k x = M) ∧ ∀ x, 0 ≤ x → x < l.2.2 * k.2.2 → M ≤ nd l k x
def S_lroom (ad : Ad) : FA := fun ds Q _ => match ds with
  | [d, e] => ∃ L M : Geo.IR, d = lnD ad L ∧ e = lnD ad M ∧ (LnOk L ∧ LnOk M ∧ L.2.2 * M.2.2 ≤ 3000) ∧ ∀ r, IsMn L M (r - L.2.2 * M.2.2 + 1) → Q (.int r)
  | _ => False
theorem use_lroom {ad : Ad} {L M : Geo.IR} {Q E : D → Prop} (h : LnOk L ∧ LnOk M ∧ L.2.2 * M.2.2 ≤ 3000) (q : ∀ r, IsMn L M (r - L.2.2 * M.2.2 + 1) → Q (.int r)) : S_lroom ad [lnD ad L, lnD ad M] Q E := ⟨L, M, rfl, rfl, h, q⟩
abbrev tlD (ad : Ad) (n : Int) : D := .obj ad.c_TooLarge ["number"] [.int n]
def S_cper (ad : Ad) : FA := fun ds Q E => match ds with
  | [d, e] => ∃ L M : Geo.IR, d = lnD ad L ∧ e = lnD ad M ∧ (LnOk L ∧ LnOk M) ∧ (3000 < L.2.2 * M.2.2 → E (tlD ad (L.2.2 * M.2.2))) ∧ (L.2.2 * M.2.2 ≤ 3000 → Q .non)
  | _ => False
theorem use_cper {ad : Ad} {L M : Geo.IR} {Q E : D → Prop} (h : LnOk L ∧ LnOk M) (e : 3000 < L.2.2 * M.2.2 → E (tlD ad (L.2.2 * M.2.2))) (q : L.2.2 * M.2.2 ≤ 3000 → Q .non) : S_cper ad [lnD ad L, lnD ad M] Q E := ⟨L, M, rfl, rfl, h, e, q⟩
/-- the line is right -/
def Rgt (l k L : Geo.IR) : Prop := L.1 = l.1 * k.1 ∧ L.2.2 = l.2.2 * k.2.2 ∧ ∃ M m, IsMx l k M ∧ IsMn l k m ∧ L.2.1 = M ∧ M ≤ m + l.2.2 * k.2.2 - 1
/-- what compose tells -/
inductive CPR (ad : Ad) (l k : Geo.IR) : D → Prop
  | yes (b : Int) (h : Rgt l k (l.1 * k.1, b, l.2.2 * k.2.2)) : CPR ad l k (oComposed ad (lnD ad (l.1 * k.1, b, l.2.2 * k.2.2)))
  | no (x y : Int) (hx : 0 ≤ x ∧ x < l.2.2 * k.2.2) (hy : 0 ≤ y ∧ y < l.2.2 * k.2.2) (h : nd l k y + l.2.2 * k.2.2 - 1 < nd l k x) : CPR ad l k (oBroken ad (.int x) (.int y))
def S_comp (ad : Ad) : FA := fun ds Q E => match ds with
  | [d, e] => ∃ L M : Geo.IR, d = lnD ad L ∧ e = lnD ad M ∧ (LnOk L ∧ LnOk M) ∧ (3000 < L.2.2 * M.2.2 → E (tlD ad (L.2.2 * M.2.2))) ∧ (L.2.2 * M.2.2 ≤ 3000 → ∀ r, CPR ad L M r → Q r)
  | _ => False
theorem use_comp {ad : Ad} {L M : Geo.IR} {Q E : D → Prop} (h : LnOk L ∧ LnOk M) (hm : L.2.2 * M.2.2 ≤ 3000) (q : ∀ r, CPR ad L M r → Q r) : S_comp ad [lnD ad L, lnD ad M] Q E := ⟨L, M, rfl, rfl, h, (fun z => by omega), fun _ => q⟩
theorem use_compX {ad : Ad} {L M : Geo.IR} {Q E : D → Prop} (h : LnOk L ∧ LnOk M) (hm : 3000 < L.2.2 * M.2.2) (e : E (tlD ad (L.2.2 * M.2.2))) : S_comp ad [lnD ad L, lnD ad M] Q E := ⟨L, M, rfl, rfl, h, (fun _ => e), fun z => by omega⟩
def S_Cshows (ad : Ad) : FA := fun ds Q _ => match ds with
  | [d0, d, e] => ∃ K0 L M : Geo.IR, d0 = oComposed ad (lnD ad K0) ∧ d = lnD ad L ∧ e = lnD ad M ∧ (LnOk L ∧ LnOk M ∧ L.2.2 * M.2.2 ≤ 3000) ∧ ∀ b : Bool, (b = true ↔ Rgt L M K0) → Q (.bl b)
  | _ => False
theorem use_Cshows {ad : Ad} {K0 L M : Geo.IR} {Q E : D → Prop} (h : LnOk L ∧ LnOk M ∧ L.2.2 * M.2.2 ≤ 3000) (q : ∀ b : Bool, (b = true ↔ Rgt L M K0) → Q (.bl b)) : S_Cshows ad [oComposed ad (lnD ad K0), lnD ad L, lnD ad M] Q E := ⟨K0, L, M, rfl, rfl, rfl, h, q⟩
def S_Bshows (ad : Ad) : FA := fun ds Q _ => match ds with
  | [d0, d, e] => ∃ (x y : Int) (L M : Geo.IR), d0 = oBroken ad (.int x) (.int y) ∧ d = lnD ad L ∧ e = lnD ad M ∧ (LnOk L ∧ LnOk M ∧ L.2.2 * M.2.2 ≤ 3000 ∧ Sm 200 x ∧ Sm 200 y) ∧ Q (.bl (decide (nd L M y + L.2.2 * M.2.2 - 1 < nd L M x)))
  | _ => False
theorem use_Bshows {ad : Ad} {x y : Int} {L M : Geo.IR} {Q E : D → Prop} (h : LnOk L ∧ LnOk M ∧ L.2.2 * M.2.2 ≤ 3000 ∧ Sm 200 x ∧ Sm 200 y) (q : Q (.bl (decide (nd L M y + L.2.2 * M.2.2 - 1 < nd L M x)))) : S_Bshows ad [oBroken ad (.int x) (.int y), lnD ad L, lnD ad M] Q E := ⟨x, y, L, M, rfl, rfl, rfl, h, q⟩
/-- lines that nested takes: what it tells works as they do one after the other -/
def runL : List Geo.IR → Int → Int
  | [], x => x
  | l :: r, x => runL r (atL l x)
def S_nest (ad : Ad) : FA := fun ds Q _ => match ds with
  | [d] => ∃ Ls : List Geo.IR, d = .lst (Ls.map (lnD ad)) ∧ (((∀ L ∈ Ls, L.1 = 1 ∧ L.2.1 = 0 ∧ 1 ≤ L.2.2 ∧ L.2.2 ≤ 5) ∧ Ls.length ≤ 4 ∧ Q (lnD ad (1, 0, (Ls.map fun L => L.2.2).foldl (· * ·) 1))) ∨
      (∃ l k : Geo.IR, Ls = [l, k] ∧ (LnOk l ∧ LnOk k ∧ SmR 10 l ∧ SmR 10 k ∧ l.2.2 ≤ 30 ∧ k.2.2 ≤ 30) ∧ Q .non ∧ ∀ M : Geo.IR, LnOk M → (∀ x, atL M x = atL k (atL l x)) → Q (lnD ad M)))
  | _ => False
def tupL (L : Geo.IR) : D := .tup [.int L.1, .int L.2.1, .int L.2.2]
def S_lat : FA := fun ds Q _ => match ds with
  | [d, .int x] => ∃ L : Geo.IR, d = rowD L ∧ (LnOk L ∧ Sm 900 x) ∧ Q (.int (atL L x))
  | _ => False
theorem use_lat {L : Geo.IR} {x : Int} {Q E : D → Prop} (h : LnOk L ∧ Sm 900 x) (q : Q (.int (atL L x))) : S_lat [rowD L, .int x] Q E := ⟨L, rfl, h, q⟩
def Shrt (L : Geo.IR) : Prop := L.1.natAbs < 100 ∧ L.2.1.natAbs < 100 ∧ 1 ≤ L.2.2 ∧ L.2.2 ≤ 30
def M_short : FB := fun d0 ds Q _ => match ds with
  | [] => Drw d0 ∧ ∀ (L : Geo.IR) d', Shrt L → Drw d' → Q (rowD L) d'
  | _ => False
theorem u_short {d0 : D} {Q E : D → D → Prop} : M_short d0 [] Q E = (Drw d0 ∧ ∀ (L : Geo.IR) d', Shrt L → Drw d' → Q (rowD L) d') := rfl
def S_lneed : FA := fun ds Q _ => match ds with
  | [d, e, .int x] => ∃ L M : Geo.IR, d = rowD L ∧ e = rowD M ∧ (LnOk L ∧ LnOk M ∧ Sm 200 x) ∧ Q (.int (nd L M x))
  | _ => False
theorem use_lneed {L M : Geo.IR} {x : Int} {Q E : D → Prop} (h : LnOk L ∧ LnOk M ∧ Sm 200 x) (q : Q (.int (nd L M x))) : S_lneed [rowD L, rowD M, .int x] Q E := ⟨L, M, rfl, rfl, h, q⟩
def S_lright (ad : Ad) : FA := fun ds Q _ => match ds with
  | [d, e, t] => ∃ L M : Geo.IR, d = rowD L ∧ e = rowD M ∧ (LnOk L ∧ LnOk M ∧ L.2.2 * M.2.2 ≤ 3000) ∧
    ((∃ K0 : Geo.IR, t = oComposed ad (lnD ad K0) ∧ ∀ b : Bool, (b = true ↔ Rgt L M K0) → Q (.bl b)) ∨ (∃ x y : Int, t = oBroken ad (.int x) (.int y) ∧ (Sm 200 x ∧ Sm 200 y) ∧ Q (.bl (decide (nd L M y + L.2.2 * M.2.2 - 1 < nd L M x)))))
  | _ => False
def S_fault (ad : Ad) : FL := fun L Q => ∀ E : D → Prop, (∀ n, Q (.int n) → E (tlD ad n)) → L (fun _ => Q (.str "none")) E
/-! truth -/
def S_bT (b : Bool) : FA := fun ds Q _ => ∀ z, ds = [z] → Q (.bl b)
def tBc (ad : Ad) (C : Addr) : Option Bool := if C = ad.c_Composed then some true else if C = ad.c_Broken then some false else none
theorem hT_cb {X : Cx} {ad : Ad} (T : Tx X.K X.mg ad) (rm : Room 1 X.A) (g1 : FnOk X.prog X.w X.K X.mg X.base (L2.CX X.prog X.w) 1 ad.f_Composed___bool__ ad.d_Composed___bool__ ["self"] (spA X.K 1 (S_bT true)))
    (g2 : FnOk X.prog X.w X.K X.mg X.base (L2.CX X.prog X.w) 1 ad.f_Broken___bool__ ad.d_Broken___bool__ ["self"] (spA X.K 1 (S_bT false))) : ∀ C b, tBc ad C = some b → BoolC X C b := fun C b h => by
  have tk : ∀ σ, PassesAt (L2.CX X.prog X.w) X σ fun _ _ _ => False := fun σ _ _ _ _ _ _ h => by
    obtain ⟨_, _, _, _, _, _, _, _, _, _, _, _, z⟩ := h
    exact z.elim
  unfold tBc at h
  split at h
  · rename_i e
    cases h
    subst e
    exact .own T.me_Composed___bool__.1 T.me_Composed___bool__.2 g1 rm T.b_Composed___bool__ tk
  · split at h
    · rename_i e
      cases h
      subst e
      exact .own T.me_Broken___bool__.1 T.me_Broken___bool__.2 g2 rm T.b_Broken___bool__ tk
    · cases h
theorem hD_cb {X : Cx} {ad : Ad} (T : Tx X.K X.mg ad) (rm : Room 3 X.A) (g1 : FnOk X.prog X.w X.K X.mg X.base (L2.CX X.prog X.w) 1 ad.f_Composed___bool__ ad.d_Composed___bool__ ["self"] (spA X.K 1 (S_bT true)))
    (g2 : FnOk X.prog X.w X.K X.mg X.base (L2.CX X.prog X.w) 1 ad.f_Broken___bool__ ad.d_Broken___bool__ ["self"] (spA X.K 1 (S_bT false))) : ∀ C b, tBc ad C = some b → BoolD X C b := fun C b h => by
  unfold tBc at h
  split at h
  · rename_i e
    cases h
    subst e
    exact .own T.me_Composed___bool__.1 T.me_Composed___bool__.2 g1 rm T.b_Composed___bool__
  · split at h
    · rename_i e
      cases h
      subst e
      exact .own T.me_Broken___bool__.1 T.me_Broken___bool__.2 g2 rm T.b_Broken___bool__
    · cases h
section
variable {K : PySem.W.Frag} {mg : Str → Option Value} {ad : Ad}
theorem tb_c : tBc ad ad.c_Composed = some true := if_pos rfl
theorem tb_b (T : Tx K mg ad) : tBc ad ad.c_Broken = some false := by
  unfold tBc
  rw [if_neg fun e => ?_, if_pos rfl]
  have h := T.i_Broken_Composed
  rw [e, T.i_Composed_Composed] at h
  cases h
end
/-! sizes -/
theorem sm_at {L : Geo.IR} {n : Nat} {x : Int} (h : LnOk L) (hx : Sm n x) : Sm (n + 102) (atL L x) := by
  have h1 : Sm (max (100 + n) 100 + 1) (L.1 * x + L.2.1) := sm_add (sm_mul h.1.1 hx) h.1.2.1
  have h2 : ((L.1 * x + L.2.1) / L.2.2).natAbs ≤ (L.1 * x + L.2.1).natAbs := Int.natAbs_ediv_le_natAbs _ _
  exact (h1.le h2).up (by omega)
theorem sm_per {L M : Geo.IR} (h : LnOk L) (k : LnOk M) : Sm 200 (L.2.2 * M.2.2) := sm_mul h.1.2.2 k.1.2.2
theorem sm_sl {L M : Geo.IR} (h : LnOk L) (k : LnOk M) : Sm 200 (L.1 * M.1) := sm_mul h.1.1 k.1.1
theorem per_pos {L M : Geo.IR} (h : LnOk L) (k : LnOk M) : 1 ≤ L.2.2 * M.2.2 := by
  have := Int.mul_le_mul h.2 k.2 (by decide) (by have := h.2; omega)
  simpa using this
theorem sm_lt {n : Nat} {x : Int} {N : Nat} (h : x.natAbs ≤ N) (k : N < 2 ^ n) : Sm n x := Nat.lt_of_le_of_lt h k
theorem Shrt.ok {L : Geo.IR} (h : Shrt L) : LnOk L ∧ SmR 10 L := by
  obtain ⟨h1, h2, h3, h4⟩ := h
  exact ⟨⟨⟨sm_lt (N := 100) (by omega) (by decide), sm_lt (N := 100) (by omega) (by decide), sm_lt (N := 100) (by omega) (by decide)⟩, h3⟩, sm_lt (N := 100) (by omega) (by decide), sm_lt (N := 100) (by omega) (by decide), sm_lt (N := 100) (by omega) (by decide)⟩
/-! one after the other -/
theorem at_shift {L : Geo.IR} (h : 1 ≤ L.2.2) (x t : Int) : atL L (x + L.2.2 * t) = atL L x + L.1 * t := by
  unfold atL
  have e : L.1 * (x + L.2.2 * t) + L.2.1 = L.1 * x + L.2.1 + L.2.2 * (L.1 * t) := by grind
  rw [e, Int.add_mul_ediv_left _ _ (by omega)]
theorem nd_shift {l k : Geo.IR} (hl : 1 ≤ l.2.2) (hk : 1 ≤ k.2.2) (x t : Int) : nd l k (x + l.2.2 * k.2.2 * t) = nd l k x := by
  unfold nd
  rw [Int.mul_assoc l.2.2, at_shift hl, show l.1 * (k.2.2 * t) = k.2.2 * (l.1 * t) by grind, at_shift hk]
  grind
theorem nd_mod {l k : Geo.IR} (hl : 1 ≤ l.2.2) (hk : 1 ≤ k.2.2) (hp : 1 ≤ l.2.2 * k.2.2) (x : Int) : nd l k x = nd l k (x % (l.2.2 * k.2.2)) := by
  have e := Int.emod_add_mul_ediv x (l.2.2 * k.2.2)
  have := nd_shift hl hk (x % (l.2.2 * k.2.2)) (x / (l.2.2 * k.2.2))
  rw [e] at this
  exact this
theorem IsMx.all {l k : Geo.IR} {M : Int} (h : IsMx l k M) (hl : LnOk l) (hk : LnOk k) (x : Int) : nd l k x ≤ M := by
  have hp := per_pos hl hk
  rw [nd_mod hl.2 hk.2 hp]
  exact h.2 _ (Int.emod_nonneg _ (by omega)) (Int.emod_lt_of_pos _ (by omega))
theorem IsMn.all {l k : Geo.IR} {M : Int} (h : IsMn l k M) (hl : LnOk l) (hk : LnOk k) (x : Int) : M ≤ nd l k x := by
  have hp := per_pos hl hk
  rw [nd_mod hl.2 hk.2 hp]
  exact h.2 _ (Int.emod_nonneg _ (by omega)) (Int.emod_lt_of_pos _ (by omega))
theorem IsMx.eq {l k : Geo.IR} {M N : Int} (h : IsMx l k M) (g : IsMx l k N) : M = N := by
  obtain ⟨⟨x, x0, x1, ex⟩, hM⟩ := h
  obtain ⟨⟨y, y0, y1, ey⟩, hN⟩ := g
  have := hM y y0 y1
  have := hN x x0 x1
  omega
theorem IsMn.eq {l k : Geo.IR} {M N : Int} (h : IsMn l k M) (g : IsMn l k N) : M = N := by
  obtain ⟨⟨x, x0, x1, ex⟩, hM⟩ := h
  obtain ⟨⟨y, y0, y1, ey⟩, hN⟩ := g
  have := hM y y0 y1
  have := hN x x0 x1
  omega
theorem Rgt.at {l k L : Geo.IR} (h : Rgt l k L) (hl : LnOk l) (hk : LnOk k) (x : Int) : atL L x = atL k (atL l x) := by
  obtain ⟨e1, e2, M, m, hM, hm, e3, le⟩ := h
  have hp := per_pos hl hk
  have h1 := hM.all hl hk x
  have h2 := hm.all hl hk x
  have e : atL L x = (l.1 * k.1 * x + M) / (l.2.2 * k.2.2) := by unfold atL; rw [e1, e2, e3]
  rw [e]
  unfold nd at h1 h2
  generalize atL k (atL l x) = v at *
  generalize l.2.2 * k.2.2 = p at *
  generalize l.1 * k.1 * x = s at *
  have hle : v ≤ (s + M) / p := (Int.le_ediv_iff_mul_le (by omega)).mpr (by omega)
  have hlt : (s + M) / p < v + 1 := (Int.ediv_lt_iff_lt_mul (by omega)).mpr (by rw [Int.add_mul]; omega)
  omega
/-- the greatest and the least of a list over the period -/
theorem mx_of {l k : Geo.IR} {M : Int} (h1 : M ∈ (List.range (l.2.2 * k.2.2).toNat).map fun i : Nat => nd l k i) (h2 : ∀ y ∈ (List.range (l.2.2 * k.2.2).toNat).map (fun i : Nat => nd l k i), y ≤ M) : IsMx l k M := by
  obtain ⟨i, hi, e⟩ := List.mem_map.mp h1
  have := List.mem_range.mp hi
  refine ⟨⟨i, by omega, by omega, e⟩, fun x x0 x1 => ?_⟩
  have := h2 (nd l k x) (List.mem_map.mpr ⟨x.toNat, List.mem_range.mpr (by omega), by rw [Int.toNat_of_nonneg x0]⟩)
  exact this
theorem mn_of {l k : Geo.IR} {M : Int} (h1 : M ∈ (List.range (l.2.2 * k.2.2).toNat).map fun i : Nat => nd l k i) (h2 : ∀ y ∈ (List.range (l.2.2 * k.2.2).toNat).map (fun i : Nat => nd l k i), M ≤ y) : IsMn l k M := by
  obtain ⟨i, hi, e⟩ := List.mem_map.mp h1
  have := List.mem_range.mp hi
  refine ⟨⟨i, by omega, by omega, e⟩, fun x x0 x1 => ?_⟩
  have := h2 (nd l k x) (List.mem_map.mpr ⟨x.toNat, List.mem_range.mpr (by omega), by rw [Int.toNat_of_nonneg x0]⟩)
  exact this
theorem sm3 {i : Nat} {p : Int} (h : p ≤ 3000) (hi : i < p.toNat) : Sm 200 (i : Int) := sm_lt (N := 3000) (by omega) (by decide)
theorem Shrt.per {L M : Geo.IR} (h : Shrt L) (k : Shrt M) : L.2.2 * M.2.2 ≤ 3000 := by
  have := Int.mul_le_mul h.2.2.2 k.2.2.2 (by have := k.2.2.1; omega) (by decide)
  omega
/-! nested -/
theorem nd_one {P m x : Int} (hP : 1 ≤ P) (h0 : 0 ≤ x) (h1 : x < P * m) : nd (1, 0, P) (1, 0, m) x = - x := by
  unfold nd atL
  show (1 * ((1 * x + 0) / P) + 0) / m * (P * m) - 1 * 1 * x = - x
  simp only [Int.one_mul, Int.add_zero]
  rw [Int.ediv_ediv_of_nonneg (by omega), Int.ediv_eq_zero_of_lt h0 h1]
  omega
theorem nd_id {l : Geo.IR} (h : 1 ≤ l.2.2) (x : Int) : l.2.1 - l.2.2 + 1 ≤ nd (1, 0, 1) l x ∧ nd (1, 0, 1) l x ≤ l.2.1 := by
  unfold nd atL
  show _ ≤ (l.1 * ((1 * x + 0) / 1) + l.2.1) / l.2.2 * (1 * l.2.2) - 1 * l.1 * x ∧ (l.1 * ((1 * x + 0) / 1) + l.2.1) / l.2.2 * (1 * l.2.2) - 1 * l.1 * x ≤ _
  simp only [Int.one_mul, Int.add_zero, Int.ediv_one]
  have h1 := Int.emod_add_mul_ediv (l.1 * x + l.2.1) l.2.2
  have h2 := Int.emod_nonneg (l.1 * x + l.2.1) (b := l.2.2) (by omega)
  have h3 := Int.emod_lt_of_pos (l.1 * x + l.2.1) (b := l.2.2) (by omega)
  rw [Int.mul_comm ((l.1 * x + l.2.1) / l.2.2)]
  omega
theorem cpr_one {ad : Ad} {P m : Int} {r : D} (hP : 1 ≤ P) (hm : 1 ≤ m) (h : CPR ad (1, 0, P) (1, 0, m) r) : r = oComposed ad (lnD ad (1, 0, P * m)) := by
  have hp : 1 ≤ P * m := by
    have := Int.mul_le_mul hP hm (by decide) (by omega)
    simpa using this
  rcases h with ⟨b, e1, e2, M, m', hM, hm', e3, le⟩ | ⟨x, y, hx, hy, k⟩
  · have z : IsMx (1, 0, P) (1, 0, m) 0 := ⟨⟨0, by decide, by show (0 : Int) < P * m; omega, by rw [nd_one hP (by decide) (by omega)]; decide⟩, fun x x0 x1 => by rw [nd_one hP x0 x1]; omega⟩
    have e : b = 0 := e3.trans (hM.eq z)
    subst e
    rfl
  · have hx : 0 ≤ x ∧ x < P * m := hx
    have hy : 0 ≤ y ∧ y < P * m := hy
    have k : nd (1, 0, P) (1, 0, m) y + P * m - 1 < nd (1, 0, P) (1, 0, m) x := k
    rw [nd_one hP hx.1 hx.2, nd_one hP hy.1 hy.2] at k
    omega
theorem cpr_id {ad : Ad} {l : Geo.IR} {r : D} (hl : 1 ≤ l.2.2) (h : CPR ad (1, 0, 1) l r) : ∃ b, r = oComposed ad (lnD ad (l.1, b, l.2.2)) ∧ Rgt (1, 0, 1) l (l.1, b, l.2.2) ∧ l.2.1 - l.2.2 + 1 ≤ b ∧ b ≤ l.2.1 := by
  rcases h with ⟨b, hR⟩ | ⟨x, y, hx, hy, k⟩
  · have ea : (1 : Int) * l.1 = l.1 := Int.one_mul _
    have em : (1 : Int) * l.2.2 = l.2.2 := Int.one_mul _
    have hR : Rgt (1, 0, 1) l (1 * l.1, b, 1 * l.2.2) := hR
    rw [ea, em] at hR
    refine ⟨b, by show oComposed ad (lnD ad (1 * l.1, b, 1 * l.2.2)) = _; rw [ea, em], hR, ?_⟩
    obtain ⟨_, _, M, _, ⟨⟨x, _, _, ex⟩, _⟩, _, e3, _⟩ := hR
    have e3 : b = M := e3
    have := nd_id hl x
    omega
  · have k : nd (1, 0, 1) l y + 1 * l.2.2 - 1 < nd (1, 0, 1) l x := k
    have := nd_id hl x
    have := nd_id hl y
    omega
theorem sm_atk {L : Geo.IR} {n k : Nat} {x : Int} (h : SmR k L) (hx : Sm n x) : Sm (k + n + 1) (atL L x) := by
  have h1 : Sm (max (k + n) k + 1) (L.1 * x + L.2.1) := sm_add (sm_mul h.1 hx) h.2.1
  have h2 : ((L.1 * x + L.2.1) / L.2.2).natAbs ≤ (L.1 * x + L.2.1).natAbs := Int.natAbs_ediv_le_natAbs _ _
  exact (h1.le h2).up (by omega)
theorem Rgt.ok {l k L : Geo.IR} (h : Rgt l k L) (hl : LnOk l) (hk : LnOk k) (sl : SmR 12 l) (sk : SmR 10 k) (hm : l.2.2 * k.2.2 ≤ 3000) : LnOk L := by
  obtain ⟨e1, e2, M, m, ⟨⟨x, x0, x1, ex⟩, _⟩, _, e3, _⟩ := h
  have hp := per_pos hl hk
  have hx : Sm 12 x := sm_lt (N := 3000) (by omega) (by decide)
  have hpm : Sm 12 (l.2.2 * k.2.2) := sm_lt (N := 3000) (by omega) (by decide)
  have h1 := sm_sub (sm_mul (sm_atk sk (sm_atk sl hx)) hpm) (sm_mul (sm_mul sl.1 sk.1) hx)
  refine ⟨⟨by rw [e1]; exact (sm_mul sl.1 sk.1).up (by decide), ?_, by rw [e2]; exact hpm.up (by decide)⟩, by omega⟩
  rw [e3, ← ex]
  exact h1.up (by decide)
def prd (Ls : List Geo.IR) : Int := (Ls.map fun L => L.2.2).foldl (· * ·) 1
theorem prd_nil : prd [] = 1 := rfl
theorem prd_take {Ls : List Geo.IR} {i : Nat} {a : Geo.IR} (h : Ls[i]? = some a) : prd (Ls.take (i + 1)) = prd (Ls.take i) * a.2.2 := by
  unfold prd
  rw [List.take_add_one, h]
  simp
theorem prd_bd {Ls : List Geo.IR} (h : ∀ L ∈ Ls, 1 ≤ L.2.2 ∧ L.2.2 ≤ 5) : ∀ i, 1 ≤ prd (Ls.take i) ∧ prd (Ls.take i) ≤ 5 ^ i
  | 0 => by rw [List.take_zero, prd_nil]; decide
  | i + 1 => by
    have ih := prd_bd h i
    cases e : Ls[i]? with
    | none =>
      rw [List.take_add_one, e]
      simp only [Option.toList_none, List.append_nil]
      rw [Int.pow_succ]
      omega
    | some a =>
      rw [prd_take e, Int.pow_succ]
      have := h a (List.mem_of_getElem? e)
      have h1 := Int.mul_le_mul ih.1 this.1 (by decide) (by omega)
      have h2 := Int.mul_le_mul ih.2 this.2 (by omega) (by omega)
      omega
theorem mrg7 {c : Bool} {a b F R : Prop} [Decidable b] (h : c = true → a ∧ ¬ b) (hR : R) : if c = true then a ∧ (if b then F else R) else R := by
  cases c with
  | false => exact hR
  | true =>
    obtain ⟨h1, h2⟩ := h rfl
    rw [if_pos rfl, if_neg h2]
    exact ⟨h1, hR⟩
def rw2 (L k : Geo.IR) (x y b : Int) : Int × Int := ((L.1 * k.1 * x + b) / (L.2.2 * k.2.2), (L.1 * k.1 * y + b) / (L.2.2 * k.2.2))
theorem not_rows {L k : Geo.IR} {x y b : Int} (hp : 1 ≤ L.2.2 * k.2.2) (kk : nd L k y + L.2.2 * k.2.2 - 1 < nd L k x) : (atL k (atL L x), atL k (atL L y)) ≠ rw2 L k x y b := fun e => by
  unfold rw2 at e
  injection e with e1 e2
  unfold nd at kk
  generalize atL k (atL L x) = X at *
  generalize atL k (atL L y) = Y at *
  generalize L.2.2 * k.2.2 = p at *
  generalize L.1 * k.1 * x = s at *
  generalize L.1 * k.1 * y = r at *
  have h1 : X * p ≤ s + b := (Int.le_ediv_iff_mul_le (by omega)).mp (by omega)
  have h2 : r + b < (Y + 1) * p := (Int.ediv_lt_iff_lt_mul (by omega)).mp (by omega)
  rw [Int.add_mul] at h2
  omega
theorem lcR_cons {g : RG} {te : RE} {is : List Nat} {x : D} {xs acc : List D} {env : List Slot} {Q : List D → List Slot → Prop} (h : g x env fun env1 => te env1 fun d env3 => acc.length < sizeLine ∧ lcR g rYes te is xs (acc ++ [d]) (wipeE is env3) Q) : lcR g rYes te is (x :: xs) acc env Q := h
theorem lcR_nil {g : RG} {tt : RB} {te : RE} {is : List Nat} {acc : List D} {env : List Slot} {Q : List D → List Slot → Prop} (h : Q acc env) : lcR g tt te is [] acc env Q := h
def One5 (L : Geo.IR) : Prop := L.1 = 1 ∧ L.2.1 = 0 ∧ 1 ≤ L.2.2 ∧ L.2.2 ≤ 5
theorem One5.ok {L : Geo.IR} (h : One5 L) : LnOk L := by
  obtain ⟨h1, h2, h3, h4⟩ := h
  exact ⟨⟨sm_lt (N := 5) (by omega) (by decide), sm_lt (N := 5) (by omega) (by decide), sm_lt (N := 5) (by omega) (by decide)⟩, h3⟩
theorem One5.at {L : Geo.IR} (h : One5 L) {x P : Int} (hP : 1 ≤ P) : atL L (x / P) = x / (P * L.2.2) := by
  obtain ⟨h1, h2, h3, h4⟩ := h
  unfold atL
  rw [h1, h2, Int.one_mul, Int.add_zero, Int.ediv_ediv_of_nonneg (by omega)]
theorem use_nest1 {ad : Ad} {Ls : List Geo.IR} {Q E : D → Prop} (h : (∀ L ∈ Ls, One5 L) ∧ Ls.length ≤ 4) (q : Q (lnD ad (1, 0, prd Ls))) : S_nest ad [.lst (Ls.map (lnD ad))] Q E := ⟨Ls, rfl, .inl ⟨h.1, h.2, q⟩⟩
theorem use_nest2 {ad : Ad} {l k : Geo.IR} {Q E : D → Prop} (hl : Shrt l) (hk : Shrt k) (q0 : Q .non) (q : ∀ M : Geo.IR, LnOk M → (∀ x, atL M x = atL k (atL l x)) → Q (lnD ad M)) : S_nest ad [.lst [lnD ad l, lnD ad k]] Q E := ⟨[l, k], rfl, .inr ⟨l, k, rfl, ⟨hl.ok.1, hk.ok.1, hl.ok.2, hk.ok.2, hl.2.2.2, hk.2.2.2⟩, q0, q⟩⟩
section
variable {K : PySem.W.Frag} {mg : Str → Option Value} {ad : Ad}
theorem use_neL (T : Tx K mg ad) {A B : Geo.IR} {P : D → Prop} (q : P (.bl (!decide (A = B)))) : vNeO K ad.c_Line (S_Leq ad) (lnD ad A) (lnD ad B) P := ⟨rfl, ⟨_, ⟨rfl, T.isc_Line⟩, T.nf_Line_Line⟩, A, B, rfl, rfl, q⟩
end
local macro_rules | `(tactic| walk_at "q") => `(tactic| (try simp only [↓QL.e_own0, ↓QL.e_c, ↓QL.e_var, ↓QL.e_valQ, ↓QL.e_ownQ, ↓QL.e_anyV, ↓QL.e_anyO, ↓QL.e_get0, ↓QL.e_getS, ↓QL.e_put0, ↓QL.e_putS, ↓QL.e_noN, ↓QL.e_noC, ↓QL.e_noU, ↓QL.e_noV, ↓QL.e_wipN, ↓QL.e_wipC, ↓QL.e_bakN, ↓QL.e_bakC, ↓QL.e_ownN, ↓QL.e_op, ↓QL.e_un, ↓QL.e_tst, ↓QL.e_bq, ↓QL.e_tru, ↓QL.e_notT, ↓QL.e_andT, ↓QL.e_orT, ↓QL.e_and, ↓QL.e_or, ↓QL.e_not, ↓QL.e_tqB, ↓QL.e_tqI, ↓QL.e_tqN, ↓QL.e_tqL, ↓QL.e_tqT, ↓QL.e_if, ↓QL.e_nil, ↓QL.e_cons, ↓QL.e_tup, ↓QL.e_lst, ↓QL.e_ixO, ↓QL.e_call, ↓QL.e_callM, ↓QL.e_cb, ↓QL.e_snil, ↓QL.e_seq, ↓QL.e_asg, ↓QL.e_own, ↓QL.e_drop, ↓QL.e_ret, ↓QL.e_retN, ↓QL.e_sif, ↓QL.e_brk, ↓QL.e_cnt, ↓QL.e_nev, ↓QL.e_gn, ↓QL.e_gnil, ↓QL.e_gcons, ↓QL.e_gt, ↓QL.e_par, ↓QL.e_lstQ, ↓QL.e_intQ, ↓QL.e_augI, ↓QL.e_for, ↓QL.e_forN, ↓QL.e_forC, ↓QL.e_lc, ↓QL.e_riL, ↓QL.e_riT, ↓QL.e_riR1, ↓QL.e_riR2, ↓QL.e_riE, ↓QL.e_riZ, ↓QL.e_yes, ↓QL.o_add, ↓QL.o_addL, ↓QL.o_addT, ↓QL.o_addLL, ↓QL.o_sub, ↓QL.o_mul, ↓QL.o_div, ↓QL.o_mod, ↓QL.o_pow, ↓QL.o_shl, ↓QL.o_shr, ↓QL.o_neg, ↓QL.o_lt, ↓QL.o_le, ↓QL.o_gt, ↓QL.o_ge, ↓QL.o_eq, ↓QL.o_ne, ↓QL.o_iadd, ↓QL.o_isub, ↓QL.o_ixL, ↓QL.o_ixT, ↓QL.o_ixS, ↓QL.o_lenL, ↓QL.o_lenT, ↓QL.o_lenS, ↓QL.o_abs, ↓QL.o_int, ↓QL.o_max, ↓QL.o_min, ↓QL.o_sum, ↓QL.o_neS, ↓QL.o_eqTn, ↓QL.o_eqT3, ↓QL.o_neTn, ↓QL.o_neT2, ↓QL.e_fld, ↓QL.e_objO, ↓QL.e_fldS, ↓QL.e_make, ↓QL.e_meth, ↓QL.o_isiO, ↓QL.e_riEA, ↓QL.e_riZA, ↓QL.e_riR3, ↓QL.e_sli, ↓QL.e_roN, ↓QL.e_roS, ↓QL.o_sliL, ↓QL.o_sliT, ↓QL.o_inIT, ↓QL.o_inIL, ↓QL.e_isiT, ↓QL.e_ix0, ↓QL.e_ix1, ↓QL.e_ix2, ↓QL.o_maxL, ↓QL.o_minL, ↓QL.o_tupL, ↓QL.o_tupT, ↓QL.o_listL, ↓QL.o_listT, ↓QL.o_intB, ↓QL.o_allL, ↓QL.o_anyL, ↓QL.o_isN, ↓QL.o_isNI, ↓QL.o_isNN, ↓QL.o_isNT, ↓QL.o_isNL, ↓QL.o_ntN, ↓QL.o_ntNI, ↓QL.o_ntNN, ↓QL.o_ntNT, ↓QL.o_ntNL, ↓QL.e_dctQ, ↓QL.o_listD, ↓QL.e_lc2, ↓QL.e_riRA1, ↓QL.e_riRA2, ↓QL.o_divN, ↓QL.o_maxT, ↓QL.o_minT, ↓QL.e_dicQ, ↓QL.e_callD, ↓QL.e_starR, ↓QL.e_lstR1, ↓QL.e_truO, ↓QL.e_eithA, ↓QL.e_eith, ↓QL.e_seqT, ↓QL.e_seqL, ↓QL.o_eqB, ↓QL.o_neB, ↓QL.o_mulT, ↓QL.e_dc, ↓QL.o_sortedD, ↓QL.o_boolO, ↓QL.e_notO, ↓QL.o_sort3, ↓QL.o_sort2, ↓QL.e_rev, ↓QL.o_rev, ↓QL.o_min2, ↓QL.o_inP, ↓QL.e_riZM, ↓QL.e_raise, ↓QL.e_try, ↓QL.e_disp0, ↓QL.e_unErt, ↓QL.e_unEnx, ↓QL.e_xf, ↓QL.e_makeC, ↓QL.e_deed, ↓QL.e_hide, ↓QL.e_lam, ↓QL.e_hideN, ↓QL.e_hideO, ↓QL.e_hideV, ↓QL.e_hideU, ↓QL.o_max2, ↓QL.o_inL, ↓at_Line_a, ↓fq_Line_a, ↓at_Line_b, ↓fq_Line_b, ↓at_Composed_line, ↓fq_Composed_line, ↓at_Line_m, ↓fq_Line_m, ↓at_Broken_x, ↓fq_Broken_x, ↓at_Broken_y, ↓fq_Broken_y, ↓pn_Line_a, ↓px_Line_a, ↓pn_Line_b, ↓px_Line_b, ↓pn_Line_m, ↓px_Line_m, ↓pn_Composed_line, ↓px_Composed_line, ↓pn_Broken_x, ↓px_Broken_x, ↓pn_Broken_y, ↓px_Broken_y, ↓oq_Line_at, ↓oq_Composed_shows, ↓oq_Broken_shows, ↓ax_TooLarge_number, ↓u_Comp, ↓u_Brok, ↓u_short, ↓u_numI, ↓u_number, ↓u_take, ↓u_pick, ↓u_long, ↓k_rowT, ↓k_row0, ↓k_row1, ↓k_row2, ↓k_rowN, ↓k_rowI, ↓if_ff', ↓if_tt',  List.map_cons, List.map_nil, Bool.and_true, Bool.and_self, List.length_cons, List.length_nil]))
local macro_rules | `(tactic| walk_at "wi") => `(tactic| (try simp -implicitDefEqProofs only [↓QL.e_own0, ↓QL.e_c, ↓QL.e_var, ↓QL.e_valQ, ↓QL.e_ownQ, ↓QL.e_anyV, ↓QL.e_anyO, ↓QL.e_get0, ↓QL.e_getS, ↓QL.e_put0, ↓QL.e_putS, ↓QL.e_noN, ↓QL.e_noC, ↓QL.e_noU, ↓QL.e_noV, ↓QL.e_wipN, ↓QL.e_wipC, ↓QL.e_bakN, ↓QL.e_bakC, ↓QL.e_ownN, ↓QL.e_op, ↓QL.e_un, ↓QL.e_tst, ↓QL.e_bq, ↓QL.e_tru, ↓QL.e_notT, ↓QL.e_andT, ↓QL.e_orT, ↓QL.e_and, ↓QL.e_or, ↓QL.e_not, ↓QL.e_tqB, ↓QL.e_tqI, ↓QL.e_tqN, ↓QL.e_tqL, ↓QL.e_tqT, ↓QL.e_if, ↓QL.e_nil, ↓QL.e_cons, ↓QL.e_tup, ↓QL.e_lst, ↓QL.e_ixO, ↓QL.e_call, ↓QL.e_callM, ↓QL.e_cb, ↓QL.e_snil, ↓QL.e_seq, ↓QL.e_asg, ↓QL.e_own, ↓QL.e_drop, ↓QL.e_ret, ↓QL.e_retN, ↓QL.e_sif, ↓QL.e_brk, ↓QL.e_cnt, ↓QL.e_nev, ↓QL.e_gn, ↓QL.e_gnil, ↓QL.e_gcons, ↓QL.e_gt, ↓QL.e_par, ↓QL.e_lstQ, ↓QL.e_intQ, ↓QL.e_augI, ↓QL.e_for, ↓QL.e_forN, ↓QL.e_forC, ↓QL.e_lc, ↓QL.e_riL, ↓QL.e_riT, ↓QL.e_riR1, ↓QL.e_riR2, ↓QL.e_riE, ↓QL.e_riZ, ↓QL.e_yes, ↓QL.o_add, ↓QL.o_addL, ↓QL.o_addT, ↓QL.o_addLL, ↓QL.o_sub, ↓QL.o_mul, ↓QL.o_div, ↓QL.o_mod, ↓QL.o_pow, ↓QL.o_shl, ↓QL.o_shr, ↓QL.o_neg, ↓QL.o_lt, ↓QL.o_le, ↓QL.o_gt, ↓QL.o_ge, ↓QL.o_eq, ↓QL.o_ne, ↓QL.o_iadd, ↓QL.o_isub, ↓QL.o_ixL, ↓QL.o_ixT, ↓QL.o_ixS, ↓QL.o_lenL, ↓QL.o_lenT, ↓QL.o_lenS, ↓QL.o_abs, ↓QL.o_int, ↓QL.o_max, ↓QL.o_min, ↓QL.o_sum, ↓QL.o_neS, ↓QL.o_eqTn, ↓QL.o_eqT3, ↓QL.o_neTn, ↓QL.o_neT2, ↓QL.e_fld, ↓QL.e_objO, ↓QL.e_fldS, ↓QL.e_make, ↓QL.e_meth, ↓QL.o_isiO, ↓QL.e_riEA, ↓QL.e_riZA, ↓QL.e_riR3, ↓QL.e_sli, ↓QL.e_roN, ↓QL.e_roS, ↓QL.o_sliL, ↓QL.o_sliT, ↓QL.o_inIT, ↓QL.o_inIL, ↓QL.e_isiT, ↓QL.e_ix0, ↓QL.e_ix1, ↓QL.e_ix2, ↓QL.o_maxL, ↓QL.o_minL, ↓QL.o_tupL, ↓QL.o_tupT, ↓QL.o_listL, ↓QL.o_listT, ↓QL.o_intB, ↓QL.o_allL, ↓QL.o_anyL, ↓QL.o_isN, ↓QL.o_isNI, ↓QL.o_isNN, ↓QL.o_isNT, ↓QL.o_isNL, ↓QL.o_ntN, ↓QL.o_ntNI, ↓QL.o_ntNN, ↓QL.o_ntNT, ↓QL.o_ntNL, ↓QL.e_dctQ, ↓QL.o_listD, ↓QL.e_lc2, ↓QL.e_riRA1, ↓QL.e_riRA2, ↓QL.o_divN, ↓QL.o_maxT, ↓QL.o_minT, ↓QL.e_dicQ, ↓QL.e_callD, ↓QL.e_starR, ↓QL.e_lstR1, ↓QL.e_truO, ↓QL.e_eithA, ↓QL.e_eith, ↓QL.e_seqT, ↓QL.e_seqL, ↓QL.o_eqB, ↓QL.o_neB, ↓QL.o_mulT, ↓QL.e_dc, ↓QL.o_sortedD, ↓QL.o_boolO, ↓QL.e_notO, ↓QL.o_sort3, ↓QL.o_sort2, ↓QL.e_rev, ↓QL.o_rev, ↓QL.o_min2, ↓QL.o_inP, ↓QL.e_riZM, ↓QL.e_raise, ↓QL.e_try, ↓QL.e_disp0, ↓QL.e_unErt, ↓QL.e_unEnx, ↓QL.e_xf, ↓QL.e_makeC, ↓QL.e_deed, ↓QL.e_hide, ↓QL.e_lam, ↓QL.e_hideN, ↓QL.e_hideO, ↓QL.e_hideV, ↓QL.e_hideU, ↓QL.o_max2, ↓QL.o_inL, ↓at_Line_a, ↓fq_Line_a, ↓at_Line_b, ↓fq_Line_b, ↓at_Composed_line, ↓fq_Composed_line, ↓at_Line_m, ↓fq_Line_m, ↓at_Broken_x, ↓fq_Broken_x, ↓at_Broken_y, ↓fq_Broken_y, ↓pn_Line_a, ↓px_Line_a, ↓pn_Line_b, ↓px_Line_b, ↓pn_Line_m, ↓px_Line_m, ↓pn_Composed_line, ↓px_Composed_line, ↓pn_Broken_x, ↓px_Broken_x, ↓pn_Broken_y, ↓px_Broken_y, ↓oq_Line_at, ↓oq_Composed_shows, ↓oq_Broken_shows, ↓ax_TooLarge_number, ↓sz2, ↓sz3, ↓k_rowsE, ↓k_rowsNe, List.length_map, true_and, ↓u_Comp, ↓u_Brok, ↓u_short, ↓u_numI, ↓u_number, ↓u_take, ↓u_pick, ↓u_long, ↓k_rowT, ↓k_row0, ↓k_row1, ↓k_row2, ↓k_rowN, ↓k_rowI, ↓if_ff', ↓if_tt',  List.map_cons, List.map_nil, Bool.and_true, Bool.and_self, List.length_cons, List.length_nil]))
theorem ok_is_number (T : Tx K mg ad) : FnOk P w K mg base (L2.CX P w) 1 ad.f_is_number ad.d_is_number ["value"] (spA K 1 (S_num)) := by
  refine fnA (k := 0) T.F_is_number sc_is_number fun cdv A outer s H F0 E EX hr tk => ⟨_, (qs_one (qs_ret (q_and (q_callB qc_isiB (by rfl) T.n_isinstance bt_isinstance (qa_cons (q_var (pv 0)) (qa_cons (q_raw (pe_bltn (v := .ty "int") (by rfl) T.n_int bt_int rfl)) qa_nil))) (q_one (q_not (q_callB qc_isiB (by rfl) T.n_isinstance bt_isinstance (qa_cons (q_var (pv 0)) (qa_cons (q_raw (pe_bltn (v := .ty "bool") (by rfl) T.n_bool bt_bool rfl)) qa_nil)))))))), fun ds Q hn h => ?_⟩
  unfold S_num at h
  split at h
  rotate_left
  · exact h.elim
  obtain ⟨i, rfl, q⟩ := h
  show sRet _ _ [.val (.int i)]
  walk_at "q"
  refine ⟨_, _, rfl, (by decide +kernel : kitB "int" "int" = some true), ?_⟩
  walk_at "q"
  exact ⟨_, _, rfl, (by decide +kernel : kitB "int" "bool" = some false), q⟩
theorem ok__law_number (T : Tx K mg ad) : FnOk P w K mg base (L2.CX P w) 1 ad.f__law_number ad.d__law_number ["script", "index"] (spA K 2 (S_number)) := by
  refine fnA (k := 0) T.F__law_number sc__law_number fun cdv A outer s H F0 E EX hr tk => ⟨_, (qs_cons (qs_asg (q_cut (q_if (qt_cmp (qo_ne hr.units) (q_var (pv 0)) (q_lst qa_nil)) (q_tup (qa_cons (q_ix (q_var (pv 0)) (q_op qo_mod (q_var (pv 1)) (q_callB qc_len (by rfl) T.n_len bt_len (qa_cons (q_var (pv 0)) qa_nil)))) (qa_cons (q_op qo_div (q_var (pv 1)) (q_callB qc_len (by rfl) T.n_len bt_len (qa_cons (q_var (pv 0)) qa_nil))) qa_nil))) (q_tup (qa_cons q_int (qa_cons q_int qa_nil))))) (qg_t (n := 2) rfl (qgs_cons (qg_n (pg_name (i := 2) sc__law_number.nd rfl (.inl rfl)) (.inl rfl)) (qgs_cons (qg_n (pg_name (i := 3) sc__law_number.nd rfl (.inl rfl)) (.inl rfl)) qgs_nil))))
      (qs_cons (qs_set (i := 4) sc__law_number.nd rfl (.inl rfl) (.inl rfl) (q_cut (q_if (qt_cmp qo_lt (q_var (pv 3)) q_int) (q_op qo_sub (q_var (pv 2)) (q_op qo_pow q_int q_int)) q_int)))
      (qs_cons (qs_for PassesOwn.leaving rfl (qi_r1 (by rfl) T.n_range (qa_cons (q_op qo_mod (q_callTy qc_int (by rfl) T.n_int bt_int (qa_cons (q_var (pv 3)) qa_nil)) q_int) qa_nil)) (qg_n (pg_name (i := 5) sc__law_number.nd rfl (.inl rfl)) (.inl rfl)) (qs_one (qs_set (i := 4) sc__law_number.nd rfl (.inl rfl) (.inl rfl) (q_op qo_div (q_var (pv 4)) q_int))))
      (qs_cons (qs_if (qt_cmp qo_gt (q_var (pv 4)) q_int) (qs_one (qs_ret (q_op qo_mod (q_callTy qc_int (by rfl) T.n_int bt_int (qa_cons (q_var (pv 4)) qa_nil)) q_int))) qs_nil)
      (qs_cons (qs_set (i := 6) sc__law_number.nd rfl (.inl rfl) (.inl rfl) (q_op qo_mod (q_op qo_add (q_op qo_mul (q_callTy qc_int (by rfl) T.n_int bt_int (qa_cons (q_op qo_add (q_var (pv 2)) (q_op qo_mul q_int (q_var (pv 1)))) qa_nil)) q_int) (q_op qo_mul q_int (q_callB qc_len (by rfl) T.n_len bt_len (qa_cons (q_var (pv 0)) qa_nil)))) q_int))
      (qs_cons (qs_set (i := 6) sc__law_number.nd rfl (.inl rfl) (.inl rfl) (q_op qo_mod (q_op qo_add (q_op qo_mul (q_var (pv 6)) (q_var (pv 6))) (q_op qo_mul q_int (q_var (pv 1)))) q_int))
      (qs_one (qs_ret (q_callTy qc_int (by rfl) T.n_int bt_int (qa_cons (q_op qo_mod (q_op qo_add (q_op qo_mul (q_var (pv 6)) q_int) (q_op qo_div (q_var (pv 6)) q_int)) q_int) qa_nil)))))))))), fun ds Q hn h => ?_⟩
  unfold S_number at h
  split at h
  rotate_left
  · exact h.elim
  rename_i ns i
  obtain ⟨hl, q⟩ := h
  show sSeq _ _ _ [.val (.scr ns), .val (.int i), .un, .un, .un, .un, .un]
  walk_at "q"
  refine ⟨fun d env' => env' = [.val (.scr ns), .val (.int i), .un, .un, .un, .un, .un] ∧ ∃ c t, d = .tup [.int c, .int t], ?_, ?_⟩
  · walk_at "q"
    refine ⟨Nat.zero_le _, ?_⟩
    split
    · rename_i h0
      have hp : 0 < ns.length := by
        cases ns with
        | nil => simp at h0
        | cons _ _ => exact Nat.succ_pos _
      have hm := Int.emod_nonneg i (show (ns.length : Int) ≠ 0 by omega)
      have hm2 := Int.emod_lt_of_pos i (show 0 < (ns.length : Int) by omega)
      obtain ⟨n, hn, _⟩ := atI_get_nat hm hm2
      exact ⟨by omega, n, hn, DOk.small (by omega) (by omega), (by decide), trivial, _, _, rfl⟩
    · exact ⟨(by decide), trivial, _, _, rfl⟩
  rintro d env' ⟨rfl, c, t, rfl⟩
  walk_at "q"
  refine ⟨trivial, ?_⟩
  refine ⟨fun d env' => env' = [.val (.scr ns), .val (.int i), .val (.int c), .val (.int t), .un, .un, .un] ∧ ∃ r, d = .int r, ?_, ?_⟩
  · walk_at "q"
    split
    · exact ⟨by decide, trivial, _, rfl⟩
    · exact ⟨trivial, _, rfl⟩
  rintro d env' ⟨rfl, r, rfl⟩
  walk_at "q"
  have hm := Int.emod_nonneg t (show (60 : Int) ≠ 0 by decide)
  have hm2 := Int.emod_lt_of_pos t (show (0 : Int) < 60 by decide)
  refine ⟨by decide, ⟨by omega, by omega⟩, ?_⟩
  refine forR_rng (fun _ env => ∃ r s, env = [.val (.scr ns), .val (.int i), .val (.int c), .val (.int t), .val (.int r), s, .un]) ⟨r, .un, rfl⟩ ?_ ?_
  · rintro k env N hk ⟨r, s, rfl⟩ hN
    walk_at "q"
    exact ⟨DOk.small (by decide) (by decide), hN _ ⟨_, _, rfl⟩⟩
  · rintro env ⟨r, s, rfl⟩
    walk_at "q"
    split
    · exact ⟨by decide, q _⟩
    · have hb := Int.emod_nonneg ((c + 977 * i) * 48271 + 31 * (ns.length : Int)) (show (2147483647 : Int) ≠ 0 by decide)
      have hb2 := Int.emod_lt_of_pos ((c + 977 * i) * 48271 + 31 * (ns.length : Int)) (show (0 : Int) < 2147483647 by decide)
      exact ⟨.l (by decide) (by decide), .r (by decide) (by decide), .l (by decide) (by decide), by decide, .l (by omega) (by omega), .l (by decide) (by decide), by decide, .r (by decide) (by decide), DOk.small (by decide) (by decide), by decide, q _⟩
theorem ok__law_take (T : Tx K mg ad) : FnOk P w K mg base (L2.CX P w) 2 ad.f__law_take ad.d__law_take ["draw", "many"] (spB K 1 (M_take)) := by
  have G__law_number := ok__law_number (P := P) (w := w) (base := base) T
  refine fnB (k := 1) T.F__law_take sc__law_take rfl fun cdv A outer s H B F0 a E EX hr tk => ⟨_, (qs_cons (qs_augI (pv 0) q_int qip_add q_int)
      (qs_one (qs_ret (q_op qo_mod (q_callTy qc_int (by rfl) T.n_int bt_int (qa_cons (q_call G__law_number (hr.mono (by decide)) (by rfl) T.g__law_number T.k__law_number T.b__law_number tkE0 (qa_cons (q_ixO (pv 0) q_int) (qa_cons (q_callTy qc_int (by rfl) T.n_int bt_int (qa_cons (q_ixO (pv 0) q_int) qa_nil)) qa_nil))) qa_nil)) (q_var (pv 1)))))), fun d0 ds Q hn h => ?_⟩
  unfold M_take at h
  split at h
  rotate_left
  · exact h.elim
  rename_i many
  show sSeq _ _ _ [.own d0, .val (.int many)]
  obtain ⟨⟨ns, k, hns, rfl⟩, hm, q⟩ := h
  walk_at "q"
  first | (refine ⟨.int k, rfl, ?_⟩; walk_at "q") | skip
  refine ⟨1, rfl, .scr ns, rfl, .int (k + 1), rfl, ?_⟩
  walk_at "q"
  refine ⟨trivial, hns, fun r => ?_⟩
  walk_at "q"
  exact ⟨hm, q _ _ (Int.emod_nonneg _ (by omega)) (Int.emod_lt_of_pos _ hm) ⟨ns, k + 1, hns, rfl⟩⟩
theorem ok__law_pick (T : Tx K mg ad) : FnOk P w K mg base (L2.CX P w) 3 ad.f__law_pick ad.d__law_pick ["draw", "items"] (spB K 1 (M_pick)) := by
  have G__law_take := ok__law_take (P := P) (w := w) (base := base) T
  refine fnB (k := 2) T.F__law_pick sc__law_pick rfl fun cdv A outer s H B F0 a E EX hr tk => ⟨_, (qs_one (qs_ret (q_ix (q_var (pv 1)) (q_callM G__law_take (hr.mono (by decide)) (by rfl) T.g__law_take T.k__law_take T.b__law_take tkE0 (pv 0) (qa_cons (q_callB qc_len (by rfl) T.n_len bt_len (qa_cons (q_var (pv 1)) qa_nil)) qa_nil))))), fun d0 ds Q hn h => ?_⟩
  unfold M_pick at h
  split at h
  rotate_left
  · exact h.elim
  rename_i xs
  obtain ⟨hD, ⟨h1, h2⟩, q⟩ := h
  show sRet _ _ [.own d0, .val (.lst xs)]
  walk_at "q"
  refine ⟨trivial, hD, by omega, fun r d' h3 h4 hD' => ?_⟩
  obtain ⟨z, hz, hm⟩ := atI_get_nat h3 h4
  exact ⟨z, hz, q _ _ hm hD'⟩
theorem ok__law_long (T : Tx K mg ad) : FnOk P w K mg base (L2.CX P w) 3 ad.f__law_long ad.d__law_long ["draw", "figures"] (spB K 1 (M_long)) := by
  have G__law_take := ok__law_take (P := P) (w := w) (base := base) T
  refine fnB (k := 2) T.F__law_long sc__law_long rfl fun cdv A outer s H B F0 a E EX hr tk => ⟨_, (qs_cons (qs_set (i := 2) sc__law_long.nd rfl (.inl rfl) (.inr (by decide)) q_int)
      (qs_cons (qs_for PassesOwn.leaving rfl (qi_r1 (by rfl) T.n_range (qa_cons (q_callM G__law_take (hr.mono (by decide)) (by rfl) T.g__law_take T.k__law_take T.b__law_take tkE0 (pv 0) (qa_cons (q_op qo_add (q_var (pv 1)) q_int) qa_nil)) qa_nil)) (qg_n (pg_name (i := 3) sc__law_long.nd rfl (.inl rfl)) (.inr (by decide))) (qs_one (qs_set (i := 2) sc__law_long.nd rfl (.inl rfl) (.inr (by decide)) (q_op qo_add (q_op qo_mul q_int (q_var (pv 2))) (q_callM G__law_take (hr.mono (by decide)) (by rfl) T.g__law_take T.k__law_take T.b__law_take tkE0 (pv 0) (qa_cons q_int qa_nil))))))
      (qs_one (qs_ret (q_if (qt_cmp (qo_eq hr.units) (q_callM G__law_take (hr.mono (by decide)) (by rfl) T.g__law_take T.k__law_take T.b__law_take tkE0 (pv 0) (qa_cons q_int qa_nil)) q_int) (q_var (pv 2)) (q_op qo_sub q_int (q_var (pv 2)))))))), fun d0 ds Q hn h => ?_⟩
  unfold M_long at h
  split at h
  rotate_left
  · exact h.elim
  rename_i f
  obtain ⟨hD, ⟨h1, h2⟩, q⟩ := h
  show sSeq _ _ _ [.own d0, .val (.int f), .un, .un]
  walk_at "q"
  refine ⟨trivial, hD, by omega, fun n d' h3 h4 hD' => ?_⟩
  refine ⟨⟨by omega, by omega⟩, ?_⟩
  refine forR_rng (fun i env => ∃ d' r s, Drw d' ∧ r.natAbs < 10 ^ i ∧ 0 ≤ r ∧ env = [.own d', .val (.int f), .val (.int r), s]) ⟨d', 0, .un, hD', by decide, by decide, rfl⟩ ?_ ?_
  · rintro k env N hk ⟨d', r, s, hD', hr, hr0, rfl⟩ hN
    walk_at "q"
    refine ⟨.l (by decide) (by decide), trivial, hD', by decide, fun x d2 hx1 hx2 hD2 => hN _ ⟨d2, _, _, hD2, ?_, ?_, rfl⟩⟩
    · have e : (10 : Nat) ^ (k + 1) = 10 ^ k * 10 := rfl
      omega
    · omega
  · rintro env ⟨d', r, s, hD', hr, hr0, rfl⟩
    have hr' : r.natAbs < 10 ^ f.toNat := Nat.lt_of_lt_of_le hr (Nat.pow_le_pow_right (by decide) (by omega))
    walk_at "q"
    refine ⟨trivial, hD', by decide, fun x d2 hx1 hx2 hD2 => ?_⟩
    split
    · exact q _ _ hr' hD2
    · exact q _ _ (by omega) hD2
theorem ok_TooLarge___init__ (T : Tx K mg ad) : FnOk P w K mg base (L2.CX P w) 1 ad.f_TooLarge___init__ ad.d_TooLarge___init__ ["self", "number"] (spI ad.c_TooLarge "number") :=
  fnI T.F_TooLarge___init__ sc_TooLarge___init__ rfl T.ox_TooLarge T.no_TooLarge_number fun cdv A outer s H E => pss_one (ps_ost (pv 0) (pv 1))
theorem ok_Line___init__ (T : Tx K mg ad) : FnOk P w K mg base (L2.CX P w) 3 ad.f_Line___init__ ad.d_Line___init__ ["self", "a", "b", "m"] (spB K 3 (M_Line ad)) := by
  have G_is_number := ok_is_number (P := P) (w := w) (base := base) T
  refine fnB (k := 2) T.F_Line___init__ sc_Line___init__ rfl fun cdv A outer s H B F0 a E EX hr tk => ⟨_, (qs_cons (qs_for PassesOwn.leaving rfl (qi_t (q_tup (qa_cons (q_var (pv 1)) (qa_cons (q_var (pv 2)) (qa_cons (q_var (pv 3)) qa_nil))))) (qg_n (pg_name (i := 4) sc_Line___init__.nd rfl (.inl rfl)) (.inr (by decide))) (qs_one (qs_if (qt_not (qt_tru (q_call G_is_number (hr.mono (by decide)) (by rfl) T.g_is_number T.k_is_number T.b_is_number tkE0 (qa_cons (q_var (pv 4)) qa_nil)))) (qs_one qs_nev) qs_nil)))
      (qs_cons (qs_if (qt_cmp qo_lt (q_var (pv 3)) q_int) (qs_one qs_nev) qs_nil)
      (qs_cons (qs_fld (hf_a T) (pv 0) (q_var (pv 1)))
      (qs_cons (qs_fld (hf_b T) (pv 0) (q_var (pv 2)))
      (qs_one (qs_fld (hf_m T) (pv 0) (q_var (pv 3)))))))), fun d0 ds Q hn h => ?_⟩
  unfold M_Line at h
  split at h
  rotate_left
  · exact h.elim
  rename_i a b m
  obtain ⟨rfl, hm, q⟩ := h
  show sSeq _ _ _ [.own _, .val (.int a), .val (.int b), .val (.int m), .un]
  walk_at "wi"
  rw [if_neg (by decide), if_neg (by decide), if_neg (by decide), if_neg (by rw [decide_eq_true_eq]; omega)]
  exact ⟨by decide, by decide, by decide, q⟩
theorem ok_Line___eq__ (T : Tx K mg ad) : FnOk P w K mg base (L2.CX P w) 1 ad.f_Line___eq__ ad.d_Line___eq__ ["self", "other"] (spA K 2 (S_Leq ad)) := by
  refine fnA (k := 0) T.F_Line___eq__ sc_Line___eq__ fun cdv A outer s H F0 E EX hr tk => ⟨_, (qs_one (qs_ret (q_and (q_callB qc_isiC (by rfl) T.n_isinstance bt_isinstance (qa_cons (q_var (pv 1)) (qa_cons (q_cls (by rfl) T.g_Line) qa_nil))) (q_one (q_cmp (qo_eq hr.units) (q_tup (qa_cons (q_fld (hf_a T) (q_var (pv 0))) (qa_cons (q_fld (hf_b T) (q_var (pv 0))) (qa_cons (q_fld (hf_m T) (q_var (pv 0))) qa_nil)))) (q_tup (qa_cons (q_fld (hf_a T) (q_var (pv 1))) (qa_cons (q_fld (hf_b T) (q_var (pv 1))) (qa_cons (q_fld (hf_m T) (q_var (pv 1))) qa_nil))))))))), fun ds Q hn h => ?_⟩
  unfold S_Leq at h
  split at h
  rotate_left
  · exact h.elim
  obtain ⟨L, M, rfl, rfl, q⟩ := h
  show sRet _ _ [.val (lnD ad L), .val (lnD ad M)]
  walk_at "wi"
  refine ⟨T.isc_Line, true, T.i_Line_Line, ?_⟩
  rw [if_pos rfl]
  have e : decide ([L.1, L.2.1, L.2.2] = [M.1, M.2.1, M.2.2]) = decide (L = M) := by
    obtain ⟨a, b, c⟩ := L
    obtain ⟨d, e, f⟩ := M
    simp
  rw [e]
  exact q
theorem ok_Line_at (T : Tx K mg ad) : FnOk P w K mg base (L2.CX P w) 1 ad.f_Line_at ad.d_Line_at ["self", "x"] (spA K 2 (S_at ad)) := by
  refine fnA (k := 0) T.F_Line_at sc_Line_at fun cdv A outer s H F0 E EX hr tk => ⟨_, (qs_one (qs_ret (q_op qo_div (q_op qo_add (q_op qo_mul (q_fld (hf_a T) (q_var (pv 0))) (q_var (pv 1))) (q_fld (hf_b T) (q_var (pv 0)))) (q_fld (hf_m T) (q_var (pv 0)))))), fun ds Q hn h => ?_⟩
  unfold S_at at h
  split at h
  rotate_left
  · exact h.elim
  rename_i d x
  obtain ⟨L, rfl, ⟨h1, h2⟩, q⟩ := h
  show sRet _ _ [.val (lnD ad L), .val (.int x)]
  walk_at "wi"
  exact ⟨MOk.of h1.1.1 h2 (by decide), DOk.of (by have := h1.2; omega) h1.1.2.2 (by decide), q⟩
theorem ok_Composed___init__ (T : Tx K mg ad) : FnOk P w K mg base (L2.CX P w) 1 ad.f_Composed___init__ ad.d_Composed___init__ ["self", "line"] (spB K 1 (M_Comp ad)) := by
  refine fnB (k := 0) T.F_Composed___init__ sc_Composed___init__ rfl fun cdv A outer s H B F0 a E EX hr tk => ⟨_, (qs_one (qs_fld (hf_line T) (pv 0) (q_var (pv 1)))), fun d0 ds Q hn h => ?_⟩
  unfold M_Comp at h
  split at h
  rotate_left
  · exact h.elim
  rename_i d
  obtain ⟨rfl, q⟩ := h
  show sFldS _ _ _ _ _ [.own _, .val d]
  walk_at "wi"
  exact ⟨by decide, q⟩
theorem ok_Composed___bool__ (T : Tx K mg ad) : FnOk P w K mg base (L2.CX P w) 1 ad.f_Composed___bool__ ad.d_Composed___bool__ ["self"] (spA K 1 (S_bT true)) := by
  refine fnA (k := 0) T.F_Composed___bool__ sc_Composed___bool__ fun cdv A outer s H F0 E EX hr tk => ⟨_, (qs_one (qs_ret q_bl)), fun ds Q hn h => ?_⟩
  cases ds with
  | nil => cases hn
  | cons d rest => cases rest with
    | cons _ _ => cases hn
    | nil =>
      show sRet _ _ [.val d]
      walk_at "wi"
      exact h d rfl
theorem ok_Broken___init__ (T : Tx K mg ad) : FnOk P w K mg base (L2.CX P w) 1 ad.f_Broken___init__ ad.d_Broken___init__ ["self", "x", "y"] (spB K 2 (M_Brok ad)) := by
  refine fnB (k := 0) T.F_Broken___init__ sc_Broken___init__ rfl fun cdv A outer s H B F0 a E EX hr tk => ⟨_, (qs_cons (qs_fld (hf_x T) (pv 0) (q_var (pv 1)))
      (qs_one (qs_fld (hf_y T) (pv 0) (q_var (pv 2))))), fun d0 ds Q hn h => ?_⟩
  unfold M_Brok at h
  split at h
  rotate_left
  · exact h.elim
  rename_i a b
  obtain ⟨rfl, q⟩ := h
  show sSeq _ _ _ [.own _, .val a, .val b]
  walk_at "wi"
  exact ⟨by decide, by decide, q⟩
theorem ok_Broken___bool__ (T : Tx K mg ad) : FnOk P w K mg base (L2.CX P w) 1 ad.f_Broken___bool__ ad.d_Broken___bool__ ["self"] (spA K 1 (S_bT false)) := by
  refine fnA (k := 0) T.F_Broken___bool__ sc_Broken___bool__ fun cdv A outer s H F0 E EX hr tk => ⟨_, (qs_one (qs_ret q_bl)), fun ds Q hn h => ?_⟩
  cases ds with
  | nil => cases hn
  | cons d rest => cases rest with
    | cons _ _ => cases hn
    | nil =>
      show sRet _ _ [.val d]
      walk_at "wi"
      exact h d rfl
theorem ok_slope_of (T : Tx K mg ad) : FnOk P w K mg base (L2.CX P w) 1 ad.f_slope_of ad.d_slope_of ["one", "other"] (spA K 2 (S_slope ad)) := by
  refine fnA (k := 0) T.F_slope_of sc_slope_of fun cdv A outer s H F0 E EX hr tk => ⟨_, (qs_one (qs_ret (q_tup (qa_cons (q_op qo_mul (q_fld (hf_a T) (q_var (pv 0))) (q_fld (hf_a T) (q_var (pv 1)))) (qa_cons (q_op qo_mul (q_fld (hf_m T) (q_var (pv 0))) (q_fld (hf_m T) (q_var (pv 1)))) qa_nil))))), fun ds Q hn h => ?_⟩
  unfold S_slope at h
  split at h
  rotate_left
  · exact h.elim
  obtain ⟨L, M, rfl, rfl, ⟨h1, h2⟩, q⟩ := h
  show sRet _ _ [.val (lnD ad L), .val (lnD ad M)]
  walk_at "wi"
  exact ⟨MOk.of h1.1.1 h2.1.1 (by decide), MOk.of h1.1.2.2 h2.1.2.2 (by decide), q⟩
theorem ok_both_at (T : Tx K mg ad) : FnOk P w K mg base (L2.CX P w) 2 ad.f_both_at ad.d_both_at ["one", "other", "x"] (spA K 3 (S_two ad both)) := by
  have G_Line_at := ok_Line_at (P := P) (w := w) (base := base) T
  refine fnA (k := 1) T.F_both_at sc_both_at fun cdv A outer s H F0 E EX hr tk => ⟨_, (qs_one (qs_ret (q_meth T.cl_Line T.me_Line_at G_Line_at (hr.mono (by decide)) T.b_Line_at tkE0 (q_var (pv 1)) (qa_cons (q_meth T.cl_Line T.me_Line_at G_Line_at (hr.mono (by decide)) T.b_Line_at tkE0 (q_var (pv 0)) (qa_cons (q_var (pv 2)) qa_nil)) qa_nil)))), fun ds Q hn h => ?_⟩
  unfold S_two at h
  split at h
  rotate_left
  · exact h.elim
  rename_i d e x
  obtain ⟨L, M, rfl, rfl, ⟨h1, h2, hx⟩, q⟩ := h
  show sRet _ _ [.val (lnD ad L), .val (lnD ad M), .val (.int x)]
  walk_at "wi"
  refine use_at ⟨h1, hx.up (by decide)⟩ (use_at ⟨h2, (sm_at h1 hx).up (by decide)⟩ q)
theorem ok_needed (T : Tx K mg ad) : FnOk P w K mg base (L2.CX P w) 3 ad.f_needed ad.d_needed ["one", "other", "x"] (spA K 3 (S_two ad nd)) := by
  have G_both_at := ok_both_at (P := P) (w := w) (base := base) T
  have G_slope_of := ok_slope_of (P := P) (w := w) (base := base) T
  refine fnA (k := 2) T.F_needed sc_needed fun cdv A outer s H F0 E EX hr tk => ⟨_, (qs_cons (qs_asg (q_call G_slope_of (hr.mono (by decide)) (by rfl) T.g_slope_of T.k_slope_of T.b_slope_of tkE0 (qa_cons (q_var (pv 0)) (qa_cons (q_var (pv 1)) qa_nil))) (qg_t (n := 2) rfl (qgs_cons (qg_n (pg_name (i := 3) sc_needed.nd rfl (.inl rfl)) (.inl rfl)) (qgs_cons (qg_n (pg_name (i := 4) sc_needed.nd rfl (.inl rfl)) (.inl rfl)) qgs_nil))))
      (qs_one (qs_ret (q_op qo_sub (q_op qo_mul (q_call G_both_at (hr.mono (by decide)) (by rfl) T.g_both_at T.k_both_at T.b_both_at tkE0 (qa_cons (q_var (pv 0)) (qa_cons (q_var (pv 1)) (qa_cons (q_var (pv 2)) qa_nil)))) (q_var (pv 4))) (q_op qo_mul (q_var (pv 3)) (q_var (pv 2))))))), fun ds Q hn h => ?_⟩
  unfold S_two at h
  split at h
  rotate_left
  · exact h.elim
  rename_i d e x
  obtain ⟨L, M, rfl, rfl, ⟨h1, h2, hx⟩, q⟩ := h
  show sSeq _ _ _ [.val (lnD ad L), .val (lnD ad M), .val (.int x), .un, .un]
  walk_at "wi"
  refine use_slope ⟨h1, h2⟩ ?_
  walk_at "wi"
  refine use_two ⟨h1, h2, hx⟩ ?_
  have hb : Sm 404 (both L M x) := sm_at h2 (sm_at h1 hx)
  exact ⟨MOk.of hb (sm_per h1 h2) (by decide), MOk.of (sm_sl h1 h2) hx (by decide), q⟩
theorem ok_room (T : Tx K mg ad) : FnOk P w K mg base (L2.CX P w) 4 ad.f_room ad.d_room ["one", "other", "x"] (spA K 3 (S_two ad rm)) := by
  have G_needed := ok_needed (P := P) (w := w) (base := base) T
  refine fnA (k := 3) T.F_room sc_room fun cdv A outer s H F0 E EX hr tk => ⟨_, (qs_one (qs_ret (q_op qo_sub (q_op qo_add (q_call G_needed (hr.mono (by decide)) (by rfl) T.g_needed T.k_needed T.b_needed tkE0 (qa_cons (q_var (pv 0)) (qa_cons (q_var (pv 1)) (qa_cons (q_var (pv 2)) qa_nil)))) (q_op qo_mul (q_fld (hf_m T) (q_var (pv 0))) (q_fld (hf_m T) (q_var (pv 1))))) q_int))), fun ds Q hn h => ?_⟩
  unfold S_two at h
  split at h
  rotate_left
  · exact h.elim
  rename_i d e x
  obtain ⟨L, M, rfl, rfl, ⟨h1, h2, hx⟩, q⟩ := h
  show sRet _ _ [.val (lnD ad L), .val (lnD ad M), .val (.int x)]
  walk_at "wi"
  refine use_two ⟨h1, h2, hx⟩ ?_
  walk_at "wi"
  exact ⟨MOk.of h1.1.2.2 h2.1.2.2 (by decide), q⟩
theorem ok_least_room (T : Tx K mg ad) : FnOk P w K mg base (L2.CX P w) 5 ad.f_least_room ad.d_least_room ["one", "other"] (spA K 2 (S_lroom ad)) := by
  have G_room := ok_room (P := P) (w := w) (base := base) T
  refine fnA (k := 4) T.F_least_room sc_least_room fun cdv A outer s H F0 E EX hr tk => ⟨_, (qs_one (qs_ret (q_callB (qc_min rfl) (by rfl) T.n_min bt_min (qa_cons (q_lcN (own := [("x", 2)]) rfl sc_least_room.nd (.inl rfl) (qi_r1 (by rfl) T.n_range (qa_cons (q_op qo_mul (q_fld (hf_m T) (q_var (pv 0))) (q_fld (hf_m T) (q_var (pv 1)))) qa_nil)) (blkOk_by (by kernel_rfl)) (fun _ _ _ _ _ _ => (qg_n (pg_name (i := 2) sc_least_room.nd rfl (.inl rfl)) (.inl rfl))) (fun _ _ _ _ _ _ => qts_nil) (fun _ _ _ _ _ _ => (q_call G_room (hr.mono (by decide)) (by rfl) T.g_room T.k_room T.b_room tkE0 (qa_cons (q_var (pv 0)) (qa_cons (q_var (pv 1)) (qa_cons (q_var (pv 2)) qa_nil)))))).qe qa_nil)))), fun ds Q hn h => ?_⟩
  unfold S_lroom at h
  split at h
  rotate_left
  · exact h.elim
  obtain ⟨L, M, rfl, rfl, ⟨h1, h2, hm⟩, q⟩ := h
  show sRet _ _ [.val (lnD ad L), .val (lnD ad M), .un]
  walk_at "wi"
  have hp := per_pos h1 h2
  refine ⟨MOk.of h1.1.2.2 h2.1.2.2 (by decide), ⟨by omega, by omega⟩, ?_⟩
  refine lcR_inv (fun i acc env => acc = (List.range i).map (fun j : Nat => D.int (rm L M j)) ∧ env = [.val (lnD ad L), .val (lnD ad M), .un]) ⟨rfl, rfl⟩ ?_ ?_
  · rintro i x acc env N hx ⟨rfl, rfl⟩ hN
    obtain ⟨hi, rfl⟩ := rng_get hx
    walk_at "wi"
    rw [Int.zero_add]
    refine use_two ⟨h1, h2, sm3 hm hi⟩ ⟨?_, hN _ _ ⟨?_, ?_⟩⟩
    · exact Nat.lt_of_le_of_lt (show _ ≤ 3000 by rw [List.length_range]; omega) (by decide)
    · rw [List.range_succ, List.map_append]; rfl
    · walk_at "wi"
  · rintro acc env ⟨rfl, rfl⟩
    rw [rng_len]
    refine ⟨_, allInts_of (f := fun j : Nat => rm L M j), ?_, fun m hm1 hm2 => q m (mn_of ?_ fun y hy => ?_)⟩
    · rw [List.length_map, List.length_range]; omega
    · obtain ⟨j, hj, e⟩ := List.mem_map.mp hm1
      refine List.mem_map.mpr ⟨j, hj, ?_⟩
      show nd L M j = _
      have e : nd L M j + L.2.2 * M.2.2 - 1 = m := e
      omega
    · obtain ⟨j, hj, e⟩ := List.mem_map.mp hy
      have e : nd L M j = y := e
      have := hm2 (rm L M j) (List.mem_map.mpr ⟨j, hj, rfl⟩)
      unfold rm at this
      omega
theorem ok_check_period (T : Tx K mg ad) : FnOk P w K mg base (L2.CX P w) 3 ad.f_check_period ad.d_check_period ["one", "other"] (spA K 2 (S_cper ad)) := by
  have G_TooLarge___init__ := ok_TooLarge___init__ (P := P) (w := w) (base := base) T
  refine fnA (k := 2) T.F_check_period sc_check_period fun cdv A outer s H F0 E EX hr tk => ⟨_, (qs_one (qs_if (qt_cmp qo_gt (q_op qo_mul (q_fld (hf_m T) (q_var (pv 0))) (q_fld (hf_m T) (q_var (pv 1)))) (q_gi (by rfl) T.g_MOST_PERIOD)) (qs_one (qs_raise T.ox_TooLarge T.ix_TooLarge T.jx_TooLarge G_TooLarge___init__ (hr.mono (by decide)) (by rfl) T.g_TooLarge T.b_TooLarge___init__ rfl tk (q_op qo_mul (q_fld (hf_m T) (q_var (pv 0))) (q_fld (hf_m T) (q_var (pv 1)))))) qs_nil)), fun ds Q hn h => ?_⟩
  unfold S_cper at h
  split at h
  rotate_left
  · exact h.elim
  obtain ⟨L, M, rfl, rfl, ⟨h1, h2⟩, he, q⟩ := h
  show sIf _ _ _ _ [.val (lnD ad L), .val (lnD ad M)]
  walk_at "wi"
  have mp : MOk L.2.2 M.2.2 := MOk.of h1.1.2.2 h2.1.2.2 (by decide)
  refine ⟨mp, ?_⟩
  by_cases k : 3000 < L.2.2 * M.2.2
  · rw [if_pos (decide_eq_true k)]
    exact ⟨mp, he k⟩
  · rw [if_neg (by rw [decide_eq_true_eq]; exact k)]
    exact q (by omega)
theorem ok_Composed_shows (T : Tx K mg ad) : FnOk P w K mg base (L2.CX P w) 6 ad.f_Composed_shows ad.d_Composed_shows ["self", "one", "other"] (spA K 3 (S_Cshows ad)) := by
  have G_check_period := ok_check_period (P := P) (w := w) (base := base) T
  have G_least_room := ok_least_room (P := P) (w := w) (base := base) T
  have G_needed := ok_needed (P := P) (w := w) (base := base) T
  have G_slope_of := ok_slope_of (P := P) (w := w) (base := base) T
  refine fnA (k := 5) T.F_Composed_shows sc_Composed_shows fun cdv A outer s H F0 E EX hr tk => ⟨_, (qs_cons (qs_expr (q_call G_check_period (hr.mono (by decide)) (by rfl) T.g_check_period T.k_check_period T.b_check_period tkE0 (qa_cons (q_var (pv 1)) (qa_cons (q_var (pv 2)) qa_nil))))
      (qs_cons (qs_asg (q_call G_slope_of (hr.mono (by decide)) (by rfl) T.g_slope_of T.k_slope_of T.b_slope_of tkE0 (qa_cons (q_var (pv 1)) (qa_cons (q_var (pv 2)) qa_nil))) (qg_t (n := 2) rfl (qgs_cons (qg_n (pg_name (i := 3) sc_Composed_shows.nd rfl (.inl rfl)) (.inl rfl)) (qgs_cons (qg_n (pg_name (i := 4) sc_Composed_shows.nd rfl (.inl rfl)) (.inl rfl)) qgs_nil))))
      (qs_cons (qs_if (qt_cmp (qo_ne hr.units) (q_tup (qa_cons (q_fld (hf_a T) (q_fld (hf_line T) (q_var (pv 0)))) (qa_cons (q_fld (hf_m T) (q_fld (hf_line T) (q_var (pv 0)))) qa_nil))) (q_tup (qa_cons (q_var (pv 3)) (qa_cons (q_var (pv 4)) qa_nil)))) (qs_one (qs_ret q_bl)) qs_nil)
      (qs_one (qs_ret (q_and (q_cmp (qo_eq hr.units) (q_fld (hf_b T) (q_fld (hf_line T) (q_var (pv 0)))) (q_callB (qc_max rfl) (by rfl) T.n_max bt_max (qa_cons (q_lcN (own := [("x", 5)]) rfl sc_Composed_shows.nd (.inl rfl) (qi_r1 (by rfl) T.n_range (qa_cons (q_var (pv 4)) qa_nil)) (blkOk_by (by kernel_rfl)) (fun _ _ _ _ _ _ => (qg_n (pg_name (i := 5) sc_Composed_shows.nd rfl (.inl rfl)) (.inl rfl))) (fun _ _ _ _ _ _ => qts_nil) (fun _ _ _ _ _ _ => (q_call G_needed (hr.mono (by decide)) (by rfl) T.g_needed T.k_needed T.b_needed tkE0 (qa_cons (q_var (pv 1)) (qa_cons (q_var (pv 2)) (qa_cons (q_var (pv 5)) qa_nil)))))).qe qa_nil))) (q_one (q_cmp qo_le (q_fld (hf_b T) (q_fld (hf_line T) (q_var (pv 0)))) (q_call G_least_room (hr.mono (by decide)) (by rfl) T.g_least_room T.k_least_room T.b_least_room tkE0 (qa_cons (q_var (pv 1)) (qa_cons (q_var (pv 2)) qa_nil))))))))))), fun ds Q hn h => ?_⟩
  unfold S_Cshows at h
  split at h
  rotate_left
  · exact h.elim
  obtain ⟨K0, L, M, rfl, rfl, rfl, ⟨h1, h2, hm⟩, q⟩ := h
  show sSeq _ _ _ [.val (oComposed ad (lnD ad K0)), .val (lnD ad L), .val (lnD ad M), .un, .un, .un]
  walk_at "wi"
  have hp := per_pos h1 h2
  refine use_cper ⟨h1, h2⟩ (fun z => by omega) fun _ => ?_
  walk_at "wi"
  refine use_slope ⟨h1, h2⟩ ?_
  walk_at "wi"
  by_cases e : [K0.1, K0.2.2] = [L.1 * M.1, L.2.2 * M.2.2]
  · rw [if_neg (by rw [decide_eq_true e]; decide)]
    have e1 : K0.1 = L.1 * M.1 := by injection e
    have e2 : K0.2.2 = L.2.2 * M.2.2 := by injection e with _ e; injection e
    refine ⟨⟨by omega, by omega⟩, ?_⟩
    refine lcR_inv (fun i acc env => acc = (List.range i).map (fun j : Nat => D.int (nd L M j)) ∧ env = [.val (oComposed ad (lnD ad K0)), .val (lnD ad L), .val (lnD ad M), .val (.int (L.1 * M.1)), .val (.int (L.2.2 * M.2.2)), .un]) ⟨rfl, rfl⟩ ?_ ?_
    · rintro i x acc env N hx ⟨rfl, rfl⟩ hN
      obtain ⟨hi, rfl⟩ := rng_get hx
      walk_at "wi"
      rw [Int.zero_add]
      refine use_two ⟨h1, h2, sm3 hm hi⟩ ⟨?_, hN _ _ ⟨?_, ?_⟩⟩
      · exact Nat.lt_of_le_of_lt (show _ ≤ 3000 by rw [List.length_range]; omega) (by decide)
      · rw [List.range_succ, List.map_append]; rfl
      · walk_at "wi"
    · rintro acc env ⟨rfl, rfl⟩
      rw [rng_len]
      refine ⟨_, allInts_of (f := fun j : Nat => nd L M j), by rw [List.length_map, List.length_range]; omega, fun mx hm1 hm2 => ?_⟩
      have hM : IsMx L M mx := mx_of hm1 hm2
      walk_at "wi"
      by_cases k : K0.2.1 = mx
      · rw [if_pos (decide_eq_true k)]
        refine use_lroom ⟨h1, h2, hm⟩ fun r hr => ?_
        walk_at "wi"
        refine q _ ?_
        rw [decide_eq_true_eq]
        constructor
        · exact fun z => ⟨e1, e2, mx, _, hM, hr, k, by omega⟩
        · rintro ⟨_, _, M', m', g1, g2, g3, g4⟩
          have := hM.eq g1
          have := hr.eq g2
          omega
      · rw [if_neg (by rw [decide_eq_true_eq]; exact k)]
        refine q _ ?_
        rw [decide_eq_true_eq]
        exact ⟨fun z => absurd z k, fun ⟨_, _, M', m', g1, g2, g3, g4⟩ => by rw [hM.eq g1]; exact g3⟩
  · rw [if_pos (by rw [decide_eq_false e]; rfl)]
    refine q false ⟨fun z => (nomatch z), fun ⟨g1, g2, _⟩ => absurd (show [K0.1, K0.2.2] = [L.1 * M.1, L.2.2 * M.2.2] by rw [g1, g2]) e⟩
theorem ok_Broken_shows (T : Tx K mg ad) : FnOk P w K mg base (L2.CX P w) 5 ad.f_Broken_shows ad.d_Broken_shows ["self", "one", "other"] (spA K 3 (S_Bshows ad)) := by
  have G_check_period := ok_check_period (P := P) (w := w) (base := base) T
  have G_is_number := ok_is_number (P := P) (w := w) (base := base) T
  have G_needed := ok_needed (P := P) (w := w) (base := base) T
  have G_room := ok_room (P := P) (w := w) (base := base) T
  refine fnA (k := 4) T.F_Broken_shows sc_Broken_shows fun cdv A outer s H F0 E EX hr tk => ⟨_, (qs_cons (qs_expr (q_call G_check_period (hr.mono (by decide)) (by rfl) T.g_check_period T.k_check_period T.b_check_period tkE0 (qa_cons (q_var (pv 1)) (qa_cons (q_var (pv 2)) qa_nil))))
      (qs_cons (qs_if (qt_w (qw_or (qt_not (qt_tru (q_call G_is_number (hr.mono (by decide)) (by rfl) T.g_is_number T.k_is_number T.b_is_number tkE0 (qa_cons (q_fld (hf_x T) (q_var (pv 0))) qa_nil)))) (qw_or1 (qt_not (qt_tru (q_call G_is_number (hr.mono (by decide)) (by rfl) T.g_is_number T.k_is_number T.b_is_number tkE0 (qa_cons (q_fld (hf_y T) (q_var (pv 0))) qa_nil))))))) (qs_one (qs_ret q_bl)) qs_nil)
      (qs_one (qs_ret (q_cmp qo_gt (q_call G_needed (hr.mono (by decide)) (by rfl) T.g_needed T.k_needed T.b_needed tkE0 (qa_cons (q_var (pv 1)) (qa_cons (q_var (pv 2)) (qa_cons (q_fld (hf_x T) (q_var (pv 0))) qa_nil)))) (q_call G_room (hr.mono (by decide)) (by rfl) T.g_room T.k_room T.b_room tkE0 (qa_cons (q_var (pv 1)) (qa_cons (q_var (pv 2)) (qa_cons (q_fld (hf_y T) (q_var (pv 0))) qa_nil))))))))), fun ds Q hn h => ?_⟩
  unfold S_Bshows at h
  split at h
  rotate_left
  · exact h.elim
  obtain ⟨x, y, L, M, rfl, rfl, rfl, ⟨h1, h2, hm, hx, hy⟩, q⟩ := h
  show sSeq _ _ _ [.val (oBroken ad (.int x) (.int y)), .val (lnD ad L), .val (lnD ad M)]
  walk_at "wi"
  refine use_cper ⟨h1, h2⟩ (fun z => by omega) fun _ => ?_
  walk_at "wi"
  rw [if_neg (by decide), if_neg (by decide)]
  refine use_two ⟨h1, h2, hx⟩ ?_
  walk_at "wi"
  exact use_two ⟨h1, h2, hy⟩ q
theorem ok_compose (T : Tx K mg ad) : FnOk P w K mg base (L2.CX P w) 5 ad.f_compose ad.d_compose ["one", "other"] (spA K 2 (S_comp ad)) := by
  have G_Broken___init__ := ok_Broken___init__ (P := P) (w := w) (base := base) T
  have G_Composed___init__ := ok_Composed___init__ (P := P) (w := w) (base := base) T
  have G_Line___init__ := ok_Line___init__ (P := P) (w := w) (base := base) T
  have G_check_period := ok_check_period (P := P) (w := w) (base := base) T
  have G_needed := ok_needed (P := P) (w := w) (base := base) T
  have G_slope_of := ok_slope_of (P := P) (w := w) (base := base) T
  refine fnA (k := 4) T.F_compose sc_compose fun cdv A outer s H F0 E EX hr tk => ⟨_, (qs_cons (qs_expr (q_call G_check_period (hr.mono (by decide)) (by rfl) T.g_check_period T.k_check_period T.b_check_period (tkE_of tk) (qa_cons (q_var (pv 0)) (qa_cons (q_var (pv 1)) qa_nil))))
      (qs_cons (qs_asg (q_call G_slope_of (hr.mono (by decide)) (by rfl) T.g_slope_of T.k_slope_of T.b_slope_of (tkE_of tk) (qa_cons (q_var (pv 0)) (qa_cons (q_var (pv 1)) qa_nil))) (qg_t (n := 2) rfl (qgs_cons (qg_n (pg_name (i := 2) sc_compose.nd rfl (.inl rfl)) (.inl rfl)) (qgs_cons (qg_n (pg_name (i := 3) sc_compose.nd rfl (.inl rfl)) (.inl rfl)) qgs_nil))))
      (qs_cons (qs_setLc (i := 4) (own := [("x", 5)]) rfl sc_compose.nd rfl rfl (.inl rfl) (.inl rfl) (sw_true rfl rfl rfl (by decide +kernel)) (qi_r1 (by rfl) T.n_range (qa_cons (q_var (pv 3)) qa_nil)) (blkOk_by (by kernel_rfl)) (fun _ _ _ _ _ _ => (qg_n (pg_name (i := 5) sc_compose.nd rfl (.inl rfl)) (.inl rfl))) (fun _ _ _ _ _ _ => qts_nil) (fun _ _ _ _ _ _ => (q_tup (qa_cons (q_call G_needed (hr.mono (by decide)) (by rfl) T.g_needed T.k_needed T.b_needed tkE0 (qa_cons (q_var (pv 0)) (qa_cons (q_var (pv 1)) (qa_cons (q_var (pv 5)) qa_nil)))) (qa_cons (q_var (pv 5)) qa_nil)))))
      (qs_cons (qs_par (i := 6) (j := 7) rfl sc_compose.nd rfl rfl (by decide) (.inl rfl) (.inl rfl) rfl rfl (qa_cons (q_callB (qc_max2 rfl (hu1 hr.units)) (by rfl) T.n_max bt_max (qa_cons (q_var (pv 4)) qa_nil)) (qa_cons (q_callB (qc_min2 rfl (hu1 hr.units)) (by rfl) T.n_min bt_min (qa_cons (q_var (pv 4)) qa_nil)) qa_nil)) (by rfl))
      (qs_cons (qs_if (qt_cmp qo_gt (q_ix (q_var (pv 6)) q_int) (q_op qo_sub (q_op qo_add (q_ix (q_var (pv 7)) q_int) (q_var (pv 3))) q_int)) (qs_one (qs_ret (q_makeN T.mk_Broken G_Broken___init__ (hr.mono (by decide)) (by rfl) T.g_Broken T.b_Broken___init__ (tkE_of tk) (qa_cons (q_ix (q_var (pv 6)) q_int) (qa_cons (q_ix (q_var (pv 7)) q_int) qa_nil))).qe)) qs_nil)
      (qs_one (qs_ret (q_makeN T.mk_Composed G_Composed___init__ (hr.mono (by decide)) (by rfl) T.g_Composed T.b_Composed___init__ (tkE_of tk) (qa_cons (q_makeN T.mk_Line G_Line___init__ (hr.mono (by decide)) (by rfl) T.g_Line T.b_Line___init__ (tkE_of tk) (qa_cons (q_var (pv 2)) (qa_cons (q_ix (q_var (pv 6)) q_int) (qa_cons (q_var (pv 3)) qa_nil)))).qe qa_nil)).qe))))))), fun ds Q hn h => ?_⟩
  unfold S_comp at h
  split at h
  rotate_left
  · exact h.elim
  obtain ⟨L, M, rfl, rfl, ⟨h1, h2⟩, he, q⟩ := h
  show sSeq _ _ _ [.val (lnD ad L), .val (lnD ad M), .un, .un, .un, .un, .un, .un]
  walk_at "wi"
  have hp := per_pos h1 h2
  refine use_cper ⟨h1, h2⟩ (fun z => he z) fun hm => ?_
  have q := q hm
  walk_at "wi"
  refine use_slope ⟨h1, h2⟩ ?_
  walk_at "wi"
  refine ⟨⟨by omega, by omega⟩, ?_⟩
  refine lcR_inv (fun i acc env => acc = (List.range i).map (fun j : Nat => duoD (nd L M j, (j : Int))) ∧ env = [.val (lnD ad L), .val (lnD ad M), .val (.int (L.1 * M.1)), .val (.int (L.2.2 * M.2.2)), .un, .un, .un, .un]) ⟨rfl, rfl⟩ ?_ ?_
  · rintro i x acc env N hx ⟨rfl, rfl⟩ hN
    obtain ⟨hi, rfl⟩ := rng_get hx
    walk_at "wi"
    rw [Int.zero_add]
    refine use_two ⟨h1, h2, sm3 hm hi⟩ ?_
    walk_at "wi"
    refine ⟨?_, hN _ _ ⟨?_, ?_⟩⟩
    · exact Nat.lt_of_le_of_lt (show _ ≤ 3000 by rw [List.length_range]; omega) (by decide)
    · rw [List.range_succ, List.map_append]; rfl
    · walk_at "wi"
  · rintro acc env ⟨rfl, rfl⟩
    rw [rng_len]
    walk_at "wi"
    have mem : ∀ {p : Int × Int}, p ∈ (List.range (L.2.2 * M.2.2).toNat).map (fun j : Nat => (nd L M j, (j : Int))) → p.1 = nd L M p.2 ∧ 0 ≤ p.2 ∧ p.2 < L.2.2 * M.2.2 := fun {p} hp' => by
      obtain ⟨j, hj, rfl⟩ := List.mem_map.mp hp'
      have := List.mem_range.mp hj
      exact ⟨rfl, by show (0 : Int) ≤ (j : Int); omega, by show (j : Int) < _; omega⟩
    have has : ∀ x : Int, 0 ≤ x → x < L.2.2 * M.2.2 → (nd L M x, x) ∈ (List.range (L.2.2 * M.2.2).toNat).map (fun j : Nat => (nd L M j, (j : Int))) := fun x x0 x1 => List.mem_map.mpr ⟨x.toNat, List.mem_range.mpr (by omega), by rw [Int.toNat_of_nonneg x0]⟩
    have ne : (List.range (L.2.2 * M.2.2).toNat).map (fun j : Nat => (nd L M j, (j : Int))) ≠ [] := fun z => by
      have := congrArg List.length z
      rw [List.length_map, List.length_range, List.length_nil] at this
      omega
    have lx : ∀ {p q : Int × Int}, SrtO.lexB p q = false → q.1 ≤ p.1 := fun {p q} z => by
      unfold SrtO.lexB at z
      split at z
      · omega
      · have := of_decide_eq_false z
        omega
    have em : (List.range (L.2.2 * M.2.2).toNat).map (fun j : Nat => duoD (nd L M j, (j : Int))) = ((List.range (L.2.2 * M.2.2).toNat).map fun j : Nat => (nd L M j, (j : Int))).map duoD := by rw [List.map_map]; rfl
    rw [em]
    refine ⟨_, rfl, ne, fun p hp1 hp2 => ?_⟩
    walk_at "wi"
    refine ⟨_, rfl, ne, fun r hr1 hr2 => ?_⟩
    obtain ⟨ep, p0, p1⟩ := mem hp1
    obtain ⟨er, r0, r1⟩ := mem hr1
    have hM : IsMx L M p.1 := ⟨⟨p.2, p0, p1, ep.symm⟩, fun x x0 x1 => lx (hp2 _ (has x x0 x1))⟩
    have hN : IsMn L M r.1 := ⟨⟨r.2, r0, r1, er.symm⟩, fun x x0 x1 => lx (hr2 _ (has x x0 x1))⟩
    by_cases k : r.1 + L.2.2 * M.2.2 - 1 < p.1
    · rw [if_pos (decide_eq_true k)]
      exact q _ (.no _ _ ⟨p0, p1⟩ ⟨r0, r1⟩ (by rw [← ep, ← er]; exact k))
    · rw [if_neg (by rw [decide_eq_true_eq]; exact k)]
      refine use_Line hp ⟨rfl, ?_⟩
      walk_at "wi"
      exact q _ (.yes _ ⟨rfl, rfl, _, _, hM, hN, rfl, by omega⟩)
theorem ok_nested (T : Tx K mg ad) : FnOk P w K mg base (L2.CX P w) 6 ad.f_nested ad.d_nested ["lines"] (spA K 1 (S_nest ad)) := by
  have G_Broken___bool__ := ok_Broken___bool__ (P := P) (w := w) (base := base) T
  have G_Composed___bool__ := ok_Composed___bool__ (P := P) (w := w) (base := base) T
  have G_Line___init__ := ok_Line___init__ (P := P) (w := w) (base := base) T
  have G_compose := ok_compose (P := P) (w := w) (base := base) T
  refine fnA (k := 5) T.F_nested sc_nested fun cdv A outer s H F0 E EX hr tk => ⟨_, (qs_cons (qs_set (i := 1) sc_nested.nd rfl (.inl rfl) (.inl rfl) (q_makeN T.mk_Line G_Line___init__ (hr.mono (by decide)) (by rfl) T.g_Line T.b_Line___init__ tkE0 (qa_cons q_int (qa_cons q_int (qa_cons q_int qa_nil)))).qe)
      (qs_cons (qs_for PassesOwn.leaving rfl (qi_l (q_var (pv 0))) (qg_n (pg_name (i := 2) sc_nested.nd rfl (.inl rfl)) (.inl rfl)) (qs_cons (qs_set (i := 3) sc_nested.nd rfl (.inl rfl) (.inl rfl) (q_call G_compose (hr.mono (by decide)) (by rfl) T.g_compose T.k_compose T.b_compose tkE0 (qa_cons (q_var (pv 1)) (qa_cons (q_var (pv 2)) qa_nil))))
      (qs_cons (qs_if (qt_not (qt_truO (hT_cb T (hr.mono (by decide)) G_Composed___bool__ G_Broken___bool__) (q_var (pv 3)))) (qs_one (qs_ret q_non)) qs_nil)
      (qs_one (qs_set (i := 1) sc_nested.nd rfl (.inl rfl) (.inl rfl) (q_fld (hf_line T) (q_var (pv 3))))))))
      (qs_one (qs_ret (q_var (pv 1)))))), fun ds Q hn h => ?_⟩
  unfold S_nest at h
  split at h
  rotate_left
  · exact h.elim
  obtain ⟨Ls, rfl, h⟩ := h
  show sSeq _ _ _ [.val (.lst (Ls.map (lnD ad))), .un, .un, .un]
  walk_at "wi"
  rcases h with ⟨hL, hl, q⟩ | ⟨l, k, rfl, ⟨hl, hk, sl, sk, ml, mk⟩, q0, q⟩
  · walk_at "wi"
    refine use_Line (Int.le_refl _) ⟨rfl, ?_⟩
    walk_at "wi"
    refine forR_of (fun i env => ∃ s t, env = [.val (.lst (Ls.map (lnD ad))), .val (lnD ad (1, 0, prd (Ls.take i))), s, t]) ⟨_, _, rfl⟩ ?_ ?_
    · rintro i ⟨a1, a2, a3⟩ env N hi ⟨s, t, rfl⟩ hN
      obtain ⟨rfl, rfl, m1, m5⟩ : a1 = 1 ∧ a2 = 0 ∧ 1 ≤ a3 ∧ a3 ≤ 5 := hL _ (List.mem_of_getElem? hi)
      have i4 : i < 4 := by
        have := (List.getElem?_eq_some_iff.mp hi).1
        omega
      have hb := prd_bd (fun L hh => (hL L hh).2.2) i
      have hb5 : prd (Ls.take i) ≤ 125 := by
        have : (5 : Int) ^ i ≤ 5 ^ 3 := by
          rcases i with _ | _ | _ | _ | i
          · decide
          · decide
          · decide
          · decide
          · omega
        omega
      have hN := fun s' t' => hN [.val (.lst (Ls.map (lnD ad))), .val (lnD ad (1, 0, prd (Ls.take (i + 1)))), s', t'] ⟨_, _, rfl⟩
      rw [prd_take hi] at hN
      generalize prd (Ls.take i) = P at *
      have ok1 : LnOk (1, 0, P) := ⟨⟨sm_lt (N := 125) (x := 1) (by decide) (by decide), sm_lt (N := 125) (x := 0) (by decide) (by decide), sm_lt (N := 125) (x := P) (by omega) (by decide)⟩, hb.1⟩
      have ok2 : LnOk (1, 0, a3) := ⟨⟨sm_lt (N := 125) (x := 1) (by decide) (by decide), sm_lt (N := 125) (x := 0) (by decide) (by decide), sm_lt (N := 125) (x := a3) (by omega) (by decide)⟩, m1⟩
      have pm : P * a3 ≤ 125 * 5 := Int.mul_le_mul hb5 m5 (by omega) (by decide)
      walk_at "wi"
      refine use_comp ⟨ok1, ok2⟩ (by show P * a3 ≤ 3000; omega) fun r hr => ?_
      rw [cpr_one hb.1 m1 hr]
      refine k_truQ tb_c ?_
      walk_at "wi"
      exact hN _ _
    · rintro env ⟨s, t, rfl⟩
      walk_at "wi"
      rw [List.take_length]
      exact q
  · walk_at "wi"
    have ok1 : LnOk (1, 0, 1) := ⟨⟨sm_lt (N := 125) (by decide) (by decide), sm_lt (N := 125) (by decide) (by decide), sm_lt (N := 125) (by decide) (by decide)⟩, by decide⟩
    refine use_Line (Int.le_refl _) ⟨rfl, ?_⟩
    walk_at "wi"
    refine use_comp ⟨ok1, hl⟩ (by show 1 * l.2.2 ≤ 3000; omega) fun r hr => ?_
    obtain ⟨b, rfl, hR, hb1, hb2⟩ := cpr_id hl.2 hr
    refine k_truQ tb_c ?_
    rw [if_neg (by decide)]
    walk_at "wi"
    have hb : Sm 12 b := by
      have h1 := sl.2.1
      unfold Sm at h1 ⊢
      omega
    have ok2 : LnOk (l.1, b, l.2.2) := ⟨⟨hl.1.1, hb.up (by decide), hl.1.2.2⟩, hl.2⟩
    have pm : l.2.2 * k.2.2 ≤ 3000 := by
      have := Int.mul_le_mul ml mk (by have := hk.2; omega) (by decide)
      omega
    refine use_comp ⟨ok2, hk⟩ pm fun r hr => ?_
    rcases hr with ⟨c, hR2⟩ | ⟨x, y, hx, hy, kk⟩
    · refine k_truQ tb_c ?_
      walk_at "wi"
      refine q _ (hR2.ok ok2 hk ⟨sl.1.up (by decide), hb, sl.2.2.up (by decide)⟩ sk pm) fun x => ?_
      rw [hR2.at ok2 hk, hR.at ok1 hl]
      have e : atL (1, 0, 1) x = x := by
        show (1 * x + 0) / 1 = x
        omega
      rw [e]
    · refine k_truQ (tb_b T) ?_
      walk_at "wi"
      exact q0
theorem ok__law_at (T : Tx K mg ad) : FnOk P w K mg base (L2.CX P w) 1 ad.f__law_at ad.d__law_at ["line", "x"] (spA K 2 (S_lat)) := by
  refine fnA (k := 0) T.F__law_at sc__law_at fun cdv A outer s H F0 E EX hr tk => ⟨_, (qs_one (qs_ret (q_op qo_div (q_op qo_add (q_op qo_mul (q_ix (q_var (pv 0)) q_int) (q_var (pv 1))) (q_ix (q_var (pv 0)) q_int)) (q_ix (q_var (pv 0)) q_int)))), fun ds Q hn h => ?_⟩
  unfold S_lat at h
  split at h
  rotate_left
  · exact h.elim
  rename_i d x
  obtain ⟨L, rfl, ⟨h1, h2⟩, q⟩ := h
  show sRet _ _ [.val (rowD L), .val (.int x)]
  walk_at "wi"
  exact ⟨MOk.of h1.1.1 h2 (by decide), DOk.of (by have := h1.2; omega) h1.1.2.2 (by decide), q⟩
theorem ok__law_short_line (T : Tx K mg ad) : FnOk P w K mg base (L2.CX P w) 4 ad.f__law_short_line ad.d__law_short_line ["draw"] (spB K 0 (M_short)) := by
  have G__law_long := ok__law_long (P := P) (w := w) (base := base) T
  have G__law_pick := ok__law_pick (P := P) (w := w) (base := base) T
  have G__law_take := ok__law_take (P := P) (w := w) (base := base) T
  refine fnB (k := 3) T.F__law_short_line sc__law_short_line rfl fun cdv A outer s H B F0 a E EX hr tk => ⟨_, (qs_one (qs_ret (q_tup (qa_cons (q_callM G__law_long (hr.mono (by decide)) (by rfl) T.g__law_long T.k__law_long T.b__law_long tkE0 (pv 0) (qa_cons q_int qa_nil)) (qa_cons (q_callM G__law_long (hr.mono (by decide)) (by rfl) T.g__law_long T.k__law_long T.b__law_long tkE0 (pv 0) (qa_cons q_int qa_nil)) (qa_cons (q_op qo_add q_int (q_callM G__law_take (hr.mono (by decide)) (by rfl) T.g__law_take T.k__law_take T.b__law_take tkE0 (pv 0) (qa_cons (q_callM G__law_pick (hr.mono (by decide)) (by rfl) T.g__law_pick T.k__law_pick T.b__law_pick tkE0 (pv 0) (qa_cons (q_lst (qa_cons q_int (qa_cons q_int (qa_cons q_int qa_nil)))) qa_nil)) qa_nil))) qa_nil)))))), fun d0 ds Q hn h => ?_⟩
  unfold M_short at h
  split at h
  rotate_left
  · exact h.elim
  obtain ⟨hD, q⟩ := h
  show sRet _ _ [.own d0]
  walk_at "wi"
  refine ⟨hD, by decide, fun a d1 ha hD1 => ⟨hD1, by decide, fun b d2 hb hD2 => ⟨hD2, by decide, fun f d3 hf hD3 => ?_⟩⟩⟩
  obtain ⟨k, rfl, hk⟩ : ∃ k : Int, f = .int k ∧ 1 ≤ k ∧ k ≤ 30 := by
    simp only [List.mem_cons, List.not_mem_nil, or_false] at hf
    rcases hf with rfl | rfl | rfl
    · exact ⟨_, rfl, by decide, by decide⟩
    · exact ⟨_, rfl, by decide, by decide⟩
    · exact ⟨_, rfl, by decide, by decide⟩
  walk_at "wi"
  refine ⟨hD3, by omega, fun m d4 m0 m1 hD4 => ?_⟩
  exact q (a, b, 1 + m) _ ⟨ha, hb, by show 1 ≤ 1 + m; omega, by show 1 + m ≤ 30; omega⟩ hD4
theorem ok__law_needed (T : Tx K mg ad) : FnOk P w K mg base (L2.CX P w) 2 ad.f__law_needed ad.d__law_needed ["one", "other", "x"] (spA K 3 (S_lneed)) := by
  have G__law_at := ok__law_at (P := P) (w := w) (base := base) T
  refine fnA (k := 1) T.F__law_needed sc__law_needed fun cdv A outer s H F0 E EX hr tk => ⟨_, (qs_cons (qs_set (i := 3) sc__law_needed.nd rfl (.inl rfl) (.inl rfl) (q_op qo_mul (q_ix (q_var (pv 0)) q_int) (q_ix (q_var (pv 1)) q_int)))
      (qs_one (qs_ret (q_op qo_sub (q_op qo_mul (q_call G__law_at (hr.mono (by decide)) (by rfl) T.g__law_at T.k__law_at T.b__law_at tkE0 (qa_cons (q_var (pv 1)) (qa_cons (q_call G__law_at (hr.mono (by decide)) (by rfl) T.g__law_at T.k__law_at T.b__law_at tkE0 (qa_cons (q_var (pv 0)) (qa_cons (q_var (pv 2)) qa_nil))) qa_nil))) (q_var (pv 3))) (q_op qo_mul (q_op qo_mul (q_ix (q_var (pv 0)) q_int) (q_ix (q_var (pv 1)) q_int)) (q_var (pv 2))))))), fun ds Q hn h => ?_⟩
  unfold S_lneed at h
  split at h
  rotate_left
  · exact h.elim
  rename_i d e x
  obtain ⟨L, M, rfl, rfl, ⟨h1, h2, hx⟩, q⟩ := h
  show sSeq _ _ _ [.val (rowD L), .val (rowD M), .val (.int x), .un]
  walk_at "wi"
  have hb : Sm 404 (both L M x) := sm_at h2 (sm_at h1 hx)
  refine ⟨MOk.of h1.1.2.2 h2.1.2.2 (by decide), use_lat ⟨h1, hx.up (by decide)⟩ (use_lat ⟨h2, (sm_at h1 hx).up (by decide)⟩ ?_)⟩
  exact ⟨MOk.of hb (sm_per h1 h2) (by decide), MOk.of h1.1.1 h2.1.1 (by decide), MOk.of (sm_sl h1 h2) hx (by decide), q⟩
theorem ok__law_is_right (T : Tx K mg ad) : FnOk P w K mg base (L2.CX P w) 3 ad.f__law_is_right ad.d__law_is_right ["one", "other", "told"] (spA K 3 (S_lright ad)) := by
  have G__law_needed := ok__law_needed (P := P) (w := w) (base := base) T
  refine fnA (k := 2) T.F__law_is_right sc__law_is_right fun cdv A outer s H F0 E EX hr tk => ⟨_, (qs_cons (qs_set (i := 3) sc__law_is_right.nd rfl (.inl rfl) (.inl rfl) (q_op qo_mul (q_ix (q_var (pv 0)) q_int) (q_ix (q_var (pv 1)) q_int)))
      (qs_cons (qs_setLc (i := 4) (own := [("x", 5)]) rfl sc__law_is_right.nd rfl rfl (.inl rfl) (.inl rfl) (sw_true rfl rfl rfl (by decide +kernel)) (qi_r1 (by rfl) T.n_range (qa_cons (q_var (pv 3)) qa_nil)) (blkOk_by (by kernel_rfl)) (fun _ _ _ _ _ _ => (qg_n (pg_name (i := 5) sc__law_is_right.nd rfl (.inl rfl)) (.inl rfl))) (fun _ _ _ _ _ _ => qts_nil) (fun _ _ _ _ _ _ => (q_call G__law_needed (hr.mono (by decide)) (by rfl) T.g__law_needed T.k__law_needed T.b__law_needed tkE0 (qa_cons (q_var (pv 0)) (qa_cons (q_var (pv 1)) (qa_cons (q_var (pv 5)) qa_nil))))))
      (qs_cons (qs_if (qt_tru (q_callB qc_isiC (by rfl) T.n_isinstance bt_isinstance (qa_cons (q_var (pv 2)) (qa_cons (q_cls (by rfl) T.g_Broken) qa_nil)))) (qs_one (qs_ret (q_cmp qo_gt (q_call G__law_needed (hr.mono (by decide)) (by rfl) T.g__law_needed T.k__law_needed T.b__law_needed tkE0 (qa_cons (q_var (pv 0)) (qa_cons (q_var (pv 1)) (qa_cons (q_fld (hf_x T) (q_var (pv 2))) qa_nil)))) (q_op qo_sub (q_op qo_add (q_call G__law_needed (hr.mono (by decide)) (by rfl) T.g__law_needed T.k__law_needed T.b__law_needed tkE0 (qa_cons (q_var (pv 0)) (qa_cons (q_var (pv 1)) (qa_cons (q_fld (hf_y T) (q_var (pv 2))) qa_nil)))) (q_var (pv 3))) q_int)))) qs_nil)
      (qs_one (qs_ret (q_and (q_cmp (qo_eq hr.units) (q_tup (qa_cons (q_fld (hf_a T) (q_fld (hf_line T) (q_var (pv 2)))) (qa_cons (q_fld (hf_b T) (q_fld (hf_line T) (q_var (pv 2)))) (qa_cons (q_fld (hf_m T) (q_fld (hf_line T) (q_var (pv 2)))) qa_nil)))) (q_tup (qa_cons (q_op qo_mul (q_ix (q_var (pv 0)) q_int) (q_ix (q_var (pv 1)) q_int)) (qa_cons (q_callB (qc_max rfl) (by rfl) T.n_max bt_max (qa_cons (q_var (pv 4)) qa_nil)) (qa_cons (q_var (pv 3)) qa_nil))))) (q_one (q_cmp qo_le (q_callB (qc_max rfl) (by rfl) T.n_max bt_max (qa_cons (q_var (pv 4)) qa_nil)) (q_op qo_sub (q_op qo_add (q_callB (qc_min rfl) (by rfl) T.n_min bt_min (qa_cons (q_var (pv 4)) qa_nil)) (q_var (pv 3))) q_int))))))))), fun ds Q hn h => ?_⟩
  unfold S_lright at h
  split at h
  rotate_left
  · exact h.elim
  obtain ⟨L, M, rfl, rfl, ⟨h1, h2, hm⟩, h⟩ := h
  have hp := per_pos h1 h2
  rcases h with ⟨K0, rfl, q⟩ | ⟨x, y, rfl, ⟨hx, hy⟩, q⟩
  · show sSeq _ _ _ [.val (rowD L), .val (rowD M), .val (oComposed ad (lnD ad K0)), .un, .un, .un]
    walk_at "wi"
    refine ⟨MOk.of h1.1.2.2 h2.1.2.2 (by decide), ⟨by omega, by omega⟩, ?_⟩
    refine lcR_inv (fun i acc env => acc = (List.range i).map (fun j : Nat => D.int (nd L M j)) ∧ env = [.val (rowD L), .val (rowD M), .val (oComposed ad (lnD ad K0)), .val (.int (L.2.2 * M.2.2)), .un, .un]) ⟨rfl, rfl⟩ ?_ ?_
    · rintro i x' acc env N hx' ⟨rfl, rfl⟩ hN
      obtain ⟨hi, rfl⟩ := rng_get hx'
      walk_at "wi"
      rw [Int.zero_add]
      refine use_lneed ⟨h1, h2, sm3 hm hi⟩ ⟨?_, hN _ _ ⟨?_, ?_⟩⟩
      · exact Nat.lt_of_le_of_lt (show _ ≤ 3000 by rw [List.length_range]; omega) (by decide)
      · rw [List.range_succ, List.map_append]; rfl
      · walk_at "wi"
    · rintro acc env ⟨rfl, rfl⟩
      rw [rng_len]
      walk_at "wi"
      refine ⟨T.isc_Composed, false, T.i_Composed_Broken, ?_⟩
      walk_at "wi"
      refine ⟨MOk.of h1.1.1 h2.1.1 (by decide), ?_⟩
      have hl : 0 < ((List.range (L.2.2 * M.2.2).toNat).map fun j : Nat => nd L M j).length := by rw [List.length_map, List.length_range]; omega
      refine ⟨_, allInts_of (f := fun j : Nat => nd L M j), hl, fun mx hm1 hm2 => ?_⟩
      have hM : IsMx L M mx := mx_of hm1 hm2
      walk_at "wi"
      have hq : ∀ b : Bool, (b = true ↔ Rgt L M K0) → Q (.bl b) := q
      by_cases e : [K0.1, K0.2.1, K0.2.2] = [L.1 * M.1, mx, L.2.2 * M.2.2]
      · rw [if_pos (decide_eq_true e)]
        have e1 : K0.1 = L.1 * M.1 := by injection e
        have e2 : K0.2.1 = mx := by injection e with _ e; injection e
        have e3 : K0.2.2 = L.2.2 * M.2.2 := by injection e with _ e; injection e with _ e; injection e
        refine ⟨_, allInts_of (f := fun j : Nat => nd L M j), hl, fun mx2 hm3 hm4 => ?_⟩
        refine ⟨_, allInts_of (f := fun j : Nat => nd L M j), hl, fun mn hm5 hm6 => ?_⟩
        have hM2 : IsMx L M mx2 := mx_of hm3 hm4
        have hN : IsMn L M mn := mn_of hm5 hm6
        refine hq _ ?_
        rw [decide_eq_true_eq]
        constructor
        · exact fun z => ⟨e1, e3, mx2, mn, hM2, hN, by rw [e2]; exact hM.eq hM2, z⟩
        · rintro ⟨_, _, M', m', g1, g2, g3, g4⟩
          rw [hM2.eq g1, hN.eq g2]
          exact g4
      · rw [if_neg (by rw [decide_eq_true_eq]; exact e)]
        rw [decide_eq_false e]
        refine hq _ ⟨fun z => (nomatch z), ?_⟩
        rintro ⟨g0, g1, M', m', g2, g3, g4, g5⟩
        exact absurd (show [K0.1, K0.2.1, K0.2.2] = [L.1 * M.1, mx, L.2.2 * M.2.2] by rw [g0, g1, g4, hM.eq g2]) e
  · show sSeq _ _ _ [.val (rowD L), .val (rowD M), .val (oBroken ad (.int x) (.int y)), .un, .un, .un]
    walk_at "wi"
    refine ⟨MOk.of h1.1.2.2 h2.1.2.2 (by decide), ⟨by omega, by omega⟩, ?_⟩
    refine lcR_inv (fun i acc env => acc = (List.range i).map (fun j : Nat => D.int (nd L M j)) ∧ env = [.val (rowD L), .val (rowD M), .val (oBroken ad (.int x) (.int y)), .val (.int (L.2.2 * M.2.2)), .un, .un]) ⟨rfl, rfl⟩ ?_ ?_
    · rintro i x' acc env N hx' ⟨rfl, rfl⟩ hN
      obtain ⟨hi, rfl⟩ := rng_get hx'
      walk_at "wi"
      rw [Int.zero_add]
      refine use_lneed ⟨h1, h2, sm3 hm hi⟩ ⟨?_, hN _ _ ⟨?_, ?_⟩⟩
      · exact Nat.lt_of_le_of_lt (show _ ≤ 3000 by rw [List.length_range]; omega) (by decide)
      · rw [List.range_succ, List.map_append]; rfl
      · walk_at "wi"
    · rintro acc env ⟨rfl, rfl⟩
      rw [rng_len]
      walk_at "wi"
      refine ⟨T.isc_Broken, true, T.i_Broken_Broken, ?_⟩
      walk_at "wi"
      refine use_lneed ⟨h1, h2, hx⟩ ?_
      walk_at "wi"
      exact use_lneed ⟨h1, h2, hy⟩ q
theorem gv__law_fault (T : Tx K mg ad) {N : List Str} {qual : Str} {sc : Scope} {f : Addr} {cdv cdg : Value} {A : Around} {outer : List Env} {s : Shared} {H : Hp} {E : XK} {q : Str} : LamX.GivesAt (cxOf (L2.CX P w) P w K mg base N qual sc f cdv A outer s H E) ["deed", "fault"] "_law_fault" (defScope s__law_fault) ad.f__law_fault cdg (defBody s__law_fault) "deed" q (TTq K (S_fault ad)) := by
  refine fnF fun f s H F0 L deed => ⟨_, (qs_cons (qs_try (i := 1) rfl rfl sc__law_fault.nd rfl rfl (.inl rfl) tk0 (fun _ sF hF _ _ _ tk _ => (qs_one (qs_expr (deed _ _ _ _ _ _ rfl sF hF tk)))) (.cons (by rfl) T.g_TooLarge (fun a oe cls d pn F0 ed hz hf rx => (qs_one (qs_ret (q_xf hz hf rx (hx_number T) (q_var (pv 1)))))) .nil))
      (qs_one (qs_ret q_str))), fun Q h => ?_⟩
  show sSeq _ _ _ [.val (.raw (.ref f)), .un]
  walk_at "wi"
  refine h _ fun n q => ?_
  refine ⟨true, T.xm_TooLarge_TooLarge, fun _ a => ?_, fun z => by cases z⟩
  show sRet _ _ [.val (.raw (.ref f)), .val (.raw (.ref a))]
  walk_at "wi"
  exact ⟨_, fld_hit, q⟩
theorem ok_law (T : Tx K mg ad) {c Pt : Addr} {kV doc pm ct oc : Value} {an od : Option Addr} {osl : Array (Option Value)} (lk : K.lookup ad.f_law = some ⟨oc, od, .func (PySem.W.fnOf "law" "law" (defArgs s_law) (defBody s_law) (defScope s_law) .none kV doc pm an (.ref c) ct), osl⟩) (hcd : PySem.W.codeIn K (.ref c) "law" = true) (TB : LamX.TabB base mg c Pt) :
    FnOk P w K mg base (L2.CX P w) 9 ad.f_law (PySem.W.fnOf "law" "law" (defArgs s_law) (defBody s_law) (defScope s_law) .none kV doc pm an (.ref c) ct) ["script"] (spX K (tbs "law" (defScope s_law) Pt)) := by
  have G_Broken___bool__ := ok_Broken___bool__ (P := P) (w := w) (base := base) T
  have G_Broken___init__ := ok_Broken___init__ (P := P) (w := w) (base := base) T
  have G_Broken_shows := ok_Broken_shows (P := P) (w := w) (base := base) T
  have G_Composed___bool__ := ok_Composed___bool__ (P := P) (w := w) (base := base) T
  have G_Composed___init__ := ok_Composed___init__ (P := P) (w := w) (base := base) T
  have G_Composed_shows := ok_Composed_shows (P := P) (w := w) (base := base) T
  have G_Line___eq__ := ok_Line___eq__ (P := P) (w := w) (base := base) T
  have G_Line___init__ := ok_Line___init__ (P := P) (w := w) (base := base) T
  have G_Line_at := ok_Line_at (P := P) (w := w) (base := base) T
  have G__law_at := ok__law_at (P := P) (w := w) (base := base) T
  have G__law_is_right := ok__law_is_right (P := P) (w := w) (base := base) T
  have G__law_long := ok__law_long (P := P) (w := w) (base := base) T
  have G__law_needed := ok__law_needed (P := P) (w := w) (base := base) T
  have G__law_pick := ok__law_pick (P := P) (w := w) (base := base) T
  have G__law_short_line := ok__law_short_line (P := P) (w := w) (base := base) T
  have G__law_take := ok__law_take (P := P) (w := w) (base := base) T
  have G_compose := ok_compose (P := P) (w := w) (base := base) T
  have G_nested := ok_nested (P := P) (w := w) (base := base) T
  obtain ⟨oc1, od1, kV1, dc1, pm1, an1, cd1, ct1, sl1, fd1, lk1, hc1⟩ := T.F__law_fault.ex
  have b1 := T.b__law_fault
  rw [fd1] at lk1 b1
  refine fnX (k := 8) lk hcd sc_law fun A outer s H E hr => ⟨_, (xs_cons (x_s fun B F0 => (qs_own (i := 1) sc_law.nd rfl (.inr rfl) (.inl rfl) (q_lstN (qa_cons (q_var (pv 0)) (qa_cons q_int qa_nil)))))
      (xs_cons (x_s fun B F0 => (qs_for PassesOwn.leaving rfl (qi_r1 (by rfl) T.n_range (qa_cons q_int qa_nil)) (qg_n (pg_name (i := 2) sc_law.nd rfl (.inl rfl)) (.inl rfl)) (qs_cons (qs_asg (q_tup (qa_cons (q_callM G__law_short_line (hr.mono (by decide)) (by rfl) T.g__law_short_line T.k__law_short_line T.b__law_short_line tkE0 (pv 1) qa_nil) (qa_cons (q_callM G__law_short_line (hr.mono (by decide)) (by rfl) T.g__law_short_line T.k__law_short_line T.b__law_short_line tkE0 (pv 1) qa_nil) qa_nil))) (qg_t (n := 2) rfl (qgs_cons (qg_n (pg_name (i := 3) sc_law.nd rfl (.inr rfl)) (.inl rfl)) (qgs_cons (qg_n (pg_name (i := 4) sc_law.nd rfl (.inr rfl)) (.inl rfl)) qgs_nil))))
      (qs_cons (qs_par (i := 5) (j := 6) rfl sc_law.nd rfl rfl (by decide) (.inl rfl) (.inl rfl) rfl rfl (qa_cons (q_makeN T.mk_Line G_Line___init__ (hr.mono (by decide)) (by rfl) T.g_Line T.b_Line___init__ tkE0 (qa_cons (q_ix (q_var (pv 3)) q_int) (qa_cons (q_ix (q_var (pv 3)) q_int) (qa_cons (q_ix (q_var (pv 3)) q_int) qa_nil)))).qe (qa_cons (q_makeN T.mk_Line G_Line___init__ (hr.mono (by decide)) (by rfl) T.g_Line T.b_Line___init__ tkE0 (qa_cons (q_ix (q_var (pv 4)) q_int) (qa_cons (q_ix (q_var (pv 4)) q_int) (qa_cons (q_ix (q_var (pv 4)) q_int) qa_nil)))).qe qa_nil)) (by rfl))
      (qs_cons (qs_set (i := 7) sc_law.nd rfl (.inr rfl) (.inl rfl) (q_call G_compose (hr.mono (by decide)) (by rfl) T.g_compose T.k_compose T.b_compose tkE0 (qa_cons (q_var (pv 5)) (qa_cons (q_var (pv 6)) qa_nil))))
      (qs_cons (qs_if (qt_w (qw_or (qt_cmp (qo_ne hr.units) (q_callTy (qc_boolO (hD_cb T (hr.mono (by decide)) G_Composed___bool__ G_Broken___bool__)) (by rfl) T.n_bool bt_bool (qa_cons (q_var (pv 7)) qa_nil)) (q_callB qc_isiC (by rfl) T.n_isinstance bt_isinstance (qa_cons (q_var (pv 7)) (qa_cons (q_cls (by rfl) T.g_Composed) qa_nil)))) (qw_or (qt_not (qt_tru (q_call G__law_is_right (hr.mono (by decide)) (by rfl) T.g__law_is_right T.k__law_is_right T.b__law_is_right tkE0 (qa_cons (q_var (pv 3)) (qa_cons (q_var (pv 4)) (qa_cons (q_var (pv 7)) qa_nil)))))) (qw_or1 (qt_not (qt_tru (q_eith (q_meth T.cl_Composed T.me_Composed_shows G_Composed_shows (hr.mono (by decide)) T.b_Composed_shows tkE0 (q_var (pv 7)) (qa_cons (q_var (pv 5)) (qa_cons (q_var (pv 6)) qa_nil))) (q_meth T.cl_Broken T.me_Broken_shows G_Broken_shows (hr.mono (by decide)) T.b_Broken_shows tkE0 (q_var (pv 7)) (qa_cons (q_var (pv 5)) (qa_cons (q_var (pv 6)) qa_nil)))))))))) (qs_one (qs_ret q_bl)) qs_nil)
      (qs_cons (qs_set (i := 8) sc_law.nd rfl (.inl rfl) (.inl rfl) (q_if (qt_truO (hT_cb T (hr.mono (by decide)) G_Composed___bool__ G_Broken___bool__) (q_var (pv 7))) (q_makeN T.mk_Composed G_Composed___init__ (hr.mono (by decide)) (by rfl) T.g_Composed T.b_Composed___init__ tkE0 (qa_cons (q_makeN T.mk_Line G_Line___init__ (hr.mono (by decide)) (by rfl) T.g_Line T.b_Line___init__ tkE0 (qa_cons (q_fld (hf_a T) (q_fld (hf_line T) (q_var (pv 7)))) (qa_cons (q_op qo_add (q_fld (hf_b T) (q_fld (hf_line T) (q_var (pv 7)))) (q_callM G__law_take (hr.mono (by decide)) (by rfl) T.g__law_take T.k__law_take T.b__law_take tkE0 (pv 1) (qa_cons q_int qa_nil))) (qa_cons (q_fld (hf_m T) (q_fld (hf_line T) (q_var (pv 7)))) qa_nil)))).qe qa_nil)).qe (q_makeN T.mk_Broken G_Broken___init__ (hr.mono (by decide)) (by rfl) T.g_Broken T.b_Broken___init__ tkE0 (qa_cons (q_op qo_add (q_fld (hf_x T) (q_var (pv 7))) (q_callM G__law_take (hr.mono (by decide)) (by rfl) T.g__law_take T.k__law_take T.b__law_take tkE0 (pv 1) (qa_cons q_int qa_nil))) (qa_cons (q_op qo_add (q_fld (hf_y T) (q_var (pv 7))) (q_op qo_mul (q_ix (q_var (pv 3)) q_int) (q_ix (q_var (pv 4)) q_int))) qa_nil))).qe))
      (qs_cons (qs_if (qt_w (qw_or (qt_cmp (qo_ne hr.units) (q_eith (q_meth T.cl_Composed T.me_Composed_shows G_Composed_shows (hr.mono (by decide)) T.b_Composed_shows tkE0 (q_var (pv 8)) (qa_cons (q_var (pv 5)) (qa_cons (q_var (pv 6)) qa_nil))) (q_meth T.cl_Broken T.me_Broken_shows G_Broken_shows (hr.mono (by decide)) T.b_Broken_shows tkE0 (q_var (pv 8)) (qa_cons (q_var (pv 5)) (qa_cons (q_var (pv 6)) qa_nil)))) (q_call G__law_is_right (hr.mono (by decide)) (by rfl) T.g__law_is_right T.k__law_is_right T.b__law_is_right tkE0 (qa_cons (q_var (pv 3)) (qa_cons (q_var (pv 4)) (qa_cons (q_var (pv 8)) qa_nil))))) (qw_or1 (qt_w (qw_and (qt_tru (q_meth T.cl_Composed T.me_Composed_shows G_Composed_shows (hr.mono (by decide)) T.b_Composed_shows tkE0 (q_makeN T.mk_Composed G_Composed___init__ (hr.mono (by decide)) (by rfl) T.g_Composed T.b_Composed___init__ tkE0 (qa_cons (q_makeN T.mk_Line G_Line___init__ (hr.mono (by decide)) (by rfl) T.g_Line T.b_Line___init__ tkE0 (qa_cons q_int (qa_cons q_int (qa_cons q_int qa_nil)))).qe qa_nil)).qe (qa_cons (q_var (pv 5)) (qa_cons (q_var (pv 6)) qa_nil)))) (qw_and1 (qt_cmp (qo_ne hr.units) (q_op qo_mul (q_ix (q_var (pv 3)) q_int) (q_ix (q_var (pv 4)) q_int)) q_int))))))) (qs_one (qs_ret q_bl)) qs_nil)
      (qs_cons (qs_for PassesOwn.leaving rfl (qi_r1 (by rfl) T.n_range (qa_cons q_int qa_nil)) (qg_n (pg_name (i := 9) sc_law.nd rfl (.inl rfl)) (.inl rfl)) (qs_cons (qs_set (i := 10) sc_law.nd rfl (.inl rfl) (.inl rfl) (q_callM G__law_long (hr.mono (by decide)) (by rfl) T.g__law_long T.k__law_long T.b__law_long tkE0 (pv 1) (qa_cons (q_callM G__law_pick (hr.mono (by decide)) (by rfl) T.g__law_pick T.k__law_pick T.b__law_pick tkE0 (pv 1) (qa_cons (q_lst (qa_cons q_int (qa_cons q_int qa_nil))) qa_nil)) qa_nil)))
      (qs_one (qs_if (qt_w (qw_and (qt_truO (hT_cb T (hr.mono (by decide)) G_Composed___bool__ G_Broken___bool__) (q_var (pv 7))) (qw_and1 (qt_cmp (qo_ne hr.units) (q_meth T.cl_Line T.me_Line_at G_Line_at (hr.mono (by decide)) T.b_Line_at tkE0 (q_fld (hf_line T) (q_var (pv 7))) (qa_cons (q_var (pv 10)) qa_nil)) (q_call G__law_at (hr.mono (by decide)) (by rfl) T.g__law_at T.k__law_at T.b__law_at tkE0 (qa_cons (q_var (pv 4)) (qa_cons (q_call G__law_at (hr.mono (by decide)) (by rfl) T.g__law_at T.k__law_at T.b__law_at tkE0 (qa_cons (q_var (pv 3)) (qa_cons (q_var (pv 10)) qa_nil))) qa_nil))))))) (qs_one (qs_ret q_bl)) qs_nil))))
      (qs_one (qs_if (qt_w (qw_and (qt_not (qt_truO (hT_cb T (hr.mono (by decide)) G_Composed___bool__ G_Broken___bool__) (q_var (pv 7)))) (qw_and1 (qt_cmp (qo_eq hr.units) (q_callM G__law_take (hr.mono (by decide)) (by rfl) T.g__law_take T.k__law_take T.b__law_take tkE0 (pv 1) (qa_cons q_int qa_nil)) q_int)))) (qs_cons (qs_set (i := 11) sc_law.nd rfl (.inr rfl) (.inl rfl) (q_op qo_mul (q_ix (q_var (pv 3)) q_int) (q_ix (q_var (pv 4)) q_int)))
      (qs_cons (qs_setLc (i := 12) (own := [("b", 13)]) rfl sc_law.nd rfl rfl (.inl rfl) (.inl rfl) (sw_true rfl rfl rfl (by decide +kernel)) (qi_r2 (by rfl) T.n_range (qa_cons (q_op qo_sub (q_call G__law_needed (hr.mono (by decide)) (by rfl) T.g__law_needed T.k__law_needed T.b__law_needed tkE0 (qa_cons (q_var (pv 3)) (qa_cons (q_var (pv 4)) (qa_cons (q_fld (hf_x T) (q_var (pv 7))) qa_nil)))) q_int) (qa_cons (q_op qo_add (q_op qo_add (q_call G__law_needed (hr.mono (by decide)) (by rfl) T.g__law_needed T.k__law_needed T.b__law_needed tkE0 (qa_cons (q_var (pv 3)) (qa_cons (q_var (pv 4)) (qa_cons (q_fld (hf_x T) (q_var (pv 7))) qa_nil)))) (q_var (pv 11))) q_int) qa_nil))) (blkOk_by (by kernel_rfl)) (fun _ _ _ _ _ _ => (qg_n (pg_name (i := 13) sc_law.nd rfl (.inr rfl)) (.inl rfl))) (fun _ _ _ _ _ _ => qts_nil) (fun _ _ _ _ _ _ => (q_lcN (own := [("x", 10)]) rfl sc_law.nd (.inl rfl) (qi_t (q_tup (qa_cons (q_fld (hf_x T) (q_var (pv 7))) (qa_cons (q_fld (hf_y T) (q_var (pv 7))) qa_nil)))) (blkOk_by (by kernel_rfl)) (fun _ _ _ _ _ _ => (qg_n (pg_name (i := 10) sc_law.nd rfl (.inl rfl)) (.inl rfl))) (fun _ _ _ _ _ _ => qts_nil) (fun _ _ _ _ _ _ => (q_op qo_div (q_op qo_add (q_op qo_mul (q_op qo_mul (q_ix (q_var (pv 3)) q_int) (q_ix (q_var (pv 4)) q_int)) (q_var (pv 10))) (q_var (pv 13))) (q_var (pv 11))))).qe))
      (qs_one (qs_if (qt_cmp (qo_inL (hu65 hr)) (q_lcN (own := [("x", 10)]) rfl sc_law.nd (.inl rfl) (qi_t (q_tup (qa_cons (q_fld (hf_x T) (q_var (pv 7))) (qa_cons (q_fld (hf_y T) (q_var (pv 7))) qa_nil)))) (blkOk_by (by kernel_rfl)) (fun _ _ _ _ _ _ => (qg_n (pg_name (i := 10) sc_law.nd rfl (.inl rfl)) (.inl rfl))) (fun _ _ _ _ _ _ => qts_nil) (fun _ _ _ _ _ _ => (q_call G__law_at (hr.mono (by decide)) (by rfl) T.g__law_at T.k__law_at T.b__law_at tkE0 (qa_cons (q_var (pv 4)) (qa_cons (q_call G__law_at (hr.mono (by decide)) (by rfl) T.g__law_at T.k__law_at T.b__law_at tkE0 (qa_cons (q_var (pv 3)) (qa_cons (q_var (pv 10)) qa_nil))) qa_nil))))).qe (q_var (pv 12))) (qs_one (qs_ret q_bl)) qs_nil)))) qs_nil)))))))))))
      (xs_cons (x_s fun B F0 => (qs_setLc (i := 14) (own := [("turn", 9)]) rfl sc_law.nd rfl rfl (.inl rfl) (.inl rfl) (sw_true rfl rfl rfl (by decide +kernel)) (qi_r1 (by rfl) T.n_range (qa_cons (q_op qo_add q_int (q_callM G__law_take (hr.mono (by decide)) (by rfl) T.g__law_take T.k__law_take T.b__law_take tkE0 (pv 1) (qa_cons q_int qa_nil))) qa_nil)) (blkOk_by (by kernel_rfl)) (fun _ _ _ _ _ _ => (qg_n (pg_name (i := 9) sc_law.nd rfl (.inl rfl)) (.inl rfl))) (fun _ _ _ _ _ _ => qts_nil) (fun _ _ _ _ _ _ => (q_tup (qa_cons q_int (qa_cons q_int (qa_cons (q_op qo_add q_int (q_callM G__law_take (hr.mono (by decide)) (by rfl) T.g__law_take T.k__law_take T.b__law_take tkE0 (pv 1) (qa_cons q_int qa_nil))) qa_nil)))))))
      (xs_cons (x_s fun B F0 => (qs_set (i := 15) sc_law.nd rfl (.inl rfl) (.inl rfl) (q_call G_nested (hr.mono (by decide)) (by rfl) T.g_nested T.k_nested T.b_nested tkE0 (qa_cons (q_lcN (own := [("a", 16), ("b", 13), ("m", 11)]) rfl sc_law.nd (.inl rfl) (qi_l (q_var (pv 14))) (blkOk_by (by kernel_rfl)) (fun _ _ _ _ _ _ => (qg_t (n := 3) rfl (qgs_cons (qg_n (pg_name (i := 16) sc_law.nd rfl (.inl rfl)) (.inl rfl)) (qgs_cons (qg_n (pg_name (i := 13) sc_law.nd rfl (.inl rfl)) (.inl rfl)) (qgs_cons (qg_n (pg_name (i := 11) sc_law.nd rfl (.inl rfl)) (.inl rfl)) qgs_nil))))) (fun _ _ _ _ _ _ => qts_nil) (fun _ _ _ _ _ _ => (q_makeN T.mk_Line G_Line___init__ (hr.mono (by decide)) (by rfl) T.g_Line T.b_Line___init__ tkE0 (qa_cons (q_var (pv 16)) (qa_cons (q_var (pv 13)) (qa_cons (q_var (pv 11)) qa_nil)))).qe)).qe qa_nil))))
      (xs_cons (x_s fun B F0 => (qs_par (i := 10) (j := 17) rfl sc_law.nd rfl rfl (by decide) (.inl rfl) (.inl rfl) rfl rfl (qa_cons (q_callM G__law_long (hr.mono (by decide)) (by rfl) T.g__law_long T.k__law_long T.b__law_long tkE0 (pv 1) (qa_cons q_int qa_nil)) (qa_cons q_int qa_nil)) (by rfl)))
      (xs_cons (x_s fun B F0 => (qs_for PassesOwn.leaving rfl (qi_l (q_var (pv 14))) (qg_t (n := 3) rfl (qgs_cons (qg_n (pg_name (i := 16) sc_law.nd rfl (.inl rfl)) (.inl rfl)) (qgs_cons (qg_n (pg_name (i := 13) sc_law.nd rfl (.inl rfl)) (.inl rfl)) (qgs_cons (qg_n (pg_name (i := 11) sc_law.nd rfl (.inr rfl)) (.inl rfl)) qgs_nil)))) (qs_one (qs_set (i := 17) sc_law.nd rfl (.inl rfl) (.inl rfl) (q_op qo_mul (q_var (pv 17)) (q_var (pv 11)))))))
      (xs_cons (x_s fun B F0 => (qs_set (i := 18) sc_law.nd rfl (.inl rfl) (.inl rfl) (q_var (pv 10))))
      (xs_cons (x_s fun B F0 => (qs_for PassesOwn.leaving rfl (qi_l (q_var (pv 14))) (qg_n (pg_name (i := 7) sc_law.nd rfl (.inr rfl)) (.inl rfl)) (qs_one (qs_set (i := 18) sc_law.nd rfl (.inl rfl) (.inl rfl) (q_call G__law_at (hr.mono (by decide)) (by rfl) T.g__law_at T.k__law_at T.b__law_at tkE0 (qa_cons (q_var (pv 7)) (qa_cons (q_var (pv 18)) qa_nil)))))))
      (xs_cons (x_s fun B F0 => (qs_if (qt_w (qw_or (qt_cmp (qo_neO G_Line___eq__ (hr.mono (by decide)) T.b_Line___eq__ T.q_Line) (q_var (pv 15)) (q_makeN T.mk_Line G_Line___init__ (hr.mono (by decide)) (by rfl) T.g_Line T.b_Line___init__ tkE0 (qa_cons q_int (qa_cons q_int (qa_cons (q_var (pv 17)) qa_nil)))).qe) (qw_or (qt_cmp (qo_ne hr.units) (q_meth T.cl_Line T.me_Line_at G_Line_at (hr.mono (by decide)) T.b_Line_at tkE0 (q_var (pv 15)) (qa_cons (q_var (pv 10)) qa_nil)) (q_var (pv 18))) (qw_or1 (qt_cmp (qo_ne hr.units) (q_op qo_div (q_var (pv 10)) (q_var (pv 17))) (q_var (pv 18))))))) (qs_one (qs_ret q_bl)) qs_nil))
      (xs_cons (x_s fun B F0 => (qs_setLc (i := 19) (own := [("turn", 9)]) rfl sc_law.nd rfl rfl (.inl rfl) (.inl rfl) (sw_true rfl rfl rfl (by decide +kernel)) (qi_r1 (by rfl) T.n_range (qa_cons q_int qa_nil)) (blkOk_by (by kernel_rfl)) (fun _ _ _ _ _ _ => (qg_n (pg_name (i := 9) sc_law.nd rfl (.inl rfl)) (.inl rfl))) (fun _ _ _ _ _ _ => qts_nil) (fun _ _ _ _ _ _ => (q_callM G__law_short_line (hr.mono (by decide)) (by rfl) T.g__law_short_line T.k__law_short_line T.b__law_short_line tkE0 (pv 1) qa_nil))))
      (xs_cons (x_s fun B F0 => (qs_set (i := 20) sc_law.nd rfl (.inl rfl) (.inl rfl) (q_call G_nested (hr.mono (by decide)) (by rfl) T.g_nested T.k_nested T.b_nested tkE0 (qa_cons (q_lcN (own := [("a", 16), ("b", 13), ("m", 11)]) rfl sc_law.nd (.inl rfl) (qi_l (q_var (pv 19))) (blkOk_by (by kernel_rfl)) (fun _ _ _ _ _ _ => (qg_t (n := 3) rfl (qgs_cons (qg_n (pg_name (i := 16) sc_law.nd rfl (.inl rfl)) (.inl rfl)) (qgs_cons (qg_n (pg_name (i := 13) sc_law.nd rfl (.inl rfl)) (.inl rfl)) (qgs_cons (qg_n (pg_name (i := 11) sc_law.nd rfl (.inl rfl)) (.inl rfl)) qgs_nil))))) (fun _ _ _ _ _ _ => qts_nil) (fun _ _ _ _ _ _ => (q_makeN T.mk_Line G_Line___init__ (hr.mono (by decide)) (by rfl) T.g_Line T.b_Line___init__ tkE0 (qa_cons (q_var (pv 16)) (qa_cons (q_var (pv 13)) (qa_cons (q_var (pv 11)) qa_nil)))).qe)).qe qa_nil))))
      (xs_cons (x_s fun B F0 => (qs_if (qt_w (qw_and (qt_cmp qo_notN (q_var (pv 20)) q_non) (qw_and1 (qt_cmp (qo_ne hr.units) (q_meth T.cl_Line T.me_Line_at G_Line_at (hr.mono (by decide)) T.b_Line_at tkE0 (q_var (pv 20)) (qa_cons (q_var (pv 10)) qa_nil)) (q_call G__law_at (hr.mono (by decide)) (by rfl) T.g__law_at T.k__law_at T.b__law_at tkE0 (qa_cons (q_ix (q_var (pv 19)) q_int) (qa_cons (q_call G__law_at (hr.mono (by decide)) (by rfl) T.g__law_at T.k__law_at T.b__law_at tkE0 (qa_cons (q_ix (q_var (pv 19)) q_int) (qa_cons (q_var (pv 10)) qa_nil))) qa_nil))))))) (qs_one (qs_ret q_bl)) qs_nil))
      (xs_cons (x_s fun B F0 => (qs_set (i := 21) sc_law.nd rfl (.inr rfl) (.inl rfl) (q_op qo_add q_int (q_callM G__law_take (hr.mono (by decide)) (by rfl) T.g__law_take T.k__law_take T.b__law_take tkE0 (pv 1) (qa_cons q_int qa_nil)))))
      (xs_cons (x_if (xt_cmp (qo_ne hr.units) (x_lam (k := 6) (by rfl) T.g__law_fault T.k__law_fault lk1 hc1 b1 sc__law_fault rfl (.inl rfl) (gv__law_fault T) TB rfl (List.mem_singleton.mpr rfl) (fun p hp _ => by rw [List.mem_singleton.mp hp]; rfl) (hr.mono (by decide)) (LamX.lamS_by (by kernel_rfl)) rfl (fun _ _ _ _ _ => rfl) fun B F0 EX A outer s H E f c' hr tk => (q_call G_compose (hr.mono (by decide)) (by rfl) T.g_compose T.k_compose T.b_compose (tkE_of tk) (qa_cons (q_makeN T.mk_Line G_Line___init__ (hr.mono (by decide)) (by rfl) T.g_Line T.b_Line___init__ (tkE_of tk) (qa_cons q_int (qa_cons q_int (qa_cons (q_var (pv 21)) qa_nil)))).qe (qa_cons (q_makeN T.mk_Line G_Line___init__ (hr.mono (by decide)) (by rfl) T.g_Line T.b_Line___init__ (tkE_of tk) (qa_cons q_int (qa_cons q_int (qa_cons (q_var (pv 21)) qa_nil)))).qe qa_nil)))) (x_e fun B F0 => (q_op qo_mul (q_var (pv 21)) (q_var (pv 21))))) (xs_one (x_s fun B F0 => (qs_ret q_bl))) xs_nil)
      (xs_one (x_ret (x_cmp (qo_eq hr.units) (x_lam (k := 6) (by rfl) T.g__law_fault T.k__law_fault lk1 hc1 b1 sc__law_fault rfl (.inl rfl) (gv__law_fault T) TB rfl (List.mem_singleton.mpr rfl) (fun p hp _ => by rw [List.mem_singleton.mp hp]; rfl) (hr.mono (by decide)) (LamX.lamS_by (by kernel_rfl)) rfl (fun _ _ _ _ _ => rfl) fun B F0 EX A outer s H E f c' hr tk => (q_call G_compose (hr.mono (by decide)) (by rfl) T.g_compose T.k_compose T.b_compose (tkE_of tk) (qa_cons (q_makeN T.mk_Line G_Line___init__ (hr.mono (by decide)) (by rfl) T.g_Line T.b_Line___init__ (tkE_of tk) (qa_cons q_int (qa_cons q_int (qa_cons q_int qa_nil)))).qe (qa_cons (q_makeN T.mk_Line G_Line___init__ (hr.mono (by decide)) (by rfl) T.g_Line T.b_Line___init__ (tkE_of tk) (qa_cons q_int (qa_cons q_int (qa_cons q_int qa_nil)))).qe qa_nil)))) (x_e fun B F0 => q_str)))))))))))))))))), fun ns hns => ?_⟩
  show sSeq _ _ _ [.val (.scr ns), .un, .un, .un, .un, .un, .un, .un, .un, .un, .un, .un, .un, .un, .un, .un, .un, .un, .un, .un, .un, .un]
  have hD : Drw (.lst [.scr ns, .int 0]) := ⟨ns, 0, hns, rfl⟩
  walk_at "wi"
  refine ⟨by decide, ?_⟩
  refine forR_rng (fun _ env => ∃ dd s2 s3 s4 s5 s6 s7 s8 s9 s10 s11 s12 s13, (Drw dd ∧ notOwn s9 = true ∧ notOwn s10 = true ∧ notOwn s11 = true ∧ notOwn s13 = true) ∧ env = [.val (.scr ns), .own dd, s2, s3, s4, s5, s6, s7, s8, s9, s10, s11, s12, s13, .un, .un, .un, .un, .un, .un, .un, .un]) ⟨_, _, _, _, _, _, _, _, _, _, _, _, _, ⟨hD, rfl, rfl, rfl, rfl⟩, rfl⟩ ?_ ?_
  · rintro i env N hi ⟨dd, s2, s3, s4, s5, s6, s7, s8, s9, s10, s11, s12, s13, ⟨hD, n9, n10, n11, n13⟩, rfl⟩ hN
    have hN := fun dd' s2 s3 s4 s5 s6 s7 s8 s9 s10 s11 s12 s13 (h : Drw dd' ∧ notOwn s9 = true ∧ notOwn s10 = true ∧ notOwn s11 = true ∧ notOwn s13 = true) => hN _ ⟨dd', s2, s3, s4, s5, s6, s7, s8, s9, s10, s11, s12, s13, h, rfl⟩
    walk_at "wi"
    refine ⟨hD, fun L d1 hL hD1 => ⟨hD1, fun k d2 hk hD2 => ?_⟩⟩
    have hm := hL.per hk
    have okL := hL.ok.1
    have okk := hk.ok.1
    have hp := per_pos okL okk
    refine use_Line hL.2.2.1 ⟨rfl, use_Line hk.2.2.1 ⟨rfl, use_comp ⟨okL, okk⟩ hm fun r hr => ?_⟩⟩
    have hr : CPR ad L k r := hr
    rcases hr with ⟨b, hR⟩ | ⟨x, y, hx, hy, kk⟩
    · have okC : LnOk (L.1 * k.1, b, L.2.2 * k.2.2) := hR.ok okL okk ⟨hL.ok.2.1.up (by decide), hL.ok.2.2.1.up (by decide), hL.ok.2.2.2.up (by decide)⟩ hk.ok.2 hm
      refine ⟨_, tb_c, ?_⟩
      refine ⟨_, true, ⟨rfl, T.isc_Composed⟩, T.i_Composed_Composed, ?_⟩
      walk_at "wi"
      rw [if_neg (by decide)]
      refine ⟨L, k, rfl, rfl, ⟨okL, okk, hm⟩, .inl ⟨_, rfl, fun b1 hb1 => ?_⟩⟩
      rw [show b1 = true from hb1.mpr hR]
      walk_at "wi"
      refine .inl (use_Cshows ⟨okL, okk, hm⟩ fun b2 hb2 => ?_)
      rw [show b2 = true from hb2.mpr hR]
      walk_at "wi"
      refine k_truQ tb_c ?_
      walk_at "wi"
      refine ⟨hD2, by decide, fun t d3 t0 t1 hD3 => ?_⟩
      refine use_Line hp ⟨rfl, .inl (use_Cshows ⟨okL, okk, hm⟩ fun b3 hb3 => ?_)⟩
      refine ⟨L, k, rfl, rfl, ⟨okL, okk, hm⟩, .inl ⟨_, rfl, fun b4 hb4 => ?_⟩⟩
      rw [show b4 = b3 from Bool.eq_iff_iff.mpr (hb4.trans hb3.symm)]
      walk_at "wi"
      rw [if_neg (by simp)]
      refine use_Line (by decide) ⟨rfl, use_Cshows ⟨okL, okk, hm⟩ fun b5 hb5 => ?_⟩
      walk_at "wi"
      refine mrg7 (fun z => ⟨MOk.of okL.1.2.2 okk.1.2.2 (by decide), ?_⟩) ?_
      · have e : (7 : Int) = L.2.2 * k.2.2 := (hb5.mp z).2.1
        rw [decide_eq_true e.symm]
        decide
      refine ⟨by decide, ?_⟩
      refine forR_rng (fun _ env => ∃ dd s9 s10, (Drw dd ∧ notOwn s9 = true ∧ notOwn s10 = true) ∧ env = [.val (.scr ns), .own dd, .val (.int (0 + ↑i)), .val (rowD L), .val (rowD k), .val (lnD ad L), .val (lnD ad k), .val (oComposed ad (lnD ad (L.1 * k.1, b, L.2.2 * k.2.2))), .val (oComposed ad (lnD ad (L.1 * k.1, b + t, L.2.2 * k.2.2))), s9, s10, s11, s12, s13, .un, .un, .un, .un, .un, .un, .un, .un]) ⟨_, _, _, ⟨hD3, n9, n10⟩, rfl⟩ ?_ ?_
      · rintro j env N hj ⟨dd, t9, t10, ⟨hD, m9, m10⟩, rfl⟩ hN
        walk_at "wi"
        refine ⟨hD, by decide, fun f d1 hf hD1 => ?_⟩
        obtain ⟨f', rfl, hf0, hf1⟩ : ∃ f' : Int, f = .int f' ∧ 0 ≤ f' ∧ f' ≤ 20 := by
          simp only [List.mem_cons, List.not_mem_nil, or_false] at hf
          rcases hf with rfl | rfl
          · exact ⟨_, rfl, by decide, by decide⟩
          · exact ⟨_, rfl, by decide, by decide⟩
        walk_at "wi"
        refine ⟨hD1, ⟨by omega, by omega⟩, fun u d2 hu hD2 => ?_⟩
        have su : Sm 100 u := by
          have h1 : 10 ^ f'.toNat ≤ 10 ^ 20 := Nat.pow_le_pow_right (by decide) (by omega)
          exact Nat.lt_of_lt_of_le hu (Nat.le_trans h1 (by decide))
        refine k_truQ tb_c ?_
        walk_at "wi"
        refine use_at ⟨okC, su.up (by decide)⟩ (use_lat ⟨okL, su.up (by decide)⟩ (use_lat ⟨okk, (sm_at okL su).up (by decide)⟩ ?_))
        walk_at "wi"
        rw [if_neg (by simp [hR.at okL okk])]
        exact hN _ ⟨_, _, _, ⟨hD2, rfl, rfl⟩, rfl⟩
      · rintro env ⟨dd, t9, t10, ⟨hD, m9, m10⟩, rfl⟩
        walk_at "wi"
        refine k_truQ tb_c ?_
        rw [if_neg (by decide)]
        exact hN _ _ _ _ _ _ _ _ _ _ _ _ _ ⟨hD, m9, m10, n11, n13⟩
    · refine ⟨_, tb_b T, ?_⟩
      refine ⟨_, false, ⟨rfl, T.isc_Broken⟩, T.i_Broken_Composed, ?_⟩
      walk_at "wi"
      rw [if_neg (by decide)]
      refine ⟨L, k, rfl, rfl, ⟨okL, okk, hm⟩, .inr ⟨x, y, rfl, ⟨sm_lt (N := 3000) (by omega) (by decide), sm_lt (N := 3000) (by omega) (by decide)⟩, ?_⟩⟩
      rw [decide_eq_true kk]
      walk_at "wi"
      refine .inr ?_
      have sx : Sm 200 x := sm_lt (N := 3000) (by omega) (by decide)
      have sy : Sm 200 y := sm_lt (N := 3000) (by omega) (by decide)
      refine use_Bshows ⟨okL, okk, hm, sx, sy⟩ ?_
      rw [show decide (nd (L.1, L.2.1, L.2.2) (k.1, k.2.1, k.2.2) y + L.2.2 * k.2.2 - 1 < nd (L.1, L.2.1, L.2.2) (k.1, k.2.1, k.2.2) x) = true from decide_eq_true kk]
      walk_at "wi"
      refine k_truQ (tb_b T) ?_
      walk_at "wi"
      refine ⟨hD2, by decide, fun t d3 t0 t1 hD3 => ⟨MOk.of okL.1.2.2 okk.1.2.2 (by decide), .inr ?_⟩⟩
      have sx2 : Sm 200 (x + t) := sm_lt (N := 3001) (by omega) (by decide)
      have sy2 : Sm 200 (y + L.2.2 * k.2.2) := sm_lt (N := 6000) (by omega) (by decide)
      refine use_Bshows ⟨okL, okk, hm, sx2, sy2⟩ ?_
      refine ⟨L, k, rfl, rfl, ⟨okL, okk, hm⟩, .inr ⟨_, _, rfl, ⟨sx2, sy2⟩, ?_⟩⟩
      walk_at "wi"
      rw [if_neg (by simp)]
      refine use_Line (by decide) ⟨rfl, use_Cshows ⟨okL, okk, hm⟩ fun b5 hb5 => ?_⟩
      walk_at "wi"
      refine mrg7 (fun z => ⟨MOk.of okL.1.2.2 okk.1.2.2 (by decide), ?_⟩) ?_
      · have e : (7 : Int) = L.2.2 * k.2.2 := (hb5.mp z).2.1
        rw [decide_eq_true e.symm]
        decide
      refine ⟨by decide, ?_⟩
      refine forR_rng (fun _ env => ∃ dd s9 s10, (Drw dd ∧ notOwn s9 = true ∧ notOwn s10 = true) ∧ env = [.val (.scr ns), .own dd, .val (.int (0 + ↑i)), .val (rowD L), .val (rowD k), .val (lnD ad L), .val (lnD ad k), .val (oBroken ad (.int x) (.int y)), .val (oBroken ad (.int (x + t)) (.int (y + L.2.2 * k.2.2))), s9, s10, s11, s12, s13, .un, .un, .un, .un, .un, .un, .un, .un]) ⟨_, _, _, ⟨hD3, n9, n10⟩, rfl⟩ ?_ ?_
      · rintro j env N hj ⟨dd, t9, t10, ⟨hD, m9, m10⟩, rfl⟩ hN
        walk_at "wi"
        refine ⟨hD, by decide, fun f d1 hf hD1 => ?_⟩
        obtain ⟨f', rfl, hf0, hf1⟩ : ∃ f' : Int, f = .int f' ∧ 0 ≤ f' ∧ f' ≤ 20 := by
          simp only [List.mem_cons, List.not_mem_nil, or_false] at hf
          rcases hf with rfl | rfl
          · exact ⟨_, rfl, by decide, by decide⟩
          · exact ⟨_, rfl, by decide, by decide⟩
        walk_at "wi"
        refine ⟨hD1, ⟨by omega, by omega⟩, fun u d2 hu hD2 => ?_⟩
        have su : Sm 100 u := by
          have h1 : 10 ^ f'.toNat ≤ 10 ^ 20 := Nat.pow_le_pow_right (by decide) (by omega)
          exact Nat.lt_of_lt_of_le hu (Nat.le_trans h1 (by decide))
        refine k_truQ (tb_b T) ?_
        walk_at "wi"
        exact hN _ ⟨_, _, _, ⟨hD2, rfl, rfl⟩, rfl⟩
      · rintro env ⟨dd, t9, t10, ⟨hD, m9, m10⟩, rfl⟩
        walk_at "wi"
        refine k_truQ (tb_b T) ?_
        rw [if_pos (by decide)]
        refine ⟨hD, by decide, fun r d4 r0 r1 hD4 => ?_⟩
        by_cases e : r = 0
        · rw [if_pos (decide_eq_true e)]
          have sn : ∀ z, Sm 12 z → Sm 47 (nd L k z) := fun z sz => sm_sub (sm_mul (sm_atk hk.ok.2 (sm_atk hL.ok.2 sz)) (sm_lt (N := 3000) (n := 12) (by omega) (by decide))) (sm_mul (sm_mul hL.ok.2.1 hk.ok.2.1) sz)
          have nx := sn x (sm_lt (N := 3000) (by omega) (by decide))
          have hnx : (nd L k x).natAbs < 2 ^ 47 := nx
          refine ⟨MOk.of okL.1.2.2 okk.1.2.2 (by decide), ?_⟩
          walk_at "wi"
          refine use_lneed ⟨okL, okk, sx⟩ ?_
          walk_at "wi"
          refine use_lneed ⟨okL, okk, sx⟩ ?_
          walk_at "wi"
          refine ⟨⟨by omega, by omega, by omega, by omega⟩, n13, ?_⟩
          refine lcR_inv (fun j acc env => acc = (List.range j).map (fun q : Nat => lduoD (rw2 L k x y (nd L k x - 3 + (q : Int)))) ∧ env = [.val (.scr ns), .own d4, .val (.int (0 + ↑i)), .val (rowD L), .val (rowD k), .val (lnD ad L), .val (lnD ad k), .val (oBroken ad (.int x) (.int y)), .val (oBroken ad (.int (x + t)) (.int (y + L.2.2 * k.2.2))), t9, t10, .val (.int (L.2.2 * k.2.2)), s12, .un, .un, .un, .un, .un, .un, .un, .un, .un]) ⟨rfl, rfl⟩ ?_ ?_
          · rintro j z acc env N' hz ⟨rfl, rfl⟩ hN'
            obtain ⟨hj, rfl⟩ := rng_get hz
            walk_at "wi"
            have sj : Sm 60 (nd L k x - 3 + (j : Int)) := sm_lt (N := 2 ^ 48) (by omega) (by decide)
            have dok : DOk (L.2.2 * k.2.2) := DOk.of (by omega) (sm_per okL okk) (by decide)
            refine ⟨m10, lcR_cons ?_⟩
            walk_at "wi"
            refine ⟨MOk.of okL.1.1 okk.1.1 (by decide), MOk.of (sm_sl okL okk) sx (by decide), dok, ?_⟩
            refine ⟨(show 0 < sizeLine by decide), lcR_cons ?_⟩
            walk_at "wi"
            refine ⟨MOk.of okL.1.1 okk.1.1 (by decide), MOk.of (sm_sl okL okk) sy (by decide), dok, ?_⟩
            refine ⟨(show 1 < sizeLine by decide), lcR_nil ?_⟩
            walk_at "wi"
            refine ⟨?_, hN' _ _ ⟨?_, rfl⟩⟩
            · rw [List.length_range]
              exact Nat.lt_of_le_of_lt (show _ ≤ 4000 by omega) (by decide)
            · rw [List.range_succ, List.map_append]; rfl
          · rintro acc env ⟨rfl, rfl⟩
            walk_at "wi"
            refine ⟨m10, lcR_cons ?_⟩
            walk_at "wi"
            refine use_lat ⟨okL, sx.up (by decide)⟩ (use_lat ⟨okk, (sm_at okL sx).up (by decide)⟩ ⟨(show 0 < sizeLine by decide), lcR_cons ?_⟩)
            walk_at "wi"
            refine use_lat ⟨okL, sy.up (by decide)⟩ (use_lat ⟨okk, (sm_at okL sy).up (by decide)⟩ ⟨(show 1 < sizeLine by decide), lcR_nil ?_⟩)
            walk_at "wi"
            refine ⟨((List.range (rng (nd L k x - 3) (nd L k x + L.2.2 * k.2.2 + 3 - (nd L k x - 3)).toNat).length).map fun q : Nat => rw2 L k x y (nd L k x - 3 + (q : Int))), by rw [List.map_map]; rfl, ?_⟩
            have nin : (atL k (atL L x), atL k (atL L y)) ∉ ((List.range (rng (nd L k x - 3) (nd L k x + L.2.2 * k.2.2 + 3 - (nd L k x - 3)).toNat).length).map fun q : Nat => rw2 L k x y (nd L k x - 3 + (q : Int))) := fun hh => by
              obtain ⟨q, _, e⟩ := List.mem_map.mp hh
              exact not_rows hp kk e.symm
            rw [decide_eq_false nin]
            walk_at "wi"
            exact hN _ _ _ _ _ _ _ _ _ _ _ _ _ ⟨hD4, m9, m10, rfl, n13⟩
        · rw [if_neg (by rw [decide_eq_true_eq]; exact e)]
          exact hN _ _ _ _ _ _ _ _ _ _ _ _ _ ⟨hD4, m9, m10, n11, n13⟩
  · rintro env ⟨dd, s2, s3, s4, s5, s6, s7, s8, s9, s10, s11, s12, s13, ⟨hD, n9, n10, n11, n13⟩, rfl⟩
    walk_at "wi"
    refine ⟨hD, by decide, fun r d1 r0 r1 hD1 => ⟨⟨by omega, by omega⟩, n9, ?_⟩⟩
    refine lcR_inv (fun j acc env => ∃ Ls : List Geo.IR, ∃ d2, (acc = Ls.map rowD ∧ Ls.length = j ∧ Drw d2 ∧ ∀ L ∈ Ls, One5 L) ∧ env = [.val (.scr ns), .own d2, s2, s3, s4, s5, s6, s7, s8, .un, s10, s11, s12, s13, .un, .un, .un, .un, .un, .un, .un, .un]) ⟨[], _, ⟨rfl, rfl, hD1, fun _ h => (nomatch h)⟩, rfl⟩ ?_ ?_
    · rintro j z acc env N' hz ⟨Ls, d2, ⟨rfl, rfl, hD2, hL⟩, rfl⟩ hN'
      obtain ⟨hj, rfl⟩ := rng_get hz
      walk_at "wi"
      refine ⟨hD2, by decide, fun t d3 t0 t1 hD3 => ⟨Nat.lt_of_le_of_lt (show _ ≤ 10 by omega) (by decide), hN' _ _ ⟨Ls ++ [(1, 0, 1 + t)], _, ⟨?_, ?_, hD3, ?_⟩, rfl⟩⟩⟩
      · rw [List.map_append]; rfl
      · rw [List.length_append]; rfl
      · intro L hh
        rcases List.mem_append.mp hh with hh | hh
        · exact hL _ hh
        · rw [List.mem_singleton.mp hh]
          exact ⟨rfl, rfl, by show 1 ≤ 1 + t; omega, by show 1 + t ≤ 5; omega⟩
    · rintro acc env ⟨Ls, d2, ⟨rfl, hl, hD2, hL⟩, rfl⟩
      rw [rng_len] at hl
      walk_at "wi"
      refine ⟨by rw [n11, n13]; rfl, ?_⟩
      refine lcR_of (lnD ad) (Nat.le_trans (show _ ≤ 10 by omega) (by decide)) ?_ ?_
      · intro L N' hh hN'
        walk_at "wi"
        refine use_Line (hL _ hh).2.2.1 ⟨rfl, ?_⟩
        walk_at "wi"
        exact hN' _ rfl
      walk_at "wi"
      refine use_nest1 ⟨hL, by omega⟩ ?_
      walk_at "wi"
      refine ⟨hD2, by decide, fun x d3 hx hD3 => ?_⟩
      have sx : Sm 100 x := Nat.lt_of_lt_of_le hx (by decide)
      have hb := prd_bd (fun L hh => (hL L hh).2.2)
      walk_at "wi"
      refine forR_of (enc := rowD) (fun j env => ∃ t11 t13 t16, (notOwn t11 = true ∧ notOwn t13 = true ∧ notOwn t16 = true) ∧ env = [.val (.scr ns), .own d3, s2, s3, s4, s5, s6, s7, s8, s9, .val (.int x), t11, s12, t13, .val (.lst (Ls.map rowD)), .val (lnD ad (1, 0, prd Ls)), t16, .val (.int (prd (Ls.take j))), .un, .un, .un, .un]) ⟨_, _, .un, ⟨n11, n13, rfl⟩, rfl⟩ ?_ ?_
      · rintro j L env N hj ⟨t11, t13, t16, ⟨m11, m13, m16⟩, rfl⟩ hN
        walk_at "wi"
        have h5 := hb j
        have h6 : Sm 12 (prd (Ls.take j)) := by
          refine sm_lt (N := 625) ?_ (by decide)
          have : (5 : Int) ^ j ≤ 5 ^ 4 := by
            have : j < 4 := by
              have := (List.getElem?_eq_some_iff.mp hj).1
              omega
            rcases j with _ | _ | _ | _ | j
            · decide
            · decide
            · decide
            · decide
            · omega
          omega
        refine ⟨MOk.of h6 (hL L (List.mem_of_getElem? hj)).ok.1.2.2 (by decide), hN _ ⟨.val (.int L.2.2), .val (.int L.2.1), .val (.int L.1), ⟨rfl, rfl, rfl⟩, ?_⟩⟩
        rw [prd_take hj]
      · rintro env ⟨t11, t13, t16, ⟨m11, m13, m16⟩, rfl⟩
        walk_at "wi"
        rw [List.take_length]
        refine forR_of (enc := rowD) (fun j env => ∃ t7, env = [.val (.scr ns), .own d3, s2, s3, s4, s5, s6, t7, s8, s9, .val (.int x), t11, s12, t13, .val (.lst (Ls.map rowD)), .val (lnD ad (1, 0, prd Ls)), t16, .val (.int (prd Ls)), .val (.int (x / prd (Ls.take j))), .un, .un, .un]) ⟨_, by rw [List.take_zero, prd_nil, Int.ediv_one]⟩ ?_ ?_
        · rintro j L env N hj ⟨t7, rfl⟩ hN
          walk_at "wi"
          have h1 := hL L (List.mem_of_getElem? hj)
          have hq : Sm 100 (x / prd (Ls.take j)) := sx.le (Int.natAbs_ediv_le_natAbs _ _)
          refine use_lat ⟨h1.ok, hq.up (by decide)⟩ (hN _ ⟨.val (rowD L), ?_⟩)
          rw [h1.at (hb j).1, prd_take hj]
        · rintro env ⟨t7, rfl⟩
          have hP := hb Ls.length
          rw [List.take_length] at hP ⊢
          have hP6 : prd Ls ≤ 625 := by
            have : (5 : Int) ^ Ls.length ≤ 5 ^ 4 := by
              have : Ls.length ≤ 4 := by omega
              rcases h : Ls.length with _ | _ | _ | _ | _ | j
              · decide
              · decide
              · decide
              · decide
              · decide
              · omega
            omega
          have okP : LnOk (1, 0, prd Ls) := ⟨⟨sm_lt (N := 625) (x := 1) (by decide) (by decide), sm_lt (N := 625) (x := 0) (by decide) (by decide), sm_lt (N := 625) (x := prd Ls) (by omega) (by decide)⟩, hP.1⟩
          walk_at "wi"
          refine use_Line hP.1 ⟨rfl, use_neL T ?_⟩
          walk_at "wi"
          rw [if_neg (by simp)]
          refine use_at ⟨okP, sx.up (by decide)⟩ ?_
          have e : atL (1, 0, prd Ls) x = x / prd Ls := by
            show (1 * x + 0) / prd Ls = _
            rw [Int.one_mul, Int.add_zero]
          rw [e]
          walk_at "wi"
          rw [if_neg (by simp)]
          refine ⟨DOk.of (by omega) okP.1.2.2 (by decide), ?_⟩
          rw [if_neg (by simp)]
          refine ⟨by decide, n9, ?_⟩
          refine lcR_inv (fun j acc env => ∃ Ms : List Geo.IR, ∃ d2, (acc = Ms.map rowD ∧ Ms.length = j ∧ Drw d2 ∧ ∀ L ∈ Ms, Shrt L) ∧ env = [.val (.scr ns), .own d2, s2, s3, s4, s5, s6, t7, s8, .un, .val (.int x), t11, s12, t13, .val (.lst (Ls.map rowD)), .val (lnD ad (1, 0, prd Ls)), t16, .val (.int (prd Ls)), .val (.int (x / prd Ls)), .un, .un, .un]) ⟨[], _, ⟨rfl, rfl, hD3, fun _ h => (nomatch h)⟩, rfl⟩ ?_ ?_
          · rintro j z acc env N' hz ⟨Ms, d2, ⟨rfl, rfl, hD2, hM⟩, rfl⟩ hN'
            obtain ⟨hj, rfl⟩ := rng_get hz
            have hj : Ms.length < 2 := hj
            walk_at "wi"
            refine ⟨hD2, fun L d4 hL4 hD4 => ⟨Nat.lt_of_le_of_lt (show _ ≤ 10 by omega) (by decide), hN' _ _ ⟨Ms ++ [L], _, ⟨?_, ?_, hD4, ?_⟩, rfl⟩⟩⟩
            · rw [List.map_append]; rfl
            · rw [List.length_append]; rfl
            · intro L' hh
              rcases List.mem_append.mp hh with hh | hh
              · exact hM _ hh
              · rw [List.mem_singleton.mp hh]
                exact hL4
          · rintro acc env ⟨Ms, d2, ⟨rfl, hl, hD2, hM⟩, rfl⟩
            rw [rng_len] at hl
            obtain ⟨l, k, rfl⟩ : ∃ l k, Ms = [l, k] := by
              match Ms, hl with
              | [a, b], _ => exact ⟨a, b, rfl⟩
            have sl := hM l (by simp)
            have sk := hM k (by simp)
            walk_at "wi"
            refine ⟨by rw [m11, m13, m16]; rfl, ?_⟩
            refine lcR_cons ?_
            walk_at "wi"
            refine use_Line sl.2.2.1 ⟨rfl, ⟨(show 0 < sizeLine by decide), lcR_cons ?_⟩⟩
            walk_at "wi"
            refine use_Line sk.2.2.1 ⟨rfl, ⟨(show 1 < sizeLine by decide), lcR_nil ?_⟩⟩
            walk_at "wi"
            refine use_nest2 sl sk ?_ fun M hM1 hM2 => ?_
            · walk_at "wi"
              refine ⟨hD2, by decide, fun r d5 r0 r1 hD5 => ?_⟩
              have ok5 : LnOk (1, 0, 55 + r) := ⟨⟨sm_lt (N := 625) (x := 1) (by decide) (by decide), sm_lt (N := 625) (x := 0) (by decide) (by decide), sm_lt (N := 625) (x := 55 + r) (by omega) (by decide)⟩, by show 1 ≤ 55 + r; omega⟩
              have big : 55 * 55 ≤ (55 + r) * (55 + r) := Int.mul_le_mul (by omega) (by omega) (by omega) (by omega)
              intro E hE
              walk_at "wi"
              refine use_Line (by omega) ⟨rfl, ?_⟩
              walk_at "wi"
              refine use_Line (by omega) ⟨rfl, use_compX ⟨ok5, ok5⟩ (by show 3000 < (55 + r) * (55 + r); omega) (hE _ ?_)⟩
              walk_at "wi"
              refine ⟨MOk.of ok5.1.2.2 ok5.1.2.2 (by decide), ?_⟩
              rw [if_neg (by simp)]
              intro E hE
              have ok60 : LnOk (1, 0, 60) := ⟨⟨sm_lt (N := 625) (x := 1) (by decide) (by decide), sm_lt (N := 625) (x := 0) (by decide) (by decide), sm_lt (N := 625) (x := 60) (by decide) (by decide)⟩, by decide⟩
              have ok50 : LnOk (1, 0, 50) := ⟨⟨sm_lt (N := 625) (x := 1) (by decide) (by decide), sm_lt (N := 625) (x := 0) (by decide) (by decide), sm_lt (N := 625) (x := 50) (by decide) (by decide)⟩, by decide⟩
              refine use_Line (by decide) ⟨rfl, use_Line (by decide) ⟨rfl, use_comp ⟨ok60, ok50⟩ (by decide) fun _ _ => ?_⟩⟩
              rfl
            · walk_at "wi"
              refine use_at ⟨hM1, sx.up (by decide)⟩ (use_lat ⟨sl.ok.1, sx.up (by decide)⟩ (use_lat ⟨sk.ok.1, (sm_at sl.ok.1 sx).up (by decide)⟩ ?_))
              walk_at "wi"
              rw [if_neg (by simp [hM2])]
              refine ⟨hD2, by decide, fun r d5 r0 r1 hD5 => ?_⟩
              have ok5 : LnOk (1, 0, 55 + r) := ⟨⟨sm_lt (N := 625) (x := 1) (by decide) (by decide), sm_lt (N := 625) (x := 0) (by decide) (by decide), sm_lt (N := 625) (x := 55 + r) (by omega) (by decide)⟩, by show 1 ≤ 55 + r; omega⟩
              have big : 55 * 55 ≤ (55 + r) * (55 + r) := Int.mul_le_mul (by omega) (by omega) (by omega) (by omega)
              intro E hE
              walk_at "wi"
              refine use_Line (by omega) ⟨rfl, ?_⟩
              walk_at "wi"
              refine use_Line (by omega) ⟨rfl, use_compX ⟨ok5, ok5⟩ (by show 3000 < (55 + r) * (55 + r); omega) (hE _ ?_)⟩
              walk_at "wi"
              refine ⟨MOk.of ok5.1.2.2 ok5.1.2.2 (by decide), ?_⟩
              rw [if_neg (by simp)]
              intro E hE
              have ok60 : LnOk (1, 0, 60) := ⟨⟨sm_lt (N := 625) (x := 1) (by decide) (by decide), sm_lt (N := 625) (x := 0) (by decide) (by decide), sm_lt (N := 625) (x := 60) (by decide) (by decide)⟩, by decide⟩
              have ok50 : LnOk (1, 0, 50) := ⟨⟨sm_lt (N := 625) (x := 1) (by decide) (by decide), sm_lt (N := 625) (x := 0) (by decide) (by decide), sm_lt (N := 625) (x := 50) (by decide) (by decide)⟩, by decide⟩
              refine use_Line (by decide) ⟨rfl, use_Line (by decide) ⟨rfl, use_comp ⟨ok60, ok50⟩ (by decide) fun _ _ => ?_⟩⟩
              rfl
theorem all_mk {l : PySem.W.OpenLaw} {w : World} {K : PySem.W.Frag} {h : Heap} {mg : Str → Option Value} {fa : Addr} (X : K.In h) (G : h.Ns mainGlobals mg) (hfa : mg "law" = some (.ref fa))
    {od_TooLarge___init__ an_TooLarge___init__ : Option Addr} {sl_TooLarge___init__ : Array (Option Value)} {oc_TooLarge___init__ kV_TooLarge___init__ dc_TooLarge___init__ pm_TooLarge___init__ cd_TooLarge___init__ ct_TooLarge___init__ : Value} {f_TooLarge___init__ : Addr}
    {od_is_number an_is_number : Option Addr} {sl_is_number : Array (Option Value)} {oc_is_number kV_is_number dc_is_number pm_is_number cd_is_number ct_is_number : Value} {f_is_number : Addr}
    {od_Line___init__ an_Line___init__ : Option Addr} {sl_Line___init__ : Array (Option Value)} {oc_Line___init__ kV_Line___init__ dc_Line___init__ pm_Line___init__ cd_Line___init__ ct_Line___init__ : Value} {f_Line___init__ : Addr}
    {od_Line___eq__ an_Line___eq__ : Option Addr} {sl_Line___eq__ : Array (Option Value)} {oc_Line___eq__ kV_Line___eq__ dc_Line___eq__ pm_Line___eq__ cd_Line___eq__ ct_Line___eq__ : Value} {f_Line___eq__ : Addr}
    {od_Line_at an_Line_at : Option Addr} {sl_Line_at : Array (Option Value)} {oc_Line_at kV_Line_at dc_Line_at pm_Line_at cd_Line_at ct_Line_at : Value} {f_Line_at : Addr}
    {od_Composed___init__ an_Composed___init__ : Option Addr} {sl_Composed___init__ : Array (Option Value)} {oc_Composed___init__ kV_Composed___init__ dc_Composed___init__ pm_Composed___init__ cd_Composed___init__ ct_Composed___init__ : Value} {f_Composed___init__ : Addr}
    {od_Composed___bool__ an_Composed___bool__ : Option Addr} {sl_Composed___bool__ : Array (Option Value)} {oc_Composed___bool__ kV_Composed___bool__ dc_Composed___bool__ pm_Composed___bool__ cd_Composed___bool__ ct_Composed___bool__ : Value} {f_Composed___bool__ : Addr}
    {od_Composed_shows an_Composed_shows : Option Addr} {sl_Composed_shows : Array (Option Value)} {oc_Composed_shows kV_Composed_shows dc_Composed_shows pm_Composed_shows cd_Composed_shows ct_Composed_shows : Value} {f_Composed_shows : Addr}
    {od_Broken___init__ an_Broken___init__ : Option Addr} {sl_Broken___init__ : Array (Option Value)} {oc_Broken___init__ kV_Broken___init__ dc_Broken___init__ pm_Broken___init__ cd_Broken___init__ ct_Broken___init__ : Value} {f_Broken___init__ : Addr}
    {od_Broken___bool__ an_Broken___bool__ : Option Addr} {sl_Broken___bool__ : Array (Option Value)} {oc_Broken___bool__ kV_Broken___bool__ dc_Broken___bool__ pm_Broken___bool__ cd_Broken___bool__ ct_Broken___bool__ : Value} {f_Broken___bool__ : Addr}
    {od_Broken_shows an_Broken_shows : Option Addr} {sl_Broken_shows : Array (Option Value)} {oc_Broken_shows kV_Broken_shows dc_Broken_shows pm_Broken_shows cd_Broken_shows ct_Broken_shows : Value} {f_Broken_shows : Addr}
    {od_slope_of an_slope_of : Option Addr} {sl_slope_of : Array (Option Value)} {oc_slope_of kV_slope_of dc_slope_of pm_slope_of cd_slope_of ct_slope_of : Value} {f_slope_of : Addr}
    {od_both_at an_both_at : Option Addr} {sl_both_at : Array (Option Value)} {oc_both_at kV_both_at dc_both_at pm_both_at cd_both_at ct_both_at : Value} {f_both_at : Addr}
    {od_needed an_needed : Option Addr} {sl_needed : Array (Option Value)} {oc_needed kV_needed dc_needed pm_needed cd_needed ct_needed : Value} {f_needed : Addr}
    {od_room an_room : Option Addr} {sl_room : Array (Option Value)} {oc_room kV_room dc_room pm_room cd_room ct_room : Value} {f_room : Addr}
    {od_least_room an_least_room : Option Addr} {sl_least_room : Array (Option Value)} {oc_least_room kV_least_room dc_least_room pm_least_room cd_least_room ct_least_room : Value} {f_least_room : Addr}
    {od_check_period an_check_period : Option Addr} {sl_check_period : Array (Option Value)} {oc_check_period kV_check_period dc_check_period pm_check_period cd_check_period ct_check_period : Value} {f_check_period : Addr}
    {od_compose an_compose : Option Addr} {sl_compose : Array (Option Value)} {oc_compose kV_compose dc_compose pm_compose cd_compose ct_compose : Value} {f_compose : Addr}
    {od_nested an_nested : Option Addr} {sl_nested : Array (Option Value)} {oc_nested kV_nested dc_nested pm_nested cd_nested ct_nested : Value} {f_nested : Addr}
    {od__law_number an__law_number : Option Addr} {sl__law_number : Array (Option Value)} {oc__law_number kV__law_number dc__law_number pm__law_number cd__law_number ct__law_number : Value} {f__law_number : Addr}
    {od__law_take an__law_take : Option Addr} {sl__law_take : Array (Option Value)} {oc__law_take kV__law_take dc__law_take pm__law_take cd__law_take ct__law_take : Value} {f__law_take : Addr}
    {od__law_pick an__law_pick : Option Addr} {sl__law_pick : Array (Option Value)} {oc__law_pick kV__law_pick dc__law_pick pm__law_pick cd__law_pick ct__law_pick : Value} {f__law_pick : Addr}
    {od__law_long an__law_long : Option Addr} {sl__law_long : Array (Option Value)} {oc__law_long kV__law_long dc__law_long pm__law_long cd__law_long ct__law_long : Value} {f__law_long : Addr}
    {od__law_at an__law_at : Option Addr} {sl__law_at : Array (Option Value)} {oc__law_at kV__law_at dc__law_at pm__law_at cd__law_at ct__law_at : Value} {f__law_at : Addr}
    {od__law_short_line an__law_short_line : Option Addr} {sl__law_short_line : Array (Option Value)} {oc__law_short_line kV__law_short_line dc__law_short_line pm__law_short_line cd__law_short_line ct__law_short_line : Value} {f__law_short_line : Addr}
    {od__law_needed an__law_needed : Option Addr} {sl__law_needed : Array (Option Value)} {oc__law_needed kV__law_needed dc__law_needed pm__law_needed cd__law_needed ct__law_needed : Value} {f__law_needed : Addr}
    {od__law_is_right an__law_is_right : Option Addr} {sl__law_is_right : Array (Option Value)} {oc__law_is_right kV__law_is_right dc__law_is_right pm__law_is_right cd__law_is_right ct__law_is_right : Value} {f__law_is_right : Addr}
    {od__law_fault an__law_fault : Option Addr} {sl__law_fault : Array (Option Value)} {oc__law_fault kV__law_fault dc__law_fault pm__law_fault cd__law_fault ct__law_fault : Value} {f__law_fault : Addr}
    {od_law an_law : Option Addr} {sl_law : Array (Option Value)} {oc_law kV_law dc_law pm_law ct_law : Value} {f_law : Addr}
    {cl_law Pt_law : Addr} {ec_law : Value} {ed_law : Option Addr} {vs_law : Array Value} {es_law : Array (Option Value)}
    (l_TooLarge___init__ : K.lookup f_TooLarge___init__ = some ⟨oc_TooLarge___init__, od_TooLarge___init__, .func (PySem.W.fnOf "__init__" "TooLarge.__init__" (defArgs s_TooLarge___init__) (defBody s_TooLarge___init__) (defScope s_TooLarge___init__) .none kV_TooLarge___init__ dc_TooLarge___init__ pm_TooLarge___init__ an_TooLarge___init__ cd_TooLarge___init__ ct_TooLarge___init__), sl_TooLarge___init__⟩)
    (c_TooLarge___init__ : PySem.W.codeIn K cd_TooLarge___init__ "TooLarge.__init__" = true) (k_TooLarge___init__ : PySem.W.keepIn K (.ref f_TooLarge___init__) = true)
    (a_is_number : PySem.W.nsIn K mainGlobals "is_number" = some (some (.ref f_is_number)))
    (l_is_number : K.lookup f_is_number = some ⟨oc_is_number, od_is_number, .func (PySem.W.fnOf "is_number" "is_number" (defArgs s_is_number) (defBody s_is_number) (defScope s_is_number) .none kV_is_number dc_is_number pm_is_number an_is_number cd_is_number ct_is_number), sl_is_number⟩)
    (c_is_number : PySem.W.codeIn K cd_is_number "is_number" = true) (k_is_number : PySem.W.keepIn K (.ref f_is_number) = true)
    (l_Line___init__ : K.lookup f_Line___init__ = some ⟨oc_Line___init__, od_Line___init__, .func (PySem.W.fnOf "__init__" "Line.__init__" (defArgs s_Line___init__) (defBody s_Line___init__) (defScope s_Line___init__) .none kV_Line___init__ dc_Line___init__ pm_Line___init__ an_Line___init__ cd_Line___init__ ct_Line___init__), sl_Line___init__⟩)
    (c_Line___init__ : PySem.W.codeIn K cd_Line___init__ "Line.__init__" = true) (k_Line___init__ : PySem.W.keepIn K (.ref f_Line___init__) = true)
    (l_Line___eq__ : K.lookup f_Line___eq__ = some ⟨oc_Line___eq__, od_Line___eq__, .func (PySem.W.fnOf "__eq__" "Line.__eq__" (defArgs s_Line___eq__) (defBody s_Line___eq__) (defScope s_Line___eq__) .none kV_Line___eq__ dc_Line___eq__ pm_Line___eq__ an_Line___eq__ cd_Line___eq__ ct_Line___eq__), sl_Line___eq__⟩)
    (c_Line___eq__ : PySem.W.codeIn K cd_Line___eq__ "Line.__eq__" = true) (k_Line___eq__ : PySem.W.keepIn K (.ref f_Line___eq__) = true)
    (l_Line_at : K.lookup f_Line_at = some ⟨oc_Line_at, od_Line_at, .func (PySem.W.fnOf "at" "Line.at" (defArgs s_Line_at) (defBody s_Line_at) (defScope s_Line_at) .none kV_Line_at dc_Line_at pm_Line_at an_Line_at cd_Line_at ct_Line_at), sl_Line_at⟩)
    (c_Line_at : PySem.W.codeIn K cd_Line_at "Line.at" = true) (k_Line_at : PySem.W.keepIn K (.ref f_Line_at) = true)
    (l_Composed___init__ : K.lookup f_Composed___init__ = some ⟨oc_Composed___init__, od_Composed___init__, .func (PySem.W.fnOf "__init__" "Composed.__init__" (defArgs s_Composed___init__) (defBody s_Composed___init__) (defScope s_Composed___init__) .none kV_Composed___init__ dc_Composed___init__ pm_Composed___init__ an_Composed___init__ cd_Composed___init__ ct_Composed___init__), sl_Composed___init__⟩)
    (c_Composed___init__ : PySem.W.codeIn K cd_Composed___init__ "Composed.__init__" = true) (k_Composed___init__ : PySem.W.keepIn K (.ref f_Composed___init__) = true)
    (l_Composed___bool__ : K.lookup f_Composed___bool__ = some ⟨oc_Composed___bool__, od_Composed___bool__, .func (PySem.W.fnOf "__bool__" "Composed.__bool__" (defArgs s_Composed___bool__) (defBody s_Composed___bool__) (defScope s_Composed___bool__) .none kV_Composed___bool__ dc_Composed___bool__ pm_Composed___bool__ an_Composed___bool__ cd_Composed___bool__ ct_Composed___bool__), sl_Composed___bool__⟩)
    (c_Composed___bool__ : PySem.W.codeIn K cd_Composed___bool__ "Composed.__bool__" = true) (k_Composed___bool__ : PySem.W.keepIn K (.ref f_Composed___bool__) = true)
    (l_Composed_shows : K.lookup f_Composed_shows = some ⟨oc_Composed_shows, od_Composed_shows, .func (PySem.W.fnOf "shows" "Composed.shows" (defArgs s_Composed_shows) (defBody s_Composed_shows) (defScope s_Composed_shows) .none kV_Composed_shows dc_Composed_shows pm_Composed_shows an_Composed_shows cd_Composed_shows ct_Composed_shows), sl_Composed_shows⟩)
    (c_Composed_shows : PySem.W.codeIn K cd_Composed_shows "Composed.shows" = true) (k_Composed_shows : PySem.W.keepIn K (.ref f_Composed_shows) = true)
    (l_Broken___init__ : K.lookup f_Broken___init__ = some ⟨oc_Broken___init__, od_Broken___init__, .func (PySem.W.fnOf "__init__" "Broken.__init__" (defArgs s_Broken___init__) (defBody s_Broken___init__) (defScope s_Broken___init__) .none kV_Broken___init__ dc_Broken___init__ pm_Broken___init__ an_Broken___init__ cd_Broken___init__ ct_Broken___init__), sl_Broken___init__⟩)
    (c_Broken___init__ : PySem.W.codeIn K cd_Broken___init__ "Broken.__init__" = true) (k_Broken___init__ : PySem.W.keepIn K (.ref f_Broken___init__) = true)
    (l_Broken___bool__ : K.lookup f_Broken___bool__ = some ⟨oc_Broken___bool__, od_Broken___bool__, .func (PySem.W.fnOf "__bool__" "Broken.__bool__" (defArgs s_Broken___bool__) (defBody s_Broken___bool__) (defScope s_Broken___bool__) .none kV_Broken___bool__ dc_Broken___bool__ pm_Broken___bool__ an_Broken___bool__ cd_Broken___bool__ ct_Broken___bool__), sl_Broken___bool__⟩)
    (c_Broken___bool__ : PySem.W.codeIn K cd_Broken___bool__ "Broken.__bool__" = true) (k_Broken___bool__ : PySem.W.keepIn K (.ref f_Broken___bool__) = true)
    (l_Broken_shows : K.lookup f_Broken_shows = some ⟨oc_Broken_shows, od_Broken_shows, .func (PySem.W.fnOf "shows" "Broken.shows" (defArgs s_Broken_shows) (defBody s_Broken_shows) (defScope s_Broken_shows) .none kV_Broken_shows dc_Broken_shows pm_Broken_shows an_Broken_shows cd_Broken_shows ct_Broken_shows), sl_Broken_shows⟩)
    (c_Broken_shows : PySem.W.codeIn K cd_Broken_shows "Broken.shows" = true) (k_Broken_shows : PySem.W.keepIn K (.ref f_Broken_shows) = true)
    (a_slope_of : PySem.W.nsIn K mainGlobals "slope_of" = some (some (.ref f_slope_of)))
    (l_slope_of : K.lookup f_slope_of = some ⟨oc_slope_of, od_slope_of, .func (PySem.W.fnOf "slope_of" "slope_of" (defArgs s_slope_of) (defBody s_slope_of) (defScope s_slope_of) .none kV_slope_of dc_slope_of pm_slope_of an_slope_of cd_slope_of ct_slope_of), sl_slope_of⟩)
    (c_slope_of : PySem.W.codeIn K cd_slope_of "slope_of" = true) (k_slope_of : PySem.W.keepIn K (.ref f_slope_of) = true)
    (a_both_at : PySem.W.nsIn K mainGlobals "both_at" = some (some (.ref f_both_at)))
    (l_both_at : K.lookup f_both_at = some ⟨oc_both_at, od_both_at, .func (PySem.W.fnOf "both_at" "both_at" (defArgs s_both_at) (defBody s_both_at) (defScope s_both_at) .none kV_both_at dc_both_at pm_both_at an_both_at cd_both_at ct_both_at), sl_both_at⟩)
    (c_both_at : PySem.W.codeIn K cd_both_at "both_at" = true) (k_both_at : PySem.W.keepIn K (.ref f_both_at) = true)
    (a_needed : PySem.W.nsIn K mainGlobals "needed" = some (some (.ref f_needed)))
    (l_needed : K.lookup f_needed = some ⟨oc_needed, od_needed, .func (PySem.W.fnOf "needed" "needed" (defArgs s_needed) (defBody s_needed) (defScope s_needed) .none kV_needed dc_needed pm_needed an_needed cd_needed ct_needed), sl_needed⟩)
    (c_needed : PySem.W.codeIn K cd_needed "needed" = true) (k_needed : PySem.W.keepIn K (.ref f_needed) = true)
    (a_room : PySem.W.nsIn K mainGlobals "room" = some (some (.ref f_room)))
    (l_room : K.lookup f_room = some ⟨oc_room, od_room, .func (PySem.W.fnOf "room" "room" (defArgs s_room) (defBody s_room) (defScope s_room) .none kV_room dc_room pm_room an_room cd_room ct_room), sl_room⟩)
    (c_room : PySem.W.codeIn K cd_room "room" = true) (k_room : PySem.W.keepIn K (.ref f_room) = true)
    (a_least_room : PySem.W.nsIn K mainGlobals "least_room" = some (some (.ref f_least_room)))
    (l_least_room : K.lookup f_least_room = some ⟨oc_least_room, od_least_room, .func (PySem.W.fnOf "least_room" "least_room" (defArgs s_least_room) (defBody s_least_room) (defScope s_least_room) .none kV_least_room dc_least_room pm_least_room an_least_room cd_least_room ct_least_room), sl_least_room⟩)
    (c_least_room : PySem.W.codeIn K cd_least_room "least_room" = true) (k_least_room : PySem.W.keepIn K (.ref f_least_room) = true)
    (a_check_period : PySem.W.nsIn K mainGlobals "check_period" = some (some (.ref f_check_period)))
    (l_check_period : K.lookup f_check_period = some ⟨oc_check_period, od_check_period, .func (PySem.W.fnOf "check_period" "check_period" (defArgs s_check_period) (defBody s_check_period) (defScope s_check_period) .none kV_check_period dc_check_period pm_check_period an_check_period cd_check_period ct_check_period), sl_check_period⟩)
    (c_check_period : PySem.W.codeIn K cd_check_period "check_period" = true) (k_check_period : PySem.W.keepIn K (.ref f_check_period) = true)
    (a_compose : PySem.W.nsIn K mainGlobals "compose" = some (some (.ref f_compose)))
    (l_compose : K.lookup f_compose = some ⟨oc_compose, od_compose, .func (PySem.W.fnOf "compose" "compose" (defArgs s_compose) (defBody s_compose) (defScope s_compose) .none kV_compose dc_compose pm_compose an_compose cd_compose ct_compose), sl_compose⟩)
    (c_compose : PySem.W.codeIn K cd_compose "compose" = true) (k_compose : PySem.W.keepIn K (.ref f_compose) = true)
    (a_nested : PySem.W.nsIn K mainGlobals "nested" = some (some (.ref f_nested)))
    (l_nested : K.lookup f_nested = some ⟨oc_nested, od_nested, .func (PySem.W.fnOf "nested" "nested" (defArgs s_nested) (defBody s_nested) (defScope s_nested) .none kV_nested dc_nested pm_nested an_nested cd_nested ct_nested), sl_nested⟩)
    (c_nested : PySem.W.codeIn K cd_nested "nested" = true) (k_nested : PySem.W.keepIn K (.ref f_nested) = true)
    (a__law_number : PySem.W.nsIn K mainGlobals "_law_number" = some (some (.ref f__law_number)))
    (l__law_number : K.lookup f__law_number = some ⟨oc__law_number, od__law_number, .func (PySem.W.fnOf "_law_number" "_law_number" (defArgs s__law_number) (defBody s__law_number) (defScope s__law_number) .none kV__law_number dc__law_number pm__law_number an__law_number cd__law_number ct__law_number), sl__law_number⟩)
    (c__law_number : PySem.W.codeIn K cd__law_number "_law_number" = true) (k__law_number : PySem.W.keepIn K (.ref f__law_number) = true)
    (a__law_take : PySem.W.nsIn K mainGlobals "_law_take" = some (some (.ref f__law_take)))
    (l__law_take : K.lookup f__law_take = some ⟨oc__law_take, od__law_take, .func (PySem.W.fnOf "_law_take" "_law_take" (defArgs s__law_take) (defBody s__law_take) (defScope s__law_take) .none kV__law_take dc__law_take pm__law_take an__law_take cd__law_take ct__law_take), sl__law_take⟩)
    (c__law_take : PySem.W.codeIn K cd__law_take "_law_take" = true) (k__law_take : PySem.W.keepIn K (.ref f__law_take) = true)
    (a__law_pick : PySem.W.nsIn K mainGlobals "_law_pick" = some (some (.ref f__law_pick)))
    (l__law_pick : K.lookup f__law_pick = some ⟨oc__law_pick, od__law_pick, .func (PySem.W.fnOf "_law_pick" "_law_pick" (defArgs s__law_pick) (defBody s__law_pick) (defScope s__law_pick) .none kV__law_pick dc__law_pick pm__law_pick an__law_pick cd__law_pick ct__law_pick), sl__law_pick⟩)
    (c__law_pick : PySem.W.codeIn K cd__law_pick "_law_pick" = true) (k__law_pick : PySem.W.keepIn K (.ref f__law_pick) = true)
    (a__law_long : PySem.W.nsIn K mainGlobals "_law_long" = some (some (.ref f__law_long)))
    (l__law_long : K.lookup f__law_long = some ⟨oc__law_long, od__law_long, .func (PySem.W.fnOf "_law_long" "_law_long" (defArgs s__law_long) (defBody s__law_long) (defScope s__law_long) .none kV__law_long dc__law_long pm__law_long an__law_long cd__law_long ct__law_long), sl__law_long⟩)
    (c__law_long : PySem.W.codeIn K cd__law_long "_law_long" = true) (k__law_long : PySem.W.keepIn K (.ref f__law_long) = true)
    (a__law_at : PySem.W.nsIn K mainGlobals "_law_at" = some (some (.ref f__law_at)))
    (l__law_at : K.lookup f__law_at = some ⟨oc__law_at, od__law_at, .func (PySem.W.fnOf "_law_at" "_law_at" (defArgs s__law_at) (defBody s__law_at) (defScope s__law_at) .none kV__law_at dc__law_at pm__law_at an__law_at cd__law_at ct__law_at), sl__law_at⟩)
    (c__law_at : PySem.W.codeIn K cd__law_at "_law_at" = true) (k__law_at : PySem.W.keepIn K (.ref f__law_at) = true)
    (a__law_short_line : PySem.W.nsIn K mainGlobals "_law_short_line" = some (some (.ref f__law_short_line)))
    (l__law_short_line : K.lookup f__law_short_line = some ⟨oc__law_short_line, od__law_short_line, .func (PySem.W.fnOf "_law_short_line" "_law_short_line" (defArgs s__law_short_line) (defBody s__law_short_line) (defScope s__law_short_line) .none kV__law_short_line dc__law_short_line pm__law_short_line an__law_short_line cd__law_short_line ct__law_short_line), sl__law_short_line⟩)
    (c__law_short_line : PySem.W.codeIn K cd__law_short_line "_law_short_line" = true) (k__law_short_line : PySem.W.keepIn K (.ref f__law_short_line) = true)
    (a__law_needed : PySem.W.nsIn K mainGlobals "_law_needed" = some (some (.ref f__law_needed)))
    (l__law_needed : K.lookup f__law_needed = some ⟨oc__law_needed, od__law_needed, .func (PySem.W.fnOf "_law_needed" "_law_needed" (defArgs s__law_needed) (defBody s__law_needed) (defScope s__law_needed) .none kV__law_needed dc__law_needed pm__law_needed an__law_needed cd__law_needed ct__law_needed), sl__law_needed⟩)
    (c__law_needed : PySem.W.codeIn K cd__law_needed "_law_needed" = true) (k__law_needed : PySem.W.keepIn K (.ref f__law_needed) = true)
    (a__law_is_right : PySem.W.nsIn K mainGlobals "_law_is_right" = some (some (.ref f__law_is_right)))
    (l__law_is_right : K.lookup f__law_is_right = some ⟨oc__law_is_right, od__law_is_right, .func (PySem.W.fnOf "_law_is_right" "_law_is_right" (defArgs s__law_is_right) (defBody s__law_is_right) (defScope s__law_is_right) .none kV__law_is_right dc__law_is_right pm__law_is_right an__law_is_right cd__law_is_right ct__law_is_right), sl__law_is_right⟩)
    (c__law_is_right : PySem.W.codeIn K cd__law_is_right "_law_is_right" = true) (k__law_is_right : PySem.W.keepIn K (.ref f__law_is_right) = true)
    (a__law_fault : PySem.W.nsIn K mainGlobals "_law_fault" = some (some (.ref f__law_fault)))
    (l__law_fault : K.lookup f__law_fault = some ⟨oc__law_fault, od__law_fault, .func (PySem.W.fnOf "_law_fault" "_law_fault" (defArgs s__law_fault) (defBody s__law_fault) (defScope s__law_fault) .none kV__law_fault dc__law_fault pm__law_fault an__law_fault cd__law_fault ct__law_fault), sl__law_fault⟩)
    (c__law_fault : PySem.W.codeIn K cd__law_fault "_law_fault" = true) (k__law_fault : PySem.W.keepIn K (.ref f__law_fault) = true)
    (a_law : PySem.W.nsIn K mainGlobals "law" = some (some (.ref f_law)))
    (l_law : K.lookup f_law = some ⟨oc_law, od_law, .func (PySem.W.fnOf "law" "law" (defArgs s_law) (defBody s_law) (defScope s_law) .none kV_law dc_law pm_law an_law (.ref cl_law) ct_law), sl_law⟩)
    (c_law : PySem.W.codeIn K (.ref cl_law) "law" = true) (k_law : PySem.W.keepIn K (.ref f_law) = true)
    (lc_law : K.lookup cl_law = some ⟨ec_law, ed_law, .fields vs_law, es_law⟩) (h11_law : vs_law[11]? = some (.ref Pt_law)) (hd_law : PySem.W.codeHdIn K cl_law Pt_law = true) (nt_law : K.lookup Pt_law = none)
    {c_Line : Addr} (g_Line : PySem.W.nsIn K mainGlobals "Line" = some (some (.ref c_Line)))
    (pg_Line : PySem.W.plainGet K c_Line Str.empty = true) (hd_Line : PySem.W.hasDictIn K c_Line = true) (po_Line : PySem.W.plainOver K c_Line = true) (sa_Line : PySem.W.findIn K (.ref c_Line) "__setattr__" = some (some (.builtin "object.__setattr__"))) (mk_Line : PySem.W.makesIn K c_Line = true) (kc_Line : PySem.W.keepIn K (.ref c_Line) = true)
    (na_Line_a : PySem.W.findIn K (.ref c_Line) "a" = some none)
    (na_Line_b : PySem.W.findIn K (.ref c_Line) "b" = some none)
    (na_Line_m : PySem.W.findIn K (.ref c_Line) "m" = some none)
    (ha_Line : PySem.W.findIn K (.ref c_Line) "__class__" = some (some (.builtin "object.__class__"))) (mr_Line : PySem.W.mroIn K c_Line (.type "object") = some true)
    {c_Composed : Addr} (g_Composed : PySem.W.nsIn K mainGlobals "Composed" = some (some (.ref c_Composed)))
    (pg_Composed : PySem.W.plainGet K c_Composed Str.empty = true) (hd_Composed : PySem.W.hasDictIn K c_Composed = true) (po_Composed : PySem.W.plainOver K c_Composed = true) (sa_Composed : PySem.W.findIn K (.ref c_Composed) "__setattr__" = some (some (.builtin "object.__setattr__"))) (mk_Composed : PySem.W.makesIn K c_Composed = true) (kc_Composed : PySem.W.keepIn K (.ref c_Composed) = true)
    (na_Composed_line : PySem.W.findIn K (.ref c_Composed) "line" = some none)
    (ha_Composed : PySem.W.findIn K (.ref c_Composed) "__class__" = some (some (.builtin "object.__class__"))) (mr_Composed : PySem.W.mroIn K c_Composed (.type "object") = some true)
    {c_Broken : Addr} (g_Broken : PySem.W.nsIn K mainGlobals "Broken" = some (some (.ref c_Broken)))
    (pg_Broken : PySem.W.plainGet K c_Broken Str.empty = true) (hd_Broken : PySem.W.hasDictIn K c_Broken = true) (po_Broken : PySem.W.plainOver K c_Broken = true) (sa_Broken : PySem.W.findIn K (.ref c_Broken) "__setattr__" = some (some (.builtin "object.__setattr__"))) (mk_Broken : PySem.W.makesIn K c_Broken = true) (kc_Broken : PySem.W.keepIn K (.ref c_Broken) = true)
    (na_Broken_x : PySem.W.findIn K (.ref c_Broken) "x" = some none)
    (na_Broken_y : PySem.W.findIn K (.ref c_Broken) "y" = some none)
    (ha_Broken : PySem.W.findIn K (.ref c_Broken) "__class__" = some (some (.builtin "object.__class__"))) (mr_Broken : PySem.W.mroIn K c_Broken (.type "object") = some true)
    {c_TooLarge : Addr} (g_TooLarge : PySem.W.nsIn K mainGlobals "TooLarge" = some (some (.ref c_TooLarge)))
    (bx_TooLarge : PySem.W.subIn K (.ref c_TooLarge) (.type "BaseException") = some true) (tx_TooLarge : PySem.W.typeIn K (.ref c_TooLarge) = some (.type "type")) (dx_TooLarge : PySem.W.hasDictIn K c_TooLarge = true)
    {nm_TooLarge q_TooLarge : Str} {N_TooLarge : Addr} {bs_TooLarge bm_TooLarge : List Value} {sn_TooLarge : List Str} {sb_TooLarge : List Value} {ab_TooLarge : Bool} {co_TooLarge : Option Bool} {dd_TooLarge : Option Addr} {k0_TooLarge k1_TooLarge k2_TooLarge k3_TooLarge k5_TooLarge : Option Value}
    (lx_TooLarge : K.lookup c_TooLarge = some (excClassObj nm_TooLarge q_TooLarge c_TooLarge N_TooLarge bs_TooLarge bm_TooLarge true sn_TooLarge sb_TooLarge ab_TooLarge co_TooLarge dd_TooLarge k0_TooLarge k1_TooLarge k2_TooLarge k3_TooLarge k5_TooLarge "ValueError.__new__")) (rv_TooLarge : PySem.HandSPX.refsVE bm_TooLarge = true)
    (sx_TooLarge : PySem.W.findIn K (.ref c_TooLarge) "__setattr__" = some (some (.builtin "object.__setattr__"))) (kx_TooLarge : PySem.W.keepIn K (.ref c_TooLarge) = true)
    (gx_TooLarge : PySem.W.findIn K (.ref c_TooLarge) "__getattribute__" = some (some (.builtin "BaseException.__getattribute__"))) (hx_TooLarge : PySem.W.findIn K (.ref c_TooLarge) "__getattr__" = some none)
    (no_TooLarge_number : PySem.W.findIn K (.ref c_TooLarge) "number" = some none) (jx_TooLarge : PySem.W.typeIn K (.ref f_TooLarge___init__) = some (.type "function"))
    (xs_TooLarge_TooLarge : PySem.W.subIn K (.ref c_TooLarge) (.ref c_TooLarge) = some true)
    (qe_Line : PySem.W.findIn K (.ref c_Line) "__eq__" = some (some (.ref f_Line___eq__))) (qf_Line : PySem.W.isFn K (.ref f_Line___eq__) = true) (qn_Line : PySem.W.findIn K (.ref c_Line) "__ne__" = some (some (.builtin "object.__ne__"))) (qo_Line : PySem.W.subIn K (.ref c_Line) (.type "object") = some true)
    (nf_Line_Line : PySem.W.notFirst K c_Line (.ref c_Line) = true)
    (hn_ : PySem.W.specialIn K (.builtin "object.__class__") "__get__" = some (some (.builtin "getset_descriptor.__get__"))) (htk_ : PySem.W.takesIn K (.builtin "object.__class__") = some true)
    (i_Line_Line : PySem.W.kitOne K (.ref c_Line) (.ref c_Line) = some true)
    (i_Composed_Line : PySem.W.kitOne K (.ref c_Composed) (.ref c_Line) = some false)
    (i_Broken_Line : PySem.W.kitOne K (.ref c_Broken) (.ref c_Line) = some false)
    (i_Line_Broken : PySem.W.kitOne K (.ref c_Line) (.ref c_Broken) = some false)
    (i_Composed_Broken : PySem.W.kitOne K (.ref c_Composed) (.ref c_Broken) = some false)
    (i_Broken_Broken : PySem.W.kitOne K (.ref c_Broken) (.ref c_Broken) = some true)
    (i_Line_Composed : PySem.W.kitOne K (.ref c_Line) (.ref c_Composed) = some false)
    (i_Composed_Composed : PySem.W.kitOne K (.ref c_Composed) (.ref c_Composed) = some true)
    (i_Broken_Composed : PySem.W.kitOne K (.ref c_Broken) (.ref c_Composed) = some false)
    (m_TooLarge___init__ : PySem.W.findIn K (.ref c_TooLarge) "__init__" = some (some (.ref f_TooLarge___init__))) (fn_TooLarge___init__ : PySem.W.isFn K (.ref f_TooLarge___init__) = true)
    (m_Line___init__ : PySem.W.findIn K (.ref c_Line) "__init__" = some (some (.ref f_Line___init__))) (fn_Line___init__ : PySem.W.isFn K (.ref f_Line___init__) = true)
    (m_Line___eq__ : PySem.W.findIn K (.ref c_Line) "__eq__" = some (some (.ref f_Line___eq__))) (fn_Line___eq__ : PySem.W.isFn K (.ref f_Line___eq__) = true)
    (m_Line_at : PySem.W.findIn K (.ref c_Line) "at" = some (some (.ref f_Line_at))) (fn_Line_at : PySem.W.isFn K (.ref f_Line_at) = true)
    (m_Composed___init__ : PySem.W.findIn K (.ref c_Composed) "__init__" = some (some (.ref f_Composed___init__))) (fn_Composed___init__ : PySem.W.isFn K (.ref f_Composed___init__) = true)
    (m_Composed___bool__ : PySem.W.findIn K (.ref c_Composed) "__bool__" = some (some (.ref f_Composed___bool__))) (fn_Composed___bool__ : PySem.W.isFn K (.ref f_Composed___bool__) = true)
    (m_Composed_shows : PySem.W.findIn K (.ref c_Composed) "shows" = some (some (.ref f_Composed_shows))) (fn_Composed_shows : PySem.W.isFn K (.ref f_Composed_shows) = true)
    (m_Broken___init__ : PySem.W.findIn K (.ref c_Broken) "__init__" = some (some (.ref f_Broken___init__))) (fn_Broken___init__ : PySem.W.isFn K (.ref f_Broken___init__) = true)
    (m_Broken___bool__ : PySem.W.findIn K (.ref c_Broken) "__bool__" = some (some (.ref f_Broken___bool__))) (fn_Broken___bool__ : PySem.W.isFn K (.ref f_Broken___bool__) = true)
    (m_Broken_shows : PySem.W.findIn K (.ref c_Broken) "shows" = some (some (.ref f_Broken_shows))) (fn_Broken_shows : PySem.W.isFn K (.ref f_Broken_shows) = true)
    (n_bool : PySem.W.nsIn K mainGlobals "bool" = some none)
    (n_int : PySem.W.nsIn K mainGlobals "int" = some none)
    (n_isinstance : PySem.W.nsIn K mainGlobals "isinstance" = some none)
    (n_len : PySem.W.nsIn K mainGlobals "len" = some none)
    (n_max : PySem.W.nsIn K mainGlobals "max" = some none)
    (n_min : PySem.W.nsIn K mainGlobals "min" = some none)
    (n_range : PySem.W.nsIn K mainGlobals "range" = some none)
    {tk_MOST_PERIOD : Tok} (a_MOST_PERIOD : PySem.W.nsIn K mainGlobals "MOST_PERIOD" = some (some (.int 3000 tk_MOST_PERIOD)))
    (own : LamX.OwnTab K fa h) : LamX.LawAtS l w K (L2.CX l.prog w) 9 63 "script" mg fa h := by
  have e := hfa.symm.trans (PySem.W.mg_of X G a_law)
  cases e
  let ad : Ad := { c_Line := c_Line, c_Composed := c_Composed, c_Broken := c_Broken, c_TooLarge := c_TooLarge, f_TooLarge___init__ := f_TooLarge___init__, d_TooLarge___init__ := PySem.W.fnOf "__init__" "TooLarge.__init__" (defArgs s_TooLarge___init__) (defBody s_TooLarge___init__) (defScope s_TooLarge___init__) .none kV_TooLarge___init__ dc_TooLarge___init__ pm_TooLarge___init__ an_TooLarge___init__ cd_TooLarge___init__ ct_TooLarge___init__, f_is_number := f_is_number, d_is_number := PySem.W.fnOf "is_number" "is_number" (defArgs s_is_number) (defBody s_is_number) (defScope s_is_number) .none kV_is_number dc_is_number pm_is_number an_is_number cd_is_number ct_is_number, f_Line___init__ := f_Line___init__, d_Line___init__ := PySem.W.fnOf "__init__" "Line.__init__" (defArgs s_Line___init__) (defBody s_Line___init__) (defScope s_Line___init__) .none kV_Line___init__ dc_Line___init__ pm_Line___init__ an_Line___init__ cd_Line___init__ ct_Line___init__, f_Line___eq__ := f_Line___eq__, d_Line___eq__ := PySem.W.fnOf "__eq__" "Line.__eq__" (defArgs s_Line___eq__) (defBody s_Line___eq__) (defScope s_Line___eq__) .none kV_Line___eq__ dc_Line___eq__ pm_Line___eq__ an_Line___eq__ cd_Line___eq__ ct_Line___eq__, f_Line_at := f_Line_at, d_Line_at := PySem.W.fnOf "at" "Line.at" (defArgs s_Line_at) (defBody s_Line_at) (defScope s_Line_at) .none kV_Line_at dc_Line_at pm_Line_at an_Line_at cd_Line_at ct_Line_at, f_Composed___init__ := f_Composed___init__, d_Composed___init__ := PySem.W.fnOf "__init__" "Composed.__init__" (defArgs s_Composed___init__) (defBody s_Composed___init__) (defScope s_Composed___init__) .none kV_Composed___init__ dc_Composed___init__ pm_Composed___init__ an_Composed___init__ cd_Composed___init__ ct_Composed___init__, f_Composed___bool__ := f_Composed___bool__, d_Composed___bool__ := PySem.W.fnOf "__bool__" "Composed.__bool__" (defArgs s_Composed___bool__) (defBody s_Composed___bool__) (defScope s_Composed___bool__) .none kV_Composed___bool__ dc_Composed___bool__ pm_Composed___bool__ an_Composed___bool__ cd_Composed___bool__ ct_Composed___bool__, f_Composed_shows := f_Composed_shows, d_Composed_shows := PySem.W.fnOf "shows" "Composed.shows" (defArgs s_Composed_shows) (defBody s_Composed_shows) (defScope s_Composed_shows) .none kV_Composed_shows dc_Composed_shows pm_Composed_shows an_Composed_shows cd_Composed_shows ct_Composed_shows, f_Broken___init__ := f_Broken___init__, d_Broken___init__ := PySem.W.fnOf "__init__" "Broken.__init__" (defArgs s_Broken___init__) (defBody s_Broken___init__) (defScope s_Broken___init__) .none kV_Broken___init__ dc_Broken___init__ pm_Broken___init__ an_Broken___init__ cd_Broken___init__ ct_Broken___init__, f_Broken___bool__ := f_Broken___bool__, d_Broken___bool__ := PySem.W.fnOf "__bool__" "Broken.__bool__" (defArgs s_Broken___bool__) (defBody s_Broken___bool__) (defScope s_Broken___bool__) .none kV_Broken___bool__ dc_Broken___bool__ pm_Broken___bool__ an_Broken___bool__ cd_Broken___bool__ ct_Broken___bool__, f_Broken_shows := f_Broken_shows, d_Broken_shows := PySem.W.fnOf "shows" "Broken.shows" (defArgs s_Broken_shows) (defBody s_Broken_shows) (defScope s_Broken_shows) .none kV_Broken_shows dc_Broken_shows pm_Broken_shows an_Broken_shows cd_Broken_shows ct_Broken_shows, f_slope_of := f_slope_of, d_slope_of := PySem.W.fnOf "slope_of" "slope_of" (defArgs s_slope_of) (defBody s_slope_of) (defScope s_slope_of) .none kV_slope_of dc_slope_of pm_slope_of an_slope_of cd_slope_of ct_slope_of, f_both_at := f_both_at, d_both_at := PySem.W.fnOf "both_at" "both_at" (defArgs s_both_at) (defBody s_both_at) (defScope s_both_at) .none kV_both_at dc_both_at pm_both_at an_both_at cd_both_at ct_both_at, f_needed := f_needed, d_needed := PySem.W.fnOf "needed" "needed" (defArgs s_needed) (defBody s_needed) (defScope s_needed) .none kV_needed dc_needed pm_needed an_needed cd_needed ct_needed, f_room := f_room, d_room := PySem.W.fnOf "room" "room" (defArgs s_room) (defBody s_room) (defScope s_room) .none kV_room dc_room pm_room an_room cd_room ct_room, f_least_room := f_least_room, d_least_room := PySem.W.fnOf "least_room" "least_room" (defArgs s_least_room) (defBody s_least_room) (defScope s_least_room) .none kV_least_room dc_least_room pm_least_room an_least_room cd_least_room ct_least_room, f_check_period := f_check_period, d_check_period := PySem.W.fnOf "check_period" "check_period" (defArgs s_check_period) (defBody s_check_period) (defScope s_check_period) .none kV_check_period dc_check_period pm_check_period an_check_period cd_check_period ct_check_period, f_compose := f_compose, d_compose := PySem.W.fnOf "compose" "compose" (defArgs s_compose) (defBody s_compose) (defScope s_compose) .none kV_compose dc_compose pm_compose an_compose cd_compose ct_compose, f_nested := f_nested, d_nested := PySem.W.fnOf "nested" "nested" (defArgs s_nested) (defBody s_nested) (defScope s_nested) .none kV_nested dc_nested pm_nested an_nested cd_nested ct_nested, f__law_number := f__law_number, d__law_number := PySem.W.fnOf "_law_number" "_law_number" (defArgs s__law_number) (defBody s__law_number) (defScope s__law_number) .none kV__law_number dc__law_number pm__law_number an__law_number cd__law_number ct__law_number, f__law_take := f__law_take, d__law_take := PySem.W.fnOf "_law_take" "_law_take" (defArgs s__law_take) (defBody s__law_take) (defScope s__law_take) .none kV__law_take dc__law_take pm__law_take an__law_take cd__law_take ct__law_take, f__law_pick := f__law_pick, d__law_pick := PySem.W.fnOf "_law_pick" "_law_pick" (defArgs s__law_pick) (defBody s__law_pick) (defScope s__law_pick) .none kV__law_pick dc__law_pick pm__law_pick an__law_pick cd__law_pick ct__law_pick, f__law_long := f__law_long, d__law_long := PySem.W.fnOf "_law_long" "_law_long" (defArgs s__law_long) (defBody s__law_long) (defScope s__law_long) .none kV__law_long dc__law_long pm__law_long an__law_long cd__law_long ct__law_long, f__law_at := f__law_at, d__law_at := PySem.W.fnOf "_law_at" "_law_at" (defArgs s__law_at) (defBody s__law_at) (defScope s__law_at) .none kV__law_at dc__law_at pm__law_at an__law_at cd__law_at ct__law_at, f__law_short_line := f__law_short_line, d__law_short_line := PySem.W.fnOf "_law_short_line" "_law_short_line" (defArgs s__law_short_line) (defBody s__law_short_line) (defScope s__law_short_line) .none kV__law_short_line dc__law_short_line pm__law_short_line an__law_short_line cd__law_short_line ct__law_short_line, f__law_needed := f__law_needed, d__law_needed := PySem.W.fnOf "_law_needed" "_law_needed" (defArgs s__law_needed) (defBody s__law_needed) (defScope s__law_needed) .none kV__law_needed dc__law_needed pm__law_needed an__law_needed cd__law_needed ct__law_needed, f__law_is_right := f__law_is_right, d__law_is_right := PySem.W.fnOf "_law_is_right" "_law_is_right" (defArgs s__law_is_right) (defBody s__law_is_right) (defScope s__law_is_right) .none kV__law_is_right dc__law_is_right pm__law_is_right an__law_is_right cd__law_is_right ct__law_is_right, f__law_fault := f__law_fault, d__law_fault := PySem.W.fnOf "_law_fault" "_law_fault" (defArgs s__law_fault) (defBody s__law_fault) (defScope s__law_fault) .none kV__law_fault dc__law_fault pm__law_fault an__law_fault cd__law_fault ct__law_fault, f_law := fa, d_law := PySem.W.fnOf "law" "law" (defArgs s_law) (defBody s_law) (defScope s_law) .none kV_law dc_law pm_law an_law (.ref cl_law) ct_law }
  have F_TooLarge___init__ := fun_mk (st := s_TooLarge___init__) l_TooLarge___init__ c_TooLarge___init__ k_TooLarge___init__
  have b_TooLarge___init__ := F_TooLarge___init__.binds (ps := ["self", "number"]) fun _ _ _ _ _ _ us hl => match us, hl with | [_, _], _ => rfl
  have F_is_number := fun_mk (st := s_is_number) l_is_number c_is_number k_is_number
  have b_is_number := F_is_number.binds (ps := ["value"]) fun _ _ _ _ _ _ us hl => match us, hl with | [_], _ => rfl
  have F_Line___init__ := fun_mk (st := s_Line___init__) l_Line___init__ c_Line___init__ k_Line___init__
  have b_Line___init__ := F_Line___init__.binds (ps := ["self", "a", "b", "m"]) fun _ _ _ _ _ _ us hl => match us, hl with | [_, _, _, _], _ => rfl
  have F_Line___eq__ := fun_mk (st := s_Line___eq__) l_Line___eq__ c_Line___eq__ k_Line___eq__
  have b_Line___eq__ := F_Line___eq__.binds (ps := ["self", "other"]) fun _ _ _ _ _ _ us hl => match us, hl with | [_, _], _ => rfl
  have F_Line_at := fun_mk (st := s_Line_at) l_Line_at c_Line_at k_Line_at
  have b_Line_at := F_Line_at.binds (ps := ["self", "x"]) fun _ _ _ _ _ _ us hl => match us, hl with | [_, _], _ => rfl
  have F_Composed___init__ := fun_mk (st := s_Composed___init__) l_Composed___init__ c_Composed___init__ k_Composed___init__
  have b_Composed___init__ := F_Composed___init__.binds (ps := ["self", "line"]) fun _ _ _ _ _ _ us hl => match us, hl with | [_, _], _ => rfl
  have F_Composed___bool__ := fun_mk (st := s_Composed___bool__) l_Composed___bool__ c_Composed___bool__ k_Composed___bool__
  have b_Composed___bool__ := F_Composed___bool__.binds (ps := ["self"]) fun _ _ _ _ _ _ us hl => match us, hl with | [_], _ => rfl
  have F_Composed_shows := fun_mk (st := s_Composed_shows) l_Composed_shows c_Composed_shows k_Composed_shows
  have b_Composed_shows := F_Composed_shows.binds (ps := ["self", "one", "other"]) fun _ _ _ _ _ _ us hl => match us, hl with | [_, _, _], _ => rfl
  have F_Broken___init__ := fun_mk (st := s_Broken___init__) l_Broken___init__ c_Broken___init__ k_Broken___init__
  have b_Broken___init__ := F_Broken___init__.binds (ps := ["self", "x", "y"]) fun _ _ _ _ _ _ us hl => match us, hl with | [_, _, _], _ => rfl
  have F_Broken___bool__ := fun_mk (st := s_Broken___bool__) l_Broken___bool__ c_Broken___bool__ k_Broken___bool__
  have b_Broken___bool__ := F_Broken___bool__.binds (ps := ["self"]) fun _ _ _ _ _ _ us hl => match us, hl with | [_], _ => rfl
  have F_Broken_shows := fun_mk (st := s_Broken_shows) l_Broken_shows c_Broken_shows k_Broken_shows
  have b_Broken_shows := F_Broken_shows.binds (ps := ["self", "one", "other"]) fun _ _ _ _ _ _ us hl => match us, hl with | [_, _, _], _ => rfl
  have F_slope_of := fun_mk (st := s_slope_of) l_slope_of c_slope_of k_slope_of
  have b_slope_of := F_slope_of.binds (ps := ["one", "other"]) fun _ _ _ _ _ _ us hl => match us, hl with | [_, _], _ => rfl
  have F_both_at := fun_mk (st := s_both_at) l_both_at c_both_at k_both_at
  have b_both_at := F_both_at.binds (ps := ["one", "other", "x"]) fun _ _ _ _ _ _ us hl => match us, hl with | [_, _, _], _ => rfl
  have F_needed := fun_mk (st := s_needed) l_needed c_needed k_needed
  have b_needed := F_needed.binds (ps := ["one", "other", "x"]) fun _ _ _ _ _ _ us hl => match us, hl with | [_, _, _], _ => rfl
  have F_room := fun_mk (st := s_room) l_room c_room k_room
  have b_room := F_room.binds (ps := ["one", "other", "x"]) fun _ _ _ _ _ _ us hl => match us, hl with | [_, _, _], _ => rfl
  have F_least_room := fun_mk (st := s_least_room) l_least_room c_least_room k_least_room
  have b_least_room := F_least_room.binds (ps := ["one", "other"]) fun _ _ _ _ _ _ us hl => match us, hl with | [_, _], _ => rfl
  have F_check_period := fun_mk (st := s_check_period) l_check_period c_check_period k_check_period
  have b_check_period := F_check_period.binds (ps := ["one", "other"]) fun _ _ _ _ _ _ us hl => match us, hl with | [_, _], _ => rfl
  have F_compose := fun_mk (st := s_compose) l_compose c_compose k_compose
  have b_compose := F_compose.binds (ps := ["one", "other"]) fun _ _ _ _ _ _ us hl => match us, hl with | [_, _], _ => rfl
  have F_nested := fun_mk (st := s_nested) l_nested c_nested k_nested
  have b_nested := F_nested.binds (ps := ["lines"]) fun _ _ _ _ _ _ us hl => match us, hl with | [_], _ => rfl
  have F__law_number := fun_mk (st := s__law_number) l__law_number c__law_number k__law_number
  have b__law_number := F__law_number.binds (ps := ["script", "index"]) fun _ _ _ _ _ _ us hl => match us, hl with | [_, _], _ => rfl
  have F__law_take := fun_mk (st := s__law_take) l__law_take c__law_take k__law_take
  have b__law_take := F__law_take.binds (ps := ["draw", "many"]) fun _ _ _ _ _ _ us hl => match us, hl with | [_, _], _ => rfl
  have F__law_pick := fun_mk (st := s__law_pick) l__law_pick c__law_pick k__law_pick
  have b__law_pick := F__law_pick.binds (ps := ["draw", "items"]) fun _ _ _ _ _ _ us hl => match us, hl with | [_, _], _ => rfl
  have F__law_long := fun_mk (st := s__law_long) l__law_long c__law_long k__law_long
  have b__law_long := F__law_long.binds (ps := ["draw", "figures"]) fun _ _ _ _ _ _ us hl => match us, hl with | [_, _], _ => rfl
  have F__law_at := fun_mk (st := s__law_at) l__law_at c__law_at k__law_at
  have b__law_at := F__law_at.binds (ps := ["line", "x"]) fun _ _ _ _ _ _ us hl => match us, hl with | [_, _], _ => rfl
  have F__law_short_line := fun_mk (st := s__law_short_line) l__law_short_line c__law_short_line k__law_short_line
  have b__law_short_line := F__law_short_line.binds (ps := ["draw"]) fun _ _ _ _ _ _ us hl => match us, hl with | [_], _ => rfl
  have F__law_needed := fun_mk (st := s__law_needed) l__law_needed c__law_needed k__law_needed
  have b__law_needed := F__law_needed.binds (ps := ["one", "other", "x"]) fun _ _ _ _ _ _ us hl => match us, hl with | [_, _, _], _ => rfl
  have F__law_is_right := fun_mk (st := s__law_is_right) l__law_is_right c__law_is_right k__law_is_right
  have b__law_is_right := F__law_is_right.binds (ps := ["one", "other", "told"]) fun _ _ _ _ _ _ us hl => match us, hl with | [_, _, _], _ => rfl
  have F__law_fault := fun_mk (st := s__law_fault) l__law_fault c__law_fault k__law_fault
  have b__law_fault := F__law_fault.binds (ps := ["deed"]) fun _ _ _ _ _ _ us hl => match us, hl with | [_], _ => rfl
  have F_law := fun_mk (st := s_law) l_law c_law k_law
  have b_law := F_law.binds (ps := ["script"]) fun _ _ _ _ _ _ us hl => match us, hl with | [_], _ => rfl
  have T : Tx K mg ad := { n_bool := PySem.W.mg_none_of X G n_bool, n_int := PySem.W.mg_none_of X G n_int, n_isinstance := PySem.W.mg_none_of X G n_isinstance, n_len := PySem.W.mg_none_of X G n_len, n_max := PySem.W.mg_none_of X G n_max, n_min := PySem.W.mg_none_of X G n_min, n_range := PySem.W.mg_none_of X G n_range, g_Line := PySem.W.mg_of X G g_Line, cl_Line := ⟨pg_Line, hd_Line, po_Line, sa_Line⟩, mk_Line := ⟨mk_Line, m_Line___init__, fn_Line___init__, kc_Line⟩, na_Line_a := na_Line_a, na_Line_b := na_Line_b, na_Line_m := na_Line_m, isc_Line := ⟨⟨pg_Line, hd_Line, po_Line, sa_Line⟩, ha_Line, hn_, htk_, mr_Line⟩, i_Line_Line := i_Line_Line, i_Line_Broken := i_Line_Broken, i_Line_Composed := i_Line_Composed, g_Composed := PySem.W.mg_of X G g_Composed, cl_Composed := ⟨pg_Composed, hd_Composed, po_Composed, sa_Composed⟩, mk_Composed := ⟨mk_Composed, m_Composed___init__, fn_Composed___init__, kc_Composed⟩, na_Composed_line := na_Composed_line, isc_Composed := ⟨⟨pg_Composed, hd_Composed, po_Composed, sa_Composed⟩, ha_Composed, hn_, htk_, mr_Composed⟩, i_Composed_Line := i_Composed_Line, i_Composed_Broken := i_Composed_Broken, i_Composed_Composed := i_Composed_Composed, g_Broken := PySem.W.mg_of X G g_Broken, cl_Broken := ⟨pg_Broken, hd_Broken, po_Broken, sa_Broken⟩, mk_Broken := ⟨mk_Broken, m_Broken___init__, fn_Broken___init__, kc_Broken⟩, na_Broken_x := na_Broken_x, na_Broken_y := na_Broken_y, isc_Broken := ⟨⟨pg_Broken, hd_Broken, po_Broken, sa_Broken⟩, ha_Broken, hn_, htk_, mr_Broken⟩, i_Broken_Line := i_Broken_Line, i_Broken_Broken := i_Broken_Broken, i_Broken_Composed := i_Broken_Composed, g_TooLarge := PySem.W.mg_of X G g_TooLarge, ox_TooLarge := ⟨⟨_, _, _, _, _, _, _, _, _, _, _, _, _, _, _, lx_TooLarge, rv_TooLarge⟩, sx_TooLarge, bx_TooLarge, tx_TooLarge, kx_TooLarge⟩, ix_TooLarge := m_TooLarge___init__, jx_TooLarge := jx_TooLarge, xf_TooLarge := ⟨gx_TooLarge, hx_TooLarge, bx_TooLarge, dx_TooLarge⟩, no_TooLarge_number := no_TooLarge_number, xm_TooLarge_TooLarge := PySem.W.exm_ref bx_TooLarge dx_TooLarge tx_TooLarge xs_TooLarge_TooLarge, q_Line := ⟨qe_Line, qf_Line, qn_Line, qo_Line⟩, nf_Line_Line := nf_Line_Line, me_Line_at := ⟨m_Line_at, fn_Line_at, k_Line_at⟩, me_Composed___bool__ := ⟨m_Composed___bool__, fn_Composed___bool__, k_Composed___bool__⟩, me_Composed_shows := ⟨m_Composed_shows, fn_Composed_shows, k_Composed_shows⟩, me_Broken___bool__ := ⟨m_Broken___bool__, fn_Broken___bool__, k_Broken___bool__⟩, me_Broken_shows := ⟨m_Broken_shows, fn_Broken_shows, k_Broken_shows⟩, g_MOST_PERIOD := ⟨_, PySem.W.mg_of X G a_MOST_PERIOD⟩, F_TooLarge___init__ := F_TooLarge___init__, b_TooLarge___init__ := b_TooLarge___init__, k_TooLarge___init__ := k_TooLarge___init__, F_is_number := F_is_number, b_is_number := b_is_number, k_is_number := k_is_number, g_is_number := PySem.W.mg_of X G a_is_number, F_Line___init__ := F_Line___init__, b_Line___init__ := b_Line___init__, k_Line___init__ := k_Line___init__, F_Line___eq__ := F_Line___eq__, b_Line___eq__ := b_Line___eq__, k_Line___eq__ := k_Line___eq__, F_Line_at := F_Line_at, b_Line_at := b_Line_at, k_Line_at := k_Line_at, F_Composed___init__ := F_Composed___init__, b_Composed___init__ := b_Composed___init__, k_Composed___init__ := k_Composed___init__, F_Composed___bool__ := F_Composed___bool__, b_Composed___bool__ := b_Composed___bool__, k_Composed___bool__ := k_Composed___bool__, F_Composed_shows := F_Composed_shows, b_Composed_shows := b_Composed_shows, k_Composed_shows := k_Composed_shows, F_Broken___init__ := F_Broken___init__, b_Broken___init__ := b_Broken___init__, k_Broken___init__ := k_Broken___init__, F_Broken___bool__ := F_Broken___bool__, b_Broken___bool__ := b_Broken___bool__, k_Broken___bool__ := k_Broken___bool__, F_Broken_shows := F_Broken_shows, b_Broken_shows := b_Broken_shows, k_Broken_shows := k_Broken_shows, F_slope_of := F_slope_of, b_slope_of := b_slope_of, k_slope_of := k_slope_of, g_slope_of := PySem.W.mg_of X G a_slope_of, F_both_at := F_both_at, b_both_at := b_both_at, k_both_at := k_both_at, g_both_at := PySem.W.mg_of X G a_both_at, F_needed := F_needed, b_needed := b_needed, k_needed := k_needed, g_needed := PySem.W.mg_of X G a_needed, F_room := F_room, b_room := b_room, k_room := k_room, g_room := PySem.W.mg_of X G a_room, F_least_room := F_least_room, b_least_room := b_least_room, k_least_room := k_least_room, g_least_room := PySem.W.mg_of X G a_least_room, F_check_period := F_check_period, b_check_period := b_check_period, k_check_period := k_check_period, g_check_period := PySem.W.mg_of X G a_check_period, F_compose := F_compose, b_compose := b_compose, k_compose := k_compose, g_compose := PySem.W.mg_of X G a_compose, F_nested := F_nested, b_nested := b_nested, k_nested := k_nested, g_nested := PySem.W.mg_of X G a_nested, F__law_number := F__law_number, b__law_number := b__law_number, k__law_number := k__law_number, g__law_number := PySem.W.mg_of X G a__law_number, F__law_take := F__law_take, b__law_take := b__law_take, k__law_take := k__law_take, g__law_take := PySem.W.mg_of X G a__law_take, F__law_pick := F__law_pick, b__law_pick := b__law_pick, k__law_pick := k__law_pick, g__law_pick := PySem.W.mg_of X G a__law_pick, F__law_long := F__law_long, b__law_long := b__law_long, k__law_long := k__law_long, g__law_long := PySem.W.mg_of X G a__law_long, F__law_at := F__law_at, b__law_at := b__law_at, k__law_at := k__law_at, g__law_at := PySem.W.mg_of X G a__law_at, F__law_short_line := F__law_short_line, b__law_short_line := b__law_short_line, k__law_short_line := k__law_short_line, g__law_short_line := PySem.W.mg_of X G a__law_short_line, F__law_needed := F__law_needed, b__law_needed := b__law_needed, k__law_needed := k__law_needed, g__law_needed := PySem.W.mg_of X G a__law_needed, F__law_is_right := F__law_is_right, b__law_is_right := b__law_is_right, k__law_is_right := k__law_is_right, g__law_is_right := PySem.W.mg_of X G a__law_is_right, F__law_fault := F__law_fault, b__law_fault := b__law_fault, k__law_fault := k__law_fault, g__law_fault := PySem.W.mg_of X G a__law_fault, F_law := F_law, b_law := b_law, k_law := k_law, g_law := PySem.W.mg_of X G a_law }
  exact lawX X own l_law lc_law h11_law hd_law nt_law (fun p hp => by rw [List.mem_singleton.mp hp]) (fun s v => .of_eq rfl) fun base _ _ TB => ok_law T l_law c_law TB
theorem walk {l : PySem.W.OpenLaw} {q : Program} {loose : List Str} {XP : (Str → Option Value) → Heap → Prop} {YP : World → Heap → Prop} {d : DefRec} {K : Params → PySem.W.Frag} (hn : l.most = some 63) (hdf : d.params.defaults = [])
    (hrec : ((recsOf q).any fun e => e.name == d.name) = true) (hY : ∀ (w : World) (h : Heap), YP w h → (K w.params).In h)
    (F : ∀ (w : World) (mg : Str → Option Value) (fa : Addr) (h : Heap), YP w h → (K w.params).In h → h.Ns mainGlobals mg → mg d.name = some (.ref fa) → LamX.OwnTab (K w.params) fa h → LamX.LawAtS l w (K w.params) (L2.CX l.prog w) 9 63 "script" mg fa h) :
    PySem.W.WalkO q loose XP YP l.row.toRowW d [] (fun f vs => PySem.call f vs) :=
  LamX.walk_ofOwn (n := 63) (k := 9) (x := "script") (CX := fun w => L2.CX l.prog w) hn (by decide) hdf ⟨rfl, by decide, by decide⟩ hrec hY F fun _ _ _ _ _ z => by
      obtain ⟨_, _, _, _, _, _, _, _, _, _, _, _, z⟩ := z
      exact z.elim
end LawW
open PySem PySem.W PyProof.Rows
set_option maxRecDepth 100000 in
set_option maxHeartbeats 0 in
theorem PySem.Challenge.cw_pointorstrip_k80_whole_composing_holds : PySem.Challenge.rw_pointorstrip_k80_whole_composing.Holds := by
  w_on; o_law; k_head; (case hw => w_witness2)
  k_fill
  refine LawW.walk (l := PySem.Challenge.rw_pointorstrip_k80_whole_composing) rfl rfl (by decide +kernel) (fun w h Y => PySem.W.km_in_of Y) ?F
  case F =>
    intro w mg fa h Y KX G hmg own
    refine' LawW.all_mk KX G hmg ?l_TooLarge___init__ ?c_TooLarge___init__ ?k_TooLarge___init__ ?a_is_number ?l_is_number ?c_is_number ?k_is_number ?l_Line___init__ ?c_Line___init__ ?k_Line___init__ ?l_Line___eq__ ?c_Line___eq__ ?k_Line___eq__ ?l_Line_at ?c_Line_at ?k_Line_at ?l_Composed___init__ ?c_Composed___init__ ?k_Composed___init__ ?l_Composed___bool__ ?c_Composed___bool__ ?k_Composed___bool__ ?l_Composed_shows ?c_Composed_shows ?k_Composed_shows ?l_Broken___init__ ?c_Broken___init__ ?k_Broken___init__ ?l_Broken___bool__ ?c_Broken___bool__ ?k_Broken___bool__ ?l_Broken_shows ?c_Broken_shows ?k_Broken_shows ?a_slope_of ?l_slope_of ?c_slope_of ?k_slope_of ?a_both_at ?l_both_at ?c_both_at ?k_both_at ?a_needed ?l_needed ?c_needed ?k_needed ?a_room ?l_room ?c_room ?k_room ?a_least_room ?l_least_room ?c_least_room ?k_least_room ?a_check_period ?l_check_period ?c_check_period ?k_check_period ?a_compose ?l_compose ?c_compose ?k_compose ?a_nested ?l_nested ?c_nested ?k_nested ?a__law_number ?l__law_number ?c__law_number ?k__law_number ?a__law_take ?l__law_take ?c__law_take ?k__law_take ?a__law_pick ?l__law_pick ?c__law_pick ?k__law_pick ?a__law_long ?l__law_long ?c__law_long ?k__law_long ?a__law_at ?l__law_at ?c__law_at ?k__law_at ?a__law_short_line ?l__law_short_line ?c__law_short_line ?k__law_short_line ?a__law_needed ?l__law_needed ?c__law_needed ?k__law_needed ?a__law_is_right ?l__law_is_right ?c__law_is_right ?k__law_is_right ?a__law_fault ?l__law_fault ?c__law_fault ?k__law_fault ?a_law ?l_law ?c_law ?k_law ?lc_law ?h11_law ?hd_law ?nt_law ?g_Line ?pg_Line ?hd_Line ?po_Line ?sa_Line ?mk_Line ?kc_Line ?na_Line_a ?na_Line_b ?na_Line_m ?ha_Line ?mr_Line ?g_Composed ?pg_Composed ?hd_Composed ?po_Composed ?sa_Composed ?mk_Composed ?kc_Composed ?na_Composed_line ?ha_Composed ?mr_Composed ?g_Broken ?pg_Broken ?hd_Broken ?po_Broken ?sa_Broken ?mk_Broken ?kc_Broken ?na_Broken_x ?na_Broken_y ?ha_Broken ?mr_Broken ?g_TooLarge ?bx_TooLarge ?tx_TooLarge ?dx_TooLarge ?lx_TooLarge ?rv_TooLarge ?sx_TooLarge ?kx_TooLarge ?gx_TooLarge ?hx_TooLarge ?no_TooLarge_number ?jx_TooLarge ?xs_TooLarge_TooLarge ?qe_Line ?qf_Line ?qn_Line ?qo_Line ?nf_Line_Line ?hn_ ?htk_ ?i_Line_Line ?i_Composed_Line ?i_Broken_Line ?i_Line_Broken ?i_Composed_Broken ?i_Broken_Broken ?i_Line_Composed ?i_Composed_Composed ?i_Broken_Composed ?m_TooLarge___init__ ?fn_TooLarge___init__ ?m_Line___init__ ?fn_Line___init__ ?m_Line___eq__ ?fn_Line___eq__ ?m_Line_at ?fn_Line_at ?m_Composed___init__ ?fn_Composed___init__ ?m_Composed___bool__ ?fn_Composed___bool__ ?m_Composed_shows ?fn_Composed_shows ?m_Broken___init__ ?fn_Broken___init__ ?m_Broken___bool__ ?fn_Broken___bool__ ?m_Broken_shows ?fn_Broken_shows ?n_bool ?n_int ?n_isinstance ?n_len ?n_max ?n_min ?n_range ?a_MOST_PERIOD own
    (case a_is_number => k_is)
    (case a_slope_of => k_is)
    (case a_both_at => k_is)
    (case a_needed => k_is)
    (case a_room => k_is)
    (case a_least_room => k_is)
    (case a_check_period => k_is)
    (case a_compose => k_is)
    (case a_nested => k_is)
    (case a__law_number => k_is)
    (case a__law_take => k_is)
    (case a__law_pick => k_is)
    (case a__law_long => k_is)
    (case a__law_at => k_is)
    (case a__law_short_line => k_is)
    (case a__law_needed => k_is)
    (case a__law_is_right => k_is)
    (case a__law_fault => k_is)
    (case a_law => k_is)
    (case g_Line => k_is)
    (case g_Composed => k_is)
    (case g_Broken => k_is)
    (case g_TooLarge => k_is)
    (case a_MOST_PERIOD => k_is)
    (case l_law => k_is)
    (case lc_law => k_is)
    (case h11_law => exact rfl)
    (case lx_TooLarge => k_is)
    (case qe_Line => k_is)
    (case m_TooLarge___init__ => k_is)
    (case m_Line___init__ => k_is)
    (case m_Line___eq__ => k_is)
    (case m_Line_at => k_is)
    (case m_Composed___init__ => k_is)
    (case m_Composed___bool__ => k_is)
    (case m_Composed_shows => k_is)
    (case m_Broken___init__ => k_is)
    (case m_Broken___bool__ => k_is)
    (case m_Broken_shows => k_is)
    (case l_TooLarge___init__ => k_is)
    (case c_TooLarge___init__ => k_is)
    (case k_TooLarge___init__ => k_is)
    (case l_is_number => k_is)
    (case c_is_number => k_is)
    (case k_is_number => k_is)
    (case l_Line___init__ => k_is)
    (case c_Line___init__ => k_is)
    (case k_Line___init__ => k_is)
    (case l_Line___eq__ => k_is)
    (case c_Line___eq__ => k_is)
    (case k_Line___eq__ => k_is)
    (case l_Line_at => k_is)
    (case c_Line_at => k_is)
    (case k_Line_at => k_is)
    (case l_Composed___init__ => k_is)
    (case c_Composed___init__ => k_is)
    (case k_Composed___init__ => k_is)
    (case l_Composed___bool__ => k_is)
    (case c_Composed___bool__ => k_is)
    (case k_Composed___bool__ => k_is)
    (case l_Composed_shows => k_is)
    (case c_Composed_shows => k_is)
    (case k_Composed_shows => k_is)
    (case l_Broken___init__ => k_is)
    (case c_Broken___init__ => k_is)
    (case k_Broken___init__ => k_is)
    (case l_Broken___bool__ => k_is)
    (case c_Broken___bool__ => k_is)
    (case k_Broken___bool__ => k_is)
    (case l_Broken_shows => k_is)
    (case c_Broken_shows => k_is)
    (case k_Broken_shows => k_is)
    (case l_slope_of => k_is)
    (case c_slope_of => k_is)
    (case k_slope_of => k_is)
    (case l_both_at => k_is)
    (case c_both_at => k_is)
    (case k_both_at => k_is)
    (case l_needed => k_is)
    (case c_needed => k_is)
    (case k_needed => k_is)
    (case l_room => k_is)
    (case c_room => k_is)
    (case k_room => k_is)
    (case l_least_room => k_is)
    (case c_least_room => k_is)
    (case k_least_room => k_is)
    (case l_check_period => k_is)
    (case c_check_period => k_is)
    (case k_check_period => k_is)
    (case l_compose => k_is)
    (case c_compose => k_is)
    (case k_compose => k_is)
    (case l_nested => k_is)
    (case c_nested => k_is)
    (case k_nested => k_is)
    (case l__law_number => k_is)
    (case c__law_number => k_is)
    (case k__law_number => k_is)
    (case l__law_take => k_is)
    (case c__law_take => k_is)
    (case k__law_take => k_is)
    (case l__law_pick => k_is)
    (case c__law_pick => k_is)
    (case k__law_pick => k_is)
    (case l__law_long => k_is)
    (case c__law_long => k_is)
    (case k__law_long => k_is)
    (case l__law_at => k_is)
    (case c__law_at => k_is)
    (case k__law_at => k_is)
    (case l__law_short_line => k_is)
    (case c__law_short_line => k_is)
    (case k__law_short_line => k_is)
    (case l__law_needed => k_is)
    (case c__law_needed => k_is)
    (case k__law_needed => k_is)
    (case l__law_is_right => k_is)
    (case c__law_is_right => k_is)
    (case k__law_is_right => k_is)
    (case l__law_fault => k_is)
    (case c__law_fault => k_is)
    (case k__law_fault => k_is)
    (case c_law => k_is)
    (case k_law => k_is)
    (case hd_law => kernel_rfl)
    (case nt_law => kernel_rfl)
    (case pg_Line => k_is)
    (case hd_Line => k_is)
    (case po_Line => k_is)
    (case sa_Line => k_is)
    (case mk_Line => k_is)
    (case kc_Line => k_is)
    (case na_Line_a => k_is)
    (case na_Line_b => k_is)
    (case na_Line_m => k_is)
    (case ha_Line => k_is)
    (case mr_Line => k_is)
    (case pg_Composed => k_is)
    (case hd_Composed => k_is)
    (case po_Composed => k_is)
    (case sa_Composed => k_is)
    (case mk_Composed => k_is)
    (case kc_Composed => k_is)
    (case na_Composed_line => k_is)
    (case ha_Composed => k_is)
    (case mr_Composed => k_is)
    (case pg_Broken => k_is)
    (case hd_Broken => k_is)
    (case po_Broken => k_is)
    (case sa_Broken => k_is)
    (case mk_Broken => k_is)
    (case kc_Broken => k_is)
    (case na_Broken_x => k_is)
    (case na_Broken_y => k_is)
    (case ha_Broken => k_is)
    (case mr_Broken => k_is)
    (case bx_TooLarge => k_is)
    (case tx_TooLarge => k_is)
    (case dx_TooLarge => k_is)
    (case rv_TooLarge => exact rfl)
    (case sx_TooLarge => k_is)
    (case kx_TooLarge => k_is)
    (case gx_TooLarge => k_is)
    (case hx_TooLarge => k_is)
    (case no_TooLarge_number => k_is)
    (case jx_TooLarge => k_is)
    (case xs_TooLarge_TooLarge => k_is)
    (case qf_Line => k_is)
    (case qn_Line => k_is)
    (case qo_Line => k_is)
    (case nf_Line_Line => k_is)
    (case hn_ => k_is)
    (case htk_ => k_is)
    (case i_Line_Line => kit_is)
    (case i_Composed_Line => kit_is)
    (case i_Broken_Line => kit_is)
    (case i_Line_Broken => kit_is)
    (case i_Composed_Broken => kit_is)
    (case i_Broken_Broken => kit_is)
    (case i_Line_Composed => kit_is)
    (case i_Composed_Composed => kit_is)
    (case i_Broken_Composed => kit_is)
    (case fn_TooLarge___init__ => k_is)
    (case fn_Line___init__ => k_is)
    (case fn_Line___eq__ => k_is)
    (case fn_Line_at => k_is)
    (case fn_Composed___init__ => k_is)
    (case fn_Composed___bool__ => k_is)
    (case fn_Composed_shows => k_is)
    (case fn_Broken___init__ => k_is)
    (case fn_Broken___bool__ => k_is)
    (case fn_Broken_shows => k_is)
    (case n_bool => k_is)
    (case n_int => k_is)
    (case n_isinstance => k_is)
    (case n_len => k_is)
    (case n_max => k_is)
    (case n_min => k_is)
    (case n_range => k_is)
